import PyProof.Rows.All
import Wide.All
import OpenK.AllK
import Wide.FinOn
import PyProof.ReprReads
import PyProof.StrBlock
import HandS.ForMost
import HandS.Defaults
import HandS.Star
import HandS.Style
import HandS.TupAny
import HandS.TupMul
import HandS.Flow
import HandS.IsInst
import HandS.DictComp
import HandS.Conv
import HandS.More
import HandS.WideBits
import PyProof.Rows.IntBool
import HandS.Deep
import KE.KDictWalk
import HandS.Text
import PyProof.Rows.StrStep
import HandS.SortInts
import HandS.Strs
import HandS.SetFor
import HandS.SortOrd
import HandS.List
import KE.KSortTup
import KE.KSortAsk
import PyProof.ReprRoads
import PyProof.StrLawsRepr
import PyProof.FitsInt
import PyProof.CollectIter
import PyProof.WalksMore
import HandS.Iter
import HandS.Comp
import PyProof.RulesMatch
import PyProof.StrOps
import HandS.Zip
import HandS.Rev
import PyProof.EnumMake
import HandS.Head2
import HandS.HeadHook3
import HandS.HeadHook4
import HandS.HeadEnd
import HandS.Ends
import HandS.Words
import PyProof.TableCode
import PySem.Challenge.RW_manycarets_k18_rules_of_any_value
set_option linter.all false
set_option maxRecDepth 4000
namespace Mc
open PySem

/-- a text is its codes -/
abbrev Tx := List Nat

inductive D where
  | non | bl (b : Bool) | int (i : Int) | str (s : Tx)
  | tup (l : List D) | lst (l : List D) | dic (l : List (D × D)) | rng (lo hi : Int)
  | own (n : Nat) | scr (l : List Int)
  deriving Inhabited

inductive Cell where
  | lst (l : List D) | dic (l : List (D × D))
  deriving Inhabited

abbrev Sto := List Cell
abbrev Env := List (Option D)
abbrev Res := Option (D × Sto)

/-- the greatest size of a list, a text, a dict -/
def line : Nat := 16777216

mutual
def plain : Nat → D → Bool
  | _, .non => true
  | _, .bl _ => true
  | _, .int _ => true
  | _, .str s => s.all fun c => decide (c < 1114112)
  | n + 1, .tup l => plainL n l
  | n + 1, .lst l => plainL n l
  | _, _ => false
def plainL : Nat → List D → Bool
  | _, [] => true
  | n, d :: r => plain n d && plainL n r
end

-- values of any kind: dicts with text keys too, of one entry at most
mutual
def plainZ : Nat → D → Bool
  | _, .non => true
  | _, .bl _ => true
  | _, .int _ => true
  | _, .str s => s.all fun c => decide (c < 1114112)
  | n + 1, .tup l => plainZL n l
  | n + 1, .lst l => plainZL n l
  | n + 1, .dic l => decide (l.length ≤ 1) && plainZK n l
  | _, _ => false
def plainZL : Nat → List D → Bool
  | _, [] => true
  | n, d :: r => plainZ n d && plainZL n r
def plainZK : Nat → List (D × D) → Bool
  | _, [] => true
  | n, (k, d) :: r => plainZ 0 k && plainZ n d && plainZK n r
end

mutual
def eqv : D → D → Bool
  | .non, .non => true
  | .bl a, .bl b => a == b
  | .bl a, .int j => (if a then 1 else 0) == j
  | .int i, .bl b => i == (if b then 1 else 0)
  | .int i, .int j => i == j
  | .str a, .str b => a == b
  | .tup a, .tup b => eqvL a b
  | .lst a, .lst b => eqvL a b
  | _, _ => false
def eqvL : List D → List D → Bool
  | [], [] => true
  | a :: r, b :: t => eqv a b && eqvL r t
  | _, _ => false
end

-- the same datum, sign by sign
mutual
def same : D → D → Bool
  | .non, .non => true
  | .bl a, .bl b => a == b
  | .int i, .int j => decide (i = j)
  | .str a, .str b => decide (a = b)
  | .tup a, .tup b => sameL a b
  | .lst a, .lst b => sameL a b
  | .dic a, .dic b => sameK a b
  | .rng a b, .rng c d => decide (a = c) && decide (b = d)
  | .own n, .own m => decide (n = m)
  | _, _ => false
def sameL : List D → List D → Bool
  | [], [] => true
  | a :: r, b :: t => same a b && sameL r t
  | _, _ => false
def sameK : List (D × D) → List (D × D) → Bool
  | [], [] => true
  | (a, x) :: r, (b, y) :: t => same a b && same x y && sameK r t
  | _, _ => false
end

-- the kit's data
mutual
def toPy : D → PyData
  | .non => .none
  | .bl b => .bool b
  | .int i => .int i
  | .str s => .str ⟨s.toArray⟩
  | .tup l => .tuple (toPyL l)
  | .lst l => .list (toPyL l)
  | .dic l => .dict (toPyK l)
  | _ => .none
def toPyL : List D → List PyData
  | [] => []
  | d :: r => toPy d :: toPyL r
def toPyK : List (D × D) → List (PyData × PyData)
  | [] => []
  | (k, d) :: r => (toPy k, toPy d) :: toPyK r
end

-- a size that bounds the shown text
mutual
def wt : D → Nat
  | .non => 4
  | .bl _ => 5
  | .int i => i.natAbs.log2 + 2
  | .str s => 12 * s.length + 2
  | .tup l => wtL l + 3
  | .lst l => wtL l + 3
  | .dic l => wtK l + 3
  | .rng _ _ => 0
  | .own _ => 0
  | .scr _ => 0
def wtL : List D → Nat
  | [] => 0
  | d :: r => wt d + 2 + wtL r
def wtK : List (D × D) → Nat
  | [] => 0
  | (k, d) :: r => wt k + wt d + 4 + wtK r
end

/-- the shown text (repr) of plain data -/
def shown (d : D) : Tx := (PyData.shown (toPy d)).cps.toList

-- no handle at or above n
mutual
def below (n : Nat) : D → Bool
  | .tup l => belowL n l
  | .lst l => belowL n l
  | .dic l => belowK n l
  | .own m => decide (m < n)
  | _ => true
def belowL (n : Nat) : List D → Bool
  | [] => true
  | d :: r => below n d && belowL n r
def belowK (n : Nat) : List (D × D) → Bool
  | [] => true
  | (k, d) :: r => below n k && below n d && belowK n r
end

def lstOf (st : Sto) : D → Option (List D)
  | .lst l => some l
  | .own n => match st[n]? with
    | some (.lst l) => some l
    | _ => none
  | _ => none
def dicOf (st : Sto) : D → Option (List (D × D))
  | .dic l => some l
  | .own n => match st[n]? with
    | some (.dic l) => some l
    | _ => none
  | _ => none
/-- a list or a tuple -/
def seqOf (st : Sto) : D → Option (List D)
  | .tup l => some l
  | d => lstOf st d
/-- a handle becomes its content (one step) -/
def res (st : Sto) : D → D
  | .own n => match st[n]? with
    | some (.lst l) => .lst l
    | some (.dic l) => .dic l
    | none => .own n
  | d => d

-- handles at or above n become what they hold
mutual
def frz (st : Sto) (n : Nat) : Nat → D → Option D
  | k + 1, .tup l => (frzL st n k l).map .tup
  | k + 1, .lst l => (frzL st n k l).map .lst
  | k + 1, .own m => if m < n then some (.own m) else match st[m]? with
    | some (.lst l) => (frzL st n k l).map .lst
    | some (.dic l) => (frzK st n k l).map .dic
    | none => none
  | _, .dic l => if belowK n l then some (.dic l) else none
  | 0, .own m => if m < n then some (.own m) else none
  | 0, .tup _ => none
  | 0, .lst _ => none
  | _, .non => some .non
  | _, .bl b => some (.bl b)
  | _, .int i => some (.int i)
  | _, .str s => some (.str s)
  | _, .rng a b => some (.rng a b)
  | _, .scr l => some (.scr l)
def frzL (st : Sto) (n : Nat) : Nat → List D → Option (List D)
  | _, [] => some []
  | k, d :: r => (frz st n k d).bind fun d' => (frzL st n k r).map fun r' => d' :: r'
def frzK (st : Sto) (n : Nat) : Nat → List (D × D) → Option (List (D × D))
  | _, [] => some []
  | k, (a, d) :: r => (frz st n k d).bind fun d' => (frzK st n k r).map fun r' => (a, d') :: r'
end

inductive Bop where | add | sub | mul | mod | fdv | pow
  deriving DecidableEq
inductive Cop where | eq | ne | lt | le | gt | ge | is | isn | inn | nin
  deriving DecidableEq
inductive Uop where | neg | nt
  deriving DecidableEq

/-- a new list: a cell, or plain -/
def mkL (c : Bool) (l : List D) (st : Sto) : D × Sto := if c then (.own st.length, st ++ [.lst l]) else (.lst l, st)
def mkD (c : Bool) (l : List (D × D)) (st : Sto) : D × Sto := if c then (.own st.length, st ++ [.dic l]) else (.dic l, st)

def rep (k : Int) (l : List D) : List D := (List.replicate k.toNat l).flatten
def repS (k : Int) (l : Tx) : Tx := (List.replicate k.toNat l).flatten
/-- a bool as a number -/
def b2I : Bool → Int
  | true => 1
  | false => 0
def small64 (i : Int) : Bool := decide (-(2 ^ 64) < i) && decide (i < 2 ^ 64)

def binE (o : Bop) (c : Bool) (a b : D) (st : Sto) : Res :=
  match o, a, b with
  | .add, .int i, .int j => some (.int (i + j), st)
  | .add, .str x, .str y => if x.length + y.length ≤ line then some (.str (x ++ y), st) else none
  | .add, .tup x, .tup y => if x.length + y.length ≤ line then some (.tup (x ++ y), st) else none
  | .add, .bl k, .int j => some (.int (b2I k + j), st)
  | .add, a, b => match lstOf st a, lstOf st b with
    | some x, some y => if x.length + y.length ≤ line then some (mkL c (x ++ y) st) else none
    | _, _ => none
  | .sub, .int i, .int j => some (.int (i - j), st)
  | .sub, .bl k, .int j => some (.int (b2I k - j), st)
  | .sub, .int i, .bl k => some (.int (i - b2I k), st)
  | .mul, .int i, .int j => if small64 i || small64 j then some (.int (i * j), st) else none
  | .mul, .str x, .int j => if 0 ≤ j ∧ j ≤ 1000 ∧ x.length * j.toNat ≤ line then some (.str (repS j x), st) else none
  | .mul, .tup x, .int j => if 0 ≤ j ∧ j ≤ 1000 ∧ x.length ≤ 1000 then some (.tup (rep j x), st) else none
  | .mul, a, .int j => match lstOf st a with
    | some x => if 0 ≤ j ∧ j ≤ 1000000 ∧ x.length * j.toNat ≤ line then some (mkL c (rep j x) st) else none
    | _ => none
  | .mod, .int i, .int j => if 0 < j then some (.int (i % j), st) else none
  | .fdv, .int i, .int j => if 0 < j ∧ j < 1073741824 then some (.int (i / j), st) else none
  | .pow, .int i, .int j => if 0 ≤ j ∧ j ≤ 100 ∧ small64 i then some (.int (i ^ j.toNat), st) else none
  | _, _, _ => none

/-- less, by codes -/
def ltS : Tx → Tx → Bool
  | _, [] => false
  | [], _ :: _ => true
  | a :: r, b :: t => decide (a < b) || (decide (a = b) && ltS r t)

def kEq : D → D → Bool
  | .int i, .int j => decide (i = j)
  | .str a, .str b => decide (a = b)
  | _, _ => false
def isKey : D → Bool
  | .int _ => true
  | .str _ => true
  | _ => false
def look (k : D) : List (D × D) → Option D
  | [] => none
  | (a, v) :: r => if kEq a k then some v else look k r
def put (k v : D) (l : List (D × D)) : List (D × D) :=
  if (l.any fun p => kEq p.1 k) = true then l.map (fun p => if kEq p.1 k = true then (p.1, v) else p) else l ++ [(k, v)]
def isInt : D → Bool
  | .int _ => true
  | _ => false
/-- may this dict be asked for this key: a written one has text keys alone -/
def keyOk (d : D) (l : List (D × D)) : D → Bool
  | .str _ => true
  | .int _ => match d with
    | .own _ => true
    | _ => l.any fun p => isInt p.1
  | _ => false

def flat : D → Bool
  | .non => true
  | .bl _ => true
  | .int _ => true
  | .str _ => true
  | _ => false
def isLst (st : Sto) (d : D) : Bool := (lstOf st d).isSome
def eqE (a b : D) (st : Sto) : Option Bool :=
  match a, b with
  | .str x, .str y => some (decide (x = y))
  | a, b => if plain 60 (res st a) && plain 60 (res st b) then some (eqv (res st a) (res st b)) else eqN a b st
where
  /-- nothing stands in the right one -/
  eqN (a b : D) (st : Sto) : Option Bool :=
    match a, b with
    | .tup l, .tup [] => some l.isEmpty
    | a, b => match lstOf st a, lstOf st b with
      | some l, some [] => some l.isEmpty
      | _, _ => none
def cmpE (o : Cop) (a b : D) (st : Sto) : Option Bool :=
  match o with
  | .eq => eqE a b st
  | .ne => (eqE a b st).map (! ·)
  | .lt => match a, b with
    | .int i, .int j => some (decide (i < j))
    | .str x, .str y => some (ltS x y)
    | _, _ => none
  | .le => match a, b with
    | .int i, .int j => some (decide (i ≤ j))
    | .str x, .str y => some (!ltS y x)
    | _, _ => none
  | .gt => match a, b with
    | .int i, .int j => some (decide (j < i))
    | .str x, .str y => some (ltS y x)
    | _, _ => none
  | .ge => match a, b with
    | .int i, .int j => some (decide (j ≤ i))
    | .str x, .str y => some (!ltS x y)
    | _, _ => none
  | .is => match a, b with
    | .bl x, .bl y => some (x == y)
    | .non, .non => some true
    | _, .non => some false
    | _, _ => none
  | .isn => match a, b with
    | .bl x, .bl y => some (!(x == y))
    | .non, .non => some false
    | _, .non => some true
    | _, _ => none
  | .inn => inE a b st
  | .nin => (inE a b st).map (! ·)
where
  inE (a b : D) (st : Sto) : Option Bool :=
    match b with
    | .str y => match a with
      | .str [c] => some (decide (c ∈ y))
      | _ => none
    | b => match seqOf st b with
      | some l => if (flat a && l.all flat) || (isLst st b && plain 60 a && plainL 59 l) then some (l.any fun d => eqv d a) else none
      | none => match dicOf st b with
        | some l => if keyOk b l a then some (look a l).isSome else none
        | none => none

def tru (st : Sto) : D → Option Bool
  | .non => some false
  | .bl b => some b
  | .int i => some (i != 0)
  | .str s => if s.length ≤ line then some (!s.isEmpty) else none
  | .tup l => some (!l.isEmpty)
  | .lst l => some (!l.isEmpty)
  | .dic _ => none
  | .rng _ _ => none
  | .scr _ => none
  | .own n => match st[n]? with
    | some (.lst l) => some (!l.isEmpty)
    | some (.dic l) => some (!l.isEmpty)
    | none => none

/-- the place of an index -/
def ixn (n : Nat) (i : Int) : Option Nat :=
  if 0 ≤ i then if i < n then some i.toNat else none else if -(n : Int) ≤ i then some (i + n).toNat else none
def at_ {α : Type} (l : List α) (i : Int) : Option α := (ixn l.length i).bind fun j => l[j]?
def six (n d : Nat) : Option Int → Nat
  | none => d
  | some v => if v < 0 then (v + (n : Int)).toNat else min v.toNat n
def cut {α : Type} (l : List α) (lo hi : Option Int) : List α := (l.drop (six l.length 0 lo)).take (six l.length l.length hi - six l.length 0 lo)

def idxE (a i : D) (st : Sto) : Option D :=
  match a with
  | .str s => match i with
    | .int i => if s.length ≤ line then (at_ s i).map fun c => .str [c] else none
    | _ => none
  | a => match seqOf st a with
    | some l => match i with
      | .int i => at_ l i
      | _ => none
    | none => match dicOf st a with
      | some l => if keyOk a l i then look i l else none
      | none => none

def slcE (a : D) (lo hi : Option Int) (c : Bool) (st : Sto) : Res :=
  match a with
  | .str s => if s.length ≤ line then some (.str (cut s lo hi), st) else none
  | .tup l => some (.tup (cut l lo hi), st)
  | .scr l => some (mkL c ((cut l lo hi).map .int) st)
  | a => (lstOf st a).map fun l => mkL c (cut l lo hi) st
def revE (a : D) (c : Bool) (st : Sto) : Res :=
  match a with
  | .str s => if s.length ≤ line then some (.str s.reverse, st) else none
  | .tup l => some (.tup l.reverse, st)
  | a => (lstOf st a).map fun l => mkL c l.reverse st

/-- the items of what is walked -/
def itemsE (st : Sto) : D → Option (List D)
  | .str s => if s.length ≤ line then some (s.map fun c => .str [c]) else none
  | d => seqOf st d

/-- the built-in types of isinstance -/
inductive Ty where | int | str | bool | tuple | list | dict | nonT
  deriving DecidableEq
def tyOf (st : Sto) : D → Option Ty
  | .non => some .nonT
  | .bl _ => some .bool
  | .int _ => some .int
  | .str _ => some .str
  | .tup _ => some .tuple
  | .lst _ => some .list
  | .dic _ => some .dict
  | .own n => match st[n]? with
    | some (.lst _) => some .list
    | some (.dic _) => some .dict
    | none => none
  | _ => none
def isTy (t t' : Ty) : Bool := decide (t' = t) || (decide (t = .int) && decide (t' = .bool))

/-- built-in functions -/
inductive Blt where | len | min | max | tuple | list | sorted | sortedT | repr | int | all | any | sum | str | range1 | range2
  deriving DecidableEq

def joinT (sep : Tx) : List Tx → Tx
  | [] => []
  | [x] => x
  | x :: r => x ++ sep ++ joinT sep r
def strsOf : List D → Option (List Tx)
  | [] => some []
  | .str s :: r => (strsOf r).map (s :: ·)
  | _ => none
def intsOf : List D → Option (List Int)
  | [] => some []
  | .int s :: r => (intsOf r).map (s :: ·)
  | _ => none
def trus : List D → Option (List Bool)
  | [] => some []
  | .bl b :: r => (trus r).map (b :: ·)
  | _ => none
/-- tuples of ints, by their order -/
def lexI : List Int → List Int → Bool
  | [], [] => false
  | [], _ :: _ => true
  | _ :: _, [] => false
  | x :: xs, y :: ys => if x = y then lexI xs ys else decide (x < y)
def tupsI : List D → Option (List (List Int))
  | [] => some []
  | .tup l :: r => (intsOf l).bind fun t => (tupsI r).map (t :: ·)
  | _ => none
def sortT (l : List (List Int)) : List (List Int) := l.mergeSort fun a b => !lexI b a
def tD (t : List Int) : D := .tup (t.map .int)
def sortI (l : List Int) : List Int := l.mergeSort fun a b => decide (a ≤ b)

def showOk (d : D) : Bool := (toPy d).showable && decide (wt d ≤ 1000000)
/-- a dict of one's own -/
def dicOwn (st : Sto) : D → Option (List (D × D))
  | .own n => match st[n]? with
    | some (.dic l) => some l
    | _ => none
  | _ => none
def bltE (b : Blt) (c : Bool) (as : List D) (st : Sto) : Res :=
  match b, as with
  | .len, [a] => match a with
    | .str s => if s.length ≤ line then some (.int s.length, st) else none
    | a => (seqOf st a).map fun l => (.int l.length, st)
  | .min, [.int i, .int j] => some (.int (if j < i then j else i), st)
  | .max, [.int i, .int j] => some (.int (if j > i then j else i), st)
  | .tuple, [a] => match seqOf st a with
    | some l => some (.tup l, st)
    | none => (dicOwn st a).map fun l => (.tup (l.map (·.1)), st)
  | .list, [.scr l] => some (mkL c (l.map .int) st)
  | .list, [a] => (seqOf st a).map fun l => mkL c l st
  | .sorted, [a] => (lstOf st a).bind fun l => (intsOf l).map fun l => mkL c ((sortI l).map .int) st
  | .sortedT, [a] => (lstOf st a).bind fun l => (tupsI l).bind fun ts => if ts.head? = some [] then some (mkL c ((sortT ts).map tD) st) else none
  | .repr, [a] => match res st a with
    | .tup l => if plain 60 (.tup l) && showOk (.tup l) then some (.str (shown (.tup l)), st) else if plainZ 60 (.tup l) && showOk (.tup l) then some (.str (shown (.tup l)), st) else none
    | .lst l => if plain 60 (.lst l) && showOk (.lst l) then some (.str (shown (.lst l)), st) else if plainZ 60 (.lst l) && showOk (.lst l) then some (.str (shown (.lst l)), st) else none
    | .dic l => if plainZ 60 (.dic l) && showOk (.dic l) then some (.str (shown (.dic l)), st) else none
    | .str l => if plain 60 (.str l) && showOk (.str l) then some (.str (shown (.str l)), st) else none
    | .int i => if showOk (.int i) then some (.str (shown (.int i)), st) else none
    | .bl b => some (.str (shown (.bl b)), st)
    | .non => some (.str (shown .non), st)
    | _ => none
  | .str, [.int i] => if showOk (.int i) then some (.str (shown (.int i)), st) else none
  | .str, [.bl b] => some (.str (shown (.bl b)), st)
  | .int, [.int i] => some (.int i, st)
  | .int, [.bl k] => some (.int (if k then 1 else 0), st)
  | .all, [a] => (lstOf st a).bind fun l => (trus l).map fun l => (.bl (l.all id), st)
  | .any, [a] => (lstOf st a).bind fun l => (trus l).map fun l => (.bl (l.any id), st)
  | .sum, [a] => (lstOf st a).bind fun l => (intsOf l).map fun l => (.int l.sum, st)
  | _, _ => none

/-- the ints below n, as a tuple or a list -/
def rgD (n : Int) : List D := (List.range n.toNat).map fun (k : Nat) => .int (k : Int)
/-- tuple(range(n)), list(range(n)), sorted(set(l)) -/
inductive Nst where | tup | lst | sst
def nstOut (t : Nst) : String := match t with | .tup => "tuple" | .lst => "list" | .sst => "sorted"
def nstIn (t : Nst) : String := match t with | .sst => "set" | _ => "range"
/-- how many steps of c lead from i up to j -/
def stepsI (i j c : Int) : Nat := (if i < j then (j - i - 1) / c + 1 else 0).toNat
def dedI : List Int → List Int
  | [] => []
  | a :: r => if a ∈ r then dedI r else a :: dedI r
/-- the members of a list, ascending -/
def setI (l : List Int) : List Int := sortI (dedI l)
def rgvE (t : Nst) (c : Bool) (d : D) (st : Sto) : Res :=
  match t with
  | .tup => match d with
    | .int n => if -(2 ^ 62) ≤ n ∧ n.toNat ≤ 16777216 then some (.tup (rgD n), st) else none
    | _ => none
  | .lst => match d with
    | .int n => if -(2 ^ 62) ≤ n ∧ n.toNat ≤ 16777216 then some (mkL c (rgD n) st) else none
    | _ => none
  | .sst => (lstOf st d).bind fun l => (intsOf l).bind fun l => if l.length < 64 then some (mkL c ((setI l).map .int) st) else none
/-- methods of built-in types -/
inductive Met where | append | extend | insert | pop0 | popI | index | count | join | upper | update
  deriving DecidableEq

/-- what may be written into cell n: below the base no handle -/
def wr (base n : Nat) (d : D) : Bool := decide (base ≤ n) || below 0 d
def wrL (base n : Nat) (l : List D) : Bool := decide (base ≤ n) || belowL 0 l

def findIx (d : D) : List D → Option Nat
  | [] => none
  | a :: r => if eqv a d then some 0 else (findIx d r).map (· + 1)
def upT (s : Tx) : Tx := (PySem.Txt.upper ⟨s.toArray⟩).cps.toList
def lensT : List Tx → Nat
  | [] => 0
  | x :: r => x.length + lensT r

def metE (base : Nat) (m : Met) (o : D) (as : List D) (st : Sto) : Res :=
  match m, o, as with
  | .append, .own n, [d] => match st[n]? with
    | some (.lst l) => if l.length < line ∧ wr base n d = true then some (.non, st.set n (.lst (l ++ [d]))) else none
    | _ => none
  | .extend, .own n, [d] => match st[n]? with
    | some (.lst l) => (lstOf st d).bind fun r => if l.length + r.length ≤ line ∧ wrL base n r = true then some (.non, st.set n (.lst (l ++ r))) else none
    | _ => none
  | .insert, .own n, [.int i, d] => match st[n]? with
    | some (.lst l) => if l.length < line ∧ 0 ≤ i ∧ i < 2 ^ 62 ∧ wr base n d = true then some (.non, st.set n (.lst (l.take i.toNat ++ [d] ++ l.drop i.toNat))) else none
    | _ => none
  | .pop0, .own n, [] => match st[n]? with
    | some (.lst l) => (l[l.length - 1]?).map fun d => (d, st.set n (.lst l.dropLast))
    | _ => none
  | .popI, .own n, [.int i] => match st[n]? with
    | some (.lst l) => (ixn l.length i).bind fun j => l[j]?.map fun d => (d, st.set n (.lst (l.eraseIdx j)))
    | _ => none
  | .index, o, [d] => match lstOf st o with
    | some l => if plain 60 d && plainL 59 l then (findIx d l).map fun (j : Nat) => (D.int ((j : Nat) : Int), st) else none
    | none => none
  | .count, o, [.int k] => match lstOf st o with
    | some l => (intsOf l).map fun ns => (.int (ns.count k : Nat), st)
    | none => none
  | .join, .str s, [d] => (seqOf st d).bind fun l => (strsOf l).bind fun l => if lensT l + l.length * s.length ≤ line then some (.str (joinT s l), st) else none
  | .upper, .str s, [] => if s.length ≤ 5592405 then some (.str (upT s), st) else none
  | _, _, _ => none

/-- what a method is asked of -/
def metOk (m : Met) (o : D) (st : Sto) : Bool :=
  match m, o with
  | .join, .str _ => true
  | .upper, .str _ => true
  | .join, _ => false
  | .upper, _ => false
  | .update, _ => false
  | _, o => (lstOf st o).isSome

/-- how an argument of a call is found: the i-th positional, the i-th keyword's, a default -/
inductive Ag where
  | pos (i : Nat) | kw (i : Nat) | dfl (d : D)
/-- a way to call: the def, how many positional arguments, the keywords' names, the parameters -/
structure Shp where
  f : Nat
  np : Nat
  ks : List Tx
  ag : List Ag
def agD (es ks : List D) : List Ag → Option (List D)
  | [] => some []
  | .pos i :: r => (es[i]?).bind fun d => (agD es ks r).map (d :: ·)
  | .kw i :: r => (ks[i]?).bind fun d => (agD es ks r).map (d :: ·)
  | .dfl d :: r => (agD es ks r).map (d :: ·)

mutual
inductive E where
  | cst (d : D)
  | var (i : Nat)
  | glb (j : Nat)
  | bin (o : Bop) (a b : E) (c : Bool)
  | neg (a : E)
  | nt (a : E)
  | and (a b : E)
  | or (a b : E)
  | cmp (a : E) (l : CL)
  | ife (t : Te) (a b : E)
  | tup (es : EL)
  | lst (es : EL) (c : Bool)
  | dic (ps : PL) (c : Bool)
  | idx (a i : E)
  | slc (a : E) (lo hi : OE) (c : Bool)
  | rev (a : E) (c : Bool)
  | rgv (t : Nst) (c : Bool) (e : E)
  | call (sh : Nat) (es kws : EL)
  | blt (b : Blt) (es : EL) (c : Bool)
  | isi (a : E) (t : Ty)
  | met (m : Met) (o : E) (es : EL)
  | lc (t : Tg) (it : It) (fs : FL) (e : E) (own : List Nat) (c : Bool)
  | dc (t : Tg) (it : It) (fs : FL) (k v : E) (own : List Nat) (c : Bool)
inductive Te where
  | ex (e : E)
  | nt (t : Te)
  | and (a b : Te)
  | or (a b : Te)
  | cmp (a : E) (l : CL)
  | ife (t a b : Te)
inductive FL where
  | nil
  | cons (t : Te) (r : FL)
inductive EL where
  | nil
  | cons (e : E) (r : EL)
  | star (e : E) (r : EL)
inductive PL where
  | nil
  | cons (k v : E) (r : PL)
inductive CL where
  | one (o : Cop) (e : E)
  | cons (o : Cop) (e : E) (r : CL)
inductive OE where
  | no
  | yes (e : E)
inductive It where
  | ex (e : E)
  | rng (es : EL)
  | enu (e : E)
  | zip (a b : E)
  | rev (e : E)
inductive Tg where
  | name (i : Nat)
  | tup (ts : TL)
  | sub (o i : E)
inductive TL where
  | nil
  | cons (t : Tg) (r : TL)
  | star (t : Tg)
end

/-- no star among the targets -/
def TL.plain : TL → Bool
  | .nil => true
  | .cons _ r => r.plain
  | .star _ => false
mutual
inductive S where
  | asg (t : Tg) (e : E)
  | aug (i : Nat) (o : Bop) (e : E)
  | augS (a i : E) (o : Bop) (e : E)
  | ex (e : E)
  | ret (e : E)
  | retN
  | iff (t : Te) (a b : SL)
  | for_ (t : Tg) (it : It) (b : SL)
  | whl (t : Te) (b : SL)
  | mat (e : E) (cs : ML)
  | pass | brk | cnt
inductive SL where
  | nil
  | cons (s : S) (r : SL)
inductive ML where
  | nil
  | val (ss : List Tx) (b : SL) (r : ML)
  | any (b : SL) (r : ML)
end

/-- what stands behind a statement -/
inductive Fl where
  | nx | rt (d : D) | bk | ct

/-- the surroundings of a body -/
structure Cfg where
  call : Nat → Nat → List D → Sto → Res
  glb : List D
  shp : List Shp
  base : Nat
  fuel : Nat

def loopF (step : D → Env → Sto → Option (Fl × Env × Sto)) : List D → Env → Sto → Option (Fl × Env × Sto)
  | [], env, st => some (.nx, env, st)
  | d :: r, env, st => (step d env st).bind fun x => match x.1 with
    | .nx => loopF step r x.2.1 x.2.2
    | .ct => loopF step r x.2.1 x.2.2
    | .bk => some (.nx, x.2.1, x.2.2)
    | .rt v => some (.rt v, x.2.1, x.2.2)
/-- a list's new items; none: the tests left it out -/
def loopC (step : D → Sto → Option (Option D × Sto)) : List D → Sto → Option (List D × Sto)
  | [], st => some ([], st)
  | d :: r, st => (step d st).bind fun x => (loopC step r x.2).map fun y => (match x.1 with | some v => v :: y.1 | none => y.1, y.2)
/-- a dict filled -/
def loopK (step : D → Sto → Option (Option (D × D) × Sto)) : List D → List (D × D) → Sto → Option (List (D × D) × Sto)
  | [], acc, st => some (acc, st)
  | d :: r, acc, st => (step d st).bind fun x => loopK step r (match x.1 with | some p => put p.1 p.2 acc | none => acc) x.2
def loopW (test : Env → Sto → Option (Bool × Sto)) (body : Env → Sto → Option (Fl × Env × Sto)) : Nat → Env → Sto → Option (Fl × Env × Sto)
  | 0, _, _ => none
  | n + 1, env, st => (test env st).bind fun b => if b.1 = true then (body env b.2).bind fun x => match x.1 with
      | .nx => loopW test body n x.2.1 x.2.2
      | .ct => loopW test body n x.2.1 x.2.2
      | .bk => some (.nx, x.2.1, x.2.2)
      | .rt v => some (.rt v, x.2.1, x.2.2)
    else some (.nx, env, b.2)
/-- the cell that is walked stays as it is -/
def stillO (src : D) (l : List D) (st : Sto) : Bool :=
  match src with
  | .own n => match st[n]? with
    | some (.lst m) => sameL m l
    | _ => false
  | _ => true
def still (src : D) (l : List D) (st : Sto) : Bool :=
  match src with
  | .own n => match st[n]? with
    | some (.lst m) => sameL m l
    | _ => false
  | .dic [(a, b)] => match l with
    | [.lst x, .lst y] => stillO a x st && stillO b y st
    | _ => true
  | _ => true
theorem still_gen (st : Sto) (a b : D) (x y : List D) (n : Nat) : still (.dic [(a, b)]) [.lst x, .lst y] st = (stillO a x st && stillO b y st) ∧ stillO (.tup x) x st = true ∧ still (.own n) x st = stillO (.own n) x st := by
  refine ⟨by simp only [still], by simp only [stillO], by simp only [still, stillO]⟩
def wipe (env : Env) : List Nat → Env
  | [] => env
  | i :: r => (wipe env r).set i none
def starTup (l : List D) : List D := l

/-- a target's store, and the names in a row; n: how many stand behind a star -/
def TL.len : TL → Nat
  | .nil => 0
  | .cons _ r => r.len + 1
  | .star _ => 1
/-- o[i] = d -/
def setE (base : Nat) (o i d : D) (st : Sto) : Option Sto :=
  match o with
  | .own n => match st[n]? with
    | some (.lst l) => match i with
      | .int i => if wr base n d = true then (ixn l.length i).map fun j => st.set n (.lst (l.set j d)) else none
      | _ => none
    | some (.dic l) => if wr base n d = true ∧ isKey i = true ∧ l.length < line then some (st.set n (.dic (put i d l))) else none
    | none => none
  | _ => none

mutual
def evE (Γ : Cfg) : E → Env → Sto → Res
  | .cst d, _, st => some (d, st)
  | .var i, env, st => match env[i]? with
    | some (some d) => some (d, st)
    | _ => none
  | .glb j, _, st => Γ.glb[j]?.map fun d => (d, st)
  | .bin o a b c, env, st => (evE Γ a env st).bind fun x => (evE Γ b env x.2).bind fun y => binE o c x.1 y.1 y.2
  | .neg a, env, st => (evE Γ a env st).bind fun x => match x.1 with
    | .int i => some (.int (-i), x.2)
    | _ => none
  | .nt a, env, st => (evE Γ a env st).bind fun x => (tru x.2 x.1).map fun k => (.bl (!k), x.2)
  | .and a b, env, st => (evE Γ a env st).bind fun x => (tru x.2 x.1).bind fun k => if k = true then evE Γ b env x.2 else some x
  | .or a b, env, st => (evE Γ a env st).bind fun x => (tru x.2 x.1).bind fun k => if k = true then some x else evE Γ b env x.2
  | .cmp a l, env, st => (evE Γ a env st).bind fun x => (evC Γ l x.1 env x.2).map fun y => (.bl y.1, y.2)
  | .ife t a b, env, st => (evT Γ t env st).bind fun x => if x.1 = true then evE Γ a env x.2 else evE Γ b env x.2
  | .tup es, env, st => (evL Γ es env st).bind fun x => if x.1.length ≤ line then some (.tup x.1, x.2) else none
  | .lst es c, env, st => (evL Γ es env st).bind fun x => if x.1.length ≤ line then some (mkL c x.1 x.2) else none
  | .dic ps c, env, st => (evP Γ ps env st).bind fun x => if x.1.all (fun p => isKey p.1) ∧ x.1.length ≤ 15 then some (mkD c (x.1.foldl (fun l p => put p.1 p.2 l) []) x.2) else none
  | .idx a i, env, st => (evE Γ a env st).bind fun x => (evE Γ i env x.2).bind fun y => (idxE x.1 y.1 y.2).map fun d => (d, y.2)
  | .slc a lo hi c, env, st => (evE Γ a env st).bind fun x => (evO Γ lo env x.2).bind fun y => (evO Γ hi env y.2).bind fun z => slcE x.1 y.1 z.1 c z.2
  | .rev a c, env, st => (evE Γ a env st).bind fun x => revE x.1 c x.2
  | .rgv t c e, env, st => (evE Γ e env st).bind fun x => rgvE t c x.1 x.2
  | .call sh es kws, env, st => (Γ.shp[sh]?).bind fun p => (evL Γ es env st).bind fun x => (evL Γ kws env x.2).bind fun y => if x.1.length = p.np ∧ y.1.length = p.ks.length then (agD x.1 y.1 p.ag).bind fun vs => Γ.call Γ.base p.f vs y.2 else none
  | .blt b es c, env, st => (evL Γ es env st).bind fun x => bltE b c x.1 x.2
  | .isi a t, env, st => (evE Γ a env st).bind fun x => (tyOf x.2 x.1).map fun t' => (.bl (isTy t t'), x.2)
  | .met m o es, env, st => (evE Γ o env st).bind fun x => if metOk m x.1 x.2 = true then (evL Γ es env x.2).bind fun y => metE Γ.base m x.1 y.1 y.2 else none
  | .lc t it fs e own c, env, st => (evI Γ it env st).bind fun x => (loopC (fun d st => (asT Γ t d (wipe env own) st).bind fun y => (evF Γ fs y.1 y.2).bind fun z =>
      if z.1 = true then (evE Γ e y.1 z.2).bind fun v => if still x.1.1 x.1.2.1 v.2 then some (some v.1, v.2) else none else if still x.1.1 x.1.2.1 z.2 then some (none, z.2) else none) x.1.2.2 x.2).bind fun y => if y.1.length ≤ line then some (mkL c y.1 y.2) else none
  | .dc t it fs k v own c, env, st => (evI Γ it env st).bind fun x => (loopK (fun d st => (asT Γ t d (wipe env own) st).bind fun y => (evF Γ fs y.1 y.2).bind fun z =>
      if z.1 = true then (evE Γ k y.1 z.2).bind fun a => (evE Γ v y.1 a.2).bind fun b => if still x.1.1 x.1.2.1 b.2 && isKey a.1 then some (some (a.1, b.1), b.2) else none else if still x.1.1 x.1.2.1 z.2 then some (none, z.2) else none) x.1.2.2 [] x.2).bind fun y => if y.1.length < line then some (mkD c y.1 y.2) else none
/-- a test -/
def evT (Γ : Cfg) : Te → Env → Sto → Option (Bool × Sto)
  | .nt a, env, st => (evT Γ a env st).map fun x => (!x.1, x.2)
  | .and a b, env, st => (evT Γ a env st).bind fun x => if x.1 = true then evT Γ b env x.2 else some (false, x.2)
  | .or a b, env, st => (evT Γ a env st).bind fun x => if x.1 = true then some (true, x.2) else evT Γ b env x.2
  | .ife t a b, env, st => (evT Γ t env st).bind fun x => if x.1 = true then evT Γ a env x.2 else evT Γ b env x.2
  | .cmp a l, env, st => (evE Γ a env st).bind fun x => evC Γ l x.1 env x.2
  | .ex e, env, st => (evE Γ e env st).bind fun x => (tru x.2 x.1).map fun k => (k, x.2)
/-- a chain of comparisons behind a value -/
def evC (Γ : Cfg) : CL → D → Env → Sto → Option (Bool × Sto)
  | .one o e, d, env, st => (evE Γ e env st).bind fun x => (cmpE o d x.1 x.2).map fun k => (k, x.2)
  | .cons o e r, d, env, st => (evE Γ e env st).bind fun x => (cmpE o d x.1 x.2).bind fun k => if k = true then evC Γ r x.1 env x.2 else some (false, x.2)
def evO (Γ : Cfg) : OE → Env → Sto → Option (Option Int × Sto)
  | .no, _, st => some (none, st)
  | .yes e, env, st => (evE Γ e env st).bind fun x => match x.1 with
    | .int i => some (some i, x.2)
    | _ => none
/-- items in a row; a star's are spliced -/
def evL (Γ : Cfg) : EL → Env → Sto → Option (List D × Sto)
  | .nil, _, st => some ([], st)
  | .cons e r, env, st => (evE Γ e env st).bind fun x => (evL Γ r env x.2).map fun y => (x.1 :: y.1, y.2)
  | .star e r, env, st => (evE Γ e env st).bind fun x => (seqOf x.2 x.1).bind fun l => (evL Γ r env x.2).map fun y => (l ++ y.1, y.2)
/-- pairs of a dict display -/
def evP (Γ : Cfg) : PL → Env → Sto → Option (List (D × D) × Sto)
  | .nil, _, st => some ([], st)
  | .cons k v r, env, st => (evE Γ k env st).bind fun x => (evE Γ v env x.2).bind fun y => (evP Γ r env y.2).map fun z => ((x.1, y.1) :: z.1, z.2)
/-- all tests of a comprehension -/
def evF (Γ : Cfg) : FL → Env → Sto → Option (Bool × Sto)
  | .nil, _, st => some (true, st)
  | .cons e r, env, st => (evT Γ e env st).bind fun x => if x.1 = true then evF Γ r env x.2 else some (false, x.2)
/-- what is walked: the thing itself and its content (if it may change), the items -/
def evI (Γ : Cfg) : It → Env → Sto → Option ((D × List D × List D) × Sto)
  | .ex e, env, st => (evE Γ e env st).bind fun x => (itemsE x.2 x.1).bind fun l => if still x.1 l x.2 = true then some ((x.1, l, l), x.2) else none
  | .rng es, env, st => (evL Γ es env st).bind fun x => match x.1 with
    | [.int j] => if -(2 ^ 62) ≤ j ∧ j < 2 ^ 62 then some ((.non, [], (List.range j.toNat).map fun (k : Nat) => .int (0 + (k : Int))), x.2) else none
    | [.int i, .int j] => if -(2 ^ 62) ≤ i ∧ i < 2 ^ 62 ∧ -(2 ^ 62) ≤ j ∧ j < 2 ^ 62 then some ((.non, [], (List.range (j - i).toNat).map fun (k : Nat) => .int (i + (k : Int))), x.2) else none
    | [.int i, .int j, .int c] => if 0 < c ∧ c < 1048576 ∧ 0 ≤ i ∧ i < 2 ^ 60 ∧ 0 ≤ j ∧ j < 2 ^ 60 then some ((.non, [], (List.range (stepsI i j c)).map fun (k : Nat) => .int (i + (k : Int) * c)), x.2) else none
    | _ => none
  | .enu e, env, st => (evE Γ e env st).bind fun x => (itemsE x.2 x.1).bind fun l => if still x.1 l x.2 = true then some ((x.1, l, l.mapIdx fun (i : Nat) d => .tup [.int (i : Int), d]), x.2) else none
  | .zip a b, env, st => (evE Γ a env st).bind fun x => (evE Γ b env x.2).bind fun y => (seqOf y.2 x.1).bind fun l => (seqOf y.2 y.1).bind fun m =>
      if l.length = m.length ∧ isLst y.2 x.1 = isLst y.2 y.1 ∧ still (.dic [(x.1, y.1)]) [.lst l, .lst m] y.2 = true then some ((.dic [(x.1, y.1)], [.lst l, .lst m], List.zipWith (fun p q => .tup [p, q]) l m), y.2) else none
  | .rev e, env, st => (evE Γ e env st).bind fun x => (seqOf x.2 x.1).bind fun l => if still x.1 l x.2 = true then some ((x.1, l, l.reverse), x.2) else none
/-- a store -/
def asT (Γ : Cfg) : Tg → D → Env → Sto → Option (Env × Sto)
  | .name i, d, env, st => some (env.set i (some d), st)
  | .tup ts, d, env, st => match d with
    | .tup l => asL Γ ts l env st
    | .lst l => if ts.plain = true then asL Γ ts l env st else none
    | _ => none
  | .sub o i, d, env, st => (evE Γ o env st).bind fun x => (evE Γ i env x.2).bind fun y => (setE Γ.base x.1 y.1 d y.2).map fun st' => (env, st')
/-- several stores, of just so many values; a star takes a list of what is left -/
def asL (Γ : Cfg) : TL → List D → Env → Sto → Option (Env × Sto)
  | .nil, [], env, st => some (env, st)
  | .cons t r, d :: l, env, st => (asT Γ t d env st).bind fun x => asL Γ r l x.1 x.2
  | .star t, l, env, st => asT Γ t (.lst l) env st
  | _, _, _, _ => none
end

/-- p op= q -/
def augI (o : Bop) (p q : Int) : Option D :=
  match o with
  | .add => some (.int (p + q))
  | .sub => some (.int (p - q))
  | _ => none

mutual
def evS (Γ : Cfg) : S → Env → Sto → Option (Fl × Env × Sto)
  | .asg t e, env, st => (evE Γ e env st).bind fun x => (asT Γ t x.1 env x.2).map fun y => (.nx, y.1, y.2)
  | .aug i o e, env, st => match env[i]? with
    | some (some a) => (evE Γ e env st).bind fun x => (match a, x.1 with
      | .int p, .int q => augI o p q
      | _, _ => none).map fun d => (.nx, env.set i (some d), x.2)
    | _ => none
  | .augS a i o e, env, st => (evE Γ a env st).bind fun x => (evE Γ i env x.2).bind fun y => (lstOf y.2 x.1).bind fun l => (match y.1 with
      | .int j => at_ l j
      | _ => none).bind fun old => (evE Γ e env y.2).bind fun z => (match old, z.1 with
      | .int p, .int q => augI o p q
      | _, _ => none).bind fun d => (setE Γ.base x.1 y.1 d z.2).map fun st' => (.nx, env, st')
  | .ex e, env, st => (evE Γ e env st).map fun x => (.nx, env, x.2)
  | .ret e, env, st => (evE Γ e env st).map fun x => (.rt x.1, env, x.2)
  | .retN, env, st => some (.rt .non, env, st)
  | .iff t a b, env, st => (evT Γ t env st).bind fun x => if x.1 = true then evB Γ a env x.2 else evB Γ b env x.2
  | .for_ t it b, env, st => (evI Γ it env st).bind fun x => loopF (fun d env st => (asT Γ t d env st).bind fun y => (evB Γ b y.1 y.2).bind fun z => if still x.1.1 x.1.2.1 z.2.2 then some z else none) x.1.2.2 env x.2
  | .whl t b, env, st => loopW (fun env st => evT Γ t env st) (fun env st => evB Γ b env st) Γ.fuel env st
  | .mat e cs, env, st => (evE Γ e env st).bind fun x => evM Γ cs x.1 env x.2
  | .pass, env, st => some (.nx, env, st)
  | .brk, env, st => some (.bk, env, st)
  | .cnt, env, st => some (.ct, env, st)
def evB (Γ : Cfg) : SL → Env → Sto → Option (Fl × Env × Sto)
  | .nil, env, st => some (.nx, env, st)
  | .cons s r, env, st => (evS Γ s env st).bind fun x => match x.1 with
    | .nx => evB Γ r x.2.1 x.2.2
    | f => some (f, x.2)
def evM (Γ : Cfg) : ML → D → Env → Sto → Option (Fl × Env × Sto)
  | .nil, _, env, st => some (.nx, env, st)
  | .val ss b r, d, env, st => match d with
    | .str x => if ss.any (fun s => decide (x = s)) then evB Γ b env st else evM Γ r d env st
    | _ => none
  | .any b _, _, env, st => evB Γ b env st
end

structure Def where
  /-- how many parameters (the first slots), how many slots -/
  np : Nat
  ns : Nat
  body : SL
  /-- what it makes stays in cells -/
  raw : Bool

/-- what a call leaves: the cells made in it are gone, what they hold is told in full -/
def popD (n : Nat) (d : D) (st : Sto) : Res := if st.length = n then some (d, st) else (frz st n 60 d).map fun d' => (d', st.take n)

structure Tab where
  defs : List Def
  glb : List D
  shp : List Shp
  fuel : Nat

/-- b: the caller's base -/
def callD (T : Tab) : Nat → Nat → Nat → List D → Sto → Res
  | 0, _, _, _, _ => none
  | k + 1, b, f, vs, st => T.defs[f]?.bind fun d => if vs.length = d.np then
      (evB ⟨callD T k, T.glb, T.shp, if d.raw then b else st.length, T.fuel⟩ d.body (vs.map some ++ List.replicate (d.ns - d.np) none) st).bind fun x => match x.1 with
        | .rt v => if d.raw then some (v, x.2.2) else popD st.length v x.2.2
        | .nx => if d.raw then some (.non, x.2.2) else popD st.length .non x.2.2
        | _ => none
    else none

mutual
theorem same_eq : ∀ {a b : D}, same a b = true → a = b
  | .non, b, h => by cases b <;> first | rfl | (simp [same] at h)
  | .bl x, b, h => by cases b <;> first | (simp [same] at h; done) | (simp only [same, beq_iff_eq] at h; rw [h])
  | .int x, b, h => by cases b <;> first | (simp [same] at h; done) | (simp only [same, decide_eq_true_eq] at h; rw [h])
  | .str x, b, h => by cases b <;> first | (simp [same] at h; done) | (simp only [same, decide_eq_true_eq] at h; rw [h])
  | .tup x, b, h => by cases b <;> first | (simp [same] at h; done) | (simp only [same] at h; rw [sameL_eq h])
  | .lst x, b, h => by cases b <;> first | (simp [same] at h; done) | (simp only [same] at h; rw [sameL_eq h])
  | .dic x, b, h => by cases b <;> first | (simp [same] at h; done) | (simp only [same] at h; rw [sameK_eq h])
  | .rng x y, b, h => by cases b <;> first | (simp [same] at h; done) | (simp only [same, Bool.and_eq_true, decide_eq_true_eq] at h; rw [h.1, h.2])
  | .own x, b, h => by cases b <;> first | (simp [same] at h; done) | (simp only [same, decide_eq_true_eq] at h; rw [h])
  | .scr x, b, h => by simp [same] at h
theorem sameL_eq : ∀ {a b : List D}, sameL a b = true → a = b
  | [], b, h => by cases b <;> first | rfl | (simp [sameL] at h)
  | x :: a, b, h => by
    cases b with
    | nil => simp [sameL] at h
    | cons y b =>
      simp only [sameL, Bool.and_eq_true] at h
      rw [same_eq h.1, sameL_eq h.2]
theorem sameK_eq : ∀ {a b : List (D × D)}, sameK a b = true → a = b
  | [], b, h => by cases b <;> first | rfl | (simp [sameK] at h)
  | (x, z) :: a, b, h => by
    cases b with
    | nil => simp [sameK] at h
    | cons y b =>
      obtain ⟨y1, y2⟩ := y
      simp only [sameK, Bool.and_eq_true] at h
      rw [same_eq h.1.1, same_eq h.1.2, sameK_eq h.2]
end

end Mc

set_option linter.all false
set_option maxRecDepth 100000
set_option Elab.async false
namespace Mc
open PySem PySem.Spec PyProof.Rows L2

/-- the written part and the world -/
structure Kw where
  K : PySem.W.Frag
  w : World
/-- where the cells stand; what is never changed any more -/
structure Gh where
  al : List Addr
  F : Addr → Prop

def NotFz (u : HO) : Prop := ∀ o w, u ≠ .frz o w
def emp : Hp := fun _ => none
def str_ (s : Tx) : Str := ⟨s.toArray⟩
def keyD : Key → D
  | .inl i => .int i
  | .inr x => .str x.cps.toList

def TupAt (κ : Kw) (g : Gh) (H : Hp) (a : Addr) (vs : List V) : Prop := (g.F a ∧ Rd H a (.tup vs)) ∨ SqT κ.K emp a vs
def LstAt (g : Gh) (H : Hp) (a : Addr) (vs : List V) : Prop := g.F a ∧ H a = some (.lst vs)
/-- the law's script -/
def ScrAt (κ : Kw) (g : Gh) (H : Hp) (a : Addr) (vs : List V) : Prop := (g.F a ∧ Rd H a (.lst vs)) ∨ SqL κ.K emp a vs

/-- a plain value that needs no heap -/
inductive Sca : D → V → Prop
  | non : Sca .non .non
  | bl (b : Bool) : Sca (.bl b) (.bl b)
  | int (i : Int) : Sca (.int i) (.int i)
  | str (s : Tx) : Sca (.str s) (.str (str_ s))
/-- a written dict with text keys: what a look-up gives -/
def WDic (κ : Kw) (a : Addr) (l : List (D × D)) : Prop :=
  (∃ es n, KDict κ.K κ.w a es n) ∧ (belowK 0 l = true ∧ (l.any fun p => isInt p.1) = false) ∧ ∀ z : Tx, (look (.str z) l = none → PySem.W.nsIn κ.K a (str_ z) = some none) ∧
    ∀ d, look (.str z) l = some d → ∃ u v, PySem.W.nsIn κ.K a (str_ z) = some (some u) ∧ RelV v u ∧ Sca d v

mutual
inductive Rep (κ : Kw) (g : Gh) (H : Hp) : D → V → Prop
  | sca {d : D} {v : V} : Sca d v → Rep κ g H d v
  | tup {l : List D} {a : Addr} {vs : List V} : TupAt κ g H a vs → Reps κ g H l vs → Rep κ g H (.tup l) (.ref a)
  | lst {l : List D} {a : Addr} {vs : List V} : LstAt g H a vs → Reps κ g H l vs → Rep κ g H (.lst l) (.ref a)
  | dic {l : List (D × D)} {a : Addr} {kvs : List (Key × V)} : g.F a → Rd H a (.dK kvs) → RepK κ g H l kvs → Rep κ g H (.dic l) (.ref a)
  | wdic {l : List (D × D)} {a : Addr} : 2 ≤ l.length → WDic κ a l → Rep κ g H (.dic l) (.ref a)
  | rng {lo hi : Int} {a : Addr} : g.F a → Rd H a (.rng lo hi) → Rep κ g H (.rng lo hi) (.ref a)
  | own {n : Nat} {a : Addr} : g.al[n]? = some a → Rep κ g H (.own n) (.ref a)
  | scr {l : List Int} {a : Addr} : ScrAt κ g H a (l.map V.int) → Rep κ g H (.scr l) (.ref a)
inductive Reps (κ : Kw) (g : Gh) (H : Hp) : List D → List V → Prop
  | nil : Reps κ g H [] []
  | cons {d : D} {v : V} {l : List D} {vs : List V} : Rep κ g H d v → Reps κ g H l vs → Reps κ g H (d :: l) (v :: vs)
inductive RepK (κ : Kw) (g : Gh) (H : Hp) : List (D × D) → List (Key × V) → Prop
  | nil : RepK κ g H [] []
  | cons {k : Key} {d : D} {v : V} {l : List (D × D)} {vs : List (Key × V)} : Rep κ g H d v → RepK κ g H l vs → RepK κ g H ((keyD k, d) :: l) ((k, v) :: vs)
end

/-- what may become of ghost and heap -/
structure Ext (g : Gh) (H : Hp) (g' : Gh) (H' : Hp) : Prop where
  al : ∀ (i : Nat) (a : Addr), g.al[i]? = some a → g'.al[i]? = some a
  fz : ∀ a, g.F a → g'.F a
  rd : ∀ a, g.F a → ∀ u, NotFz u → Rd H a u → Rd H' a u
  lk : ∀ a, g.F a → ∀ vs, H a = some (.lst vs) → H' a = some (.lst vs)
  kp : ∀ a o, H a = some o → a ∉ g.al → ¬ g.F a → H' a = some o
  nal : ∀ a, a ∈ g'.al → a ∈ g.al ∨ H a = none
  nF : ∀ a, g'.F a → g.F a ∨ H a = none
  dm : ∀ a, H' a = none → H a = none

def CellR (κ : Kw) (g : Gh) (H : Hp) (a : Addr) : Cell → Prop
  | .lst l => ∃ vs, H a = some (.lst vs) ∧ Reps κ g H l vs
  | .dic l => ∃ kvs, H a = some (.dK kvs) ∧ RepK κ g H l kvs
def belowC (n : Nat) : Cell → Bool
  | .lst l => belowL n l
  | .dic l => belowK n l

/-- Bs: the bases of the frames around (and this one's, base): a cell below one has no handle at or above it -/
structure Live (κ : Kw) (g : Gh) (Bs : Nat → Prop) (base : Nat) (st : Sto) (H : Hp) : Prop where
  len : g.al.length = st.length
  nd : g.al.Nodup
  nf : ∀ a ∈ g.al, ¬ g.F a
  dF : ∀ a, g.F a → H a ≠ none
  cell : ∀ (i : Nat) (c : Cell), st[i]? = some c → ∃ a, g.al[i]? = some a ∧ CellR κ g H a c
  cl : ∀ (b i : Nat) (c : Cell), Bs b → i < b → st[i]? = some c → belowC b c = true
  le : ∀ b, Bs b → b ≤ base
  bs : base ≤ st.length

def EnvR (κ : Kw) (g : Gh) (H : Hp) (env : Env) (σ : L2.St) : Prop :=
  env.length = σ.length ∧ ∀ (i : Nat) (d : D), env[i]? = some (some d) → ∃ v, σ[i]? = some (some v) ∧ Rep κ g H d v

section
variable {κ : Kw} {g g' g'' : Gh} {H H' H'' : Hp} {Bs : Nat → Prop} {base : Nat} {st : Sto} {a p : Addr}

theorem Ext.refl : Ext g H g H := ⟨fun _ _ e => e, fun _ h => h, fun _ _ _ _ h => h, fun _ _ _ h => h, fun _ _ e _ _ => e, fun _ h => .inl h, fun _ h => .inl h, fun _ h => h⟩
theorem Ext.trans (x : Ext g H g' H') (y : Ext g' H' g'' H'') : Ext g H g'' H'' where
  al := fun i a e => y.al i a (x.al i a e)
  fz := fun a h => y.fz a (x.fz a h)
  rd := fun a h u n r => y.rd a (x.fz a h) u n (x.rd a h u n r)
  lk := fun a h vs r => y.lk a (x.fz a h) vs (x.lk a h vs r)
  kp := fun a o e h1 h2 => by
    have e' := x.kp a o e h1 h2
    refine y.kp a o e' (fun hm => ?_) fun hF => ?_
    · rcases x.nal a hm with q | q
      · exact h1 q
      · rw [e] at q; cases q
    · rcases x.nF a hF with q | q
      · exact h2 q
      · rw [e] at q; cases q
  nal := fun a h => by
    rcases y.nal a h with q | q
    · exact x.nal a q
    · exact .inr (x.dm a q)
  nF := fun a h => by
    rcases y.nF a h with q | q
    · exact x.nF a q
    · exact .inr (x.dm a q)
  dm := fun a h => x.dm a (y.dm a h)

theorem notFz_tup {vs : List V} : NotFz (.tup vs) := fun _ _ e => by cases e
theorem notFz_lst {vs : List V} : NotFz (.lst vs) := fun _ _ e => by cases e
theorem notFz_dK {vs : List (Key × V)} : NotFz (.dK vs) := fun _ _ e => by cases e
theorem notFz_rng {a b : Int} : NotFz (.rng a b) := fun _ _ e => by cases e

theorem TupAt.mono {vs : List V} (x : Ext g H g' H') (h : TupAt κ g H a vs) : TupAt κ g' H' a vs := by
  rcases h with ⟨h1, h2⟩ | h
  · exact .inl ⟨x.fz a h1, x.rd a h1 _ notFz_tup h2⟩
  · exact .inr h
theorem LstAt.mono {vs : List V} (x : Ext g H g' H') (h : LstAt g H a vs) : LstAt g' H' a vs :=
  ⟨x.fz a h.1, x.lk a h.1 _ h.2⟩
theorem ScrAt.mono {vs : List V} (x : Ext g H g' H') (h : ScrAt κ g H a vs) : ScrAt κ g' H' a vs := by
  rcases h with ⟨h1, h2⟩ | h
  · exact .inl ⟨x.fz a h1, x.rd a h1 _ notFz_lst h2⟩
  · exact .inr h
theorem TupAt.sq {vs : List V} (h : TupAt κ g H a vs) : SqT κ.K H a vs := by
  rcases h with ⟨_, h2⟩ | h
  · exact .inl h2
  · rcases h with (h | ⟨_, h⟩) | h
    · cases h
    · cases h
    · exact .inr h
theorem LstAt.sq {vs : List V} (h : LstAt g H a vs) : SqL κ.K H a vs := .inl (.inl h.2)
theorem ScrAt.sq {vs : List V} (h : ScrAt κ g H a vs) : SqL κ.K H a vs := by
  rcases h with ⟨_, h2⟩ | h
  · exact .inl h2
  · rcases h with (h | ⟨_, h⟩) | h
    · cases h
    · cases h
    · exact .inr h

mutual
theorem Rep.mono (x : Ext g H g' H') : ∀ {d : D} {v : V}, Rep κ g H d v → Rep κ g' H' d v
  | _, _, .sca h => .sca h
  | _, _, .tup h1 h2 => .tup (h1.mono x) (Reps.mono x h2)
  | _, _, .lst h1 h2 => .lst (h1.mono x) (Reps.mono x h2)
  | _, _, .dic h1 h2 h3 => .dic (x.fz _ h1) (x.rd _ h1 _ notFz_dK h2) (RepK.mono x h3)
  | _, _, .wdic hz h => .wdic hz h
  | _, _, .rng h1 h2 => .rng (x.fz _ h1) (x.rd _ h1 _ notFz_rng h2)
  | _, _, .own h => .own (x.al _ _ h)
  | _, _, .scr h => .scr (h.mono x)
theorem Reps.mono (x : Ext g H g' H') : ∀ {d : List D} {v : List V}, Reps κ g H d v → Reps κ g' H' d v
  | _, _, .nil => .nil
  | _, _, .cons h1 h2 => .cons (Rep.mono x h1) (Reps.mono x h2)
theorem RepK.mono (x : Ext g H g' H') : ∀ {d : List (D × D)} {v : List (Key × V)}, RepK κ g H d v → RepK κ g' H' d v
  | _, _, .nil => .nil
  | _, _, .cons h1 h2 => .cons (Rep.mono x h1) (RepK.mono x h2)
end

theorem Reps.length : ∀ {d : List D} {v : List V}, Reps κ g H d v → d.length = v.length
  | _, _, .nil => rfl
  | _, _, .cons _ h => congrArg Nat.succ (Reps.length h)
theorem RepK.length : ∀ {d : List (D × D)} {v : List (Key × V)}, RepK κ g H d v → d.length = v.length
  | _, _, .nil => rfl
  | _, _, .cons _ h => congrArg Nat.succ (RepK.length h)
theorem Reps.get : ∀ {d : List D} {v : List V} {i : Nat} {x : D}, Reps κ g H d v → d[i]? = some x → ∃ y, v[i]? = some y ∧ Rep κ g H x y
  | _, _, _, _, .nil, e => by simp at e
  | _, _, 0, _, .cons h _, e => by simp at e; subst e; exact ⟨_, rfl, h⟩
  | _, _, i + 1, x, .cons _ h, e => by
    obtain ⟨y, h1, h2⟩ := Reps.get (i := i) (x := x) h (by simpa using e)
    exact ⟨y, by simpa using h1, h2⟩
theorem Reps.append : ∀ {d e : List D} {v u : List V}, Reps κ g H d v → Reps κ g H e u → Reps κ g H (d ++ e) (v ++ u)
  | _, _, _, _, .nil, q => q
  | _, _, _, _, .cons h t, q => .cons h (Reps.append t q)
theorem Reps.take : ∀ {d : List D} {v : List V} (n : Nat), Reps κ g H d v → Reps κ g H (d.take n) (v.take n)
  | _, _, 0, _ => .nil
  | _, _, _ + 1, .nil => .nil
  | _, _, n + 1, .cons h t => .cons h (Reps.take n t)
theorem Reps.drop : ∀ {d : List D} {v : List V} (n : Nat), Reps κ g H d v → Reps κ g H (d.drop n) (v.drop n)
  | _, _, 0, r => r
  | _, _, _ + 1, .nil => .nil
  | _, _, n + 1, .cons _ t => Reps.drop n t
theorem Reps.set {x : D} {y : V} (r : Rep κ g H x y) : ∀ {d : List D} {v : List V} (i : Nat), Reps κ g H d v → Reps κ g H (d.set i x) (v.set i y)
  | _, _, _, .nil => .nil
  | _, _, 0, .cons _ t => .cons r t
  | _, _, i + 1, .cons q t => .cons q (Reps.set r i t)
theorem Reps.reverse : ∀ {d : List D} {v : List V}, Reps κ g H d v → Reps κ g H d.reverse v.reverse
  | _, _, .nil => .nil
  | _, _, .cons h t => by
    rw [List.reverse_cons, List.reverse_cons]
    exact (Reps.reverse t).append (.cons h .nil)

/-- what a representation leans on -/
structure Mn (g : Gh) (H : Hp) (g' : Gh) (H' : Hp) : Prop where
  al : ∀ (i : Nat) (a : Addr), g.al[i]? = some a → g'.al[i]? = some a
  fz : ∀ a, g.F a → g'.F a
  rd : ∀ a, g.F a → ∀ u, NotFz u → Rd H a u → Rd H' a u
  lk : ∀ a, g.F a → ∀ vs, H a = some (.lst vs) → H' a = some (.lst vs)
theorem Ext.mn (x : Ext g H g' H') : Mn g H g' H' := ⟨x.al, x.fz, x.rd, x.lk⟩
mutual
theorem Rep.mn (x : Mn g H g' H') : ∀ {d : D} {v : V}, Rep κ g H d v → Rep κ g' H' d v
  | _, _, .sca h => .sca h
  | _, _, .tup h1 h2 => .tup (by
      rcases h1 with ⟨h1, h3⟩ | h
      · exact .inl ⟨x.fz _ h1, x.rd _ h1 _ notFz_tup h3⟩
      · exact .inr h) (Reps.mn x h2)
  | _, _, .lst h1 h2 => .lst ⟨x.fz _ h1.1, x.lk _ h1.1 _ h1.2⟩ (Reps.mn x h2)
  | _, _, .dic h1 h2 h3 => .dic (x.fz _ h1) (x.rd _ h1 _ notFz_dK h2) (RepK.mn x h3)
  | _, _, .wdic hz h => .wdic hz h
  | _, _, .rng h1 h2 => .rng (x.fz _ h1) (x.rd _ h1 _ notFz_rng h2)
  | _, _, .own h => .own (x.al _ _ h)
  | _, _, .scr h => .scr (by
      rcases h with ⟨h1, h3⟩ | h
      · exact .inl ⟨x.fz _ h1, x.rd _ h1 _ notFz_lst h3⟩
      · exact .inr h)
theorem Reps.mn (x : Mn g H g' H') : ∀ {d : List D} {v : List V}, Reps κ g H d v → Reps κ g' H' d v
  | _, _, .nil => .nil
  | _, _, .cons h1 h2 => .cons (Rep.mn x h1) (Reps.mn x h2)
theorem RepK.mn (x : Mn g H g' H') : ∀ {d : List (D × D)} {v : List (Key × V)}, RepK κ g H d v → RepK κ g' H' d v
  | _, _, .nil => .nil
  | _, _, .cons h1 h2 => .cons (Rep.mn x h1) (RepK.mn x h2)
end
/-- a new thing that is never changed -/
def Gh.fz (g : Gh) (p : Addr) : Gh := ⟨g.al, fun a => g.F a ∨ a = p⟩
/-- a new cell -/
def Gh.cell (g : Gh) (p : Addr) : Gh := ⟨g.al ++ [p], g.F⟩

theorem notIn_al (L : Live κ g Bs base st H) (hp : H p = none) : p ∉ g.al := fun hm => by
  obtain ⟨i, hi, e⟩ := List.getElem_of_mem hm
  have hi' : i < st.length := by rw [← L.len]; exact hi
  obtain ⟨a, e1, c⟩ := L.cell i _ (List.getElem?_eq_getElem hi')
  have e2 : g.al[i]? = some p := by rw [List.getElem?_eq_getElem hi, e]
  rw [e2] at e1
  cases e1
  generalize st[i] = c' at c
  cases c' with
  | lst l => obtain ⟨_, q, _⟩ := c; rw [hp] at q; cases q
  | dic l => obtain ⟨_, q, _⟩ := c; rw [hp] at q; cases q
theorem notF (L : Live κ g Bs base st H) (hp : H p = none) : ¬ g.F p := fun h => L.dF p h hp

theorem rd_upd {o u : HO} (hp : H p = none) (ha : a ≠ p) (r : Rd H a u) : Rd (upd H p o) a u := by
  rcases r with r | ⟨ob, r⟩
  · exact .inl (by rw [upd_ne ha]; exact r)
  · exact .inr ⟨ob, by rw [upd_ne ha]; exact r⟩

theorem ext_fz (L : Live κ g Bs base st H) (hp : H p = none) (o : HO) : Ext g H (g.fz p) (upd H p o) where
  al := fun _ _ e => e
  fz := fun _ h => .inl h
  rd := fun a h u _ r => rd_upd hp (fun e => notF L hp (e ▸ h)) r
  lk := fun a h vs e => by rw [upd_ne (ne_of_none e hp)]; exact e
  kp := fun a o' e _ _ => by rw [upd_ne (ne_of_none e hp)]; exact e
  nal := fun _ h => .inl h
  nF := fun a h => by
    rcases h with h | h
    · exact .inl h
    · exact .inr (h ▸ hp)
  dm := fun a e => by
    by_cases h : a = p
    · subst h; exact hp
    · rw [upd_ne h] at e; exact e
theorem ext_cell (L : Live κ g Bs base st H) (hp : H p = none) (o : HO) : Ext g H (g.cell p) (upd H p o) where
  al := fun i a e => by
    show (g.al ++ [p])[i]? = some a
    rw [List.getElem?_append_left (List.getElem?_eq_some_iff.mp e).1]
    exact e
  fz := fun _ h => h
  rd := fun a h u _ r => rd_upd hp (fun e => notF L hp (e ▸ h)) r
  lk := fun a h vs e => by rw [upd_ne (ne_of_none e hp)]; exact e
  kp := fun a o' e _ _ => by rw [upd_ne (ne_of_none e hp)]; exact e
  nal := fun a h => by
    rcases List.mem_append.mp h with h | h
    · exact .inl h
    · exact .inr (by rw [List.mem_singleton.mp h]; exact hp)
  nF := fun _ h => .inl h
  dm := fun a e => by
    by_cases h : a = p
    · subst h; exact hp
    · rw [upd_ne h] at e; exact e

theorem CellR.mono (x : Ext g H g' H') {c : Cell} (e : ∀ o, H a = some o → H' a = some o) (h : CellR κ g H a c) : CellR κ g' H' a c := by
  cases c with
  | lst l => obtain ⟨vs, h1, h2⟩ := h; exact ⟨vs, e _ h1, h2.mono x⟩
  | dic l => obtain ⟨vs, h1, h2⟩ := h; exact ⟨vs, e _ h1, h2.mono x⟩

theorem live_fz (L : Live κ g Bs base st H) (hp : H p = none) (o : HO) : Live κ (g.fz p) Bs base st (upd H p o) where
  len := L.len
  nd := L.nd
  nf := fun a h q => by
    rcases q with q | q
    · exact L.nf a h q
    · exact notIn_al L hp (q ▸ h)
  dF := fun a h e => by
    by_cases z : a = p
    · subst z; rw [upd_same] at e; cases e
    · rw [upd_ne z] at e
      rcases h with h | h
      · exact L.dF a h e
      · exact z h
  cell := fun i c e => by
    obtain ⟨a, h1, h2⟩ := L.cell i c e
    exact ⟨a, h1, h2.mono (ext_fz L hp o) fun o' q => by rw [upd_ne (ne_of_none q hp)]; exact q⟩
  cl := L.cl
  le := L.le
  bs := L.bs
/-- the new cell's content, told at the new heap -/
theorem live_cell (L : Live κ g Bs base st H) (hp : H p = none) (o : HO) (c : Cell) (hc : CellR κ (g.cell p) (upd H p o) p c) : Live κ (g.cell p) Bs base (st ++ [c]) (upd H p o) where
  len := by show (g.al ++ [p]).length = _; rw [List.length_append, List.length_append, L.len]; rfl
  nd := by
    show (g.al ++ [p]).Nodup
    refine List.nodup_append.mpr ⟨L.nd, by simp, fun a h b h' => ?_⟩
    have e : b = p := by simpa using h'
    subst e
    exact fun z => notIn_al L hp (z ▸ h)
  nf := fun a h q => by
    rcases List.mem_append.mp h with h | h
    · exact L.nf a h q
    · have e : a = p := by simpa using h
      subst e
      exact notF L hp q
  dF := fun a h e => by
    by_cases z : a = p
    · subst z; rw [upd_same] at e; cases e
    · rw [upd_ne z] at e; exact L.dF a h e
  cell := fun i c' e => by
    by_cases hi : i < st.length
    · rw [List.getElem?_append_left hi] at e
      obtain ⟨a, h1, h2⟩ := L.cell i c' e
      exact ⟨a, (ext_cell L hp o).al i a h1, h2.mono (ext_cell L hp o) fun o' q => by rw [upd_ne (ne_of_none q hp)]; exact q⟩
    · rw [List.getElem?_append_right (by omega)] at e
      obtain ⟨h1, h2⟩ := List.getElem?_eq_some_iff.mp e
      have hi' : i = st.length := by simp at h1; omega
      subst hi'
      refine ⟨p, ?_, ?_⟩
      · show (g.al ++ [p])[st.length]? = some p
        rw [← L.len]
        simp
      · have : c' = c := by simpa using h2.symm
        subst this
        exact hc
  cl := fun b i c' hb h e => by
    rw [List.getElem?_append_left (Nat.lt_of_lt_of_le h (Nat.le_trans (L.le b hb) L.bs))] at e
    exact L.cl b i c' hb h e
  le := L.le
  bs := by rw [List.length_append]; exact Nat.le_trans L.bs (Nat.le_add_right _ _)

/-- an object that stands outside: laid, seen again, at last taken in -/
theorem mn_out (hp1 : p ∉ g.al) (hp2 : ¬ g.F p) (o : HO) : Mn g H g (upd H p o) where
  al := fun _ _ e => e
  fz := fun _ h => h
  rd := fun a h u _ r => by
    have hb : a ≠ p := fun e => hp2 (e ▸ h)
    rcases r with r | ⟨ob, r⟩
    · exact .inl (by rw [upd_ne hb]; exact r)
    · exact .inr ⟨ob, by rw [upd_ne hb]; exact r⟩
  lk := fun a h vs e => by rw [upd_ne (fun z : a = p => hp2 (z ▸ h))]; exact e
theorem CellR.mn (x : Mn g H g' H') {c : Cell} (e : ∀ o, H a = some o → H' a = some o) (h : CellR κ g H a c) : CellR κ g' H' a c := by
  cases c with
  | lst l => obtain ⟨vs, h1, h2⟩ := h; exact ⟨vs, e _ h1, h2.mn x⟩
  | dic l => obtain ⟨vs, h1, h2⟩ := h; exact ⟨vs, e _ h1, h2.mn x⟩
theorem live_out (L : Live κ g Bs base st H) (hp1 : p ∉ g.al) (hp2 : ¬ g.F p) (o : HO) : Live κ g Bs base st (upd H p o) where
  len := L.len
  nd := L.nd
  nf := L.nf
  dF := fun a h e => by
    by_cases z : a = p
    · subst z; rw [upd_same] at e; cases e
    · rw [upd_ne z] at e; exact L.dF a h e
  cell := fun i c e => by
    obtain ⟨a, h1, h2⟩ := L.cell i c e
    exact ⟨a, h1, h2.mn (mn_out hp1 hp2 o) fun o' q => by rw [upd_ne (fun z : a = p => hp1 (z ▸ List.mem_of_getElem? h1))]; exact q⟩
  cl := L.cl
  le := L.le
  bs := L.bs
theorem ext_out (hp : H p = none) (hp1 : p ∉ g.al) (hp2 : ¬ g.F p) (o : HO) : Ext g H g (upd H p o) :=
  { mn_out hp1 hp2 o with
    kp := fun a o' e _ _ => by rw [upd_ne (ne_of_none e hp)]; exact e
    nal := fun _ h => .inl h
    nF := fun _ h => .inl h
    dm := fun a e => by
      by_cases h : a = p
      · subst h; exact hp
      · rw [upd_ne h] at e; exact e }
/-- it is still outside -/
theorem still_out {o : HO} (x : Ext g (upd H p o) g' H') (hp1 : p ∉ g.al) (hp2 : ¬ g.F p) : p ∉ g'.al ∧ ¬ g'.F p ∧ H' p = some o := by
  have e : upd H p o p = some o := upd_same
  refine ⟨fun h => ?_, fun h => ?_, x.kp p o e hp1 hp2⟩
  · rcases x.nal p h with q | q
    · exact hp1 q
    · rw [e] at q; cases q
  · rcases x.nF p h with q | q
    · exact hp2 q
    · rw [e] at q; cases q
/-- behind a turn the outside object is another one -/
theorem ext_set (x : Ext g H g' H') (hp : H p = none) (hF : ¬ g.F p) (o : HO) : Ext g H g' (upd H' p o) where
  al := x.al
  fz := x.fz
  rd := fun a h u n r => by
    have hb : a ≠ p := fun e => hF (e ▸ h)
    rcases x.rd a h u n r with r | ⟨ob, r⟩
    · exact .inl (by rw [upd_ne hb]; exact r)
    · exact .inr ⟨ob, by rw [upd_ne hb]; exact r⟩
  lk := fun a h vs e => by rw [upd_ne (fun z : a = p => hF (z ▸ h))]; exact x.lk a h vs e
  kp := fun a o e h1 h2 => by rw [upd_ne (ne_of_none e hp)]; exact x.kp a o e h1 h2
  nal := x.nal
  nF := x.nF
  dm := fun a e => by
    by_cases z : a = p
    · subst z; exact hp
    · rw [upd_ne z] at e; exact x.dm a e
theorem mn_fz : Mn g H (g.fz p) H := ⟨fun _ _ e => e, fun _ h => .inl h, fun _ _ _ _ r => r, fun _ _ _ e => e⟩
theorem mn_cell : Mn g H (g.cell p) H := ⟨fun i a e => by
    show (g.al ++ [p])[i]? = some a
    rw [List.getElem?_append_left (List.getElem?_eq_some_iff.mp e).1]
    exact e, fun _ h => h, fun _ _ _ _ r => r, fun _ _ _ e => e⟩
/-- the outside object is taken in -/
theorem take_fz (x : Ext g H g' H') (hp : H p = none) : Ext g H (g'.fz p) H' where
  al := x.al
  fz := fun a h => .inl (x.fz a h)
  rd := x.rd
  lk := x.lk
  kp := x.kp
  nal := x.nal
  nF := fun a h => by
    rcases h with h | h
    · exact x.nF a h
    · exact .inr (h ▸ hp)
  dm := x.dm
theorem take_cell (x : Ext g H g' H') (hp : H p = none) : Ext g H (g'.cell p) H' where
  al := fun i a e => mn_cell.al (H := H) i a (x.al i a e)
  fz := x.fz
  rd := x.rd
  lk := x.lk
  kp := x.kp
  nal := fun a h => by
    rcases List.mem_append.mp h with h | h
    · exact x.nal a h
    · exact .inr (by rw [List.mem_singleton.mp h]; exact hp)
  nF := x.nF
  dm := x.dm
theorem live_take_fz (L : Live κ g Bs base st H) (hp : p ∉ g.al) (hn : H p ≠ none) : Live κ (g.fz p) Bs base st H where
  len := L.len
  nd := L.nd
  nf := fun a h q => by
    rcases q with q | q
    · exact L.nf a h q
    · exact hp (q ▸ h)
  dF := fun a h => by
    rcases h with h | h
    · exact L.dF a h
    · rw [h]; exact hn
  cell := fun i c e => by
    obtain ⟨a, h1, h2⟩ := L.cell i c e
    exact ⟨a, h1, h2.mn mn_fz fun _ q => q⟩
  cl := L.cl
  le := L.le
  bs := L.bs
theorem live_take_cell (L : Live κ g Bs base st H) (hp : p ∉ g.al) (hF : ¬ g.F p) (c : Cell) (hc : CellR κ (g.cell p) H p c) : Live κ (g.cell p) Bs base (st ++ [c]) H where
  len := by show (g.al ++ [p]).length = _; rw [List.length_append, List.length_append, L.len]; rfl
  nd := by
    show (g.al ++ [p]).Nodup
    refine List.nodup_append.mpr ⟨L.nd, by simp, fun a h b h' => ?_⟩
    have e : b = p := by simpa using h'
    subst e
    exact fun z => hp (z ▸ h)
  nf := fun a h q => by
    rcases List.mem_append.mp h with h | h
    · exact L.nf a h q
    · have e : a = p := by simpa using h
      subst e
      exact hF q
  dF := L.dF
  cell := fun i c' e => by
    by_cases hi : i < st.length
    · rw [List.getElem?_append_left hi] at e
      obtain ⟨a, h1, h2⟩ := L.cell i c' e
      exact ⟨a, mn_cell.al (H := H) i a h1, h2.mn mn_cell fun o' q => q⟩
    · rw [List.getElem?_append_right (by omega)] at e
      obtain ⟨h1, h2⟩ := List.getElem?_eq_some_iff.mp e
      have hi' : i = st.length := by simp at h1; omega
      subst hi'
      refine ⟨p, ?_, ?_⟩
      · show (g.al ++ [p])[st.length]? = some p
        rw [← L.len]
        simp
      · have : c' = c := by simpa using h2.symm
        subst this
        exact hc
  cl := fun b i c' hb h e => by
    rw [List.getElem?_append_left (Nat.lt_of_lt_of_le h (Nat.le_trans (L.le b hb) L.bs))] at e
    exact L.cl b i c' hb h e
  le := L.le
  bs := by rw [List.length_append]; exact Nat.le_trans L.bs (Nat.le_add_right _ _)
/-- a cell is written -/
theorem ext_wr {n : Nat} {c : Cell} (L : Live κ g Bs base st H) (ha : g.al[n]? = some a) (o : HO) : Ext g H g (upd H a o) where
  al := fun _ _ e => e
  fz := fun _ h => h
  rd := fun b h u _ r => by
    have hb : b ≠ a := fun e => L.nf a (List.mem_of_getElem? ha) (e ▸ h)
    rcases r with r | ⟨ob, r⟩
    · exact .inl (by rw [upd_ne hb]; exact r)
    · exact .inr ⟨ob, by rw [upd_ne hb]; exact r⟩
  lk := fun b h vs e => by
    have hb : b ≠ a := fun z => L.nf a (List.mem_of_getElem? ha) (z ▸ h)
    rw [upd_ne hb]; exact e
  kp := fun b o' e h1 _ => by
    have hb : b ≠ a := fun z => h1 (z ▸ List.mem_of_getElem? ha)
    rw [upd_ne hb]; exact e
  nal := fun _ h => .inl h
  nF := fun _ h => .inl h
  dm := fun b e => by
    by_cases h : b = a
    · subst h; rw [upd_same] at e; cases e
    · rw [upd_ne h] at e; exact e
theorem live_wr {n : Nat} {c c' : Cell} (L : Live κ g Bs base st H) (hn : st[n]? = some c) (ha : g.al[n]? = some a) (o : HO) (hc : CellR κ g (upd H a o) a c') (hb : n < base → ∀ b, belowC b c = true → belowC b c' = true) : Live κ g Bs base (st.set n c') (upd H a o) where
  len := by rw [List.length_set]; exact L.len
  nd := L.nd
  nf := L.nf
  dF := fun b h e => by
    by_cases z : b = a
    · subst z; rw [upd_same] at e; cases e
    · rw [upd_ne z] at e; exact L.dF b h e
  cell := fun i d e => by
    by_cases hi : i = n
    · subst hi
      rw [List.getElem?_set_self (List.getElem?_eq_some_iff.mp hn).1] at e
      cases e
      exact ⟨a, ha, hc⟩
    · rw [List.getElem?_set_ne (Ne.symm hi)] at e
      obtain ⟨b, h1, h2⟩ := L.cell i d e
      have hba : b ≠ a := fun z => by
        subst z
        obtain ⟨p1, q1⟩ := List.getElem?_eq_some_iff.mp h1
        obtain ⟨p2, q2⟩ := List.getElem?_eq_some_iff.mp ha
        exact hi ((List.getElem_inj L.nd).mp (q1.trans q2.symm))
      exact ⟨b, h1, h2.mono (ext_wr (c := c) L ha o) fun o' q => by rw [upd_ne hba]; exact q⟩
  cl := fun b i d hB h e => by
    by_cases hi : i = n
    · subst hi
      rw [List.getElem?_set_self (List.getElem?_eq_some_iff.mp hn).1] at e
      cases e
      exact hb (Nat.lt_of_lt_of_le h (L.le b hB)) b (L.cl b i c hB h hn)
    · rw [List.getElem?_set_ne (Ne.symm hi)] at e
      exact L.cl b i d hB h e
  le := L.le
  bs := by rw [List.length_set]; exact L.bs

theorem EnvR.mono {env : Env} {σ : L2.St} (x : Ext g H g' H') (h : EnvR κ g H env σ) : EnvR κ g' H' env σ :=
  ⟨h.1, fun i d e => let ⟨v, h1, h2⟩ := h.2 i d e; ⟨v, h1, h2.mono x⟩⟩
theorem EnvR.set {env : Env} {σ : L2.St} {i : Nat} {d : D} {v : V} (h : EnvR κ g H env σ) (r : Rep κ g H d v) : EnvR κ g H (env.set i (some d)) (σ.set i (some v)) := by
  refine ⟨by rw [List.length_set, List.length_set]; exact h.1, fun j d' e => ?_⟩
  by_cases hj : i = j
  · subst hj
    by_cases hl : i < env.length
    · rw [List.getElem?_set_self hl] at e
      cases e
      exact ⟨v, by rw [List.getElem?_set_self (by rw [← h.1]; exact hl)], r⟩
    · rw [List.getElem?_eq_none (by rw [List.length_set]; omega)] at e
      cases e
  · rw [List.getElem?_set_ne hj] at e
    obtain ⟨w', h1, h2⟩ := h.2 j d' e
    exact ⟨w', by rw [List.getElem?_set_ne hj]; exact h1, h2⟩
theorem wipe_len (env : Env) : ∀ l : List Nat, (Mc.wipe env l).length = env.length
  | [] => rfl
  | i :: r => by show ((Mc.wipe env r).set i none).length = _; rw [List.length_set]; exact wipe_len env r
theorem EnvR.wipe {env : Env} {σ : L2.St} (h : EnvR κ g H env σ) : ∀ l : List Nat, EnvR κ g H (Mc.wipe env l) (L2.wipe σ l)
  | [] => h
  | i :: r => by
    have ih := EnvR.wipe h r
    refine ⟨?_, fun j d e => ?_⟩
    · show ((Mc.wipe env r).set i none).length = ((L2.wipe σ r).set i none).length
      rw [List.length_set, List.length_set]; exact ih.1
    · have e' : ((Mc.wipe env r).set i none)[j]? = some (some d) := e
      show ∃ v, ((L2.wipe σ r).set i none)[j]? = some (some v) ∧ _
      by_cases hj : i = j
      · subst hj
        by_cases hl : i < (Mc.wipe env r).length
        · rw [List.getElem?_set_self hl] at e'; cases e'
        · rw [List.getElem?_eq_none (by rw [List.length_set]; omega)] at e'; cases e'
      · rw [List.getElem?_set_ne hj] at e'
        obtain ⟨v, h1, h2⟩ := ih.2 j d e'
        exact ⟨v, by rw [List.getElem?_set_ne hj]; exact h1, h2⟩
end
end Mc

set_option linter.all false
set_option maxRecDepth 100000
set_option Elab.async false
namespace Mc
open PySem PySem.Spec PyProof.Rows L2

/-- what is wanted of a result -/
def Out (κ : Kw) (g : Gh) (H : Hp) (Bs : Nat → Prop) (base : Nat) (d : D) (st : Sto) (Q : VK) : Prop :=
  ∀ v g' H', Live κ g' Bs base st H' → Ext g H g' H' → Rep κ g' H' d v → Q v H'
abbrev kwOf (X : Cx) : Kw := ⟨X.K, X.w⟩

section
variable {κ : Kw} {g : Gh} {H : Hp} {Bs : Nat → Prop} {base : Nat} {st : Sto} {d : D} {Q : VK} {p a : Addr}
theorem Out.here {v : V} (o : Out κ g H Bs base d st Q) (L : Live κ g Bs base st H) (r : Rep κ g H d v) : Q v H := o v g H L .refl r
theorem Out.fz {u : HO} (o : Out κ g H Bs base d st Q) (L : Live κ g Bs base st H) (hp : H p = none) (r : Rep κ (g.fz p) (upd H p u) d (.ref p)) : Q (.ref p) (upd H p u) :=
  o _ _ _ (live_fz L hp u) (ext_fz L hp u) r
theorem Out.tup {l : List D} {vs : List V} (o : Out κ g H Bs base (.tup l) st Q) (L : Live κ g Bs base st H) (hp : H p = none) (r : Reps κ g H l vs) : Q (.ref p) (upd H p (.tup vs)) :=
  o.fz L hp (.tup (.inl ⟨.inr rfl, .inl upd_same⟩) (r.mono (ext_fz L hp _)))
theorem Out.mkL {c : Bool} {l : List D} {vs : List V} (o : Out κ g H Bs base (Mc.mkL c l st).1 (Mc.mkL c l st).2 Q) (L : Live κ g Bs base st H) (hp : H p = none) (r : Reps κ g H l vs) : Q (.ref p) (upd H p (.lst vs)) := by
  cases c with
  | false => exact Out.fz (d := .lst l) (st := st) o L hp (.lst ⟨.inr rfl, upd_same⟩ (r.mono (ext_fz L hp _)))
  | true =>
    have x := ext_cell L hp (.lst vs)
    refine o _ _ _ (live_cell L hp (.lst vs) (.lst l) ⟨vs, upd_same, r.mono x⟩) x (.own ?_)
    show (g.al ++ [p])[st.length]? = some p
    rw [← L.len]; simp
theorem Out.mkD {c : Bool} {l : List (D × D)} {vs : List (Key × V)} (o : Out κ g H Bs base (Mc.mkD c l st).1 (Mc.mkD c l st).2 Q) (L : Live κ g Bs base st H) (hp : H p = none) (r : RepK κ g H l vs) : Q (.ref p) (upd H p (.dK vs)) := by
  cases c with
  | false => exact Out.fz (d := .dic l) (st := st) o L hp (.dic (.inr rfl) (.inl upd_same) (r.mono (ext_fz L hp _)))
  | true =>
    have x := ext_cell L hp (.dK vs)
    refine o _ _ _ (live_cell L hp (.dK vs) (.dic l) ⟨vs, upd_same, r.mono x⟩) x (.own ?_)
    show (g.al ++ [p])[st.length]? = some p
    rw [← L.len]; simp
end

section
variable {κ : Kw} {g : Gh} {H : Hp} {Bs : Nat → Prop} {base : Nat} {st : Sto} {a : Addr}
theorem Rep.int_ {i : Int} {v : V} (r : Rep κ g H (.int i) v) : v = .int i := by
  cases r with | sca h => cases h; rfl
theorem Rep.bl_ {i : Bool} {v : V} (r : Rep κ g H (.bl i) v) : v = .bl i := by
  cases r with | sca h => cases h; rfl
theorem Rep.str_ {i : Tx} {v : V} (r : Rep κ g H (.str i) v) : v = .str (Mc.str_ i) := by
  cases r with | sca h => cases h; rfl
theorem Rep.non_ {v : V} (r : Rep κ g H .non v) : v = .non := by
  cases r with | sca h => cases h; rfl
theorem Rep.tup_ {l : List D} {v : V} (r : Rep κ g H (.tup l) v) : ∃ a vs, v = .ref a ∧ TupAt κ g H a vs ∧ Reps κ g H l vs := by
  cases r with
  | sca h => cases h
  | tup h1 h2 => exact ⟨_, _, rfl, h1, h2⟩
theorem Rep.lst_ {l : List D} {v : V} (r : Rep κ g H (.lst l) v) : ∃ a vs, v = .ref a ∧ g.F a ∧ H a = some (.lst vs) ∧ Reps κ g H l vs := by
  cases r with
  | sca h => cases h
  | lst h1 h2 => exact ⟨_, _, rfl, h1.1, h1.2, h2⟩
theorem Rep.own_ {n : Nat} {v : V} (r : Rep κ g H (.own n) v) : ∃ a, v = .ref a ∧ g.al[n]? = some a := by
  cases r with
  | sca h => cases h
  | own h => exact ⟨_, rfl, h⟩
theorem Rep.scr_ {l : List Int} {v : V} (r : Rep κ g H (.scr l) v) : ∃ a, v = .ref a ∧ ScrAt κ g H a (l.map V.int) := by
  cases r with
  | sca h => cases h
  | scr h => exact ⟨_, rfl, h⟩
/-- a cell that holds a list -/
theorem own_lst {n : Nat} {v : V} {l : List D} (L : Live κ g Bs base st H) (r : Rep κ g H (.own n) v) (e : st[n]? = some (.lst l)) : ∃ a vs, v = .ref a ∧ g.al[n]? = some a ∧ H a = some (.lst vs) ∧ Reps κ g H l vs := by
  obtain ⟨a, rfl, ha⟩ := r.own_
  obtain ⟨b, hb, vs, h1, h2⟩ := L.cell n _ e
  rw [ha] at hb
  cases hb
  exact ⟨a, vs, rfl, ha, h1, h2⟩
theorem own_dic {n : Nat} {v : V} {l : List (D × D)} (L : Live κ g Bs base st H) (r : Rep κ g H (.own n) v) (e : st[n]? = some (.dic l)) : ∃ a vs, v = .ref a ∧ g.al[n]? = some a ∧ H a = some (.dK vs) ∧ RepK κ g H l vs := by
  obtain ⟨a, rfl, ha⟩ := r.own_
  obtain ⟨b, hb, vs, h1, h2⟩ := L.cell n _ e
  rw [ha] at hb
  cases hb
  exact ⟨a, vs, rfl, ha, h1, h2⟩
/-- what lstOf says -/
theorem lst_at {d : D} {v : V} {l : List D} (L : Live κ g Bs base st H) (r : Rep κ g H d v) (e : lstOf st d = some l) : ∃ a vs, v = .ref a ∧ H a = some (.lst vs) ∧ Reps κ g H l vs := by
  cases d with
  | lst m =>
    cases e
    obtain ⟨a, vs, e1, _, e2, e3⟩ := r.lst_
    exact ⟨a, vs, e1, e2, e3⟩
  | own n =>
    simp only [lstOf] at e
    split at e
    · rename_i m hm
      cases e
      obtain ⟨a, vs, e1, _, e2, e3⟩ := own_lst L r hm
      exact ⟨a, vs, e1, e2, e3⟩
    · cases e
  | _ => cases e
theorem seq_at {d : D} {v : V} {l : List D} (L : Live κ g Bs base st H) (r : Rep κ g H d v) (e : seqOf st d = some l) : ∃ a vs, v = .ref a ∧ (SqL κ.K H a vs ∨ SqT κ.K H a vs) ∧ Reps κ g H l vs := by
  cases d with
  | tup m =>
    cases e
    obtain ⟨a, vs, e1, e2, e3⟩ := r.tup_
    exact ⟨a, vs, e1, .inr e2.sq, e3⟩
  | lst m =>
    obtain ⟨a, vs, e1, e2, e3⟩ := lst_at L r (l := l) e
    exact ⟨a, vs, e1, .inl (.inl (.inl e2)), e3⟩
  | own m =>
    obtain ⟨a, vs, e1, e2, e3⟩ := lst_at L r (l := l) e
    exact ⟨a, vs, e1, .inl (.inl (.inl e2)), e3⟩
  | _ => cases e
/-- plain data, for the kit's rules on whole data -/
theorem str_tl (s : Tx) : (str_ s).cps.toList = s := by simp [str_]
theorem str_len (s : Tx) : (str_ s).length = s.length := by
  first | rfl | simp [str_, Str.length]
mutual
theorem Rep.dp : ∀ {n : Nat} {d : D} {v : V}, plain n d = true → Rep κ g H d v → Dp κ.K H v (toPy d)
  | _, .non, _, _, r => by rw [r.non_]; exact .non
  | _, .bl b, _, _, r => by rw [r.bl_]; exact .bl b
  | _, .int i, _, _, r => by rw [r.int_]; exact .int i
  | _, .str s, _, _, r => by rw [r.str_]; exact .str _
  | n + 1, .tup l, _, h, r => by
    obtain ⟨a, vs, rfl, e1, e2⟩ := r.tup_
    exact .tup e1.sq (Reps.dp (n := n) (by simpa [plain] using h) e2)
  | n + 1, .lst l, _, h, r => by
    obtain ⟨a, vs, rfl, _, e1, e2⟩ := r.lst_
    exact .lst (.inl (.inl e1)) (Reps.dp (n := n) (by simpa [plain] using h) e2)
  | 0, .tup _, _, h, _ => by simp [plain] at h
  | 0, .lst _, _, h, _ => by simp [plain] at h
  | _, .dic _, _, h, _ => by simp [plain] at h
  | _, .rng _ _, _, h, _ => by simp [plain] at h
  | _, .own _, _, h, _ => by simp [plain] at h
  | _, .scr _, _, h, _ => by simp [plain] at h
theorem Reps.dp : ∀ {n : Nat} {d : List D} {v : List V}, plainL n d = true → Reps κ g H d v → DpAll κ.K H v (toPyL d)
  | _, [], _, _, .nil => .nil
  | n, d :: l, _, h, .cons r t => by
    have h' : plain n d = true ∧ plainL n l = true := by simpa [plainL] using h
    exact .cons (Rep.dp h'.1 r) (Reps.dp h'.2 t)
end
theorem dp_mono {H : Hp} {K : PySem.W.Frag} {v : V} {d : PyData} (h : Dp K H v d) : Dp K H v d := h
/-- a handle, read through -/
theorem Rep.res {d : D} {v : V} {n : Nat} (L : Live κ g Bs base st H) (h : plain n (res st d) = true) (r : Rep κ g H d v) : Dp κ.K H v (toPy (res st d)) := by
  cases d with
  | own m =>
    simp only [Mc.res] at h ⊢
    split at h
    · rename_i l hm
      obtain ⟨a, vs, rfl, _, e2, e3⟩ := own_lst L r hm
      cases n with
      | zero => simp [plain] at h
      | succ n => exact .lst (.inl (.inl e2)) (Reps.dp (n := n) (by simpa [plain] using h) e3)
    · rename_i l hm
      simp [plain] at h
    · simp [plain] at h
  | _ => exact Rep.dp (n := n) h r
end

theorem codes_ok {s : Tx} (h : s.all (fun c => decide (c < 1114112)) = true) : PyData.strOk (str_ s) = true := by
  simpa [PyData.strOk, str_] using h
mutual
theorem plain_lay : ∀ (n : Nat) (d : D), plain n d = true → (toPy d).canLay0 = true
  | _, .non, _ => by simp [toPy, PyData.canLay0]
  | _, .bl _, _ => by simp [toPy, PyData.canLay0]
  | _, .int _, _ => by simp [toPy, PyData.canLay0]
  | n, .str s, h => by
    have h' : s.all (fun c => decide (c < 1114112)) = true := by
      cases n <;> simpa [plain] using h
    have := codes_ok h'
    simp only [toPy, PyData.canLay0]
    exact this
  | n + 1, .tup l, h => by simpa [toPy, PyData.canLay0] using plainL_lay n l (by simpa [plain] using h)
  | n + 1, .lst l, h => by simpa [toPy, PyData.canLay0] using plainL_lay n l (by simpa [plain] using h)
  | 0, .tup _, h => by simp [plain] at h
  | 0, .lst _, h => by simp [plain] at h
  | n, .dic _, h => by simp [plain] at h
  | n, .rng _ _, h => by simp [plain] at h
  | n, .own _, h => by simp [plain] at h
  | n, .scr _, h => by simp [plain] at h
theorem plainL_lay : ∀ (n : Nat) (d : List D), plainL n d = true → PyData.canLayAll0 (toPyL d) = true
  | _, [], _ => by simp [toPyL, PyData.canLayAll0]
  | n, d :: l, h => by
    have h' : plain n d = true ∧ plainL n l = true := by simpa [plainL] using h
    simp [toPyL, PyData.canLayAll0, plain_lay n d h'.1, plainL_lay n l h'.2]
end
mutual
theorem plain_depth : ∀ (n : Nat) (d : D), plain n d = true → (toPy d).depth ≤ n
  | _, .non, _ => by simp [toPy, PyData.depth]
  | _, .bl _, _ => by simp [toPy, PyData.depth]
  | _, .int _, _ => by simp [toPy, PyData.depth]
  | n, .str s, h => by simp [toPy, PyData.depth]
  | n + 1, .tup l, h => by simpa [toPy, PyData.depth] using plainL_depth n l (by simpa [plain] using h)
  | n + 1, .lst l, h => by simpa [toPy, PyData.depth] using plainL_depth n l (by simpa [plain] using h)
  | 0, .tup _, h => by simp [plain] at h
  | 0, .lst _, h => by simp [plain] at h
  | n, .dic _, h => by simp [plain] at h
  | n, .rng _ _, h => by simp [plain] at h
  | n, .own _, h => by simp [plain] at h
  | n, .scr _, h => by simp [plain] at h
theorem plainL_depth : ∀ (n : Nat) (d : List D), plainL n d = true → PyData.depthAll (toPyL d) ≤ n
  | _, [], _ => by simp [toPyL, PyData.depthAll]
  | n, d :: l, h => by
    have h' : plain n d = true ∧ plainL n l = true := by simpa [plainL] using h
    have h1 := plain_depth n d h'.1
    have h2 := plainL_depth n l h'.2
    simp only [toPyL, PyData.depthAll]
    omega
end
theorem plain_shaped {d : D} (h : plain 60 d = true) : SeqAt.shaped (toPy d) = true := by
  have h1 := plain_lay 60 d h
  have h2 := plain_depth 60 d h
  unfold SeqAt.shaped
  rw [h1, Bool.true_and]
  exact decide_eq_true (by omega)
theorem str_eq_iff {a b : Tx} : ((⟨a.toArray⟩ : Str) == ⟨b.toArray⟩) = (a == b) := by
  by_cases h : a = b
  · subst h; simp
  · have h2 : ¬ (⟨a.toArray⟩ : Str) = ⟨b.toArray⟩ := fun e => h (by simpa using e)
    rw [beq_eq_false_iff_ne.mpr h2, beq_eq_false_iff_ne.mpr h]
mutual
theorem eqv_py : ∀ (n m : Nat) (d e : D), plain n d = true → plain m e = true → PyData.eqv (toPy d) (toPy e) = eqv d e
  | _, _, .non, e, _, h => by cases e <;> simp [toPy, PyData.eqv, eqv] <;> simp [plain] at h
  | _, _, .bl b, e, _, h => by cases e <;> simp [toPy, PyData.eqv, eqv] <;> simp [plain] at h
  | _, _, .int b, e, _, h => by cases e <;> simp [toPy, PyData.eqv, eqv] <;> simp [plain] at h
  | _, _, .str b, e, _, h => by
    cases e <;> first
      | (simp [plain] at h; done)
      | (simp only [toPy, PyData.eqv, eqv]; done)
      | (simp only [toPy, PyData.eqv, eqv]; exact str_eq_iff)
  | n + 1, m, .tup l, e, h, k => by
    cases e with
    | tup l2 =>
      cases m with
      | zero => simp [plain] at k
      | succ m =>
        simp only [toPy, PyData.eqv, eqv]
        exact eqvL_py n m l l2 (by simpa [plain] using h) (by simpa [plain] using k)
    | _ => first | (simp [plain] at k; done) | (simp [toPy, PyData.eqv, eqv]; done)
  | n + 1, m, .lst l, e, h, k => by
    cases e with
    | lst l2 =>
      cases m with
      | zero => simp [plain] at k
      | succ m =>
        simp only [toPy, PyData.eqv, eqv]
        exact eqvL_py n m l l2 (by simpa [plain] using h) (by simpa [plain] using k)
    | _ => first | (simp [plain] at k; done) | (simp [toPy, PyData.eqv, eqv]; done)
  | 0, _, .tup _, _, h, _ => by simp [plain] at h
  | 0, _, .lst _, _, h, _ => by simp [plain] at h
  | _, _, .dic _, _, h, _ => by simp [plain] at h
  | _, _, .rng _ _, _, h, _ => by simp [plain] at h
  | _, _, .own _, _, h, _ => by simp [plain] at h
  | _, _, .scr _, _, h, _ => by simp [plain] at h
theorem eqvL_py : ∀ (n m : Nat) (d e : List D), plainL n d = true → plainL m e = true → PyData.eqvAll (toPyL d) (toPyL e) = eqvL d e
  | _, _, [], [], _, _ => by simp [toPyL, PyData.eqvAll, eqvL]
  | _, _, [], _ :: _, _, _ => by simp [toPyL, PyData.eqvAll, eqvL]
  | _, _, _ :: _, [], _, _ => by simp [toPyL, PyData.eqvAll, eqvL]
  | n, m, d :: l, e :: r, h, k => by
    have h' : plain n d = true ∧ plainL n l = true := by simpa [plainL] using h
    have k' : plain m e = true ∧ plainL m r = true := by simpa [plainL] using k
    simp only [toPyL, PyData.eqvAll, eqvL, eqv_py n m d e h'.1 k'.1, eqvL_py n m l r h'.2 k'.2]
end

section
theorem tup_mul_same (l : Addr) (items : Array Value) (n : Nat) (dd : Option Addr) (sl : Array (Option Value)) (x : Int) (u : Tok) (c0 : (decide (x < -(2 ^ 63)) || decide (x ≥ 2 ^ 63)) = false) (c1 : (items.isEmpty || x == 1) = true) :
    Meets (Builtin.«tuple.__mul__» ⟨[.ref l, .int x u], []⟩) (fun _ R s => s.heap.get? l = some { cls := .type "tuple", dict := dd, data := .seq items n, slots := sl } ∧ R (.ok (.ret (Value.ref l))) s) :=
  .of_wp fun prog w A R s h => by
    obtain ⟨hp, g, d, tk, os⟩ := s
    obtain ⟨hl, h⟩ := h
    have f1 := AutoSeq1.idx_int
    wp_walk using wpAny_loadPart' hl
    repeat (first
      | (refine wpAny_ite_false (decide_eq_false (by rw [c0]; exact Bool.false_ne_true)) ?_; wp_walk using wpAny_loadPart' hl)
      | (refine wpAny_ite_true (decide_eq_true c1) ?_; wp_walk using wpAny_loadPart' hl))
    all_goals exact ⟨_, rfl, h⟩
theorem tup_mul_none (l : Addr) (items : Array Value) (n : Nat) (dd : Option Addr) (sl : Array (Option Value)) (x : Int) (u : Tok) (c0 : (decide (x < -(2 ^ 63)) || decide (x ≥ 2 ^ 63)) = false) (c1 : (items.isEmpty || x == 1) = false) (c2 : (decide (x ≤ 0) || items.isEmpty) = true) :
    Meets (Builtin.«tuple.__mul__» ⟨[.ref l, .int x u], []⟩) (fun _ R s => s.heap.get? l = some { cls := .type "tuple", dict := dd, data := .seq items n, slots := sl } ∧
      R (.ok (.ret (Value.ref s.heap.objs.size))) { s with heap := s.heap.push { cls := Value.type "tuple", data := Data.seq #[] }, toks := s.toks }) :=
  .of_wp fun prog w A R s h => by
    obtain ⟨hp, g, d, tk, os⟩ := s
    obtain ⟨hl, h⟩ := h
    have f1 := AutoSeq1.idx_int
    wp_walk using wpAny_loadPart' hl
    repeat (first
      | (refine wpAny_ite_false (decide_eq_false (by rw [c0]; exact Bool.false_ne_true)) ?_; wp_walk using wpAny_loadPart' hl)
      | (refine wpAny_ite_false (decide_eq_false (by rw [c1]; exact Bool.false_ne_true)) ?_; wp_walk using wpAny_loadPart' hl)
      | (refine wpAny_ite_true (decide_eq_true c2) ?_; wp_walk using wpAny_loadPart' hl))
    all_goals exact ⟨_, rfl, h⟩
end
end Mc

set_option linter.all false
set_option maxRecDepth 100000
set_option Elab.async false
set_option maxHeartbeats 1000000
namespace Mc
open PySem PySem.Spec PyProof.Rows L2

theorem line_eq : line = sizeLine := by rw [sizeLine_eq]; rfl
theorem str_app (x y : Tx) : str_ x ++ str_ y = str_ (x ++ y) := by
  show Str.append _ _ = _
  simp [str_, Str.append]
theorem reps_rep {κ : Kw} {g : Gh} {H : Hp} {l : List D} {vs : List V} (r : Reps κ g H l vs) : ∀ k : Nat, Reps κ g H (List.replicate k l).flatten (List.replicate k vs).flatten
  | 0 => by simp; exact .nil
  | k + 1 => by
    rw [List.replicate_succ, List.replicate_succ, List.flatten_cons, List.flatten_cons]
    exact r.append (reps_rep r k)

section
variable {X : Cx}

/-- tuple * int -/
def rMulT (K : PySem.W.Frag) : R2 := fun x y H Q => ∃ l k xs, x = .ref l ∧ y = .int k ∧ SqT K H l xs ∧ 0 ≤ k ∧ k ≤ 1000 ∧ xs.length ≤ 1000 ∧
  ((xs = [] ∨ k = 1) → Q (.ref l) H) ∧ (xs ≠ [] → k ≠ 1 → ∀ p, H p = none → Q (.ref p) (upd H p (.tup (List.replicate k.toNat xs).flatten)))
theorem op_mulT : OpR X (binaryOp .Mult) (rMulT X.K) := by
  intro pins s σ H x y v u Q I rx ry h
  obtain ⟨l, k, xs, rfl, rfl, hT, h0, h1, hz, q0, q1⟩ := h
  by_cases hbig : xs ≠ [] ∧ 2 ≤ k
  · exact op_repT pins s σ H _ _ v u Q I rx ry ⟨l, k, xs, rfl, rfl, hT, hbig.1, hbig.2, h1, hz, q1 hbig.1 (by omega)⟩
  · cases rx
    obtain ⟨t, rfl⟩ := ry
    obtain ⟨its, r, ⟨⟨cls, dd, data, sl⟩, ho, hc, n, hd⟩, hs⟩ := I.tuple hT
    simp only at hc hd
    subst hc hd
    have c0 : (decide (k < -(2 ^ 63)) || decide (k ≥ 2 ^ 63)) = false := by
      rw [decide_eq_false (by omega), decide_eq_false (by omega)] <;> rfl
    have hle := r.length
    have hemp : its.toArray.isEmpty = xs.isEmpty := by
      cases its with
      | nil => cases xs with | nil => rfl | cons a b => simp at hle
      | cons a b => cases xs with | nil => simp at hle | cons c d => rfl
    have go : ∀ (R : Prop), (wpAny (model X.prog X.w) X.A (call (.builtin "tuple.__mul__") [.ref l, .int k t]) (EP X pins σ Q) X.xe s) → wpAny (model X.prog X.w) X.A (binaryOp .Mult (.ref l) (.int k t)) (EP X pins σ Q) X.xe s := fun _ hh =>
      wpAny_binaryOp_repeat_ref (T := "tuple") (U := "int") (by decide) ⟨_, ho, rfl⟩ (fun s' => typeIs_int s' k t) noFill_tuple_mul F.fills_int_mul F.slot_int_rmul repeat_tuple F.slot_int_index.lookup
        (call_meets F.slot_int_rmul (typeIs_int s k t) F.entry_int_rmul (F.args_int_rmul_2 _ _) (int_rmul_tuple k t l its.toArray n dd sl) ⟨ho, rfl, ⟨_, ho, rfl⟩, hh⟩)
    refine go True ?_
    by_cases c1 : (its.toArray.isEmpty || k == 1) = true
    · refine call_meets F.slot_tuple_mul ⟨_, ho, rfl⟩ F.entry_tuple_mul (F.args_tuple_mul_2 _ _) (tup_mul_same l its.toArray n dd sl k t c0 c1) ⟨ho, ?_⟩
      refine ⟨.ref l, H, I, rfl, q0 ?_⟩
      rw [hemp, Bool.or_eq_true] at c1
      rcases c1 with c1 | c1
      · exact .inl (List.isEmpty_iff.mp c1)
      · exact .inr (by simpa using c1)
    · have c1' : (its.toArray.isEmpty || k == 1) = false := by simpa using c1
      have hne : xs ≠ [] := fun e => by
        rw [hemp, e] at c1'
        simp at c1'
      have hk1 : k ≠ 1 := fun e => by
        rw [e] at c1'
        simp at c1'
      have hk : k = 0 := by
        have : ¬ 2 ≤ k := fun z => hbig ⟨hne, z⟩
        omega
      subst hk
      have c2 : (decide ((0 : Int) ≤ 0) || its.toArray.isEmpty) = true := by simp
      refine call_meets F.slot_tuple_mul ⟨_, ho, rfl⟩ F.entry_tuple_mul (F.args_tuple_mul_2 _ _) (tup_mul_none l its.toArray n dd sl 0 t c0 c1' c2) ⟨ho, ?_⟩
      refine ⟨.ref s.heap.objs.size, _, I.laid (t' := s.toks) (o := .tup []) (fun b ob q => Heap.get?_push_of_some _ q) (Nat.le_refl _) ?_, rfl, ?_⟩
      · exact ⟨Nat.zero_le _, [], .nil, IsTup.new _ _⟩
      · have := q1 hne hk1 s.heap.objs.size (I.hok.fresh (Nat.le_refl _))
        simpa using this

/-- text * int -/
def rMulS : R2 := fun x y H Q => ∃ (z : Tx) (k : Int), x = .str (str_ z) ∧ y = .int k ∧ 0 ≤ k ∧ k ≤ 1000 ∧ z.length * k.toNat ≤ sizeLine ∧ Q (.str (str_ (repS k z))) H
theorem op_mulS : OpR X (binaryOp .Mult) rMulS := by
  intro pins s σ H x y v u Q I rx ry h
  obtain ⟨z, k, rfl, rfl, h0, h1, hz, q⟩ := h
  obtain ⟨t, rfl⟩ := rx
  obtain ⟨t', rfl⟩ := ry
  have hlen : (str_ z).length = z.length := str_len z
  have hok : MulOk (str_ z) k := by
    refine ⟨?_, fun hk hc => ?_, fun hk hc => ?_⟩
    · rw [decide_eq_false (by omega), decide_eq_false (by omega)] <;> rfl
    · rw [hlen]
      have h2 : z.length ≤ sizeLine := by
        have : z.length * 1 ≤ z.length * k.toNat := Nat.mul_le_mul_left _ (by omega)
        omega
      rw [sizeLine_eq] at h2
      have h3 : (2 ^ 63 - 1 : Int) / k ≥ (2 ^ 63 - 1) / 1000 := by
        apply Int.le_ediv_of_mul_le (by omega)
        have : (2 ^ 63 - 1 : Int) / 1000 * k ≤ (2 ^ 63 - 1) / 1000 * 1000 := Int.mul_le_mul_of_nonneg_left (by omega) (by decide)
        have e : (2 ^ 63 - 1 : Int) / 1000 * 1000 ≤ 2 ^ 63 - 1 := by decide
        omega
      have e4 : (2 ^ 63 - 1 : Int) / 1000 = 9223372036854775 := by decide
      omega
    · rw [hlen]
      exact decide_eq_false (by omega)
  refine SB.mul hok fun t'' tk => ⟨.str (Txt.mul (str_ z) k), H, I.tok _, ⟨_, rfl⟩, ?_⟩
  have e : Txt.mul (str_ z) k = str_ (repS k z) := by
    unfold Txt.mul
    by_cases hk : k < 1
    · have hk0 : k = 0 := by omega
      rw [if_pos hk, hk0]
      rfl
    · rw [if_neg hk]
      by_cases hc : (k == 1 || (str_ z).length == 0) = true
      · rw [if_pos hc]
        rw [Bool.or_eq_true] at hc
        rcases hc with hc | hc
        · have : k = 1 := by simpa using hc
          subst this
          simp [repS]
        · have : z = [] := by
            rw [hlen] at hc
            exact List.eq_nil_of_length_eq_zero (by simpa using hc)
          subst this
          simp [repS]
      · rw [if_neg hc]
        unfold str_ repS
        congr 1
        have f0 : ∀ (m : Nat) (acc : Array Nat), List.foldl (fun x1 x2 => x1 ++ x2) acc (List.replicate m z.toArray) = acc ++ ((List.replicate m z).flatten).toArray := by
          intro m
          induction m with
          | zero => intro acc; simp
          | succ m ih =>
            intro acc
            rw [List.replicate_succ, List.foldl_cons, ih, List.replicate_succ, List.flatten_cons]
            simp [Array.append_assoc]
        have := f0 k.toNat #[]
        simpa using this
  rw [e]
  exact q

theorem pr_of {α β : Type} {x : α × β} {a : α} {b : β} (e : some x = some (a, b)) : a = x.1 ∧ b = x.2 := by cases e; exact ⟨rfl, rfl⟩
def bopOf : Bop → Operator
  | .add => .Add | .sub => .Sub | .mul => .Mult | .mod => .Mod | .fdv => .FloorDiv | .pow => .Pow
/-- what the evaluator says of an operator -/
theorem Out.here' {g : Gh} {H : Hp} {Bs : Nat → Prop} {base : Nat} {i j : Int} {st : Sto} {Q : VK} {pins : List (Addr × Obj)} {s : Shared} {σ : L2.St} {t : Tok} {n : Nat} (q : Out (kwOf X) g H Bs base (.int i) st Q) (L : Live (kwOf X) g Bs base st H) (I : Inv X pins σ H s) (e : i = j) :
    EP X pins σ Q (.int j t) { s with toks := n } := by
  subst e
  exact ⟨.int i, H, I.tok _, ⟨_, rfl⟩, q.here L (.sca (.int _))⟩
def rBin (κ : Kw) (o : Bop) (c : Bool) : R2 := fun x y H Q => ∃ g Bs base st d1 d2 d st', Live κ g Bs base st H ∧ Rep κ g H d1 x ∧ Rep κ g H d2 y ∧ binE o c d1 d2 st = some (d, st') ∧ Out κ g H Bs base d st' Q
theorem op_bin (o : Bop) (c : Bool) : OpR X (binaryOp (bopOf o)) (rBin (kwOf X) o c) := by
  intro pins s σ H x y v u Q I rx ry h
  obtain ⟨g, Bs, base, st, d1, d2, d, st', L, r1, r2, e, q⟩ := h
  unfold binE at e
  split at e
  · -- int + int
    cases e
    have e1 := r1.int_; have e2 := r2.int_; subst e1 e2
    exact op_add pins s σ H _ _ v u Q I rx ry ⟨_, _, rfl, rfl, q.here L (.sca (.int _))⟩
  · -- text + text
    split at e
    · rename_i hz
      cases e
      have e1 := r1.str_; have e2 := r2.str_; subst e1 e2
      refine op_add_str pins s σ H _ _ v u Q I rx ry ⟨_, _, rfl, rfl, ?_, ?_⟩
      · rw [str_len, str_len, ← line_eq]; exact hz
      · rw [str_app]; exact q.here L (.sca (.str _))
    · cases e
  · -- tuple + tuple
    split at e
    · rename_i hz
      cases e
      obtain ⟨a, vs, rfl, t1, p1⟩ := r1.tup_
      obtain ⟨b, ws, rfl, t2, p2⟩ := r2.tup_
      have l1 := p1.length
      have l2 := p2.length
      refine op_catA pins s σ H _ _ v u Q I rx ry ⟨a, b, vs, ws, rfl, rfl, t1.sq, t2.sq, ?_, fun e => ?_, fun h1 e => ?_, fun h1 h2 p hp => ?_⟩
      · rw [← l1, ← l2, ← line_eq]; exact hz
      · subst e
        cases p1
        exact q.here L r2
      · subst e
        cases p2
        rw [List.append_nil] at q
        exact q.here L r1
      · exact q.tup L hp (p1.append p2)
    · cases e
  · -- bool + int
    cases e
    have e1 := r1.bl_; have e2 := r2.int_; subst e1 e2
    cases rx
    obtain ⟨t, rfl⟩ := ry
    rename_i k j
    exact PySem.IntBool.add_bool_int (q.here' L I (by cases k <;> rfl))
  · -- list + list
    split at e
    · rename_i m1 m2 z1 z2
      split at e
      · rename_i hz
        obtain ⟨rfl, rfl⟩ := pr_of e
        obtain ⟨a, vs, rfl, t1, p1⟩ := lst_at L r1 z1
        obtain ⟨b, ws, rfl, t2, p2⟩ := lst_at L r2 z2
        have l1 := p1.length
        have l2 := p2.length
        exact op_cat pins s σ H _ _ v u Q I rx ry ⟨a, b, vs, ws, rfl, rfl, t1, t2, by rw [← l1, ← l2, ← line_eq]; exact hz, fun p hp => q.mkL L hp (p1.append p2)⟩
      · cases e
    · cases e
  · cases e
    have e1 := r1.int_; have e2 := r2.int_; subst e1 e2
    exact op_sub pins s σ H _ _ v u Q I rx ry ⟨_, _, rfl, rfl, q.here L (.sca (.int _))⟩
  · cases e
    have e1 := r1.bl_; have e2 := r2.int_; subst e1 e2
    cases rx
    obtain ⟨t, rfl⟩ := ry
    rename_i k j
    exact PySem.IntBool.sub_bool_int (q.here' L I (by cases k <;> rfl))
  · cases e
    have e1 := r1.int_; have e2 := r2.bl_; subst e1 e2
    obtain ⟨t, rfl⟩ := rx
    cases ry
    rename_i i k
    exact PySem.IntBool.sub_int_bool (q.here' L I (by cases k <;> rfl))
  · split at e
    · rename_i i j hz
      cases e
      have e1 := r1.int_; have e2 := r2.int_; subst e1 e2
      refine op_mul pins s σ H _ _ v u Q I rx ry ⟨_, _, rfl, rfl, ?_, q.here L (.sca (.int _))⟩
      unfold small64 at hz
      simp only [Bool.or_eq_true, Bool.and_eq_true, decide_eq_true_eq] at hz
      exact hz
    · cases e
  · split at e
    · rename_i z j hz
      cases e
      have e1 := r1.str_; have e2 := r2.int_; subst e1 e2
      exact op_mulS pins s σ H _ _ v u Q I rx ry ⟨_, _, rfl, rfl, hz.1, hz.2.1, by rw [← line_eq]; exact hz.2.2, q.here L (.sca (.str _))⟩
    · cases e
  · split at e
    · rename_i l j hz
      cases e
      have e2 := r2.int_; subst e2
      obtain ⟨a, vs, rfl, t1, p1⟩ := r1.tup_
      have l1 := p1.length
      refine op_mulT pins s σ H _ _ v u Q I rx ry ⟨a, _, vs, rfl, rfl, t1.sq, hz.1, hz.2.1, by rw [← l1]; exact hz.2.2, fun e => ?_, fun h1 h2 p hp => ?_⟩
      · have : rep j l = l := by
          rcases e with e | e
          · subst e
            cases p1
            simp [rep]
          · subst e; simp [rep]
        rw [this] at q
        exact q.here L r1
      · exact q.tup L hp (reps_rep p1 _)
    · cases e
  · split at e
    · rename_i m z1
      split at e
      · rename_i hz
        obtain ⟨rfl, rfl⟩ := pr_of e
        have e2 := r2.int_; subst e2
        obtain ⟨a, vs, rfl, t1, p1⟩ := lst_at L r1 z1
        have l1 := p1.length
        exact op_rep pins s σ H _ _ v u Q I rx ry ⟨a, _, vs, rfl, rfl, t1, by omega, by omega, by rw [← l1, ← line_eq]; exact hz.2.2, fun p hp => q.mkL L hp (reps_rep p1 _)⟩
      · cases e
    · cases e
  · split at e
    · rename_i hz
      cases e
      have e1 := r1.int_; have e2 := r2.int_; subst e1 e2
      exact op_mod pins s σ H _ _ v u Q I rx ry ⟨_, _, rfl, rfl, hz, q.here L (.sca (.int _))⟩
    · cases e
  · split at e
    · rename_i hz
      cases e
      have e1 := r1.int_; have e2 := r2.int_; subst e1 e2
      exact op_fdiv pins s σ H _ _ v u Q I rx ry ⟨_, _, rfl, rfl, hz, q.here L (.sca (.int _))⟩
    · cases e
  · split at e
    · rename_i i j hz
      cases e
      have e1 := r1.int_; have e2 := r2.int_; subst e1 e2
      refine op_pow pins s σ H _ _ v u Q I rx ry ⟨_, _, rfl, rfl, ⟨hz.1, by omega, ?_⟩, q.here L (.sca (.int _))⟩
      have h3 := hz.2.2
      unfold small64 at h3
      simp only [Bool.and_eq_true, decide_eq_true_eq] at h3
      omega
    · cases e
  · cases e
end
end Mc

set_option linter.all false
set_option maxRecDepth 100000
set_option Elab.async false
set_option maxHeartbeats 1000000
namespace Mc
open PySem PySem.Spec PyProof.Rows L2

theorem keyD_inj {a b : Key} (h : keyD a = keyD b) : a = b := by
  cases a with
  | inl i => cases b with
    | inl j => simp only [keyD, D.int.injEq] at h; rw [h]
    | inr y => simp [keyD] at h
  | inr x => cases b with
    | inl j => simp [keyD] at h
    | inr y =>
      simp only [keyD, D.str.injEq] at h
      have : x = y := by
        cases x; cases y
        simp only at h
        congr 1
        exact Array.toList_inj.mp h
      rw [this]
theorem kEq_key (a b : Key) : kEq (keyD a) (keyD b) = decide (a = b) := by
  by_cases h : a = b
  · subst h
    cases a <;> simp [keyD, kEq]
  · rw [decide_eq_false h]
    cases a with
    | inl i => cases b with
      | inl j => simp only [keyD, kEq]; exact decide_eq_false fun e => h (by rw [e])
      | inr y => rfl
    | inr x => cases b with
      | inl j => rfl
      | inr y => simp only [keyD, kEq]; exact decide_eq_false fun e => h (keyD_inj (by simp only [keyD]; rw [e]))
theorem keyOk_key {d : D} {l : List (D × D)} {k : D} (h : keyOk d l k = true) : isKey k = true := by
  cases k <;> first | rfl | (simp [keyOk] at h)
theorem key_of_d {d : D} (h : isKey d = true) : ∃ k : Key, d = keyD k ∧ ∀ {κ g H v}, Rep κ g H d v → v = kV k := by
  cases d with
  | int i => exact ⟨.inl i, rfl, fun r => r.int_⟩
  | str s => exact ⟨.inr (str_ s), by simp [keyD, str_], fun r => r.str_⟩
  | _ => simp [isKey] at h

section
variable {κ : Kw} {g : Gh} {H : Hp} {Bs : Nat → Prop} {base : Nat} {st : Sto}
theorem RepK.look (k : Key) : ∀ {l : List (D × D)} {kvs : List (Key × V)}, RepK κ g H l kvs → (Mc.look (keyD k) l = none → valV kvs k = none) ∧ ∀ d, Mc.look (keyD k) l = some d → ∃ v, valV kvs k = some v ∧ Rep κ g H d v
  | _, _, .nil => ⟨fun _ => rfl, fun d e => by simp [Mc.look] at e⟩
  | _, _, .cons (k := a) (d := d) (v := v) (l := l) (vs := vs) r t => by
    have ih := RepK.look k t
    have e0 : Mc.look (keyD k) ((keyD a, d) :: l) = if kEq (keyD a) (keyD k) = true then some d else Mc.look (keyD k) l := rfl
    rw [kEq_key] at e0
    by_cases h : a = k
    · subst h
      rw [if_pos (by simp)] at e0
      rw [e0]
      refine ⟨(fun z => nomatch z), fun d' z => ?_⟩
      cases z
      exact ⟨v, valV_pos (p := (a, v)) rfl, r⟩
    · rw [if_neg (by simpa using h)] at e0
      rw [e0, valV_neg (p := (a, v)) h]
      exact ih
theorem RepK.any (k : Key) : ∀ {l : List (D × D)} {kvs : List (Key × V)}, RepK κ g H l kvs → (l.any fun p => kEq p.1 (keyD k)) = kvs.any fun p => decide (p.1 = k)
  | _, _, .nil => rfl
  | _, _, .cons (k := a) r t => by
    rw [List.any_cons, List.any_cons, RepK.any k t]
    show (kEq (keyD a) (keyD k) || _) = _
    rw [kEq_key]
theorem RepK.map_ {k : Key} {d : D} {v : V} (r : Rep κ g H d v) : ∀ {l : List (D × D)} {kvs : List (Key × V)}, RepK κ g H l kvs →
    RepK κ g H (l.map fun p => if kEq p.1 (keyD k) = true then (p.1, d) else p) (kvs.map fun p => if p.1 = k then (p.1, v) else p)
  | _, _, .nil => .nil
  | _, _, .cons (k := a) (d := d') (v := v') (l := l) (vs := vs) q t => by
    have ih := RepK.map_ (k := k) r t
    rw [List.map_cons, List.map_cons]
    show RepK κ g H ((if kEq (keyD a) (keyD k) = true then (keyD a, d) else (keyD a, d')) :: _) ((if a = k then (a, v) else (a, v')) :: _)
    rw [kEq_key]
    by_cases h : a = k
    · rw [if_pos (by simpa using h), if_pos h]
      exact .cons r ih
    · rw [if_neg (by simpa using h), if_neg h]
      exact .cons q ih
theorem RepK.snoc {k : Key} {d : D} {v : V} (r : Rep κ g H d v) : ∀ {l : List (D × D)} {kvs : List (Key × V)}, RepK κ g H l kvs → RepK κ g H (l ++ [(keyD k, d)]) (kvs ++ [(k, v)])
  | _, _, .nil => .cons r .nil
  | _, _, .cons q t => .cons q (RepK.snoc r t)
theorem RepK.put {k : Key} {d : D} {v : V} (r : Rep κ g H d v) {l : List (D × D)} {kvs : List (Key × V)} (q : RepK κ g H l kvs) : RepK κ g H (Mc.put (keyD k) d l) (putK kvs k v) := by
  unfold Mc.put putK
  rw [RepK.any k q]
  split
  · exact RepK.map_ r q
  · exact RepK.snoc r q
theorem flat_v {d : D} {v : V} (h : flat d = true) (r : Rep κ g H d v) : flatV v = true := by
  cases d with
  | non => rw [r.non_]; rfl
  | bl b => rw [r.bl_]; rfl
  | int i => rw [r.int_]; rfl
  | str s => rw [r.str_]; rfl
  | _ => simp [flat] at h
theorem flats_v : ∀ {l : List D} {vs : List V}, l.all flat = true → Reps κ g H l vs → vs.all flatV = true
  | _, _, _, .nil => rfl
  | _, _, h, .cons r t => by
    rw [List.all_cons, Bool.and_eq_true] at h
    rw [List.all_cons, flat_v h.1 r, flats_v h.2 t]; rfl
theorem eqv_flat {d e : D} {v u : V} (h : flat d = true) (k : flat e = true) (r : Rep κ g H d v) (q : Rep κ g H e u) : eqV v u = eqv d e := by
  cases d <;> first | (simp [flat] at h; done) | skip
  all_goals cases e <;> first | (simp [flat] at k; done) | skip
  all_goals (first | rw [r.non_] | rw [r.bl_] | rw [r.int_] | rw [r.str_])
  all_goals (first | rw [q.non_] | rw [q.bl_] | rw [q.int_] | rw [q.str_])
  all_goals simp only [eqV, eqv]
  exact str_eq_iff
theorem any_flat {d : D} {v : V} (h : flat d = true) (r : Rep κ g H d v) : ∀ {l : List D} {vs : List V}, l.all flat = true → Reps κ g H l vs → inV v vs = l.any fun x => eqv x d
  | _, _, _, .nil => rfl
  | _, _, k, .cons q t => by
    rw [List.all_cons, Bool.and_eq_true] at k
    show (eqV _ v || inV v _) = _
    rw [eqv_flat k.1 h q r, any_flat h r k.2 t]; rfl
theorem non_iff {d : D} {v : V} (r : Rep κ g H d v) (h : d ≠ .non) : v ≠ .non := fun e => by
  subst e
  cases r with | sca q => cases q; exact h rfl
end

theorem ltS_iff : ∀ (x y : Tx), decide (x < y) = ltS x y
  | [], [] => by simp [ltS]
  | [], _ :: _ => by simp [ltS]
  | _ :: _, [] => by simp [ltS]
  | a :: r, b :: t => by
    have ih := ltS_iff r t
    simp only [ltS, ← ih, List.cons_lt_cons_iff]
    by_cases h1 : a < b <;> by_cases h2 : a = b <;> simp [h1, h2]

section
variable {X : Cx}
def copOf : Cop → CmpOp
  | .eq => .Eq | .ne => .NotEq | .lt => .Lt | .le => .LtE | .gt => .Gt | .ge => .GtE | .is => .Is | .isn => .IsNot | .inn => .In | .nin => .NotIn
def rCmp (κ : Kw) (o : Cop) : R2 := fun x y H Q => ∃ g Bs base st d1 d2 k, Live κ g Bs base st H ∧ Rep κ g H d1 x ∧ Rep κ g H d2 y ∧ cmpE o d1 d2 st = some k ∧ Q (.bl k) H
theorem anyL_py : ∀ (n m : Nat) (d : D) (l : List D), plain n d = true → plainL m l = true → ((toPyL l).any fun z => PyData.eqv z (toPy d)) = l.any fun x => eqv x d
  | _, _, _, [], _, _ => by simp [toPyL]
  | n, m, d, x :: l, h, k => by
    have k' : plain m x = true ∧ plainL m l = true := by simpa [plainL] using k
    simp only [toPyL, List.any_cons, eqv_py m n x d k'.1 h, anyL_py n m d l h k'.2]
theorem plainL_shaped {l : List D} (h : plainL 59 l = true) : SeqAt.shaped (.list (toPyL l)) = true := by
  have := plain_shaped (d := .lst l) (by simpa [plain] using h)
  simpa [toPy] using this
/-- in, of what the evaluator serves -/
theorem in_both {κ : Kw} {g : Gh} {H : Hp} {Bs : Nat → Prop} {base : Nat} {st : Sto} {d1 d2 : D} {k : Bool} {pins : List (Addr × Obj)} {s : Shared} {σ : L2.St} {x y : V} {v u : Value} {Q : VK} (hr : X.A.units + 65 < cLine)
    (hκ : κ = kwOf X) (I : Inv X pins σ H s) (rx : RelV x v) (ry : RelV y u) (L : Live κ g Bs base st H) (r1 : Rep κ g H d1 x) (r2 : Rep κ g H d2 y) (e : cmpE.inE d1 d2 st = some k) :
    (Q (.bl k) H → wpAny (model X.prog X.w) X.A (compareOp .In v u) (EP X pins σ Q) X.xe s) ∧ (Q (.bl (!k)) H → wpAny (model X.prog X.w) X.A (compareOp .NotIn v u) (EP X pins σ Q) X.xe s) := by
  subst hκ
  unfold cmpE.inE at e
  split at e
  · -- a sign in a text
    rename_i z
    split at e
    · rename_i c
      cases e
      have e1 := r1.str_; have e2 := r2.str_; subst e1 e2
      refine ⟨fun q => op_in_sign pins s σ H _ _ v u Q I rx ry ⟨c, str_ z, rfl, rfl, ?_⟩, fun q => op_notIn_sign pins s σ H _ _ v u Q I rx ry ⟨c, str_ z, rfl, rfl, ?_⟩⟩
      · rw [str_tl]; exact q
      · rw [str_tl]; exact q
    · cases e
  · split at e
    · rename_i l hl
      obtain ⟨a, vs, rfl, hs, rs⟩ := seq_at L r2 hl
      split at e
      · rename_i hc
        cases e
        rw [Bool.or_eq_true] at hc
        rcases hc with hc | hc
        · rw [Bool.and_eq_true] at hc
          have ev := any_flat hc.1 r1 hc.2 rs
          refine ⟨fun q => op_in_seq pins s σ H _ _ v u Q I rx ry ⟨a, vs, rfl, hs, flat_v hc.1 r1, flats_v hc.2 rs, ?_⟩, fun q => op_notIn_seq pins s σ H _ _ v u Q I rx ry ⟨a, vs, rfl, hs, flat_v hc.1 r1, flats_v hc.2 rs, ?_⟩⟩
          · rw [ev]; exact q
          · rw [ev]; exact q
        · rw [Bool.and_eq_true, Bool.and_eq_true] at hc
          obtain ⟨⟨hb, h1⟩, h2⟩ := hc
          obtain ⟨l', hl'⟩ := Option.isSome_iff_exists.mp (show (lstOf st d2).isSome = true from hb)
          have el : l' = l := by
            cases d2 with
            | tup m => simp [lstOf] at hl'
            | lst m => simp [seqOf] at hl; rw [hl] at hl'; cases hl'; rfl
            | own m => simp only [seqOf] at hl; rw [hl] at hl'; cases hl'; rfl
            | _ => simp [lstOf] at hl'
          subst el
          obtain ⟨b, ws, eb, hw, rw'⟩ := lst_at L r2 hl'
          cases eb
          have dl : Dp X.K H (.ref a) (.list (toPyL l')) := .lst (.inl (.inl hw)) (Reps.dp h2 rw')
          have ev := anyL_py 60 59 d1 l' h1 h2
          refine ⟨fun q => op_inD hr pins s σ H _ _ v u Q I rx ry ⟨_, _, Rep.dp h1 r1, dl, plain_shaped h1, plainL_shaped h2, ?_⟩, fun q => op_notInD hr pins s σ H _ _ v u Q I rx ry ⟨_, _, Rep.dp h1 r1, dl, plain_shaped h1, plainL_shaped h2, ?_⟩⟩
          · rw [ev]; exact q
          · rw [ev]; exact q
      · cases e
    · split at e
      · rename_i hn l hl
        split at e
        · rename_i hk
          cases e
          obtain ⟨key, rfl, hkv⟩ := key_of_d (keyOk_key hk)
          have ex := hkv r1
          subst ex
          have go : ∀ (a : Addr) (o : Option V), DGet H a (kV key) o → y = .ref a → o.isSome = (look (keyD key) l).isSome →
              (Q (.bl (look (keyD key) l).isSome) H → wpAny (model X.prog X.w) X.A (compareOp .In v u) (EP X pins σ Q) X.xe s) ∧ (Q (.bl (!(look (keyD key) l).isSome)) H → wpAny (model X.prog X.w) X.A (compareOp .NotIn v u) (EP X pins σ Q) X.xe s) := fun a o gt ey eo => by
            subst ey
            cases ry
            refine ⟨fun q => d_in (by omega) I gt rx fun s' I' => ⟨.bl _, H, I', rfl, by rw [eo]; exact q⟩, fun q => d_notIn (by omega) I gt rx fun s' I' => ⟨.bl _, H, I', rfl, by rw [eo]; exact q⟩⟩
          have same : ∀ {kvs : List (Key × V)}, RepK (kwOf X) g H l kvs → (valV kvs key).isSome = (look (keyD key) l).isSome := fun {kvs} rk => by
            obtain ⟨q1, q2⟩ := rk.look key
            cases z : look (keyD key) l with
            | none => rw [q1 z]; rfl
            | some d => obtain ⟨v, hv, _⟩ := q2 d z; rw [hv]; rfl
          cases d2 with
          | dic m =>
            cases hl
            cases r2 with
            | sca q => cases q
            | dic h1 h2 h3 => exact go _ _ (.inl ⟨_, key, h2, rfl, rfl⟩) rfl (same h3)
            | wdic hw2 hw =>
              rename_i pa
              obtain ⟨⟨es, n, D⟩, ⟨_, hi⟩, hz⟩ := hw
              cases key with
              | inl i => rw [show keyOk (.dic l) l (keyD (.inl i)) = l.any (fun p => isInt p.1) from rfl, hi] at hk; cases hk
              | inr z =>
                obtain ⟨w1, w2⟩ := hz z.cps.toList
                have ez : str_ z.cps.toList = z := by simp [str_]
                rw [ez] at w1 w2
                have hr' : ∃ r, PySem.W.nsIn X.K pa z = some r ∧ r.isSome = (look (keyD (.inr z)) l).isSome := by
                  cases q : look (keyD (.inr z)) l with
                  | none => exact ⟨none, w1 q, rfl⟩
                  | some d => obtain ⟨u, v, h1, _, _⟩ := w2 d q; exact ⟨some u, h1, rfl⟩
                obtain ⟨r, hr1, hr2⟩ := hr'
                refine ⟨fun q => op_in_kd D pins s σ H _ _ v u Q I rx ry ⟨z, r, rfl, rfl, hr1, by rw [hr2]; exact q⟩, fun q => op_notIn_kd D pins s σ H _ _ v u Q I rx ry ⟨z, r, rfl, rfl, hr1, by rw [hr2]; exact q⟩⟩
          | own m =>
            simp only [dicOf] at hl
            split at hl
            · rename_i l' hm
              cases hl
              obtain ⟨a, kvs, rfl, _, h2, h3⟩ := own_dic L r2 hm
              exact go _ _ (.k h2) rfl (same h3)
            · cases hl
          | _ => cases hl
        · cases e
      · cases e
theorem strD_eq {x y : Tx} : decide (V.str (str_ x) = V.str (str_ y)) = decide (x = y) := by
  rw [decide_eq_decide]
  refine ⟨fun e => ?_, fun e => by rw [e]⟩
  injection e with e
  have := congrArg (fun s : Str => s.cps.toList) e
  simpa [str_] using this
/-- == and != where nothing stands in the right one -/
theorem eqN_ok {κ : Kw} {g : Gh} {H : Hp} {Bs : Nat → Prop} {base : Nat} {st : Sto} {d1 d2 : D} {k : Bool} {pins : List (Addr × Obj)} {s : Shared} {σ : L2.St} {x y : V} {v u : Value} (hr : X.A.units + 65 < cLine)
    (hκ : κ = kwOf X) (I : Inv X pins σ H s) (rx : RelV x v) (ry : RelV y u) (L : Live κ g Bs base st H) (r1 : Rep κ g H d1 x) (r2 : Rep κ g H d2 y) (e : eqE.eqN d1 d2 st = some k) :
    SeqAt.RcAt X.A s v u k ∧ SeqAt.RcNeAt X.A s v u (!k) := by
  subst hκ
  have emp : ∀ {l : List D} {vs : List V} {its : List Value}, Reps (kwOf X) g H l vs → Vals vs its → (its.toArray.size == 0) = l.isEmpty := fun {l vs its} p q => by
    have e1 := p.length
    have e2 := q.length
    rw [List.size_toArray, ← e2, ← e1]
    cases l <;> rfl
  unfold eqE.eqN at e
  split at e
  · cases e
    obtain ⟨a, vs, rfl, t1, p1⟩ := r1.tup_
    obtain ⟨b, ws, rfl, t2, p2⟩ := r2.tup_
    cases rx
    cases ry
    obtain ⟨i1, v1, h1, _⟩ := I.tuple t1.sq
    obtain ⟨i2, v2, h2, _⟩ := I.tuple t2.sq
    cases p2
    cases v2
    have hz := emp p1 v1
    have A1 := SeqAt.RcAt.tuples (e := fun _ => true) h1 h2 (by omega : X.A.units < cLine) fun j _ j2 => absurd j2 (Nat.not_lt_zero _)
    have A2 := SeqAt.RcNeAt.tuples (e := fun _ => true) h1 h2 (by omega : X.A.units < cLine) fun j _ j2 => absurd j2 (Nat.not_lt_zero _)
    have er : ((List.range (min i1.toArray.size ([] : List Value).toArray.size)).all (fun _ => true) && i1.toArray.size == ([] : List Value).toArray.size) = (i1.toArray.size == 0) := by
      simp
    rw [er, hz] at A1 A2
    exact ⟨A1, A2⟩
  · split at e
    · rename_i l z1 z2
      cases e
      obtain ⟨a, vs, rfl, t1, p1⟩ := lst_at L r1 z1
      obtain ⟨b, ws, rfl, t2, p2⟩ := lst_at L r2 z2
      cases rx
      cases ry
      obtain ⟨i1, v1, ⟨o1, n1, g1, c1, _, w1⟩, _⟩ := I.list (.inl (.inl t1))
      obtain ⟨i2, v2, ⟨o2, n2, g2, c2, _, w2⟩, _⟩ := I.list (.inl (.inl t2))
      cases p2
      cases v2
      have hz := emp p1 v1
      have h1 : s.heap.IsList a i1.toArray := ⟨_, g1, c1, _, w1⟩
      have h2 : s.heap.IsList b ([] : List Value).toArray := ⟨_, g2, c2, _, w2⟩
      cases he : (i1.toArray.size == 0)
      · rw [← hz, he]
        have hn : (i1.toArray.size != ([] : List Value).toArray.size) = true := by
          show (!(i1.toArray.size == 0)) = true
          rw [he]; rfl
        exact ⟨SeqAt.RcAt.lists_lengths h1 h2 hn (by omega), SeqAt.RcNeAt.lists_lengths h1 h2 hn (by omega)⟩
      · rw [← hz, he]
        have hn : i1.toArray.size = ([] : List Value).toArray.size := by simpa using he
        have A1 := SeqAt.RcAt.lists (e := fun _ => true) h1 h2 hn (by omega : X.A.units < cLine) fun j _ j2 => absurd j2 (Nat.not_lt_zero _)
        have A2 := SeqAt.RcNeAt.lists (e := fun _ => true) h1 h2 hn (by omega : X.A.units < cLine) fun j _ j2 => absurd j2 (Nat.not_lt_zero _)
        have er : (List.range i1.toArray.size).all (fun _ => true) = true := by simp
        rw [er] at A1 A2
        exact ⟨A1, A2⟩
    · cases e
theorem op_cmp (o : Cop) (hr : X.A.units + 65 < cLine) : OpR X (compareOp (copOf o)) (rCmp (kwOf X) o) := by
  intro pins s σ H x y v u Q I rx ry h
  obtain ⟨g, Bs, base, st, d1, d2, k, L, r1, r2, e, q⟩ := h
  cases o with
  | eq =>
    have e' : eqE d1 d2 st = some k := e
    unfold eqE at e'
    split at e'
    · cases e'
      have e1 := r1.str_; have e2 := r2.str_; subst e1 e2
      refine op_eq pins s σ H _ _ v u Q I rx ry ⟨rfl, ?_⟩
      rw [strD_eq]; exact q
    · split at e'
      · rename_i hp
        cases e'
        rw [Bool.and_eq_true] at hp
        refine op_eqD (by omega) pins s σ H _ _ v u Q I rx ry ⟨_, _, r1.res L hp.1, r2.res L hp.2, plain_shaped hp.1, plain_shaped hp.2, ?_⟩
        rw [eqv_py _ _ _ _ hp.1 hp.2]; exact q
      · exact (eqN_ok hr rfl I rx ry L r1 r2 e').1 X.prog X.w _ _ ⟨.bl k, H, I, rfl, q⟩
  | ne =>
    have e' : (eqE d1 d2 st).map (! ·) = some k := e
    unfold eqE at e'
    split at e'
    · cases e'
      have e1 := r1.str_; have e2 := r2.str_; subst e1 e2
      refine op_ne pins s σ H _ _ v u Q I rx ry ⟨rfl, ?_⟩
      rw [strD_eq]; exact q
    · split at e'
      · rename_i hp
        cases e'
        rw [Bool.and_eq_true] at hp
        refine op_neD (by omega) pins s σ H _ _ v u Q I rx ry ⟨_, _, r1.res L hp.1, r2.res L hp.2, plain_shaped hp.1, plain_shaped hp.2, ?_⟩
        rw [eqv_py _ _ _ _ hp.1 hp.2]; exact q
      · cases z : eqE.eqN d1 d2 st with
        | none => rw [z] at e'; cases e'
        | some b =>
          rw [z] at e'
          cases e'
          exact (eqN_ok hr rfl I rx ry L r1 r2 z).2 X.prog X.w _ _ ⟨.bl _, H, I, rfl, q⟩
  | lt =>
    simp only [cmpE] at e
    split at e
    · cases e
      have e1 := r1.int_; have e2 := r2.int_; subst e1 e2
      exact op_lt pins s σ H _ _ v u Q I rx ry ⟨_, _, rfl, rfl, q⟩
    · cases e
      have e1 := r1.str_; have e2 := r2.str_; subst e1 e2
      exact op_lt_str pins s σ H _ _ v u Q I rx ry ⟨_, _, rfl, rfl, by rw [str_tl, str_tl, ltS_iff]; exact q⟩
    · cases e
  | le =>
    simp only [cmpE] at e
    split at e
    · cases e
      have e1 := r1.int_; have e2 := r2.int_; subst e1 e2
      exact op_le pins s σ H _ _ v u Q I rx ry ⟨_, _, rfl, rfl, q⟩
    · cases e
      have e1 := r1.str_; have e2 := r2.str_; subst e1 e2
      exact op_le_str pins s σ H _ _ v u Q I rx ry ⟨_, _, rfl, rfl, by rw [str_tl, str_tl, ltS_iff]; exact q⟩
    · cases e
  | gt =>
    simp only [cmpE] at e
    split at e
    · cases e
      have e1 := r1.int_; have e2 := r2.int_; subst e1 e2
      exact op_gt pins s σ H _ _ v u Q I rx ry ⟨_, _, rfl, rfl, q⟩
    · cases e
      have e1 := r1.str_; have e2 := r2.str_; subst e1 e2
      exact op_gt_str pins s σ H _ _ v u Q I rx ry ⟨_, _, rfl, rfl, by rw [str_tl, str_tl, ltS_iff]; exact q⟩
    · cases e
  | ge =>
    simp only [cmpE] at e
    split at e
    · cases e
      have e1 := r1.int_; have e2 := r2.int_; subst e1 e2
      exact op_ge pins s σ H _ _ v u Q I rx ry ⟨_, _, rfl, rfl, q⟩
    · cases e
      have e1 := r1.str_; have e2 := r2.str_; subst e1 e2
      exact op_ge_str pins s σ H _ _ v u Q I rx ry ⟨_, _, rfl, rfl, by rw [str_tl, str_tl, ltS_iff]; exact q⟩
    · cases e
  | is =>
    simp only [cmpE] at e
    split at e
    · rename_i a b
      cases e
      have e1 := r1.bl_; have e2 := r2.bl_; subst e1 e2
      exact op_isBl pins s σ H _ _ v u Q I rx ry ⟨_, _, rfl, rfl, by rw [show decide (a = b) = (a == b) by cases a <;> cases b <;> rfl]; exact q⟩
    · cases e
      have e1 := r1.non_; have e2 := r2.non_; subst e1 e2
      exact op_isN pins s σ H _ _ v u Q I rx ry ⟨rfl, by simpa using q⟩
    · rename_i hn
      cases e
      have e2 := r2.non_; subst e2
      have hx := non_iff r1 (fun z => hn z)
      exact op_isN pins s σ H _ _ v u Q I rx ry ⟨rfl, by rw [decide_eq_false hx]; exact q⟩
    · cases e
  | isn =>
    simp only [cmpE] at e
    split at e
    · rename_i a b
      cases e
      have e1 := r1.bl_; have e2 := r2.bl_; subst e1 e2
      exact op_notBl pins s σ H _ _ v u Q I rx ry ⟨_, _, rfl, rfl, by rw [show decide (a = b) = (a == b) by cases a <;> cases b <;> rfl]; exact q⟩
    · cases e
      have e1 := r1.non_; have e2 := r2.non_; subst e1 e2
      exact op_notN pins s σ H _ _ v u Q I rx ry ⟨rfl, by simpa using q⟩
    · rename_i hn
      cases e
      have e2 := r2.non_; subst e2
      have hx := non_iff r1 (fun z => hn z)
      exact op_notN pins s σ H _ _ v u Q I rx ry ⟨rfl, by rw [decide_eq_false hx]; exact q⟩
    · cases e
  | inn => exact (in_both hr rfl I rx ry L r1 r2 (show cmpE.inE d1 d2 st = some k from e)).1 q
  | nin =>
    have e' : (cmpE.inE d1 d2 st).map (! ·) = some k := e
    cases z : cmpE.inE d1 d2 st with
    | none => rw [z] at e'; cases e'
    | some b =>
      rw [z] at e'
      cases e'
      exact (in_both hr rfl I rx ry L r1 r2 z).2 q

/-- truth -/
theorem isE {xs : List D} {vs : List V} {κ : Kw} {g : Gh} {H : Hp} (r : Reps κ g H xs vs) : (!xs.isEmpty) = !vs.isEmpty := by
  cases r <;> rfl
theorem isEK {xs : List (D × D)} {vs : List (Key × V)} {κ : Kw} {g : Gh} {H : Hp} (r : RepK κ g H xs vs) : (!xs.isEmpty) = !vs.isEmpty := by
  cases r <;> rfl
theorem tru_v {κ : Kw} {g : Gh} {H : Hp} {Bs : Nat → Prop} {base : Nat} {st : Sto} {d : D} {x : V} {k : Bool} (L : Live κ g Bs base st H) (r : Rep κ g H d x) (e : tru st d = some k) : TruV κ.K x H k := by
  cases d with
  | non => rw [r.non_]; cases e; rfl
  | bl b => rw [r.bl_]; cases e; rfl
  | int i => rw [r.int_]; cases e; rfl
  | str s =>
    rw [r.str_]
    simp only [tru] at e
    split at e
    · rename_i hz
      cases e
      refine ⟨by rw [str_len, ← line_eq]; exact hz, ?_⟩
      rw [str_len]
      cases s with
      | nil => rfl
      | cons a l =>
        show true = _
        rw [List.length_cons, eq_comm, bne_iff_ne]
        omega
    · cases e
  | tup l =>
    cases e
    obtain ⟨a, vs, rfl, h1, h2⟩ := r.tup_
    exact .inr (.inl ⟨vs, h1.sq, isE h2⟩)
  | lst l =>
    cases e
    obtain ⟨a, vs, rfl, _, h1, h2⟩ := r.lst_
    exact .inl ⟨vs, .inl (.inl h1), isE h2⟩
  | own n =>
    simp only [tru] at e
    split at e
    · rename_i l hm
      cases e
      obtain ⟨a, vs, rfl, _, h1, h2⟩ := own_lst L r hm
      exact .inl ⟨vs, .inl (.inl h1), isE h2⟩
    · rename_i l hm
      cases e
      obtain ⟨a, vs, rfl, _, h1, h2⟩ := own_dic L r hm
      exact .inr (.inr ⟨vs, h1, isEK h2⟩)
    · cases e
  | _ => cases e
end
end Mc

set_option linter.all false
set_option maxRecDepth 100000
set_option Elab.async false
set_option maxHeartbeats 1000000
namespace Mc
open PySem PySem.Spec PyProof.Rows L2

mutual
theorem plainZ_depth : ∀ (n : Nat) (d : D), plainZ n d = true → (toPy d).depth ≤ n
  | _, .non, _ => by simp [toPy, PyData.depth]
  | _, .bl _, _ => by simp [toPy, PyData.depth]
  | _, .int _, _ => by simp [toPy, PyData.depth]
  | _, .str _, _ => by simp [toPy, PyData.depth]
  | n + 1, .tup l, h => by simpa [toPy, PyData.depth] using plainZL_depth n l (by simpa [plainZ] using h)
  | n + 1, .lst l, h => by simpa [toPy, PyData.depth] using plainZL_depth n l (by simpa [plainZ] using h)
  | n + 1, .dic l, h => by
    have h' : l.length ≤ 1 ∧ plainZK n l = true := by simpa [plainZ] using h
    simpa [toPy, PyData.depth] using plainZK_depth n l h'.2
  | 0, .tup _, h => by simp [plainZ] at h
  | 0, .lst _, h => by simp [plainZ] at h
  | 0, .dic _, h => by simp [plainZ] at h
  | n, .rng _ _, h => by simp [plainZ] at h
  | n, .own _, h => by simp [plainZ] at h
  | n, .scr _, h => by simp [plainZ] at h
theorem plainZL_depth : ∀ (n : Nat) (l : List D), plainZL n l = true → PyData.depthAll (toPyL l) ≤ n
  | _, [], _ => by simp [toPyL, PyData.depthAll]
  | n, d :: l, h => by
    have h' : plainZ n d = true ∧ plainZL n l = true := by simpa [plainZL] using h
    have h1 := plainZ_depth n d h'.1
    have h2 := plainZL_depth n l h'.2
    simp only [toPyL, PyData.depthAll]
    omega
theorem plainZK_depth : ∀ (n : Nat) (l : List (D × D)), plainZK n l = true → PyData.depthKv (toPyK l) ≤ n
  | _, [], _ => by simp [toPyK, PyData.depthKv]
  | n, (k, d) :: l, h => by
    have h' : (plainZ 0 k = true ∧ plainZ n d = true) ∧ plainZK n l = true := by simpa [plainZK] using h
    have h0 := plainZ_depth 0 k h'.1.1
    have h1 := plainZ_depth n d h'.1.2
    have h2 := plainZK_depth n l h'.2
    simp only [toPyK, PyData.depthKv]
    omega
end
theorem key_data (k : Key) (u : Value) (h : keyIs k u = true) (hp : Heap) : ∃ as, Reads hp u (toPy (keyD k)) as := by
  rcases keyIs_shape h with ⟨i, t, rfl, rfl⟩ | ⟨x, t, rfl, rfl⟩
  · exact ⟨_, Reads.int i t⟩
  · refine ⟨[], ?_⟩
    have e : str_ x.cps.toList = x := by simp [str_]
    show Reads hp (.str x t) (.str (str_ x.cps.toList)) []
    rw [e]
    exact Reads.str x t

theorem nil_rd {h : Heap} {n : Nat} : ReadAtMost h n [] := fun b hb => by cases hb
section
variable {X : Cx} {pins : List (Addr × Obj)} {σ : L2.St} {H : Hp} {s : Shared} {g : Gh}
/-- a dict of one entry at most, in the heap -/
theorem dic_one {a : Addr} {l : List (D × D)} {kvs : List (Key × V)} (I : Inv X pins σ H s) (hd : Rd H a (.dK kvs)) (r : RepK (kwOf X) g H l kvs) (hl : l.length ≤ 1) :
    ∃ o es ep, s.heap.get? a = some o ∧ o.cls = .type "dict" ∧ o.data = .dict es ep ∧ (a == sysModules) = false ∧ ((l = [] ∧ es.toList = []) ∨
      ∃ k d v ek ev e, l = [(keyD k, d)] ∧ es.toList = [e] ∧ e.key = ek ∧ e.val = ev ∧ keyIs k ek = true ∧ RelV v ev ∧ Rep (kwOf X) g H d v) := by
  obtain ⟨hz, hsys, vs, rk, dd⟩ := dk_rd I.hok hd
  obtain ⟨es, ep, ⟨o, ho, hc, hda⟩, hn, he⟩ := Heap.DictOf.raw dd
  refine ⟨o, es, ep, ho, hc.1, hda, hsys, ?_⟩
  cases r with
  | nil =>
    cases rk
    exact .inl ⟨rfl, List.eq_nil_of_length_eq_zero (by simpa using hn)⟩
  | cons r1 r2 =>
    cases r2 with
    | cons r3 r4 => simp at hl
    | nil =>
      cases rk with
      | cons q1 q2 =>
        cases q2
        obtain ⟨e1, e2⟩ := q1
        rename_i k d v p
        obtain ⟨k', ev⟩ := p
        simp only at e1 e2
        subst e1
        have hs : es.size = 1 := hn
        obtain ⟨h1, h2⟩ := he 0 (by omega) k ev rfl
        refine .inr ⟨k, d, v, es[0].key, es[0].val, es[0], rfl, ?_, rfl, rfl, h1, ?_, r1⟩
        · obtain ⟨el⟩ := es
          cases el with
          | nil => simp at hs
          | cons x t =>
            cases t with
            | nil => rfl
            | cons y z => simp at hs
        · rw [h2]; exact e2
mutual
theorem zReads (I : Inv X pins σ H s) : ∀ {n : Nat} {d : D} {v : V} {u : Value}, plainZ n d = true → Rep (kwOf X) g H d v → RelV v u → ∃ as, Reads s.heap u (toPy d) as
  | _, .non, _, _, _, r, q => by
    have e := r.non_; subst e
    cases q
    exact ⟨_, Reads.none⟩
  | _, .bl b, _, _, _, r, q => by
    have e := r.bl_; subst e
    cases q
    exact ⟨_, Reads.bool b⟩
  | _, .int i, _, _, _, r, q => by
    have e := r.int_; subst e
    obtain ⟨t, rfl⟩ := q
    exact ⟨_, Reads.int i t⟩
  | _, .str x, _, _, _, r, q => by
    have e := r.str_; subst e
    obtain ⟨t, rfl⟩ := q
    exact ⟨_, Reads.str _ t⟩
  | n + 1, .tup l, _, _, h, r, q => by
    obtain ⟨a, vs, rfl, e1, e2⟩ := r.tup_
    cases q
    obtain ⟨its, rv, ⟨o, ho, hc, m, hd⟩, _⟩ := I.tuple e1.sq
    obtain ⟨as, hr⟩ := zReadsL I (n := n) (by simpa [plainZ] using h) e2 rv
    exact ⟨_, Reads.tuple ho hc hd hr⟩
  | n + 1, .lst l, _, _, h, r, q => by
    obtain ⟨a, vs, rfl, _, e1, e2⟩ := r.lst_
    cases q
    obtain ⟨its, rv, ⟨o, m, ho, hc, _, hd⟩, _⟩ := I.list (.inl (.inl e1))
    obtain ⟨as, hr⟩ := zReadsL I (n := n) (by simpa [plainZ] using h) e2 rv
    exact ⟨_, Reads.list ho hc hd hr⟩
  | n + 1, .dic l, _, _, h, r, q => by
    have h' : l.length ≤ 1 ∧ plainZK n l = true := by simpa [plainZ] using h
    cases r with
    | sca z => cases z
    | wdic hz _ => omega
    | dic h1 h2 h3 =>
      cases q
      obtain ⟨o, es, ep, ho, hc, hd, _, hcase⟩ := dic_one I h2 h3 h'.1
      rcases hcase with ⟨rfl, ee⟩ | ⟨k, d, v, ek, ev, e, rfl, ee, rfl, rfl, hk, rv, rd⟩
      · exact ⟨_, Reads.dict (kvs := []) ho hc hd (by rw [ee]; exact .nil) (by rw [ee]; exact .nil)⟩
      · have h'' : (plainZ 0 (keyD k) = true ∧ plainZ n d = true) ∧ plainZK n [] = true := by simpa [plainZK] using h'.2
        obtain ⟨as, r1⟩ := key_data k _ hk s.heap
        obtain ⟨bs, r2⟩ := zReads I h''.1.2 rd rv
        exact ⟨_, Reads.dict (kvs := [(toPy (keyD k), toPy d)]) ho hc hd (by rw [ee]; exact .cons r1 .nil) (by rw [ee]; exact .cons r2 .nil)⟩
  | 0, .tup _, _, _, h, _, _ => by simp [plainZ] at h
  | 0, .lst _, _, _, h, _, _ => by simp [plainZ] at h
  | 0, .dic _, _, _, h, _, _ => by simp [plainZ] at h
  | _, .rng _ _, _, _, h, _, _ => by simp [plainZ] at h
  | _, .own _, _, _, h, _, _ => by simp [plainZ] at h
  | _, .scr _, _, _, h, _, _ => by simp [plainZ] at h
theorem zReadsL (I : Inv X pins σ H s) : ∀ {n : Nat} {l : List D} {vs : List V} {us : List Value}, plainZL n l = true → Reps (kwOf X) g H l vs → Vals vs us → ∃ as, ReadsAll s.heap us (toPyL l) as
  | _, [], _, _, _, r, q => by
    cases r
    cases q
    exact ⟨_, ReadsAll.nil⟩
  | n, d :: l, _, _, h, r, q => by
    have h' : plainZ n d = true ∧ plainZL n l = true := by simpa [plainZL] using h
    cases r with
    | cons r1 r2 =>
      cases q with
      | cons q1 q2 =>
        obtain ⟨as, z1⟩ := zReads I h'.1 r1 q1
        obtain ⟨bs, z2⟩ := zReadsL I h'.2 r2 q2
        exact ⟨_, ReadsAll.cons z1 z2⟩
end
/-- what a value of such a kind shows, wherever it stands -/
def ShwK (X : Cx) (h : Heap) (n : Nat) (u : Value) (t : Str) : Prop := ∃ bs, ReadAtMost h n bs ∧ ReprK X.prog X.w bs h n u t
def ShwL (X : Cx) (h : Heap) (n : Nat) (us : List Value) (ts : List Str) : Prop := ∃ bs, ReadAtMost h n bs ∧ ReprAllK X.prog X.w bs h n us ts
theorem ShwL.cons {h : Heap} {n m : Nat} {u : Value} {us : List Value} {t : Str} {ts : List Str} (a : ShwK X h n u t) (b : ShwL X h m us ts) : ShwL X h (max n m) (u :: us) (t :: ts) := by
  obtain ⟨as, a1, a2⟩ := a
  obtain ⟨bs, b1, b2⟩ := b
  exact ⟨as ++ bs, (a1.mono (Nat.le_max_left _ _)).append (b1.mono (Nat.le_max_right _ _)),
    .cons ((a2.more fun _ hb => List.mem_append_left _ hb).level_le (Nat.le_max_left _ _)) (b2.more_le (fun _ hb => List.mem_append_right _ hb) (Nat.le_max_right _ _))⟩
theorem key_shw (k : Key) (u : Value) (h : keyIs k u = true) (hp : Heap) (hs : (toPy (keyD k)).showable = true) (hz : (PyData.shown (toPy (keyD k))).length ≤ sizeLine) : ShwK X hp 0 u (PyData.shown (toPy (keyD k))) := by
  refine ⟨[], nil_rd, ?_⟩
  rcases keyIs_shape h with ⟨i, t, rfl, rfl⟩ | ⟨x, t, rfl, rfl⟩
  · exact .of_is (ReprIs.int t (by simpa [toPy, keyD, PyData.showable] using hs)) _ _ _
  · have e : str_ x.cps.toList = x := by simp [str_]
    have e2 : PyData.shown (toPy (keyD (.inr x))) = reprText x := by
      show PyData.shown (.str (str_ x.cps.toList)) = _
      rw [e]
      simp only [PyData.shown]
    rw [e2] at hz ⊢
    exact .of_is (ReprIs.str x t hz) _ _ _
mutual
theorem zShw (I : Inv X pins σ H s) : ∀ {n : Nat} {d : D} {v : V} {u : Value}, plainZ n d = true → Rep (kwOf X) g H d v → RelV v u → (toPy d).showable = true → (PyData.shown (toPy d)).length ≤ sizeLine → ShwK X s.heap (toPy d).depth u (PyData.shown (toPy d))
  | _, .non, _, _, _, r, q, _, _ => by
    have e := r.non_; subst e
    cases q
    exact ⟨[], nil_rd, by simp only [toPy, PyData.shown]; exact .of_is ReprIs.none _ _ _⟩
  | _, .bl b, _, _, _, r, q, _, _ => by
    have e := r.bl_; subst e
    cases q
    exact ⟨[], nil_rd, by simp only [toPy, PyData.shown]; exact .of_is (ReprIs.bool b) _ _ _⟩
  | _, .int i, _, _, _, r, q, hs, _ => by
    have e := r.int_; subst e
    obtain ⟨t, rfl⟩ := q
    exact ⟨[], nil_rd, by simp only [toPy, PyData.shown]; exact .of_is (ReprIs.int t (by simpa [toPy, PyData.showable] using hs)) _ _ _⟩
  | _, .str x, _, _, _, r, q, _, hz => by
    have e := r.str_; subst e
    obtain ⟨t, rfl⟩ := q
    exact ⟨[], nil_rd, by simp only [toPy, PyData.shown] at hz ⊢; exact .of_is (ReprIs.str _ t hz) _ _ _⟩
  | n + 1, .tup l, _, _, h, r, q, hs, hz => by
    have rd := zReads I h r q
    obtain ⟨as, rd⟩ := rd
    obtain ⟨a, vs, rfl, e1, e2⟩ := r.tup_
    cases q
    obtain ⟨its, rv, ⟨o, ho, hc, m, hd⟩, _⟩ := I.tuple e1.sq
    have hz' : (tupleText (PyData.shownAll (toPyL l))).length ≤ sizeLine := by simpa only [toPy, PyData.shown] using hz
    obtain ⟨bs, hb, hk⟩ := zShwL I (n := n) (by simpa [plainZ] using h) e2 rv (by simpa [toPy, PyData.showable] using hs) fun t ht => Nat.le_trans (tupleText_mem_le ht) hz'
    refine ⟨a :: bs, ReadAtMost.cons rd (by simp only [toPy, PyData.depth]; omega) hb, ?_⟩
    simp only [toPy, PyData.depth, PyData.shown]
    exact ReprK.tuple ho hc hd (not_mem_of_deeper rd (by simp only [toPy, PyData.depth]; omega) hb) hk
  | n + 1, .lst l, _, _, h, r, q, hs, hz => by
    have rd := zReads I h r q
    obtain ⟨as, rd⟩ := rd
    obtain ⟨a, vs, rfl, _, e1, e2⟩ := r.lst_
    cases q
    obtain ⟨its, rv, ⟨o, m, ho, hc, _, hd⟩, _⟩ := I.list (.inl (.inl e1))
    have hz' : (listText (PyData.shownAll (toPyL l))).length ≤ sizeLine := by simpa only [toPy, PyData.shown] using hz
    obtain ⟨bs, hb, hk⟩ := zShwL I (n := n) (by simpa [plainZ] using h) e2 rv (by simpa [toPy, PyData.showable] using hs) fun t ht => Nat.le_trans (listText_mem_le ht) hz'
    refine ⟨a :: bs, ReadAtMost.cons rd (by simp only [toPy, PyData.depth]; omega) hb, ?_⟩
    simp only [toPy, PyData.depth, PyData.shown]
    cases its with
    | nil =>
      cases rv
      cases e2
      exact ReprK.listEmpty ho hc hd
    | cons x t =>
      refine ReprK.list ho hc hd (not_mem_of_deeper rd (by simp only [toPy, PyData.depth]; omega) hb) ?_ fun i y e => hk.item i y (by simpa using e)
      have := hk.length_eq
      simpa using this
  | n + 1, .dic l, _, _, h, r, q, hs, hz => by
    have h' : l.length ≤ 1 ∧ plainZK n l = true := by simpa [plainZ] using h
    cases r with
    | sca z => cases z
    | wdic hz _ => omega
    | dic h1 h2 h3 =>
      rename_i a kvs
      cases q
      obtain ⟨⟨as, rd⟩, o, es, ep, ho, hc, hd, hsys, bs, hb, hE⟩ := zDic I h h2 h3 hs hz
      refine ⟨a :: bs, ReadAtMost.cons rd (by simp only [toPy, PyData.depth]; omega) hb, ?_⟩
      simp only [toPy, PyData.depth, PyData.shown]
      exact ReprK.dict ho hc hd hsys (not_mem_of_deeper rd (by simp only [toPy, PyData.depth]; omega) hb) hE
  | 0, .tup _, _, _, h, _, _, _, _ => by simp [plainZ] at h
  | 0, .lst _, _, _, h, _, _, _, _ => by simp [plainZ] at h
  | 0, .dic _, _, _, h, _, _, _, _ => by simp [plainZ] at h
  | _, .rng _ _, _, _, h, _, _, _, _ => by simp [plainZ] at h
  | _, .own _, _, _, h, _, _, _, _ => by simp [plainZ] at h
  | _, .scr _, _, _, h, _, _, _, _ => by simp [plainZ] at h
theorem zDic (I : Inv X pins σ H s) : ∀ {n : Nat} {l : List (D × D)} {a : Addr} {kvs : List (Key × V)}, plainZ (n + 1) (.dic l) = true → Rd H a (.dK kvs) → RepK (kwOf X) g H l kvs → (toPy (.dic l)).showable = true → (PyData.shown (toPy (.dic l))).length ≤ sizeLine →
    (∃ as, Reads s.heap (.ref a) (toPy (.dic l)) as) ∧ ∃ o es ep, s.heap.get? a = some o ∧ o.cls = .type "dict" ∧ o.data = .dict es ep ∧ (a == sysModules) = false ∧ ∃ bs, ReadAtMost s.heap (PyData.depthKv (toPyK l)) bs ∧ ReprEntriesK X.prog X.w bs s.heap (PyData.depthKv (toPyK l)) es.toList (PyData.shownKv (toPyK l))
  | n, [], a, _, h, h2, h3, hs, hz => by
    obtain ⟨o, es, ep, ho, hc, hd, hsys, hcase⟩ := dic_one I h2 h3 (by simp)
    rcases hcase with ⟨_, ee⟩ | ⟨k, d, v, ek, ev, e, e0, _⟩
    · refine ⟨⟨_, Reads.dict (kvs := []) ho hc hd (by rw [ee]; exact .nil) (by rw [ee]; exact .nil)⟩, o, es, ep, ho, hc, hd, hsys, [], nil_rd, ?_⟩
      rw [ee]; simp only [toPyK, PyData.shownKv]; exact .nil
    · cases e0
  | n, (kd, d) :: r, a, _, h, h2, h3, hs, hz => by
    have h' : ((kd, d) :: r).length ≤ 1 ∧ plainZK n ((kd, d) :: r) = true := by simpa [plainZ] using h
    have hz' : (dictText (PyData.shownKv (toPyK ((kd, d) :: r)))).length ≤ sizeLine := by simpa only [toPy, PyData.shown] using hz
    have hs' : PyData.showableKv (toPyK ((kd, d) :: r)) = true := by simpa [toPy, PyData.showable] using hs
    obtain ⟨o, es, ep, ho, hc, hd, hsys, hcase⟩ := dic_one I h2 h3 h'.1
    rcases hcase with ⟨e0, _⟩ | ⟨k, d', v, ek, ev, e, e0, ee, rfl, rfl, hk, rv, rd'⟩
    · cases e0
    · cases e0
      have h'' : (plainZ 0 (keyD k) = true ∧ plainZ n d = true) ∧ plainZK n [] = true := by simpa [plainZK] using h'.2
      obtain ⟨s1, s2⟩ := PyData.showableKv_split _ hs'
      have s1' : (toPy (keyD k)).showable = true := by simpa [toPyK, PyData.showableAll] using s1
      have s2' : (toPy d).showable = true := by simpa [toPyK, PyData.showableAll] using s2
      have z1 : (PyData.shown (toPy (keyD k))).length ≤ sizeLine := by
        obtain ⟨p, hp, hl⟩ := PyData.shownKv_key_le (toPyK [(keyD k, d)]) (PyData.shown (toPy (keyD k))) (by simp [toPyK, PyData.shownAll])
        exact Nat.le_trans hl (Nat.le_trans (dictText_mem_le hp) hz')
      have z2 : (PyData.shown (toPy d)).length ≤ sizeLine := by
        obtain ⟨p, hp, hl⟩ := PyData.shownKv_val_le (toPyK [(keyD k, d)]) (PyData.shown (toPy d)) (by simp [toPyK, PyData.shownAll])
        exact Nat.le_trans hl (Nat.le_trans (dictText_mem_le hp) hz')
      obtain ⟨ka, kr⟩ := key_data k _ hk s.heap
      obtain ⟨va, vr⟩ := zReads I h''.1.2 rd' rv
      obtain ⟨as1, a1, a2⟩ := key_shw (X := X) k _ hk s.heap s1' z1
      obtain ⟨bs1, b1, b2⟩ := zShw I h''.1.2 rd' rv s2' z2
      have le : (toPy d).depth ≤ PyData.depthKv (toPyK [(keyD k, d)]) := by simp only [toPyK, PyData.depthKv]; omega
      refine ⟨⟨_, Reads.dict (kvs := [(toPy (keyD k), toPy d)]) ho hc hd (by rw [ee]; exact .cons kr .nil) (by rw [ee]; exact .cons vr .nil)⟩, o, es, ep, ho, hc, hd, hsys, as1 ++ bs1, (a1.mono (Nat.zero_le _)).append (b1.mono le), ?_⟩
      rw [ee]
      simp only [toPyK, PyData.shownKv]
      exact .cons ((a2.more fun _ hb => List.mem_append_left _ hb).level_le (Nat.zero_le _)) ((b2.more fun _ hb => List.mem_append_right _ hb).level_le le) .nil
theorem zShwL (I : Inv X pins σ H s) : ∀ {n : Nat} {l : List D} {vs : List V} {us : List Value}, plainZL n l = true → Reps (kwOf X) g H l vs → Vals vs us → PyData.showableAll (toPyL l) = true → (∀ t ∈ PyData.shownAll (toPyL l), t.length ≤ sizeLine) →
    ShwL X s.heap (PyData.depthAll (toPyL l)) us (PyData.shownAll (toPyL l))
  | _, [], _, _, _, r, q, _, _ => by
    cases r
    cases q
    exact ⟨[], nil_rd, .nil⟩
  | n, d :: l, _, _, h, r, q, hs, hz => by
    have h' : plainZ n d = true ∧ plainZL n l = true := by simpa [plainZL] using h
    have hs' : (toPy d).showable = true ∧ PyData.showableAll (toPyL l) = true := by simpa [toPyL, PyData.showableAll] using hs
    cases r with
    | cons r1 r2 =>
      cases q with
      | cons q1 q2 =>
        simp only [toPyL, PyData.shownAll, PyData.depthAll] at hz ⊢
        exact ShwL.cons (zShw I h'.1 r1 q1 hs'.1 (hz _ List.mem_cons_self)) (zShwL I h'.2 r2 q2 hs'.2 fun t ht => hz t (List.mem_cons_of_mem _ ht))
end
/-- at the top: a list, a tuple, a dict -/
theorem by_lst (I : Inv X pins σ H s) {n : Nat} {l : List D} {a : Addr} {vs : List V} (h : plainZL n l = true) (e1 : H a = some (.lst vs)) (e2 : Reps (kwOf X) g H l vs) (hs : (toPy (.lst l)).showable = true) (hz : (PyData.shown (toPy (.lst l))).length ≤ sizeLine) :
    ∃ T idr, ShowsBy X.prog X.w s.heap a (toPy (.lst l)) T idr := by
  obtain ⟨its, rv, ⟨o, m, ho, hc, _, hd⟩, _⟩ := I.list (.inl (.inl e1))
  obtain ⟨as, hr⟩ := zReadsL I h e2 rv
  have rd : Reads s.heap (.ref a) (.list (toPyL l)) _ := .list ho hc hd hr
  have hz' : (listText (PyData.shownAll (toPyL l))).length ≤ sizeLine := by simpa only [toPy, PyData.shown] using hz
  obtain ⟨bs, hb, hk⟩ := zShwL I h e2 rv (by simpa [toPy, PyData.showable] using hs) fun t ht => Nat.le_trans (listText_mem_le ht) hz'
  have hna : a ∉ bs := not_mem_of_deeper rd (by simp only [PyData.depth]; omega) hb
  have hlen := hk.length_eq
  refine ⟨"list", "list.__repr__", ⟨F.slot_list_repr.toG, F.slot_list_str, F.slot_list_format, fun s2 k0 => ⟨o, k0 _ _ ho, hc⟩, fun A E s2 Q hg hu k0 hQ => ?_⟩⟩
  simp only [toPy, PyData.depth] at hu
  simp only [toPy, PyData.shown] at hQ
  cases its with
  | nil =>
    cases rv
    cases e2
    exact call_list_repr_empty ⟨o, k0 _ _ ho, hc⟩ (k0 _ _ ho) hd (hQ s2.heap _ _ fun _ _ e => e)
  | cons x t => exact call_list_reprK ho hc hd hna (by simpa using hlen) (fun i y e => hk.item i y (by simpa using e)) hg (fun b _ => Clear.nil b) hu k0 hQ hz'
theorem by_tup (I : Inv X pins σ H s) {n : Nat} {l : List D} {a : Addr} {vs : List V} (h : plainZL n l = true) (e1 : SqT X.K H a vs) (e2 : Reps (kwOf X) g H l vs) (hs : (toPy (.tup l)).showable = true) (hz : (PyData.shown (toPy (.tup l))).length ≤ sizeLine) :
    ∃ T idr, ShowsBy X.prog X.w s.heap a (toPy (.tup l)) T idr := by
  obtain ⟨its, rv, ⟨o, ho, hc, m, hd⟩, _⟩ := I.tuple e1
  obtain ⟨as, hr⟩ := zReadsL I h e2 rv
  have rd : Reads s.heap (.ref a) (.tuple (toPyL l)) _ := .tuple ho hc hd hr
  have hz' : (tupleText (PyData.shownAll (toPyL l))).length ≤ sizeLine := by simpa only [toPy, PyData.shown] using hz
  obtain ⟨bs, hb, hk⟩ := zShwL I h e2 rv (by simpa [toPy, PyData.showable] using hs) fun t ht => Nat.le_trans (tupleText_mem_le ht) hz'
  have hna : a ∉ bs := not_mem_of_deeper rd (by simp only [PyData.depth]; omega) hb
  refine ⟨"tuple", "tuple.__repr__", ⟨F.slot_tuple_repr, F.slot_tuple_str, F.slot_tuple_format, fun s2 k0 => ⟨o, k0 _ _ ho, hc⟩, fun A E s2 Q hg hu k0 hQ => ?_⟩⟩
  simp only [toPy, PyData.depth] at hu
  simp only [toPy, PyData.shown] at hQ
  exact call_tuple_reprK ho hc hd hna hk hg (fun b _ => Clear.nil b) hu k0 hQ hz'
theorem by_dic (I : Inv X pins σ H s) {n : Nat} {l : List (D × D)} {a : Addr} {kvs : List (Key × V)} (h : plainZ (n + 1) (.dic l) = true) (h2 : Rd H a (.dK kvs)) (h3 : RepK (kwOf X) g H l kvs) (hs : (toPy (.dic l)).showable = true) (hz : (PyData.shown (toPy (.dic l))).length ≤ sizeLine) :
    ∃ T idr, ShowsBy X.prog X.w s.heap a (toPy (.dic l)) T idr := by
  obtain ⟨⟨as, rd⟩, o, es, ep, ho, hc, hd, hsys, bs, hb, hE⟩ := zDic I h h2 h3 hs hz
  have hz' : (dictText (PyData.shownKv (toPyK l))).length ≤ sizeLine := by simpa only [toPy, PyData.shown] using hz
  have hna : a ∉ bs := not_mem_of_deeper rd (by simp only [toPy, PyData.depth]; omega) hb
  refine ⟨"dict", "dict.__repr__", ⟨F.slot_dict_repr, F.slot_dict_str, F.slot_dict_format, fun s2 k0 => ⟨o, k0 _ _ ho, hc⟩, fun A E s2 Q hg hu k0 hQ => ?_⟩⟩
  simp only [toPy, PyData.depth] at hu
  simp only [toPy, PyData.shown] at hQ
  exact call_dict_reprK ho hc hd hsys hna hE hg (fun b _ => Clear.nil b) hu k0 hQ hz'
end
end Mc

set_option linter.all false
set_option maxRecDepth 100000
set_option Elab.async false
set_option maxHeartbeats 1000000
namespace Mc
open PySem PySem.Spec PyProof.Rows L2

/-- what is known of names before the run -/
structure Nm where
  sc : Scope
  N : List Str
  fn : Option (List (Str × NameKind))
  glb : List Str
  defs : List Str
  blt : List Str
def Nm.fnOf (nm : Nm) (x : Str) : Bool := match nm.fn with
  | none => true
  | some l => l.lookup x == some .cell
structure Good (nm : Nm) (X : Cx) : Prop where
  N : X.N = nm.N
  nd : nm.N.Nodup
  sc : X.env.scope = nm.sc
  kind : nm.sc.kind = .function
  fn : ∀ x, X.fn x = nm.fnOf x
  calm : X.calm = true
  xe : X.xe = fun _ _ => False
  gd : X.A.guards = some []
  room : Room 0 X.A
  blt : ∀ x ∈ nm.blt, X.mg x = none

section
variable {X : Cx} {Γ : Cfg}
/-- the readings -/
def rdE (X : Cx) (Γ : Cfg) (e : E) : TE := fun σ H Q => ∃ g Bs env st d st', Live (kwOf X) g Bs Γ.base st H ∧ EnvR (kwOf X) g H env σ ∧ evE Γ e env st = some (d, st') ∧
  ∀ v g' H', Live (kwOf X) g' Bs Γ.base st' H' → Ext g H g' H' → Rep (kwOf X) g' H' d v → Q v H'
def rdT (X : Cx) (Γ : Cfg) (t : Te) : TT := fun σ H Q => ∃ g Bs env st k st', Live (kwOf X) g Bs Γ.base st H ∧ EnvR (kwOf X) g H env σ ∧ evT Γ t env st = some (k, st') ∧
  ∀ g' H', Live (kwOf X) g' Bs Γ.base st' H' → Ext g H g' H' → Q k H'
def rdF (X : Cx) (Γ : Cfg) (t : FL) : TT := fun σ H Q => ∃ g Bs env st k st', Live (kwOf X) g Bs Γ.base st H ∧ EnvR (kwOf X) g H env σ ∧ evF Γ t env st = some (k, st') ∧
  ∀ g' H', Live (kwOf X) g' Bs Γ.base st' H' → Ext g H g' H' → Q k H'
def rdL (X : Cx) (Γ : Cfg) (es : EL) : TA := fun σ H Q => ∃ g Bs env st ds st', Live (kwOf X) g Bs Γ.base st H ∧ EnvR (kwOf X) g H env σ ∧ evL Γ es env st = some (ds, st') ∧
  ∀ vs g' H', Live (kwOf X) g' Bs Γ.base st' H' → Ext g H g' H' → Reps (kwOf X) g' H' ds vs → Q vs H'
/-- a chain behind a value -/
def rdC (X : Cx) (Γ : Cfg) (l : CL) (x : V) : TT := fun σ H Q => ∃ g Bs env st d k st', Live (kwOf X) g Bs Γ.base st H ∧ EnvR (kwOf X) g H env σ ∧ Rep (kwOf X) g H d x ∧ evC Γ l d env st = some (k, st') ∧
  ∀ g' H', Live (kwOf X) g' Bs Γ.base st' H' → Ext g H g' H' → Q k H'

theorem PE_imp {e : Expr} {t t' : TE} (h : PE X e t) (i : ∀ σ H Q, t' σ H Q → t σ H Q) : PE X e t' := ⟨fun pins s σ H Q I q => h.run pins s σ H Q I (i _ _ _ q)⟩
theorem PT_imp {e : Expr} {t t' : TT} (h : PT X e t) (i : ∀ σ H Q, t' σ H Q → t σ H Q) : PT X e t' := ⟨fun pins s σ H Q I q => h.run pins s σ H Q I (i _ _ _ q)⟩
theorem PW_imp {e : Expr} {t t' : TT} (h : PW X e t) (i : ∀ σ H Q, t' σ H Q → t σ H Q) : PW X e t' := ⟨fun wh pins s σ H Q I q => h.run wh pins s σ H Q I (i _ _ _ q)⟩
theorem PA_imp {e : List Expr} {t t' : TA} (h : PA X e t) (i : ∀ σ H Q, t' σ H Q → t σ H Q) : PA X e t' := ⟨fun pos pins s σ H Q I q => h.run pos pins s σ H Q I (i _ _ _ q)⟩
theorem bnd {α β : Type} {o : Option α} {f : α → Option β} {b : β} (h : o.bind f = some b) : ∃ a, o = some a ∧ f a = some b := Option.bind_eq_some_iff.mp h
theorem mpd {α β : Type} {o : Option α} {f : α → β} {b : β} (h : o.map f = some b) : ∃ a, o = some a ∧ f a = b := Option.map_eq_some_iff.mp h

variable {a b c x y : Expr} {ea eb ec : E} {pos : Pos} {k : Nat}
theorem s_non : PE X (.Constant .none k pos) (rdE X Γ (.cst .non)) := PE_imp pe_non fun σ H Q ⟨g, Bs, env, st, d, st', L, En, e, q⟩ => by
  rw [evE] at e; cases e; exact q _ _ _ L .refl (.sca .non)
theorem s_bl {b : Bool} : PE X (.Constant (.bool b) k pos) (rdE X Γ (.cst (.bl b))) := PE_imp pe_bl fun σ H Q ⟨g, Bs, env, st, d, st', L, En, e, q⟩ => by
  rw [evE] at e; cases e; exact q _ _ _ L .refl (.sca (.bl _))
theorem s_int {i : Int} : PE X (.Constant (.int i) k pos) (rdE X Γ (.cst (.int i))) := PE_imp pe_int fun σ H Q ⟨g, Bs, env, st, d, st', L, En, e, q⟩ => by
  rw [evE] at e; cases e; exact q _ _ _ L .refl (.sca (.int _))
theorem s_str {z : Tx} : PE X (.Constant (.str (str_ z)) k pos) (rdE X Γ (.cst (.str z))) := PE_imp pe_str fun σ H Q ⟨g, Bs, env, st, d, st', L, En, e, q⟩ => by
  rw [evE] at e; cases e; exact q _ _ _ L .refl (.sca (.str _))
theorem s_var {i : Nat} {z : Str} (hN : X.N[i]? = some z) (hv : Vis X.env.scope z) (hd : (z == ("__debug__" : Str)) = false) (hcd : (z == ("__classdict__" : Str)) = false) : PE X (.Name z pos) (rdE X Γ (.var i)) :=
  PE_imp (pe_var hN hv hd hcd) fun σ H Q ⟨g, Bs, env, st, d, st', L, En, e, q⟩ => by
    rw [evE] at e
    split at e
    · rename_i d' h
      cases e
      obtain ⟨v, h1, h2⟩ := En.2 i _ h
      exact ⟨v, h1, q v g H L .refl h2⟩
    · cases e
theorem s_glb {j : Nat} {z : Str} {v : V} {u : Value} {dj : D} (hg : Gl X z) (hm : X.mg z = some u) (r : RelV v u) (hd : (z == ("__debug__" : Str)) = false) (hj : Γ.glb[j]? = some dj) (hr : ∀ g H, Rep (kwOf X) g H dj v) : PE X (.Name z pos) (rdE X Γ (.glb j)) :=
  PE_imp (pe_glob hg hm r hd) fun σ H Q ⟨g, Bs, env, st, d, st', L, En, e, q⟩ => by
    rw [evE, hj] at e; cases e; exact q v g H L .refl (hr g H)
theorem s_bin {o : Bop} {c : Bool} (ha : PE X a (rdE X Γ ea)) (hb : PE X b (rdE X Γ eb)) : PE X (.BinOp a (bopOf o) b pos) (rdE X Γ (.bin o ea eb c)) :=
  PE_imp (pe_op (op_bin o c) ha hb) fun σ H Q ⟨g, Bs, env, st, d, st', L, En, e, q⟩ => by
    rw [evE] at e
    obtain ⟨⟨d1, st1⟩, e1, e⟩ := bnd e
    obtain ⟨⟨d2, st2⟩, e2, e⟩ := bnd e
    exact ⟨g, Bs, env, st, d1, st1, L, En, e1, fun v g1 H1 L1 x1 r1 => ⟨g1, Bs, env, st1, d2, st2, L1, En.mono x1, e2, fun u g2 H2 L2 x2 r2 =>
      ⟨g2, Bs, Γ.base, st2, d1, d2, d, st', L2, r1.mono x2, r2, e, fun w g3 H3 L3 x3 r3 => q w g3 H3 L3 ((x1.trans x2).trans x3) r3⟩⟩⟩
theorem s_neg (ha : PE X a (rdE X Γ ea)) : PE X (.UnaryOp .USub a pos) (rdE X Γ (.neg ea)) :=
  PE_imp (pe_un un_neg ha) fun σ H Q ⟨g, Bs, env, st, d, st', L, En, e, q⟩ => by
    rw [evE] at e
    obtain ⟨⟨d1, st1⟩, e1, e⟩ := bnd e
    refine ⟨g, Bs, env, st, d1, st1, L, En, e1, fun v g1 H1 L1 x1 r1 => ?_⟩
    simp only at e
    split at e
    · cases e
      exact ⟨_, r1.int_, q _ _ _ L1 x1 (.sca (.int _))⟩
    · cases e
theorem s_nt (ha : PE X a (rdE X Γ ea)) : PE X (.UnaryOp .Not a pos) (rdE X Γ (.nt ea)) :=
  PE_imp (pe_notT ha) fun σ H Q ⟨g, Bs, env, st, d, st', L, En, e, q⟩ => by
    rw [evE] at e
    obtain ⟨⟨d1, st1⟩, e1, e⟩ := bnd e
    obtain ⟨k, e2, e⟩ := mpd e
    cases e
    exact ⟨g, Bs, env, st, d1, st1, L, En, e1, fun v g1 H1 L1 x1 r1 => ⟨k, tru_v L1 r1 e2, q _ _ _ L1 x1 (.sca (.bl _))⟩⟩
theorem s_and1 {op : BoolOp} {t : TE} (ha : PE X a t) : PE X (.BoolOp op [a] pos) t := ⟨fun pins s σ H Q I h => by
  have e : eval (.BoolOp op [a] pos) X.env = eval a X.env := rfl
  rw [e]
  exact ha.run pins s σ H Q I h⟩
theorem s_and {rest : List Expr} (ha : PE X a (rdE X Γ ea)) (hb : PE X (.BoolOp .And (b :: rest) pos) (rdE X Γ eb)) : PE X (.BoolOp .And (a :: b :: rest) pos) (rdE X Γ (.and ea eb)) :=
  PE_imp (pe_andT ha hb) fun σ H Q ⟨g, Bs, env, st, d, st', L, En, e, q⟩ => by
    rw [evE] at e
    obtain ⟨⟨d1, st1⟩, e1, e⟩ := bnd e
    obtain ⟨k, e2, e⟩ := bnd e
    refine ⟨g, Bs, env, st, d1, st1, L, En, e1, fun v g1 H1 L1 x1 r1 => ⟨k, tru_v L1 r1 e2, ?_⟩⟩
    split at e
    · rename_i hk
      rw [if_pos hk]
      exact ⟨g1, Bs, env, st1, d, st', L1, En.mono x1, e, fun w g2 H2 L2 x2 r2 => q w g2 H2 L2 (x1.trans x2) r2⟩
    · rename_i hk
      rw [if_neg hk]
      cases e
      exact q _ _ _ L1 x1 r1
theorem s_or {rest : List Expr} (ha : PE X a (rdE X Γ ea)) (hb : PE X (.BoolOp .Or (b :: rest) pos) (rdE X Γ eb)) : PE X (.BoolOp .Or (a :: b :: rest) pos) (rdE X Γ (.or ea eb)) :=
  PE_imp (pe_orT ha hb) fun σ H Q ⟨g, Bs, env, st, d, st', L, En, e, q⟩ => by
    rw [evE] at e
    obtain ⟨⟨d1, st1⟩, e1, e⟩ := bnd e
    obtain ⟨k, e2, e⟩ := bnd e
    refine ⟨g, Bs, env, st, d1, st1, L, En, e1, fun v g1 H1 L1 x1 r1 => ⟨k, tru_v L1 r1 e2, ?_⟩⟩
    split at e
    · rename_i hk
      rw [if_pos hk]
      cases e
      exact q _ _ _ L1 x1 r1
    · rename_i hk
      rw [if_neg hk]
      exact ⟨g1, Bs, env, st1, d, st', L1, En.mono x1, e, fun w g2 H2 L2 x2 r2 => q w g2 H2 L2 (x1.trans x2) r2⟩
theorem s_ife {tt : Te} (hc : PT X c (rdT X Γ tt)) (ha : PE X a (rdE X Γ ea)) (hb : PE X b (rdE X Γ eb)) : PE X (.IfExp c a b pos) (rdE X Γ (.ife tt ea eb)) :=
  PE_imp (pe_ifExp hc ha hb) fun σ H Q ⟨g, Bs, env, st, d, st', L, En, e, q⟩ => by
    rw [evE] at e
    obtain ⟨⟨k, st1⟩, e1, e⟩ := bnd e
    refine ⟨g, Bs, env, st, k, st1, L, En, e1, fun g1 H1 L1 x1 => ?_⟩
    simp only at e
    split at e
    · rename_i hk
      rw [if_pos hk]
      exact ⟨g1, Bs, env, st1, d, st', L1, En.mono x1, e, fun w g2 H2 L2 x2 r2 => q w g2 H2 L2 (x1.trans x2) r2⟩
    · rename_i hk
      rw [if_neg hk]
      exact ⟨g1, Bs, env, st1, d, st', L1, En.mono x1, e, fun w g2 H2 L2 x2 r2 => q w g2 H2 L2 (x1.trans x2) r2⟩

theorem t_ex (ha : PE X a (rdE X Γ ea)) (he : ∀ whole, isTrue a X.env whole = (do let v ← whole; standAt a.pos; holding [v] (truthy v))) : PT X a (rdT X Γ (.ex ea)) :=
  PT_imp (pt_truth ha he) fun σ H Q ⟨g, Bs, env, st, k, st', L, En, e, q⟩ => by
    rw [evT] at e
    obtain ⟨⟨d1, st1⟩, e1, e⟩ := bnd e
    obtain ⟨k, e2, e⟩ := mpd e
    cases e
    exact ⟨g, Bs, env, st, d1, st1, L, En, e1, fun v g1 H1 L1 x1 r1 => ⟨k, tru_v L1 r1 e2, q _ _ L1 x1⟩⟩
theorem t_not {tt : Te} (ha : PT X a (rdT X Γ tt)) : PT X (.UnaryOp .Not a pos) (rdT X Γ (.nt tt)) :=
  PT_imp (pt_not ha) fun σ H Q ⟨g, Bs, env, st, k, st', L, En, e, q⟩ => by
    rw [evT] at e
    obtain ⟨⟨k1, st1⟩, e1, e⟩ := mpd e
    cases e
    exact ⟨g, Bs, env, st, k1, st1, L, En, e1, q⟩
theorem t_and {ta tb : Te} {rest : List Expr} (ha : PT X a (rdT X Γ ta)) (hb : PW X (.BoolOp .And (b :: rest) pos) (rdT X Γ tb)) : PW X (.BoolOp .And (a :: b :: rest) pos) (rdT X Γ (.and ta tb)) :=
  PW_imp (pw_and ha hb) fun σ H Q ⟨g, Bs, env, st, k, st', L, En, e, q⟩ => by
    rw [evT] at e
    obtain ⟨⟨k1, st1⟩, e1, e⟩ := bnd e
    refine ⟨g, Bs, env, st, k1, st1, L, En, e1, fun g1 H1 L1 x1 => ?_⟩
    simp only at e
    split at e
    · rename_i hk
      rw [if_pos hk]
      exact ⟨g1, Bs, env, st1, k, st', L1, En.mono x1, e, fun g2 H2 L2 x2 => q g2 H2 L2 (x1.trans x2)⟩
    · rename_i hk
      rw [if_neg hk]
      cases e
      exact q _ _ L1 x1
theorem t_or {ta tb : Te} {rest : List Expr} (ha : PT X a (rdT X Γ ta)) (hb : PW X (.BoolOp .Or (b :: rest) pos) (rdT X Γ tb)) : PW X (.BoolOp .Or (a :: b :: rest) pos) (rdT X Γ (.or ta tb)) :=
  PW_imp (pw_or ha hb) fun σ H Q ⟨g, Bs, env, st, k, st', L, En, e, q⟩ => by
    rw [evT] at e
    obtain ⟨⟨k1, st1⟩, e1, e⟩ := bnd e
    refine ⟨g, Bs, env, st, k1, st1, L, En, e1, fun g1 H1 L1 x1 => ?_⟩
    simp only at e
    split at e
    · rename_i hk
      rw [if_pos hk]
      cases e
      exact q _ _ L1 x1
    · rename_i hk
      rw [if_neg hk]
      exact ⟨g1, Bs, env, st1, k, st', L1, En.mono x1, e, fun g2 H2 L2 x2 => q g2 H2 L2 (x1.trans x2)⟩
theorem t_ife {tt ta tb : Te} (hc : PT X c (rdT X Γ tt)) (ha : PT X a (rdT X Γ ta)) (hb : PT X b (rdT X Γ tb)) : PT X (.IfExp c a b pos) (rdT X Γ (.ife tt ta tb)) :=
  ⟨fun pins s σ H Q I ⟨g, Bs, env, st, k, st', L, En, e, q⟩ => by
    rw [evT] at e
    obtain ⟨⟨k1, st1⟩, e1, e⟩ := bnd e
    show wpAny _ _ (do if ← isTrue c X.env (eval c X.env) then isTrue a X.env (eval a X.env) else isTrue b X.env (eval b X.env)) _ _ s
    refine wpAny_bind (thn (hc.run pins s σ H (fun c' H1 => c' = k1 ∧ ∃ g1, Live (kwOf X) g1 Bs Γ.base st1 H1 ∧ Ext g H g1 H1) I ⟨g, Bs, env, st, k1, st1, L, En, e1, fun g1 H1 L1 x1 => ⟨rfl, g1, L1, x1⟩⟩) fun c' s1 ⟨H1, I1, ec, g1, L1, x1⟩ => ?_)
    subst ec
    simp only at e
    cases c' with
    | true => exact ha.run pins s1 σ H1 Q I1 ⟨g1, Bs, env, st1, k, st', L1, En.mono x1, e, fun g2 H2 L2 x2 => q g2 H2 L2 (x1.trans x2)⟩
    | false => exact hb.run pins s1 σ H1 Q I1 ⟨g1, Bs, env, st1, k, st', L1, En.mono x1, e, fun g2 H2 L2 x2 => q g2 H2 L2 (x1.trans x2)⟩⟩
structure PCh (X : Cx) (ops : List CmpOp) (cs : List Expr) (t : V → TT) : Prop where
  val : ∀ (pos : Pos) (pins : List (Addr × Obj)) (s : Shared) (σ : L2.St) (H : Hp) (x : V) (v : Value) (Q : VK), Inv X pins σ H s → RelV x v → t x σ H (fun k H' => Q (.bl k) H') →
    wpAny (model X.prog X.w) X.A (compareChain pos v ops (evalEach cs X.env)) (EP X pins σ Q) X.xe s
  tst : ∀ (pos : Pos) (pins : List (Addr × Obj)) (s : Shared) (σ : L2.St) (H : Hp) (x : V) (v : Value) (Q : Bool → Hp → Prop), Inv X pins σ H s → RelV x v → t x σ H Q →
    wpAny (model X.prog X.w) X.A (testChain pos v ops (evalEach cs X.env)) (TP X pins σ Q) X.xe s
  mark : lastMarks ops cs = false
  ne : ops ≠ [] ∧ cs ≠ []
theorem c_one {o : Cop} (hr : X.A.units + 65 < cLine) (hb : PE X b (rdE X Γ eb)) (hm : behindInMarks (copOf o) b = false) : PCh X [copOf o] [b] (rdC X Γ (.one o eb)) := by
  refine ⟨fun pos pins s σ H x v Q I rx ⟨g, Bs, env, st, d, k, st', L, En, r, e, q⟩ => ?_, fun pos pins s σ H x v Q I rx ⟨g, Bs, env, st, d, k, st', L, En, r, e, q⟩ => ?_, by simpa [lastMarks] using hm, by simp⟩
  · rw [evC] at e
    obtain ⟨⟨d1, st1⟩, e1, e⟩ := bnd e
    obtain ⟨k', e2, e⟩ := mpd e
    cases e
    refine chain_last (thn (hb.run pins s σ H (fun y H1 => rCmp (kwOf X) o x y H1 Q) I ⟨g, Bs, env, st, d1, st1, L, En, e1, fun u g1 H1 L1 x1 r1 => ⟨g1, Bs, Γ.base, st1, d, d1, k, L1, r.mono x1, r1, e2, q _ _ L1 x1⟩⟩) fun u s1 ⟨y, H1, I1, ry, q1⟩ => ?_)
    exact op_cmp o hr pins s1 σ H1 x y v u Q I1 rx ry q1
  · rw [evC] at e
    obtain ⟨⟨d1, st1⟩, e1, e⟩ := bnd e
    obtain ⟨k', e2, e⟩ := mpd e
    cases e
    refine test_last (thn (hb.run pins s σ H (fun y H1 => rCmp (kwOf X) o x y H1 fun z H2 => z = .bl k ∧ Q k H2) I ⟨g, Bs, env, st, d1, st1, L, En, e1, fun u g1 H1 L1 x1 r1 => ⟨g1, Bs, Γ.base, st1, d, d1, k, L1, r.mono x1, r1, e2, rfl, q _ _ L1 x1⟩⟩) fun u s1 ⟨y, H1, I1, ry, q1⟩ => ?_)
    refine thn (op_cmp o hr pins s1 σ H1 x y v u _ I1 rx ry q1) fun c s2 ⟨z, H2, I2, rz, ez, q2⟩ => ?_
    subst ez
    cases rz
    exact wpAny_truthy_bool ⟨H2, I2, q2⟩
theorem c_cons {o : Cop} {ops : List CmpOp} {cs : List Expr} {l : CL} (hr : X.A.units + 65 < cLine) (hb : PE X b (rdE X Γ eb)) (hl : PCh X ops cs (rdC X Γ l)) : PCh X (copOf o :: ops) (b :: cs) (rdC X Γ (.cons o eb l)) := by
  obtain ⟨hv, ht, hm, hn1, hn2⟩ := hl
  cases ops with
  | nil => exact absurd rfl hn1
  | cons op' ops =>
  cases cs with
  | nil => exact absurd rfl hn2
  | cons c' cs =>
  refine ⟨fun pos pins s σ H x v Q I rx ⟨g, Bs, env, st, d, k, st', L, En, r, e, q⟩ => ?_, fun pos pins s σ H x v Q I rx ⟨g, Bs, env, st, d, k, st', L, En, r, e, q⟩ => ?_, by simpa [lastMarks] using hm, by simp⟩
  · rw [evC] at e
    obtain ⟨⟨d1, st1⟩, e1, e⟩ := bnd e
    obtain ⟨k', e2, e⟩ := bnd e
    show wpAny _ _ (compareChain pos v (copOf o :: op' :: ops) (eval b X.env :: eval c' X.env :: evalEach cs X.env)) _ _ s
    refine chain_link (thn (hb.run pins s σ H (fun y H1 => ∃ g1, Live (kwOf X) g1 Bs Γ.base st1 H1 ∧ Ext g H g1 H1 ∧ Rep (kwOf X) g1 H1 d1 y) I ⟨g, Bs, env, st, d1, st1, L, En, e1, fun u g1 H1 L1 x1 r1 => ⟨g1, L1, x1, r1⟩⟩) fun u s1 ⟨y, H1, I1, ry, g1, L1, x1, r1⟩ => ?_)
    refine thn (op_cmp o hr pins s1 σ H1 x y v u (fun z H2 => z = .bl k' ∧ H2 = H1) I1 rx ry ⟨g1, Bs, Γ.base, st1, d, d1, k', L1, r.mono x1, r1, e2, rfl, rfl⟩) fun c s2 ⟨z, H2, I2, rz, ez, eh⟩ => ?_
    subst ez eh
    cases rz
    refine wpAny_truthy_bool ?_
    cases k' with
    | true => exact ite_tt (hv pos pins s2 σ H2 y u Q I2 ry ⟨g1, Bs, env, st1, d1, k, st', L1, En.mono x1, r1, e, fun g2 H2 L2 x2 => q _ _ L2 (x1.trans x2)⟩)
    | false => cases e; exact ite_ff ⟨.bl false, H2, I2, rfl, q _ _ L1 x1⟩
  · rw [evC] at e
    obtain ⟨⟨d1, st1⟩, e1, e⟩ := bnd e
    obtain ⟨k', e2, e⟩ := bnd e
    show wpAny _ _ (testChain pos v (copOf o :: op' :: ops) (eval b X.env :: eval c' X.env :: evalEach cs X.env)) _ _ s
    refine test_link (thn (hb.run pins s σ H (fun y H1 => ∃ g1, Live (kwOf X) g1 Bs Γ.base st1 H1 ∧ Ext g H g1 H1 ∧ Rep (kwOf X) g1 H1 d1 y) I ⟨g, Bs, env, st, d1, st1, L, En, e1, fun u g1 H1 L1 x1 r1 => ⟨g1, L1, x1, r1⟩⟩) fun u s1 ⟨y, H1, I1, ry, g1, L1, x1, r1⟩ => ?_)
    refine thn (op_cmp o hr pins s1 σ H1 x y v u (fun z H2 => z = .bl k' ∧ H2 = H1) I1 rx ry ⟨g1, Bs, Γ.base, st1, d, d1, k', L1, r.mono x1, r1, e2, rfl, rfl⟩) fun c s2 ⟨z, H2, I2, rz, ez, eh⟩ => ?_
    subst ez eh
    cases rz
    refine wpAny_truthy_bool ?_
    cases k' with
    | true => exact ite_tt (ht pos pins s2 σ H2 y u Q I2 ry ⟨g1, Bs, env, st1, d1, k, st', L1, En.mono x1, r1, e, fun g2 H2 L2 x2 => q _ _ L2 (x1.trans x2)⟩)
    | false => cases e; exact ite_ff ⟨H2, I2, q _ _ L1 x1⟩
theorem s_cmp {ops : List CmpOp} {cs : List Expr} {l : CL} (ha : PE X a (rdE X Γ ea)) (hl : PCh X ops cs (rdC X Γ l)) : PE X (.Compare a ops cs pos) (rdE X Γ (.cmp ea l)) :=
  ⟨fun pins s σ H Q I ⟨g, Bs, env, st, d, st', L, En, e, q⟩ => by
    rw [evE] at e
    obtain ⟨⟨d1, st1⟩, e1, e⟩ := bnd e
    obtain ⟨⟨k, st2⟩, e2, e⟩ := mpd e
    cases e
    show wpAny _ _ (do compareChain pos (← eval a X.env) ops (markedEach ops cs (evalEach cs X.env))) _ _ s
    rw [markedEach_of_false _ _ _ hl.mark]
    refine wpAny_bind (thn (ha.run pins s σ H (fun y H1 => ∃ g1, Live (kwOf X) g1 Bs Γ.base st1 H1 ∧ Ext g H g1 H1 ∧ Rep (kwOf X) g1 H1 d1 y) I ⟨g, Bs, env, st, d1, st1, L, En, e1, fun u g1 H1 L1 x1 r1 => ⟨g1, L1, x1, r1⟩⟩) fun u s1 ⟨y, H1, I1, ry, g1, L1, x1, r1⟩ => ?_)
    exact hl.val pos pins s1 σ H1 y u Q I1 ry ⟨g1, Bs, env, st1, d1, k, _, L1, En.mono x1, r1, e2, fun g2 H2 L2 x2 => q _ _ _ L2 (x1.trans x2) (.sca (.bl _))⟩⟩
theorem t_cmp {ops : List CmpOp} {cs : List Expr} {l : CL} (ha : PE X a (rdE X Γ ea)) (hl : PCh X ops cs (rdC X Γ l)) : PT X (.Compare a ops cs pos) (rdT X Γ (.cmp ea l)) :=
  ⟨fun pins s σ H Q I ⟨g, Bs, env, st, k, st', L, En, e, q⟩ => by
    rw [evT] at e
    obtain ⟨⟨d1, st1⟩, e1, e⟩ := bnd e
    show wpAny _ _ (do testChain pos (← eval a X.env) ops (markedEach ops cs (evalEach cs X.env))) _ _ s
    rw [markedEach_of_false _ _ _ hl.mark]
    refine wpAny_bind (thn (ha.run pins s σ H (fun y H1 => ∃ g1, Live (kwOf X) g1 Bs Γ.base st1 H1 ∧ Ext g H g1 H1 ∧ Rep (kwOf X) g1 H1 d1 y) I ⟨g, Bs, env, st, d1, st1, L, En, e1, fun u g1 H1 L1 x1 r1 => ⟨g1, L1, x1, r1⟩⟩) fun u s1 ⟨y, H1, I1, ry, g1, L1, x1, r1⟩ => ?_)
    exact hl.tst pos pins s1 σ H1 y u Q I1 ry ⟨g1, Bs, env, st1, d1, k, st', L1, En.mono x1, r1, e, fun g2 H2 L2 x2 => q _ _ L2 (x1.trans x2)⟩⟩
theorem l_nil : PA X [] (rdL X Γ .nil) := PA_imp pa_nil fun σ H Q ⟨g, Bs, env, st, d, st', L, En, e, q⟩ => by
  rw [evL] at e; cases e; exact q _ _ _ L .refl .nil
def notStar : Expr → Bool
  | .Starred _ _ => false
  | _ => true
theorem star_cons {e : Expr} {es : List Expr} {env : PySem.Env} (h : notStar e = true) : starEach (e :: es) env = (false, eval e env) :: starEach es env := by
  cases e <;> first | rfl | (simp [notStar] at h)
theorem l_cons {es : List Expr} {el : EL} (hs : notStar a = true) (ha : PE X a (rdE X Γ ea)) (hr : PA X es (rdL X Γ el)) : PA X (a :: es) (rdL X Γ (.cons ea el)) :=
  PA_imp (pa_cons ha hr (star_cons hs)) fun σ H Q ⟨g, Bs, env, st, ds, st', L, En, e, q⟩ => by
    rw [evL] at e
    obtain ⟨⟨d1, st1⟩, e1, e⟩ := bnd e
    obtain ⟨⟨d2, st2⟩, e2, e⟩ := mpd e
    cases e
    exact ⟨g, Bs, env, st, d1, st1, L, En, e1, fun v g1 H1 L1 x1 r1 => ⟨g1, Bs, env, st1, d2, st2, L1, En.mono x1, e2, fun us g2 H2 L2 x2 r2 => q _ _ _ L2 (x1.trans x2) (.cons (r1.mono x2) r2)⟩⟩
theorem s_tup {es : List Expr} {el : EL} (h : PA X es (rdL X Γ el)) : PE X (.Tuple es k pos) (rdE X Γ (.tup el)) :=
  PE_imp (pe_tup h) fun σ H Q ⟨g, Bs, env, st, d, st', L, En, e, q⟩ => by
    rw [evE] at e
    obtain ⟨⟨ds, st1⟩, e1, e⟩ := bnd e
    split at e
    · rename_i hz
      cases e
      refine ⟨g, Bs, env, st, ds, _, L, En, e1, fun vs g1 H1 L1 x1 r1 => ⟨by rw [← r1.length, ← line_eq]; exact hz, fun p hp => ?_⟩⟩
      exact Out.tup (fun v g2 H2 L2 x2 r2 => q v g2 H2 L2 (x1.trans x2) r2) L1 hp r1
    · cases e
theorem s_lst {es : List Expr} {el : EL} {c : Bool} (h : PA X es (rdL X Γ el)) : PE X (.List es pos) (rdE X Γ (.lst el c)) :=
  PE_imp (pe_lst h) fun σ H Q ⟨g, Bs, env, st, d, st', L, En, e, q⟩ => by
    rw [evE] at e
    obtain ⟨⟨ds, st1⟩, e1, e⟩ := bnd e
    split at e
    · rename_i hz
      obtain ⟨rfl, rfl⟩ := pr_of e
      refine ⟨g, Bs, env, st, ds, st1, L, En, e1, fun vs g1 H1 L1 x1 r1 => ⟨by rw [← r1.length, ← line_eq]; exact hz, fun p hp => ?_⟩⟩
      exact Out.mkL (fun v g2 H2 L2 x2 r2 => q v g2 H2 L2 (x1.trans x2) r2) L1 hp r1
    · cases e
end
end Mc

set_option linter.all false
set_option maxRecDepth 100000
set_option Elab.async false
set_option maxHeartbeats 1000000
namespace Mc
open PySem PySem.Spec PyProof.Rows L2

theorem ixn_eq (n : Nat) (i : Int) : ixn n i = ixN n i := rfl
theorem at_eq {α : Type} (l : List α) (i : Int) : at_ l i = atI l i := rfl
theorem six_eq (n d : Nat) (v : Option Int) : six n d v = HT.sIx n d v := by
  cases v <;> rfl
section
variable {κ : Kw} {g : Gh} {H : Hp} {Bs : Nat → Prop} {base : Nat} {st : Sto}
theorem Reps.at {l : List D} {vs : List V} {i : Int} {d : D} (r : Reps κ g H l vs) (e : at_ l i = some d) : ∃ v, atI vs i = some v ∧ Rep κ g H d v := by
  unfold at_ at e
  obtain ⟨j, e1, e2⟩ := bnd e
  obtain ⟨v, h1, h2⟩ := r.get e2
  refine ⟨v, ?_, h2⟩
  unfold atI
  rw [← ixn_eq, ← r.length, e1]
  exact h1
theorem Reps.cut {l : List D} {vs : List V} (r : Reps κ g H l vs) (lo hi : Option Int) : Reps κ g H (Mc.cut l lo hi) (cutV vs lo hi) := by
  unfold Mc.cut cutV
  rw [six_eq, six_eq, r.length]
  exact (r.drop _).take _
theorem reps_int : ∀ l : List Int, Reps κ g H (l.map D.int) (l.map V.int)
  | [] => .nil
  | _ :: r => .cons (.sca (.int _)) (reps_int r)
theorem cut_map {α β : Type} (f : α → β) (l : List α) (lo hi : Option Int) : (cut l lo hi).map f = cut (l.map f) lo hi := by
  unfold cut
  rw [List.map_take, List.map_drop, List.length_map]
end
section
variable {X : Cx} {Γ : Cfg}
/-- dicts, by values -/
theorem ix_dget (hu : X.A.units + 1 < cLine) : IxR X (fun x y H Q => ∃ a v, x = .ref a ∧ DGet H a y (some v) ∧ Q v H) := by
  intro value slice pins s σ H x y v u Q I rx ry ⟨a, w, ex, gt, q⟩ hs
  subst ex
  cases rx
  exact tail_any (dict_typeIs I gt) PySem.F.slot_dict_getitem.lookup (d_getItem hu I gt ry fun w' s3 I3 rw' => ⟨w, H, I3, rw', q⟩) hs
def rIdx (κ : Kw) : R2 := fun x y H Q => ∃ g Bs base st d1 d2 d, Live κ g Bs base st H ∧ Rep κ g H d1 x ∧ Rep κ g H d2 y ∧ idxE d1 d2 st = some d ∧ ∀ v, Rep κ g H d v → Q v H
theorem op_idx (hu : X.A.units + 1 < cLine) : IxR X (rIdx (kwOf X)) := by
  intro value slice pins s σ H x y v u Q I rx ry h hs
  obtain ⟨g, Bs, base, st, d1, d2, d, L, r1, r2, e, q⟩ := h
  unfold idxE at e
  split at e
  · rename_i z
    split at e
    · rename_i i
      split at e
      · rename_i hz
        obtain ⟨c, e1, e2⟩ := mpd e
        subst e2
        have ex := r1.str_; have ey := r2.int_; subst ex ey
        exact ix_str value slice pins s σ H _ _ v u Q I rx ry ⟨str_ z, i, c, rfl, rfl, by rw [str_len, ← line_eq]; exact hz, by rw [str_tl]; exact e1, q _ (.sca (.str [c]))⟩ hs
      · cases e
    · cases e
  · split at e
    · rename_i l hl
      obtain ⟨a, vs, rfl, hq, rs⟩ := seq_at L r1 hl
      split at e
      · rename_i i
        have ey := r2.int_; subst ey
        obtain ⟨w, e1, r3⟩ := rs.at e
        rcases hq with hq | hq
        · exact ix_list value slice pins s σ H _ _ v u Q I rx ry ⟨a, vs, i, w, rfl, rfl, hq, e1, q _ r3⟩ hs
        · exact ix_tup value slice pins s σ H _ _ v u Q I rx ry ⟨a, vs, i, w, rfl, rfl, hq, e1, q _ r3⟩ hs
      · cases e
    · split at e
      · rename_i l hl
        split at e
        · rename_i hk
          obtain ⟨key, rfl, hkv⟩ := key_of_d (keyOk_key hk)
          have ex := hkv r2
          subst ex
          cases d1 with
          | dic m =>
            cases hl
            cases r1 with
            | sca q => cases q
            | dic h1 h2 h3 =>
              obtain ⟨w, e1, r3⟩ := (h3.look key).2 _ e
              exact ix_dget hu value slice pins s σ H _ _ v u Q I rx ry ⟨_, w, rfl, .inl ⟨_, key, h2, rfl, e1.symm⟩, q _ r3⟩ hs
            | wdic hw2 hw =>
              rename_i pa
              obtain ⟨⟨es, n, KD⟩, ⟨_, hi⟩, hzz⟩ := hw
              cases key with
              | inl i => rw [show keyOk (.dic l) l (keyD (.inl i)) = l.any (fun p => isInt p.1) from rfl, hi] at hk; cases hk
              | inr z =>
                obtain ⟨w1, w2⟩ := hzz z.cps.toList
                have ez : str_ z.cps.toList = z := by simp [str_]
                rw [ez] at w1 w2
                obtain ⟨uv, w, h1, h2, h3⟩ := w2 d e
                exact ix_kdict value slice pins s σ H _ _ v u Q I rx ry ⟨pa, z, w, rfl, rfl, ⟨es, n, uv, KD.1, KD.2, h1, h2⟩, q _ (.sca h3)⟩ hs
          | own m =>
            simp only [dicOf] at hl
            split at hl
            · rename_i l' hm
              cases hl
              obtain ⟨a, kvs, rfl, _, h2, h3⟩ := own_dic L r1 hm
              obtain ⟨w, e1, r3⟩ := (h3.look key).2 _ e
              exact ix_dget hu value slice pins s σ H _ _ v u Q I rx ry ⟨_, w, rfl, e1 ▸ .k h2, q _ r3⟩ hs
            · cases hl
          | _ => cases hl
        · cases e
      · cases e
def rSlc (κ : Kw) (c : Bool) : V → Option Int → Option Int → Hp → VK → Prop := fun x lo hi H Q => ∃ g Bs base st d1 d st', Live κ g Bs base st H ∧ Rep κ g H d1 x ∧ slcE d1 lo hi c st = some (d, st') ∧ Out κ g H Bs base d st' Q
theorem op_slc (c : Bool) : SlR X (rSlc (kwOf X) c) := by
  intro pins s σ H x v vl vu lo hi sl Q I rx hs pl pu h
  obtain ⟨g, Bs, base, st, d1, d, st', L, r1, e, q⟩ := h
  unfold slcE at e
  split at e
  · rename_i z
    split at e
    · rename_i hz
      cases e
      have ex := r1.str_; subst ex
      refine sl_str pins s σ H _ v vl vu lo hi sl Q I rx hs pl pu ⟨str_ z, rfl, by rw [str_len, ← line_eq]; exact hz, ?_⟩
      have : cutS (str_ z) lo hi = str_ (cut z lo hi) := by
        unfold cutS
        show (⟨_⟩ : Str) = ⟨_⟩
        unfold cut
        rw [six_eq, six_eq, str_tl, str_len]
      rw [this]
      exact q.here L (.sca (.str _))
    · cases e
  · rename_i l
    cases e
    obtain ⟨a, vs, rfl, t1, p1⟩ := r1.tup_
    refine sl_tupA pins s σ H _ v vl vu lo hi sl Q I rx hs pl pu ⟨a, vs, rfl, t1.sq, fun ⟨h1, h2⟩ => ?_, fun _ p hp => q.tup L hp (p1.cut lo hi)⟩
    have : cut l lo hi = l := by
      unfold cut
      rw [six_eq, six_eq, p1.length, h1, h2, List.drop_zero]
      exact List.take_of_length_le (by rw [p1.length]; omega)
    rw [this] at q
    exact q.here L r1
  · rename_i l
    obtain ⟨rfl, rfl⟩ := pr_of e
    obtain ⟨a, rfl, ha⟩ := r1.scr_
    refine sl_list pins s σ H _ v vl vu lo hi sl Q I rx hs pl pu ⟨a, _, rfl, ha.sq, fun p hp => q.mkL L hp ?_⟩
    rw [cut_map]
    exact (reps_int l).cut lo hi
  · obtain ⟨l, e1, e2⟩ := mpd e
    obtain ⟨rfl, rfl⟩ := pr_of (congrArg some e2).symm.symm
    obtain ⟨a, vs, rfl, t1, p1⟩ := lst_at L r1 e1
    exact sl_list pins s σ H _ v vl vu lo hi sl Q I rx hs pl pu ⟨a, vs, rfl, .inl (.inl t1), fun p hp => q.mkL L hp (p1.cut lo hi)⟩

theorem sliceApplied_rev {M : Model} {A : Around} {E : Value → Shared → Prop} {s : Shared} {prog : Program} {w : World} {sl : Addr} {t : Tok} {n : Nat} {Q : Int × Int × Nat → Shared → Prop} (hs : s.heap.IsSliceOf sl .none .none (.int (-1) t))
    (h : Q ((n : Int) - 1, -1, n) s) : wpAny (model prog w) A (Builtin.Slice.sliceApplied (.ref sl) (pure (n : Int))) Q E s := by
  obtain ⟨os, hos, hcs, hds⟩ := id hs
  unfold Builtin.Slice.sliceApplied Builtin.Slice.sliceFields
  refine wpAny_bind (wpAny_bind (wpAny_field hos hds (x := .none) rfl (wpAny_bind (wpAny_field hos hds (x := .none) rfl (wpAny_bind (wpAny_field hos hds (x := .int (-1) t) rfl (wpAny_pure ?_)))))))
  refine wpAny_bind (HT.slicePart_ (.int (-1) t) ?_)
  show wpAny _ _ (if ((-1 : Int) == 0) = true then _ else _) _ _ s
  rw [if_neg (by decide)]
  refine wpAny_bind (HT.slicePart_ .none (wpAny_bind (HT.slicePart_ .none (wpAny_bind (wpAny_pure ?_)))))
  have e : Builtin.Slice.sliceAdjust none none (-1) (n : Int) = ((n : Int) - 1, -1) := by
    unfold Builtin.Slice.sliceAdjust
    simp
  show wpAny _ _ (match Builtin.Slice.sliceAdjust none none (-1) (n : Int) with | (lo, hi) => pure (lo, (-1 : Int), Builtin.Slice.slicePlaces lo hi (-1))) _ _ s
  rw [e]
  show wpAny _ _ (pure ((n : Int) - 1, (-1 : Int), Builtin.Slice.slicePlaces ((n : Int) - 1) (-1) (-1))) _ _ s
  have e2 : Builtin.Slice.slicePlaces ((n : Int) - 1) (-1) (-1) = n := by
    unfold Builtin.Slice.slicePlaces
    simp
    try omega
  rw [e2]
  exact wpAny_pure h
theorem pick_rev (xs : Array Value) : ((List.range xs.size).filterMap fun (m : Nat) => xs[(((xs.size : Nat) : Int) - 1 + (m : Int) * (-1)).toNat]?).toArray = xs.toList.reverse.toArray := by
  congr 1
  have h1 := PySem.W.krv_all xs
  have h2 := PySem.W.krv_range xs.size
  rw [← h1, ← List.filterMap_reverse, ← h2, List.filterMap_map]
  have gen : ∀ l : List Nat, (∀ m ∈ l, m < xs.size) → (l.filterMap fun (m : Nat) => xs[(((xs.size : Nat) : Int) - 1 + (m : Int) * (-1)).toNat]?) = l.filterMap ((fun x => xs[x]?) ∘ fun k => xs.size - 1 - k) := by
    intro l
    induction l with
    | nil => intro _; rfl
    | cons m l ih =>
      intro h
      have hm' : m < xs.size := h m List.mem_cons_self
      have : (((xs.size : Nat) : Int) - 1 + (m : Int) * (-1)).toNat = xs.size - 1 - m := by omega
      rw [List.filterMap_cons, List.filterMap_cons, ih fun k hk => h k (List.mem_cons_of_mem _ hk), this]
      rfl
  exact gen _ fun m hm => List.mem_range.mp hm
theorem getItem_tuple_rev {A : Around} {E : Value → Shared → Prop} {s : Shared} {prog : Program} {w : World} {t sl : Addr} {tk : Tok} {items : Array Value} {Q : Value → Shared → Prop} (ht : IsTup s.heap t items) (hs : s.heap.IsSliceOf sl .none .none (.int (-1) tk))
    (h : Q (.ref s.heap.objs.size) { s with heap := s.heap.push { cls := .type "tuple", data := .seq items.toList.reverse.toArray } })
    (hsz : items.size ≤ sizeLine) : wpAny (model prog w) A (getItem (.ref t) (.ref sl)) Q E s := by
  have htake : sizeOk (.seq items.toList.reverse.toArray) := by
    show items.toList.reverse.toArray.size ≤ sizeLine
    rw [List.size_toArray, List.length_reverse, Array.length_toList]
    exact hsz
  obtain ⟨os, hos, hcs, hds⟩ := id hs
  have hTs : s.TypeIs (.ref sl) "slice" := ⟨os, hos, hcs⟩
  unfold getItem
  try with_reducible refine wpAny_holding ?_
  first | refine wpAny_bind (wpAny_pure ?_) | skip
  refine wpAny_bind (wpAny_sequenceKey ht.typeIs (by decide) ?_)
  refine wpAny_bind (wpAny_callSpecial?_slot (name := Str.ofString "__getitem__") ht.typeIs PyProof.Rows.slot_tuple_getitem
    (wpAny_call_entry PyProof.Rows.slot_tuple_getitem ht.typeIs entry_tuple_getitem ?_ (args_tuple_getitem _ _)))
  show wpAny _ _ (Builtin.Tuple.tupleItemsOf (.ref t) >>= _) _ _ s
  refine wpAny_bind (tupleItemsOf_ ht ?_)
  refine wpAny_bind (wpAny_typeOf hTs ?_)
  rw [if_pos (by decide)]
  refine wpAny_bind (sliceApplied_rev (M := model prog w) hs ?_)
  have hno : ¬ ((((items.size : Nat) : Int) - 1 == 0 && (-1 : Int) == 1 && items.size == items.size) = true) := by
    intro q
    rw [Bool.and_eq_true, Bool.and_eq_true] at q
    exact absurd q.1.2 (by decide)
  show wpAny _ _ (if (((items.size : Nat) : Int) - 1 == 0 && (-1 : Int) == 1 && items.size == items.size) = true then _ else _) _ _ s
  rw [if_neg hno, pick_rev]
  first
    | exact wpAny_bind (m := Builtin.Tuple.tupleExact _) (wpAny_newObj_type (wpAny_pure ⟨_, rfl, wpAny_pure h⟩) htake)
    | exact wpAny_bind (m := Builtin.Tuple.tupleExact _) (wpAny_newObj_type (wpAny_bind (wpAny_pure (wpAny_pure ⟨_, rfl, wpAny_pure h⟩))) htake)
    | exact wpAny_bind (wpAny_bind (m := Builtin.Tuple.tupleExact _) (wpAny_newObj_type (wpAny_pure (wpAny_pure ⟨_, rfl, wpAny_pure h⟩)) htake))
    | exact wpAny_bind (wpAny_bind (m := Builtin.Tuple.tupleExact _) (wpAny_newObj_type (wpAny_pure ⟨_, rfl, wpAny_pure h⟩) htake))
theorem sliceBy_rev (x : Str) (t : Tok) : Txt.sliceBy x none none (-1, t) = ⟨x.cps.toList.reverse.toArray⟩ := by
  unfold Txt.sliceBy
  rw [if_neg (by simp)]
  congr 2
  show (PySem.slicePicked x none none (some (-1, t))).filterMap (x.cps[·]?) = _
  have e : PySem.slicePicked x none none (some (-1, t)) = (List.range x.length).reverse := by
    rw [← PySem.W.krv_range, ← PySem.W.krv_sliceRange]
    rfl
  rw [e, List.filterMap_reverse]
  congr 1
  exact PySem.W.krv_all x.cps
variable {a : Expr} {ea : E} {p1 p2 p3 pos : Pos} {k : Nat}
theorem s_rev {c : Bool} (he : PE X a (rdE X Γ ea)) : PE X (.Subscript a (.Slice none none (some (.UnaryOp .USub (.Constant (.int 1) k p1) p2)) p3) pos) (rdE X Γ (.rev ea c)) := by
  refine ⟨fun pins s σ H Q I ⟨g, Bs, env, st, d, st', L, En, e, q⟩ => ?_⟩
  rw [evE] at e
  obtain ⟨⟨d1, st1⟩, e1, e⟩ := bnd e
  refine Subscript_ (thn (he.run pins s σ H (fun x H1 => ∃ g1, Live (kwOf X) g1 Bs Γ.base st1 H1 ∧ Ext g H g1 H1 ∧ Rep (kwOf X) g1 H1 d1 x) I ⟨g, Bs, env, st, d1, st1, L, En, e1, fun v g1 H1 L1 x1 r1 => ⟨g1, L1, x1, r1⟩⟩) fun v s1 ⟨x, H1, I1, rx, g1, L1, x1, r1⟩ => ?_)
  have hst : PO X (some (.UnaryOp .USub (.Constant (.int 1) k p1) p2)) (tPart (tUn (rU fun i => .int (-i)) (tC (.int 1)))) := po_some (pe_un un_neg pe_int)
  refine wpAny_Slice (thn (po_none.run pins s1 σ H1 (fun o H2 => o = none ∧ H2 = H1) I1 ⟨rfl, rfl⟩) fun vl s2 ⟨l, H2, I2, pl, el, e2⟩ => ?_)
  subst el e2
  refine thn (po_none.run pins s2 σ H2 (fun o H3 => o = none ∧ H3 = H2) I2 ⟨rfl, rfl⟩) fun vu s3 ⟨u, H3, I3, pu, eu, e3⟩ => ?_
  subst eu e3
  refine thn (hst.run pins s3 σ H3 (fun o H4 => o = some (-1) ∧ H4 = H3) I3 ⟨1, rfl, -1, rfl, rfl, rfl⟩) fun vs s4 ⟨o, H4, I4, ps, eo, e4⟩ => ?_
  subst eo e4
  have I5 : Inv X pins σ H4 { s4 with heap := s4.heap.push { cls := .type "slice", data := .fields #[vl, vu, vs] } } := I4.kept (t' := s4.toks) fun b ob q => Heap.get?_push_of_some _ q
  show wpAny (model X.prog X.w) X.A (subscriptTail a (.Slice none none (some (.UnaryOp .USub (.Constant (.int 1) k p1) p2)) p3) v (.ref s4.heap.objs.size)) (EP X pins σ Q) X.xe { s4 with heap := s4.heap.push { cls := .type "slice", data := .fields #[vl, vu, vs] } }
  have q' : Out (kwOf X) g1 H4 Bs Γ.base d st' Q := fun v g2 H2 L2 x2 r2 => q v g2 H2 L2 (x1.trans x2) r2
  simp only at e
  unfold revE at e
  split at e
  · rename_i z _
    split at e
    · rename_i hz
      cases e
      have ex := r1.str_; subst ex
      obtain ⟨t, rfl⟩ := rx
      cases pl
      cases pu
      cases ps with
      | int _ t1 =>
      refine tail_any (ops := [.str (str_ z) t, .ref s4.heap.objs.size]) (typeIs_str _ _ _) (F.slot_str_getitem.lookup) ?_ (by with_unfolding_all rfl)
      refine wpAny_getItem_str_slice (l := none) (u := none) (st := some (-1, t1)) ⟨_, Heap.get?_push_size _ rfl, rfl, rfl⟩ (by rfl) (post_val_or_str ⟨?_, fun t' c => ?_⟩)
      · exact Nat.le_trans (Txt.sliceBy_le _ _ _ (-1, t1) (show (-1 : Int) ≠ 0 by decide)) (by rw [str_len, ← line_eq]; exact hz)
      · refine ⟨.str (Txt.sliceBy (str_ z) none none (-1, t1)), H4, I5.tok _, ⟨_, rfl⟩, ?_⟩
        rw [sliceBy_rev]
        have : (⟨(str_ z).cps.toList.reverse.toArray⟩ : Str) = str_ z.reverse := by rw [str_tl]; rfl
        rw [this]
        exact q'.here L1 (.sca (.str _))
    · cases e
  · rename_i l
    cases e
    obtain ⟨p, vs', rfl, t1, pr⟩ := r1.tup_
    cases rx
    obtain ⟨its, r, ht, hz⟩ := I5.tuple t1.sq
    have hlen := r.length
    cases pl
    cases pu
    cases ps with
    | int _ tk =>
    refine tail_any (ops := [.ref p, .ref s4.heap.objs.size]) ht.typeIs (PyProof.Rows.slot_tuple_getitem.lookup) ?_ (by with_unfolding_all rfl)
    refine getItem_tuple_rev ht ⟨_, Heap.get?_push_size _ rfl, rfl, rfl⟩ ?_ (by rw [List.size_toArray]; omega)
    refine ⟨.ref _, _, I5.laid (t' := s4.toks) (o := .tup vs'.reverse) (fun b ob q => Heap.get?_push_of_some _ q) (Nat.le_refl _) ?_, rfl, q'.tup L1 (I5.hok.fresh (Nat.le_refl _)) pr.reverse⟩
    exact ⟨by rw [List.length_reverse]; exact hz, _, r.reverse, IsTup.new _ _⟩
  · obtain ⟨l, e1, e2⟩ := mpd e
    obtain ⟨rfl, rfl⟩ := pr_of (congrArg some e2).symm.symm
    obtain ⟨p, xs, rfl, t1, pr⟩ := lst_at L1 r1 e1
    cases rx
    obtain ⟨its, r, ht, hz⟩ := I5.list (.inl (.inl t1))
    have hlen := r.length
    refine tail_any (ops := [.ref p, .ref s4.heap.objs.size]) ht.isList.typeIs (PySem.slot_list_getitem.lookup) ?_ (by with_unfolding_all rfl)
    refine wpAny_getItem_list_slice ht.isList (Heap.IsSliceOf.new _ vl vu vs) pl pu ps (by decide) ?_ (by rw [List.size_toArray]; omega)
    rw [PySem.W.krv_pick]
    refine ⟨.ref _, _, I5.laid (t' := s4.toks) (o := .lst xs.reverse) (fun b ob q => Heap.get?_push_of_some _ q) (Nat.le_refl _) ?_, rfl, q'.mkL L1 (I5.hok.fresh (Nat.le_refl _)) pr.reverse⟩
    exact ⟨by rw [List.length_reverse]; exact hz, _, 0, r.reverse, Heap.get?_push_size _ rfl⟩
variable {b : Expr} {eb : E} {lo hi : Option Expr} {olo ohi : OE}
theorem s_idx (hu : X.A.units + 1 < cLine) (ha : PE X a (rdE X Γ ea)) (hb : PE X b (rdE X Γ eb)) (hs : PlainIx b) : PE X (.Subscript a b pos) (rdE X Γ (.idx ea eb)) :=
  PE_imp (pe_ix (op_idx hu) ha hb hs) fun σ H Q ⟨g, Bs, env, st, d, st', L, En, e, q⟩ => by
    rw [evE] at e
    obtain ⟨⟨d1, st1⟩, e1, e⟩ := bnd e
    obtain ⟨⟨d2, st2⟩, e2, e⟩ := bnd e
    obtain ⟨d3, e3, e⟩ := mpd e
    cases e
    exact ⟨g, Bs, env, st, d1, st1, L, En, e1, fun v g1 H1 L1 x1 r1 => ⟨g1, Bs, env, st1, d2, _, L1, En.mono x1, e2, fun u g2 H2 L2 x2 r2 =>
      ⟨g2, Bs, Γ.base, _, d1, d2, _, L2, r1.mono x2, r2, e3, fun w r3 => q w g2 H2 L2 (x1.trans x2) r3⟩⟩⟩
def rdO (X : Cx) (Γ : Cfg) (t : OE) : TO := fun σ H Q => ∃ g Bs env st k st', Live (kwOf X) g Bs Γ.base st H ∧ EnvR (kwOf X) g H env σ ∧ evO Γ t env st = some (k, st') ∧
  ∀ g' H', Live (kwOf X) g' Bs Γ.base st' H' → Ext g H g' H' → Q k H'
theorem PO_imp {e : Option Expr} {t t' : TO} (h : PO X e t) (i : ∀ σ H Q, t' σ H Q → t σ H Q) : PO X e t' := ⟨fun pins s σ H Q I q => h.run pins s σ H Q I (i _ _ _ q)⟩
theorem o_no : PO X none (rdO X Γ .no) := PO_imp po_none fun σ H Q ⟨g, Bs, env, st, d, st', L, En, e, q⟩ => by
  rw [evO] at e; cases e; exact q _ _ L .refl
theorem o_yes (ha : PE X a (rdE X Γ ea)) : PO X (some a) (rdO X Γ (.yes ea)) := PO_imp (po_some ha) fun σ H Q ⟨g, Bs, env, st, d, st', L, En, e, q⟩ => by
  rw [evO] at e
  obtain ⟨⟨d1, st1⟩, e1, e⟩ := bnd e
  refine ⟨g, Bs, env, st, d1, st1, L, En, e1, fun v g1 H1 L1 x1 r1 => ?_⟩
  simp only at e
  split at e
  · cases e
    exact ⟨_, r1.int_, q _ _ L1 x1⟩
  · cases e
theorem s_slc {c : Bool} (ha : PE X a (rdE X Γ ea)) (hl : PO X lo (rdO X Γ olo)) (hh : PO X hi (rdO X Γ ohi)) : PE X (.Subscript a (.Slice lo hi none p2) pos) (rdE X Γ (.slc ea olo ohi c)) :=
  PE_imp (pe_slice (op_slc c) ha hl hh) fun σ H Q ⟨g, Bs, env, st, d, st', L, En, e, q⟩ => by
    rw [evE] at e
    obtain ⟨⟨d1, st1⟩, e1, e⟩ := bnd e
    obtain ⟨⟨k2, st2⟩, e2, e⟩ := bnd e
    obtain ⟨⟨k3, st3⟩, e3, e⟩ := bnd e
    exact ⟨g, Bs, env, st, d1, st1, L, En, e1, fun v g1 H1 L1 x1 r1 => ⟨g1, Bs, env, st1, k2, st2, L1, En.mono x1, e2, fun g2 H2 L2 x2 => ⟨g2, Bs, env, st2, k3, st3, L2, (En.mono x1).mono x2, e3, fun g3 H3 L3 x3 =>
      ⟨g3, Bs, Γ.base, st3, d1, d, st', L3, (r1.mono x2).mono x3, e, fun w g4 H4 L4 x4 r4 => q w g4 H4 L4 (((x1.trans x2).trans x3).trans x4) r4⟩⟩⟩⟩
end
end Mc

set_option linter.all false
set_option maxRecDepth 100000
set_option Elab.async false
set_option maxHeartbeats 4000000
namespace Mc
open PySem PySem.Spec PyProof.Rows L2
section
variable {prog : Program} {w : World} {A : Around} {E : Value → Shared → Prop} {s : Shared} {T : String} {r d : Addr} {n : Nat} {P : Nat → Value → Prop} {OK : Heap → Prop}
theorem collect_src {Q : List Value → Shared → Prop} (K : PySem.W.KdlSrc prog w T r d n P OK) (hh : A.handled = none) (hok : OK s.heap) (hn : n ≤ sizeLine)
    (hQ : ∀ (h' : Heap) (tk : Nat) (acc : Array Value), (∀ b o, s.heap.get? b = some o → h'.get? b = some o) → ItemsOf P acc n → Q acc.toList { s with heap := h', toks := tk }) :
    wpAny (model prog w) A (collect (.ref r)) Q E s := by
  unfold collect
  refine wpAny_bind (wpAny_runValue (codeAny_builtin F.entry_proto_collect ?_))
  rw [Around.under_plainId F.plain_proto_collect _]
  show wpAny _ A.in1 (newList [] >>= fun l => again (.builtin "list.__iadd__" ⟨[l, .ref r], []⟩)) _ _ s
  refine wpAny_bind (wpAny_newObj_type ?_)
  refine wpAny_pure ⟨plainId_quiet F.plain_list_iadd _, codeAny_builtin F.entry_list_iadd ?_⟩
  rw [Around.under_plainId F.plain_list_iadd _]
  show wpAny _ A.in1 (Builtin.List.listExtendWith (.ref s.heap.objs.size) (.ref r) (.ref s.heap.objs.size)) _ _ _
  have hS : (s.heap.push { cls := .type "list", data := .seq ([] : List Value).toArray }).get? s.heap.objs.size = some { cls := .type "list", data := .seq #[] 0 } := Heap.get?_push_size _ rfl
  obtain ⟨t1, t2⟩ := K.there _ hok
  refine wpAny_mono (PySem.W.kdl_extend (A := A) (R := fun rr s' => rr = .ok (.ret (.ref s.heap.objs.size)) ∧ ∃ (h' : Heap) (tk : Nat) (acc : Array Value) (c' : Nat), s' = { s with heap := h', toks := tk } ∧
      (∀ b o, s.heap.get? b = some o → h'.get? b = some o) ∧ h'.get? s.heap.objs.size = some { cls := .type "list", dict := none, data := .seq acc c', slots := #[] } ∧ ItemsOf P acc n)
    (s := { s with heap := s.heap.push { cls := .type "list", data := .seq ([] : List Value).toArray } }) K hh (K.keep _ _ hok fun b _ o e => Heap.get?_push_of_some _ e) _ (Nat.ne_of_gt t1) (Nat.ne_of_gt t2) _ 0 hS
    (fun h' tk acc c' hk e hi => ⟨rfl, h', tk, acc, c', rfl, fun b o q => hk b o (Nat.ne_of_lt (Heap.lt_size q)) (Heap.get?_push_of_some _ q), e, hi⟩) hn) (fun fin s' h => ?_) (fun e s' h => ?_)
  · cases fin with
    | done f =>
      obtain ⟨e, h', tk, acc, c', rfl, hk, hS', hi⟩ := h
      cases e
      show wpAny _ A (load s.heap.objs.size >>= _) _ _ _
      exact wpAny_bind (wpAny_load hS' (wpAny_pure (hQ h' tk acc hk hi)))
    | again c' =>
      refine ⟨h.1, codeAny_mono h.2 fun rr s'' hr' => ?_⟩
      obtain ⟨rfl, h', tk, acc, c', rfl, hk, hS', hi⟩ := hr'
      show wpAny _ A (load s.heap.objs.size >>= _) _ _ _
      exact wpAny_bind (wpAny_load hS' (wpAny_pure (hQ h' tk acc hk hi)))
  · exact absurd h.1 (by simp)
theorem code_tuple_new_src {Q₁ : Value → Shared → Prop} (K : PySem.W.KdlSrc prog w T r d n P OK) (hh : A.handled = none) (hok : OK s.heap) (hn : n ≤ sizeLine)
    (h : ∀ (h' : Heap) (tk : Nat) (acc : Array Value), (∀ b o, s.heap.get? b = some o → h'.get? b = some o) → ItemsOf P acc n →
      Q₁ (.ref h'.objs.size) { s with heap := h'.push { cls := .type "tuple", data := .seq acc }, toks := tk }) :
    codeAny (model prog w) A (.call (.builtin "tuple.__new__") ⟨[.type "tuple", .ref r], []⟩) (wants Q₁ E) s := by
  refine codeAny_of_tree ?_
  show wpAny _ A.in1 (do checkBuiltinCall "tuple.__new__" ⟨[.type "tuple", .ref r], []⟩; again (.builtin "tuple.__new__" ⟨[.type "tuple", .ref r], []⟩)) _ _ s
  refine wpAny_bind (wpAny_of_eq (F.newCall_tuple_1 _) (wpAny_pure ⟨plainId_quiet F.plain_tuple_new _, codeAny_builtin F.entry_tuple_new ?_⟩))
  rw [Around.under_plainId F.plain_tuple_new _]
  have hsub := sub_tuple_self
  have hinit := init_tuple_lookup
  have hmh := madeHere_tuple
  have hTI : s.TypeIs (.ref r) T := K.type s hok
  have hh1 : A.in1.handled = none := hh
  have nt := K.notTuple
  wp_walk using wpAny_typeOf hTI, collect_src (A := A.in1) K hh1 hok hn
  intro h' tk acc hk hacc
  show wpAny _ _ (Builtin.Tuple.tupleExact acc.toList.toArray >>= fun v => ret v) _ _ _
  unfold Builtin.Tuple.tupleExact
  refine wpAny_bind (wpAny_newObj_type ?_ (by show acc.toList.toArray.size ≤ sizeLine; simp only [Array.toArray_toList]; rw [hacc.1]; exact hn))
  refine wpAny_pure ?_
  have e : acc.toList.toArray = acc := by simp
  rw [e]
  exact h h' tk acc hk hacc
theorem call_tuple_src {Q : Value → Shared → Prop} (K : PySem.W.KdlSrc prog w T r d n P OK) (hh : A.handled = none) (hok : OK s.heap) (hn : n ≤ sizeLine)
    (hQ : ∀ (h' : Heap) (tk : Nat) (acc : Array Value), (∀ b o, s.heap.get? b = some o → h'.get? b = some o) → ItemsOf P acc n →
      Q (.ref h'.objs.size) { s with heap := h'.push { cls := .type "tuple", data := .seq acc }, toks := tk }) :
    wpAny (model prog w) A (call (.type "tuple") [.ref r]) Q E s := by
  refine callType_codes (Q₁ := fun obj s₁ => s₁.TypeIs obj "tuple" ∧ Q obj s₁) F.called_tuple (F.typeCall_tuple_1 _) F.entry_object_init
    (code_tuple_new_src (A := A.in1) K hh hok hn fun h' tk acc hk hacc => ⟨⟨_, Heap.get?_push_size _ rfl, rfl⟩, hQ h' tk acc hk hacc⟩) fun obj s₁ h₁ => ?_
  exact ⟨h₁.1, F.args_object_init_2 obj _, object_init_meets F.called_tuple.init.lookup F.called_tuple.made (by decide) prog w A.in1 _ s₁ ⟨h₁.1, rfl, h₁.2⟩⟩
end
section
variable {X : Cx}
theorem call_tupleD (hcalm : X.calm = true) : CallR X (.type "tuple") (fun xs H Q => ∃ (a : Addr) (kvs : List (Key × V)), xs = [.ref a] ∧ Rd H a (.dK kvs) ∧ ∀ p, H p = none → Q (.ref p) (upd H p (.tup (kvs.map fun kv => kV kv.1)))) := by
  intro pins s σ H xs us Q I r q
  obtain ⟨a, kvs, ex, hd, q⟩ := q
  subst ex
  obtain ⟨u, eu, rx⟩ := vals1 r
  subst eu
  cases rx
  obtain ⟨z, lo, vs, rel, dd⟩ := dk_rd I.hok hd
  obtain ⟨ep, hat⟩ := dd.dictAt
  have ek : (kvs.map fun kv => kV kv.1) = vs.map fun p => kV p.1 := by
    have e := congrArg (List.map kV) rel.keys
    rw [List.map_map, List.map_map] at e
    exact e
  refine call_tuple_src (PySem.W.kdl_dict (knd := mixKind X.prog X.w) (kvs := vs) (ep := ep) lo) (I.ok.hd hcalm) hat (by rw [← rel.length]; exact z) fun h' tk acc hk hacc => ?_
  have hv : Vals (vs.map fun p => kV p.1) acc.toList := keys_at (by rw [Array.length_toList]; exact hacc.1) fun j v e => hacc.2 j v (by rw [← Array.getElem?_toList]; exact e)
  have I2 : Inv X pins σ H { s with heap := h', toks := tk } := I.kept hk
  refine ⟨.ref h'.objs.size, upd H h'.objs.size (.tup (kvs.map fun kv => kV kv.1)), I2.laid (t' := tk) (fun c o e => Heap.get?_push_of_some _ e) (Nat.le_refl _)
    (show ObjOk X.prog X.w _ _ _ (.tup (kvs.map fun kv => kV kv.1)) from ⟨by rw [List.length_map]; exact z, acc.toList, by rw [ek]; exact hv, by rw [Array.toArray_toList]; exact IsTup.new _ _⟩), rfl, q _ (I2.hok.fresh (Nat.le_refl _))⟩
end
end Mc

set_option linter.all false
set_option maxRecDepth 100000
set_option Elab.async false
set_option maxHeartbeats 4000000
namespace Mc
open PySem PySem.Spec PyProof.Rows L2
section
variable {P : Program} {w : World} {A : Around} {E : Value → Shared → Prop} {s : Shared}
/-- set(l), l a list of ints: the order of its places is known -/
theorem set_of_list {l : Addr} {items : Array Value} (ns : List Int) {Q : Value → Shared → Prop} (hh : A.handled = none) (hl : s.heap.IsList l items) (hit : IntsAre items.toList ns) (hb : ns.length + 1 < scanBound)
    (h : ∀ (h' : Heap) (tk c : Nat), SetR w h' s.heap.objs.size (fun j => decide (j ∈ ns)) c → c ≤ ns.length → (∀ b o, s.heap.get? b = some o → h'.get? b = some o) → Q (.ref s.heap.objs.size) { s with heap := h', toks := tk }) :
    wpAny (model P w) A (call (.type "set") [.ref l]) Q E s := by
  have hsz : items.size = ns.length := by
    have := IntsAre.length hit
    rwa [Array.length_toList] at this
  obtain ⟨c, tl, hmro⟩ := F.called_set.mro
  have hmade := F.called_set.made
  have hsub := F.called_set.sub
  have h1 := F.called_set.notType
  have h2 := F.called_set.canCreate
  have hct := F.typeCall_set_1 (.ref l)
  refine wpAny_call (codeAny_of_tree ?_)
  show wpAny _ _ (callAny (.type "set") _) _ _ _
  refine wpAny_pure ⟨Code.quiet_builtin _ (by decide +kernel), codeAny_builtin F.entry_type_call ?_⟩
  rw [Around.under_plain (weight_type_call_type "set" [.ref l] []) rfl]
  repeat (any_goals (first | assumption | wp_step))
  generalize hO : ({ cls := .type "set", dict := none, data := .set #[] 0 (.fresh 0 0 (!w.params.followText "set-order")) } : Obj) = O
  refine codeAny_mono (code_set_led1 (.ref l) (E := E) (Q₁ := fun obj s₁ => obj = .ref s.heap.objs.size ∧ s₁ = { s with heap := s.heap.push O }) ⟨rfl, by rw [hO]⟩) fun r s₁ hr => ?_
  cases r with
  | error e => exact hr
  | ok fl =>
    cases fl with
    | ret obj =>
      obtain ⟨rfl, rfl⟩ := hr
      have hS : (s.heap.push O).get? s.heap.objs.size = some O := Heap.get?_push_size _ (by rw [← hO]; rfl)
      have hT : Shared.TypeIs { s with heap := s.heap.push O } (.ref s.heap.objs.size) "set" := ⟨_, hS, by rw [← hO]⟩
      have hli := F.called_set.init.lookup
      have hbi := F.called_set.init.bind (.ref s.heap.objs.size)
      repeat (any_goals (first | assumption | wp_step))
      refine codeAny_mono (codeAny_call_builtin (R := wants (fun r s₂ => r = .none ∧ ∃ h' tk c, s₂ = { s with heap := h', toks := tk } ∧ SetR w h' s.heap.objs.size (fun j => decide (j ∈ ns)) c ∧ c ≤ ns.length ∧
          (∀ b o, s.heap.get? b = some o → h'.get? b = some o)) E) F.called_set.init.plain F.entry_set_init (check_set_init_1 hT ?_)) fun r₂ s₂ hr₂ => ?_
      · obtain ⟨⟨ocls, odict, odata, oslots⟩, hol, hcl, nl, hdl⟩ := hl
        simp only at hcl hdl
        subst hcl; subst hdl
        have hol' : (s.heap.push O).get? l = some { cls := .type "list", dict := odict, data := .seq items nl, slots := oslots } := Heap.get?_push_of_some _ hol
        have hsls := F.sub_list_set
        have hslf := F.sub_list_frozenset
        have hne : (Value.type "list" == Value.type "dict") = false := by decide
        have hl1 : (s.heap.push O).IsList l items := ⟨_, hol', rfl, nl, rfl⟩
        have lS : l < s.heap.objs.size := Heap.lt_size hol
        have z1 : (s.heap.push O).objs.size = s.heap.objs.size + 1 := Heap.size_push ..
        have n1 : l ≠ (s.heap.push O).objs.size := Nat.ne_of_lt (by rw [z1]; exact Nat.lt_succ_of_lt lS)
        have n2 : s.heap.objs.size ∉ [(s.heap.push O).objs.size, l] := by
          simp only [List.mem_cons, List.not_mem_nil, or_false, not_or]
          exact ⟨by rw [z1]; exact Nat.ne_of_lt (Nat.lt_succ_self _), Nat.ne_of_gt lS⟩
        have val : ∀ (i : Nat) (v : Value), items[i]? = some v → ∃ k t, ns[i]? = some k ∧ v = .int k t := fun i v hv => by
          have hi : i < ns.length := by rw [← hsz]; exact (Array.getElem?_eq_some_iff.mp hv).1
          obtain ⟨t, e⟩ := IntsAre.int_at hit i v (by rw [Array.getElem?_toList]; exact hv)
          rw [List.getD_eq_getElem?_getD, List.getElem?_eq_getElem hi] at e
          exact ⟨ns[i], t, List.getElem?_eq_getElem hi, e⟩
        subst hO
        unfold Builtin.«set.__init__» noKeywords Builtin.Frozenset.updateFrom
        generalize hPI : pyIter = PI
        wp_walk
        subst hPI
        refine wpAny_pyIter_list hl1 ?_
        refine wpAny_bind (wpAny_runValue ?_)
        refine set_update_ints ((Walks.list (show A.in1.in1.in1.handled = none by simp [hh]) _ l n1 items).toS) s.heap.objs.size n2 ns hsz hb val (items.size - 0) 0 _ (by omega) (Nat.zero_le _)
          ⟨⟨_, Heap.get?_push_size _ rfl, rfl, rfl⟩, hl1.push _⟩ ⟨0, Nat.le_refl 0, ?_⟩ ?_
        · refine setR_new_at ?_
          exact Heap.get?_push_of_some _ hS
        · rintro ⟨h', g2, d', tk', os'⟩ c' hm hc' hS'
          have eg : g2 = s.gens := hm.gens
          have ed : d' = s.drawn := hm.drawn
          have eo : os' = s.os := hm.os
          subst eg; subst ed; subst eo
          show wpAny _ _ _ _ _ _
          refine wpAny_pure ?_
          show wpAny _ _ (ret Value.none) _ _ _
          refine wpAny_pure ⟨rfl, h', tk', c', rfl, hS', by omega, fun b o e => ?_⟩
          have b0 : b < s.heap.objs.size := Heap.lt_size e
          refine hm.heap b o ?_ (Heap.get?_push_of_some _ (Heap.get?_push_of_some _ e))
          simp only [List.mem_cons, List.not_mem_nil, or_false, not_or]
          exact ⟨Nat.ne_of_lt b0, Nat.ne_of_lt (by rw [Heap.size_push]; exact Nat.lt_succ_of_lt b0)⟩
      · cases r₂ with
        | error e => exact hr₂
        | ok fl₂ =>
          cases fl₂ with
          | ret r =>
            obtain ⟨rfl, h', tk, c', rfl, hS', hc', hk'⟩ := hr₂
            repeat (any_goals (first | assumption | wp_step))
            exact h _ _ _ hS' hc' hk'
          | _ => exact hr₂.elim
    | _ => exact hr.elim
end
section
variable {X : Cx} {Γ : Cfg}
def rSetL (X : Cx) : List V → Hp → VK → Prop := fun xs H Q => ∃ (l : Addr) (ns : List Int), xs = [V.ref l] ∧ H l = some (.lst (ns.map V.int)) ∧ ns.length < 64 ∧
  ∀ (p : Addr) (c : Nat), H p = none → c ≤ ns.length → Q (.ref p) (upd H p (SetO X.w p (fun j => decide (j ∈ ns)) c))
theorem cr_setL (hc : X.calm = true) : CallR X (.type "set") (rSetL X) := by
  intro pins s σ H xs us Q I rx h
  obtain ⟨l, ns, rfl, hl, h64, q⟩ := h
  obtain ⟨u, rfl, ru⟩ := rx.one
  cases ru
  obtain ⟨its, rv, pl, hz⟩ := I.list (.inl (.inl hl))
  refine set_of_list ns (I.ok.hd hc) pl.isList (by simpa using ints_of_vals rv) (by unfold scanBound; omega) fun h' tk c hS hcl hk => ?_
  have hn : H s.heap.objs.size = none := I.hok.fresh (Nat.le_refl _)
  exact ⟨.ref _, _, I.laid hk (Nat.le_refl _) (setO_new hS), rfl, q _ c hn hcl⟩
end
end Mc

set_option linter.all false
set_option maxRecDepth 100000
set_option Elab.async false
set_option maxHeartbeats 4000000
namespace Mc
open PySem PySem.Spec PyProof.Rows L2 PySem.W
section
variable {M : Model} {A : Around} {E : Value → Shared → Prop} {s : Shared}
/-- a tuple there -/
def IsTupV (h : Heap) (v : Value) : Prop := ∃ a o xs n, v = .ref a ∧ h.get? a = some o ∧ o.cls = .type "tuple" ∧ o.data = .seq xs n
def fst0 (h : Heap) (v : Value) : Option Value := match v with
  | .ref a => match h.get? a with
    | some o => match o.data with
      | .seq xs _ => xs[0]?
      | _ => none
    | none => none
  | _ => none
theorem firsts_any : ∀ (vs : List Value) {Q : List (Option Value) → Shared → Prop}, (∀ v ∈ vs, IsTupV s.heap v) → Q (vs.map (fst0 s.heap)) s → wpAny M A (vs.mapM firstOfTuple') Q E s
  | [], _, _, h => by rw [List.mapM_nil]; exact wpAny_pure h
  | v :: vs, Q, t, h => by
    obtain ⟨a, o, xs, n, rfl, ho, hc, hd⟩ := t v List.mem_cons_self
    have e : fst0 s.heap (.ref a) = xs[0]? := by simp [fst0, ho, hd]
    rw [List.mapM_cons]
    refine wpAny_bind ?_
    rw [PySem.W.kas_first_eq]
    refine wpAny_bind (Looks.here (show Looks M s.heap (typeOf (.ref a)) o.cls from (Looks.ld ho).andThen .now) ?_)
    rw [hc, if_neg (by first | decide | simp)]
    refine wpAny_bind (listItems_at ho hd (wpAny_pure ?_))
    rw [← e]
    exact wpAny_bind (firsts_any vs (Q := fun bs s' => wpAny M A (pure (fst0 s.heap (.ref a) :: bs)) Q E s') (fun v hv => t v (List.mem_cons_of_mem _ hv)) (wpAny_pure h))
theorem kind_emp {v1 v2 : Value} {rest : List Value} {Q : SortKind → Shared → Prop} (t : ∀ v ∈ v1 :: v2 :: rest, IsTupV s.heap v) (h0 : fst0 s.heap v1 = none) (h : Q oneType' s) : wpAny M A (keyKind' (v1 :: v2 :: rest).toArray) Q E s := by
  rw [keyKind'_eq, List.mapM_toArray, map_eq_pure_bind]
  refine wpAny_bind (wpAny_bind (firsts_any _ t (wpAny_pure ?_)))
  rw [if_neg (by simp [h0]), if_neg (by simp [h0])]
  rw [oneTypeOnly'_eq, List.mapM_toArray, map_eq_pure_bind]
  refine wpAny_bind (wpAny_bind (wpAny_bind (PySem.W.kas_mapM (r := Value.type "tuple") _ (fun v hv Q' hq => ?_) (wpAny_pure ?_))))
  · obtain ⟨a, o, xs, n, rfl, ho, hc, hd⟩ := t v hv
    have hl : Looks M s.heap (typeOf (.ref a)) o.cls := (Looks.ld ho).andThen .now
    rw [hc] at hl
    exact hl.here hq
  · have hall : ((List.map (fun _ => Value.type "tuple") (v1 :: v2 :: rest)).toArray.all fun x => x == Value.type "tuple") = true := by
      simp only [List.all_toArray, List.all_map, List.all_eq_true]
      intro _ _
      rfl
    have h1 : (List.map (fun _ => Value.type "tuple") (v1 :: v2 :: rest)).toArray[0]? = some (Value.type "tuple") := by simp
    rw [h1]
    simp only [hall, if_true]
    exact wpAny_pure (wpAny_pure h)
end
section
variable {P : Program} {w : World} {A : Around} {E : Value → Shared → Prop} {s : Shared}
/-- x < y of one kind, both tuples of ints -/
theorem oneLt_tup {l b : Addr} {items items2 : Array Value} {ns ms : List Int} {Q : Bool → Shared → Prop} (hl : IsTup s.heap l items) (hb : IsTup s.heap b items2) (hi : IntsAre items.toList ns) (hj : IntsAre items2.toList ms)
    (hu : A.units + 1 < cLine) (h : Q (HT.lexLt ns ms) s) : wpAny (model P w) A (oneLt' true (.ref l) (.ref b)) Q E s := by
  obtain ⟨⟨cls, dd, data, sl⟩, ho, hc, n, hd⟩ := id hl
  obtain ⟨⟨cls2, dd2, data2, sl2⟩, ho2, hc2, n2, hd2⟩ := id hb
  simp only at hc hd hc2 hd2
  subst hc hd hc2 hd2
  rw [oneLt'_eq]
  simp only [if_true]
  refine wpAny_bind (wpAny_cRoomFor (by omega) ?_)
  refine wpAny_bind (wpAny_callSpecialIfBound?_slot (T := "tuple") ⟨_, ho, rfl⟩ F.slot_tuple_lt ?_)
  refine call_meets F.slot_tuple_lt ⟨_, ho, rfl⟩ F.entry_tuple_lt (F.args_tuple_lt_2 _ _) (HT.tuple_lt_ints l b items items2 n n2 dd dd2 sl sl2 ns ms hi hj) ⟨ho, ho2, ?_⟩
  exact wpAny_truthy_bool h
end
theorem lex_asym : ∀ x y : List Int, HT.lexLt x y = true → HT.lexLt y x = false
  | [], [], h => by cases h
  | [], _ :: _, _ => rfl
  | _ :: _, [], h => by cases h
  | a :: x, b :: y, h => by
    rw [HT.lexLt_cons] at h ⊢
    by_cases e : a = b
    · subst e
      rw [if_pos rfl] at h ⊢
      exact lex_asym x y h
    · rw [if_neg e] at h
      rw [if_neg (fun q => e q.symm)]
      have := of_decide_eq_true h
      exact decide_eq_false (by omega)
theorem lex_tr : ∀ x y z : List Int, HT.lexLt y x = false → HT.lexLt z y = false → HT.lexLt z x = false
  | [], _, z, _, _ => by cases z <;> rfl
  | _ :: _, [], _, h, _ => by cases h
  | _ :: _, _ :: _, [], _, h => by cases h
  | a :: x, b :: y, c :: z, h1, h2 => by
    rw [HT.lexLt_cons] at h1 h2 ⊢
    by_cases e1 : b = a
    · subst e1
      rw [if_pos rfl] at h1
      by_cases e2 : c = b
      · subst e2
        rw [if_pos rfl] at h2 ⊢
        exact lex_tr x y z h1 h2
      · rw [if_neg e2] at h2 ⊢
        exact h2
    · rw [if_neg e1] at h1
      have d1 := of_decide_eq_false h1
      by_cases e2 : c = b
      · subst e2
        rw [if_neg e1]
        exact h1
      · rw [if_neg e2] at h2
        have d2 := of_decide_eq_false h2
        rw [if_neg (by omega)]
        exact decide_eq_false (by omega)
theorem lex_anti : ∀ x y : List Int, HT.lexLt x y = false → HT.lexLt y x = false → x = y
  | [], [], _, _ => rfl
  | [], _ :: _, h, _ => by cases h
  | _ :: _, [], _, h => by cases h
  | a :: x, b :: y, h1, h2 => by
    rw [HT.lexLt_cons] at h1 h2
    by_cases e : a = b
    · subst e
      rw [if_pos rfl] at h1 h2
      rw [lex_anti x y h1 h2]
    · rw [if_neg e] at h1
      rw [if_neg (fun q => e q.symm)] at h2
      have := of_decide_eq_false h1
      have := of_decide_eq_false h2
      omega
theorem swo_lexT (k : Value → List Int) : SrtO.Swo fun v u => HT.lexLt (k v) (k u) := ⟨fun x y => lex_asym _ _, fun x y z => lex_tr _ _ _⟩
/-- a tuple of ints there -/
def IsTI (h : Heap) (v : Value) (ns : List Int) : Prop := ∃ a items, v = .ref a ∧ IsTup h a items ∧ IntsAre items.toList ns
def iT (h : Heap) (v : Value) : List Int := match v with
  | .ref a => match h.get? a with
    | some o => match o.data with
      | .seq xs _ => xs.toList.map SrtO.iv
      | _ => []
    | none => []
  | _ => []
theorem iT_of {h : Heap} {v : Value} {ns : List Int} (x : IsTI h v ns) : iT h v = ns := by
  obtain ⟨a, items, rfl, ⟨o, ho, hc, n, hd⟩, hi⟩ := x
  simp only [iT, ho, hd]
  exact SrtO.iv_ints hi
theorem IsTI.tup {h : Heap} {v : Value} {ns : List Int} (x : IsTI h v ns) : IsTupV h v := by
  obtain ⟨a, items, rfl, ⟨o, ho, hc, n, hd⟩, hi⟩ := x
  exact ⟨a, o, items, n, rfl, ho, hc, hd⟩
section
variable {prog : Program} {w : World} {A : Around} {E : Value → Shared → Prop} {s : Shared}
theorem tup_cmp {vs : List Value} {k : Value → List Int} (hp : ∀ v ∈ vs, IsTI s.heap v (k v)) (hu : A.units + 1 < cLine) : SrtO.Cmp prog w A s oneType' (fun p => p.1 ∈ vs) (SrtO.lt2 fun v u => HT.lexLt (k v) (k u)) := by
  intro p q hm hm'
  have h1 := hp _ hm
  have h2 := hp _ hm'
  show wpAny (model prog w) A (keyLt' oneType' p.1 q.1) (fun r s' => s' = s ∧ r = HT.lexLt (k p.1) (k q.1)) (fun _ _ => False) s
  generalize k p.1 = ns at h1 ⊢
  generalize k q.1 = ms at h2 ⊢
  obtain ⟨a, i1, e1, t1, n1⟩ := h1
  obtain ⟨b, i2, e2, t2, n2⟩ := h2
  rw [e1, e2, keyLt'_oneType]
  exact oneLt_tup t1 t2 n1 n2 hu ⟨rfl, rfl⟩
theorem IsTI.keeps {h h' : Heap} {v : Value} {ns : List Int} (x : IsTI h v ns) (k : ∀ b o, h.get? b = some o → o.cls = .type "tuple" → h'.get? b = some o) : IsTI h' v ns := by
  obtain ⟨a, items, e, ⟨o, ho, hc, r⟩, hi⟩ := x
  exact ⟨a, items, e, ⟨o, k a o ho hc, hc, r⟩, hi⟩
theorem fst0_of {h : Heap} {v : Value} (x : IsTI h v []) : fst0 h v = none := by
  obtain ⟨a, items, rfl, ⟨o, ho, hc, n, hd⟩, hi⟩ := x
  have : items.toList = [] := by cases e : items.toList with
    | nil => rfl
    | cons c l => rw [e] at hi; cases hi
  simp only [fst0, ho, hd]
  rw [← Array.getElem?_toList, this]
  rfl
theorem tups_sortable {a : Addr} {v1 v2 : Value} {rest : List Value} {k : Value → List Int} (hp : ∀ v ∈ v1 :: v2 :: rest, IsTI s.heap v (k v)) (h0 : k v1 = []) (ha : ∀ o, s.heap.get? a = some o → o.cls ≠ .type "tuple") (hu : A.units + 1 < cLine) :
    SrtO.SortableO prog w A s a (v1 :: v2 :: rest) fun v u => HT.lexLt (k v) (k u) := by
  intro h' keep
  have hp' : ∀ v ∈ v1 :: v2 :: rest, IsTI h' v (k v) := fun v hv => (hp v hv).keeps fun b o e c => keep b o (fun z => by subst z; exact ha o e c) e
  refine ⟨oneType', fun Q E hq => ?_, tup_cmp (s := { s with heap := h' }) hp' hu⟩
  have h1 := hp' v1 List.mem_cons_self
  rw [h0] at h1
  exact kind_emp (s := { s with heap := h' }) (fun v hv => (hp' v hv).tup) (fst0_of h1) hq
end
section
variable {X : Cx}
def backV : Value → V
  | .ref a => .ref a
  | _ => .non
theorem back_refs : ∀ {xs : List V} {vs : List Value}, Vals xs vs → (∀ x ∈ xs, ∃ t, x = V.ref t) → xs = vs.map backV ∧ ∀ v ∈ vs, ∃ t, v = Value.ref t
  | [], _, .nil, _ => ⟨rfl, fun _ h => by cases h⟩
  | x :: xs, v :: vs, .cons r t, h => by
    obtain ⟨a, rfl⟩ := h x List.mem_cons_self
    obtain ⟨e1, e2⟩ := back_refs t fun y hy => h y (List.mem_cons_of_mem _ hy)
    cases r
    exact ⟨by rw [e1]; rfl, fun u hu => by
      rcases List.mem_cons.mp hu with rfl | hu
      · exact ⟨a, rfl⟩
      · exact e2 u hu⟩
theorem back_vals : ∀ {vs : List Value}, (∀ v ∈ vs, ∃ t, v = Value.ref t) → Vals (vs.map backV) vs
  | [], _ => .nil
  | v :: vs, h => by
    obtain ⟨a, rfl⟩ := h v List.mem_cons_self
    exact .cons (show RelV (.ref a) (.ref a) from rfl) (back_vals fun y hy => h y (List.mem_cons_of_mem _ hy))
/-- sorted of a list of tuples of ints whose first one is empty -/
def rSortET (K : PySem.W.Frag) : List V → Hp → VK → Prop := fun vs H Q => ∃ (a : Addr) (xs : List V), vs = [V.ref a] ∧ SqL K H a xs ∧ (∀ x ∈ xs, ∃ (t : Addr) (ns : List Int), x = V.ref t ∧ SqT K H t (ns.map V.int)) ∧ (∃ t r, xs = V.ref t :: r ∧ SqT K H t []) ∧
  ∀ (ys : List V) (p : Addr), ys.Perm xs → ys.Pairwise (fun x y => ∀ (t u : Addr) (n m : List Int), x = V.ref t → y = V.ref u → SqT K H t (n.map V.int) → SqT K H u (m.map V.int) → HT.lexLt m n = false) → H p = none → Q (.ref p) (upd H p (.lst ys))
theorem cr_sortET (hu : X.A.units + 65 < cLine) : CallR X (.builtin "sorted") (rSortET X.K) := by
  intro pins s σ H vs us Q I r h
  obtain ⟨a, xs, rfl, hs, hx, ⟨t0, r0, e0, ht0⟩, q⟩ := h
  obtain ⟨its, rv, hl, hz⟩ := I.list hs
  rw [Vals.ref1 r]
  obtain ⟨e1, e2⟩ := back_refs rv fun x m => by
    obtain ⟨t, ns, e, _⟩ := hx x m
    exact ⟨t, e⟩
  have ti : ∀ (t : Addr) (ns : List Int), SqT X.K H t (ns.map V.int) → IsTI s.heap (.ref t) ns := fun t ns ht => by
    obtain ⟨its, rv, hT, _⟩ := I.tuple ht
    exact ⟨t, its.toArray, rfl, hT, by simpa using rv.ints⟩
  have hp : ∀ v ∈ its, IsTI s.heap v (iT s.heap v) := fun v hv => by
    obtain ⟨t, rfl⟩ := e2 v hv
    have hm : V.ref t ∈ xs := by rw [e1]; exact List.mem_map.mpr ⟨_, hv, rfl⟩
    obtain ⟨t', ns, e, ht⟩ := hx _ hm
    cases e
    have := ti t ns ht
    rw [iT_of this]
    exact this
  refine SrtO.sorted_ord (swo_lexT (iT s.heap)) hl.isList (by rw [← rv.length]; exact hz) (fun h2 h₁ b hb kk => ?_) fun out hs1 hb1 => ?_
  · match its, h2, hp, e1, hb with
    | v1 :: v2 :: rest, _, hp, e1, hb =>
      refine tups_sortable (s := { s with heap := h₁ }) (fun v hv => (hp v hv).keeps fun c o e _ => (kk c o e).2) ?_ (fun o e => ?_) ?_
      · rw [e0, List.map_cons] at e1
        injection e1 with f1 _
        obtain ⟨t, rfl⟩ := e2 v1 List.mem_cons_self
        cases f1
        exact iT_of (ti t0 [] ht0)
      · have e' : some o = some (seqObj "list" (v1 :: v2 :: rest).toArray 0) := e.symm.trans hb
        cases e'
        intro c
        exact absurd (Value.type.inj c) (by decide)
      · show X.A.units + 1 + 1 + 1 < cLine
        omega
    | [], h2, _, _, _ => exact absurd h2 (by simp)
    | [_], h2, _, _, _ => exact absurd h2 (by simp)
  · obtain ⟨ep, he'⟩ := PyProof.Rows.sortedAll_at s.heap its out.toArray
    have h3 : ∀ u ∈ out, ∃ a, u = Value.ref a := fun u hu => e2 u (hb1.perm.mem_iff.mp hu)
    have hpm : (out.map backV).Perm xs := by
      rw [e1]
      exact hb1.perm.map backV
    have hlen : (out.map backV).length ≤ sizeLine := by
      rw [hpm.length_eq]
      exact hz
    refine ⟨.ref _, upd H (s.heap.objs.size + 1) (.lst (out.map backV)), I.laid (t' := s.toks) (fun _ _ => PyProof.Rows.sortedAll_old) (Nat.le_succ _) ⟨hlen, out, ep, back_vals h3, he'⟩, rfl, q _ _ hpm ?_ (I.hok.fresh (Nat.le_succ _))⟩
    rw [List.pairwise_map]
    refine List.Pairwise.imp_of_mem (fun {u v} hu hv huv t t' n m et et' hn hm => ?_) hs1
    obtain ⟨a, rfl⟩ := h3 u hu
    obtain ⟨b, rfl⟩ := h3 v hv
    cases et
    cases et'
    have this : HT.lexLt (iT s.heap (Value.ref t')) (iT s.heap (Value.ref t)) = false := huv
    rwa [iT_of (ti _ n hn), iT_of (ti _ m hm)] at this
end
end Mc

set_option linter.all false
set_option maxRecDepth 100000
set_option Elab.async false
set_option maxHeartbeats 1000000
namespace Mc
open PySem PySem.Spec PyProof.Rows L2

theorem slen_app (a b : Str) : (a ++ b).length = a.length + b.length := by
  show (Str.append a b).length = _
  simp [Str.append, Str.length]
def sumL : List Str → Nat
  | [] => 0
  | t :: r => t.length + 2 + sumL r
theorem textFrom_le : ∀ (ts : List Str) (k : Nat) (acc : Str), (textFrom k acc ts).length ≤ acc.length + sumL ts
  | [], _, _ => Nat.le_refl _
  | t :: r, k, acc => by
    have ih := textFrom_le r (k + 1) (acc ++ (if k > 0 then ", " else "" : String) ++ t)
    have e : (acc ++ (if k > 0 then ", " else "" : String) ++ t).length ≤ acc.length + 2 + t.length := by
      rw [slen_app, slen_app]
      have : ((if k > 0 then ", " else "" : String) : Str).length ≤ 2 := by
        by_cases h : k > 0
        · rw [if_pos h]; decide
        · rw [if_neg h]; decide
      omega
    show (textFrom (k + 1) _ r).length ≤ acc.length + (t.length + 2 + sumL r)
    omega
theorem join_le : ∀ ts : List Str, (Str.join ", " ts).length ≤ sumL ts
  | [] => Nat.zero_le _
  | [x] => by show x.length ≤ x.length + 2 + 0; omega
  | x :: y :: r => by
    have ih := join_le (y :: r)
    show (x ++ ", " ++ Str.join ", " (y :: r)).length ≤ x.length + 2 + sumL (y :: r)
    rw [slen_app, slen_app]
    have e2 : ((", " : String) : Str).length = 2 := rfl
    omega
theorem listText_le (ts : List Str) : (listText ts).length ≤ sumL ts + 2 := by
  unfold listText
  rw [slen_app]
  have h1 := textFrom_le ts 0 "["
  have h2 : (("[" : String) : Str).length = 1 := rfl
  have h3 : (("]" : String) : Str).length = 1 := rfl
  rw [h2] at h1
  rw [h3]
  omega
theorem tupleText_le (ts : List Str) : (tupleText ts).length ≤ sumL ts + 3 := by
  unfold tupleText
  rw [slen_app, slen_app]
  have h1 := join_le ts
  have h2 : (("(" : String) : Str).length = 1 := rfl
  have h3 : ((if ts.length == 1 then ",)" else ")" : String) : Str).length ≤ 2 := by
    by_cases h : (ts.length == 1) = true
    · rw [if_pos h]; decide
    · rw [if_neg h]; decide
  rw [h2]
  omega
mutual
theorem shown_le : ∀ (n : Nat) (d : D), plain n d = true → (PyData.shown (toPy d)).length ≤ wt d
  | _, .non, _ => by simp only [toPy, PyData.shown, wt]; decide
  | _, .bl b, _ => by cases b <;> simp only [toPy, PyData.shown, wt] <;> decide
  | _, .int i, _ => by
    simp only [toPy, PyData.shown, wt]
    have h := int_text_length_le (a := i) (k := i.natAbs.log2 + 1) (by omega) (by omega)
    have e : ((toString i : String) : Str).length = (toString i).length := PySem.ofString_length _
    have e2 : (toString i : Str).length = ((toString i : String) : Str).length := rfl
    rw [e2, e]
    omega
  | n, .str s, h => by
    have h' : s.all (fun c => decide (c < 1114112)) = true := by
      cases n <;> simpa [plain] using h
    simp only [toPy, PyData.shown, wt]
    have := PySem.StrLaws.reprText_len (str_ s) (fun c hc => by
      rw [str_tl] at hc
      have := List.all_eq_true.mp h' c hc
      simp only [decide_eq_true_eq] at this
      have e : (1114112 : Nat) < 16 ^ 8 := by decide
      omega)
    rw [str_len] at this
    show (reprText (str_ s)).length ≤ _
    omega
  | n + 1, .tup l, h => by
    have ih := shownL_le n l (by simpa [plain] using h)
    simp only [toPy, PyData.shown, wt]
    have := tupleText_le (PyData.shownAll (toPyL l))
    omega
  | n + 1, .lst l, h => by
    have ih := shownL_le n l (by simpa [plain] using h)
    simp only [toPy, PyData.shown, wt]
    have := listText_le (PyData.shownAll (toPyL l))
    omega
  | 0, .tup _, h => by simp [plain] at h
  | 0, .lst _, h => by simp [plain] at h
  | n, .dic _, h => by simp [plain] at h
  | n, .rng _ _, h => by simp [plain] at h
  | n, .own _, h => by simp [plain] at h
  | n, .scr _, h => by simp [plain] at h
theorem shownL_le : ∀ (n : Nat) (d : List D), plainL n d = true → sumL (PyData.shownAll (toPyL d)) ≤ wtL d
  | _, [], _ => by simp only [toPyL, PyData.shownAll, wtL, sumL]; omega
  | n, d :: l, h => by
    have h' : plain n d = true ∧ plainL n l = true := by simpa [plainL] using h
    have h1 := shown_le n d h'.1
    have h2 := shownL_le n l h'.2
    simp only [toPyL, PyData.shownAll, wtL, sumL]
    omega
end
mutual
theorem shownZ_le : ∀ (n : Nat) (d : D), plainZ n d = true → (PyData.shown (toPy d)).length ≤ wt d
  | _, .non, _ => shown_le 0 .non rfl
  | _, .bl b, _ => shown_le 0 (.bl b) rfl
  | _, .int i, _ => shown_le 0 (.int i) rfl
  | n, .str s, h => shown_le 0 (.str s) (by cases n <;> simpa [plain, plainZ] using h)
  | n + 1, .tup l, h => by
    have ih := shownZL_le n l (by simpa [plainZ] using h)
    simp only [toPy, PyData.shown, wt]
    have := tupleText_le (PyData.shownAll (toPyL l))
    omega
  | n + 1, .lst l, h => by
    have ih := shownZL_le n l (by simpa [plainZ] using h)
    simp only [toPy, PyData.shown, wt]
    have := listText_le (PyData.shownAll (toPyL l))
    omega
  | n + 1, .dic l, h => by
    have h' : l.length ≤ 1 ∧ plainZK n l = true := by simpa [plainZ] using h
    match l, h' with
    | [], _ => simp only [toPy, toPyK, PyData.shown, PyData.shownKv, wt, wtK]; decide
    | [(k, d)], h' =>
      have h'' : (plainZ 0 k = true ∧ plainZ n d = true) ∧ plainZK n [] = true := by simpa [plainZK] using h'.2
      have i1 := shownZ_le 0 k h''.1.1
      have i2 := shownZ_le n d h''.1.2
      have e : dictText [PyData.shown (toPy k) ++ ": " ++ PyData.shown (toPy d)] = "{" ++ (PyData.shown (toPy k) ++ ": " ++ PyData.shown (toPy d)) ++ "}" := rfl
      have h1 : (("{" : String) : Str).length = 1 := rfl
      have h2 : (("}" : String) : Str).length = 1 := rfl
      have h3 : ((": " : String) : Str).length = 2 := rfl
      simp only [toPy, toPyK, PyData.shown, PyData.shownKv, wt, wtK]
      rw [e, strLen_append, strLen_append, strLen_append, strLen_append, h1, h2, h3]
      omega
    | a :: b :: r, h' => simp at h'
  | 0, .tup _, h => by simp [plainZ] at h
  | 0, .lst _, h => by simp [plainZ] at h
  | 0, .dic _, h => by simp [plainZ] at h
  | n, .rng _ _, h => by simp [plainZ] at h
  | n, .own _, h => by simp [plainZ] at h
  | n, .scr _, h => by simp [plainZ] at h
theorem shownZL_le : ∀ (n : Nat) (d : List D), plainZL n d = true → sumL (PyData.shownAll (toPyL d)) ≤ wtL d
  | _, [], _ => by simp only [toPyL, PyData.shownAll, wtL, sumL]; omega
  | n, d :: l, h => by
    have h' : plainZ n d = true ∧ plainZL n l = true := by simpa [plainZL] using h
    have h1 := shownZ_le n d h'.1
    have h2 := shownZL_le n l h'.2
    simp only [toPyL, PyData.shownAll, wtL, sumL]
    omega
end
theorem reprZ_fits {d : D} (h : plainZ 60 d = true) (h2 : showOk d = true) : (PyData.shown (toPy d)).length ≤ sizeLine := by
  have h1 := shownZ_le 60 d h
  unfold showOk at h2
  rw [Bool.and_eq_true, decide_eq_true_eq] at h2
  rw [sizeLine_eq]
  omega
theorem repr_fits {d : D} (h : plain 60 d = true) (h2 : showOk d = true) : (PyData.shown (toPy d)).length ≤ sizeLine := by
  have h1 := shown_le 60 d h
  unfold showOk at h2
  rw [Bool.and_eq_true, decide_eq_true_eq] at h2
  rw [sizeLine_eq]
  omega

section
variable {κ : Kw} {g : Gh} {H : Hp}
theorem intsOf_rep : ∀ {l : List D} {vs : List V} {ns : List Int}, intsOf l = some ns → Reps κ g H l vs → vs = ns.map V.int
  | [], _, _, e, .nil => by cases e; rfl
  | .int i :: l, _, _, e, .cons r t => by
    obtain ⟨ns', e1, e2⟩ := mpd (show (intsOf l).map (i :: ·) = _ from e)
    subst e2
    rw [r.int_, intsOf_rep e1 t]; rfl
  | .non :: _, _, _, e, _ => by cases e
  | .bl _ :: _, _, _, e, _ => by cases e
  | .str _ :: _, _, _, e, _ => by cases e
  | .tup _ :: _, _, _, e, _ => by cases e
  | .lst _ :: _, _, _, e, _ => by cases e
  | .dic _ :: _, _, _, e, _ => by cases e
  | .rng _ _ :: _, _, _, e, _ => by cases e
  | .own _ :: _, _, _, e, _ => by cases e
  | .scr _ :: _, _, _, e, _ => by cases e
theorem trus_rep : ∀ {l : List D} {vs : List V} {ns : List Bool}, trus l = some ns → Reps κ g H l vs → vs = ns.map V.bl
  | [], _, _, e, .nil => by cases e; rfl
  | .bl i :: l, _, _, e, .cons r t => by
    obtain ⟨ns', e1, e2⟩ := mpd (show (trus l).map (i :: ·) = _ from e)
    subst e2
    rw [r.bl_, trus_rep e1 t]; rfl
  | .non :: _, _, _, e, _ => by cases e
  | .int _ :: _, _, _, e, _ => by cases e
  | .str _ :: _, _, _, e, _ => by cases e
  | .tup _ :: _, _, _, e, _ => by cases e
  | .lst _ :: _, _, _, e, _ => by cases e
  | .dic _ :: _, _, _, e, _ => by cases e
  | .rng _ _ :: _, _, _, e, _ => by cases e
  | .own _ :: _, _, _, e, _ => by cases e
  | .scr _ :: _, _, _, e, _ => by cases e
end
theorem sorted_uniq {ns ms : List Int} (hp : ns.Perm ms) (hs : ns.Pairwise (· ≤ ·)) : ns = sortI ms := by
  have h1 : (sortI ms).Perm ms := List.mergeSort_perm _ _
  have h2 : (sortI ms).Pairwise (· ≤ ·) := by
    have := List.pairwise_mergeSort (le := fun a b : Int => decide (a ≤ b)) (fun a b c h h' => by simp only [decide_eq_true_eq] at *; omega) (fun a b => by simp only [Bool.or_eq_true, decide_eq_true_eq]; omega) ms
    exact this.imp fun h => by simpa using h
  exact List.Perm.eq_of_pairwise (le := fun a b : Int => a ≤ b) (fun a b _ _ h h' => Int.le_antisymm h h') hs h2 (hp.trans h1.symm)

section
variable {X : Cx} {Γ : Cfg}
def rBlt (κ : Kw) (b : Blt) (c : Bool) : List V → Hp → VK → Prop := fun xs H Q => ∃ g Bs base st ds d st', Live κ g Bs base st H ∧ Reps κ g H ds xs ∧ bltE b c ds st = some (d, st') ∧ Out κ g H Bs base d st' Q
theorem reps1 {κ : Kw} {g : Gh} {H : Hp} {a : D} {xs : List V} (r : Reps κ g H [a] xs) : ∃ v, xs = [v] ∧ Rep κ g H a v := by
  cases r with | cons r t => cases t; exact ⟨_, rfl, r⟩
theorem reps2 {κ : Kw} {g : Gh} {H : Hp} {a b : D} {xs : List V} (r : Reps κ g H [a, b] xs) : ∃ v w, xs = [v, w] ∧ Rep κ g H a v ∧ Rep κ g H b w := by
  cases r with | cons r t => cases t with | cons q t => cases t; exact ⟨_, _, rfl, r, q⟩
theorem call_reprD (hg : X.A.guards = some []) (hu : X.A.units + 65 < cLine) {pins : List (Addr × Obj)} {s : Shared} {σ : L2.St} {H : Hp} {a : Addr} {d : D} {Q : VK} (I : Inv X pins σ H s) (dp : Dp X.K H (.ref a) (toPy d)) (hp : plain 60 d = true) (hs : showOk d = true)
    (q : Q (.str (str_ (shown d))) H) : wpAny (model X.prog X.w) X.A (call (.builtin "repr") [.ref a]) (EP X pins σ Q) X.xe s := by
  obtain ⟨as, rd⟩ := Dp.reads I (toPy d) _ _ dp (show RelV (.ref a) (.ref a) from rfl)
  have hsh : (toPy d).showable = true := by
    unfold showOk at hs
    rw [Bool.and_eq_true] at hs
    exact hs.1
  have hd := plain_depth 60 d hp
  have e : str_ (shown d) = PyData.shown (toPy d) := by
    unfold shown
    simp [str_]
  refine repr_of_reads' rd hsh (PyData.noDict_hsm (PyData.hasDict_of_canLay _ (plain_lay 60 d hp))) hg (by omega) (fun _ _ e => e) (fun h' u tk hk => ?_) (repr_fits hp hs)
  exact ⟨.str _, H, I.kept hk, ⟨_, rfl⟩, by rw [← e]; exact q⟩
theorem call_reprZ (hg : X.A.guards = some []) (hu : X.A.units + 65 < cLine) {pins : List (Addr × Obj)} {s : Shared} {σ : L2.St} {H : Hp} {a : Addr} {d : D} {Q : VK} {T idr : String} (I : Inv X pins σ H s) (S : ShowsBy X.prog X.w s.heap a (toPy d) T idr) (hp : plainZ 60 d = true)
    (q : Q (.str (str_ (shown d))) H) : wpAny (model X.prog X.w) X.A (call (.builtin "repr") [.ref a]) (EP X pins σ Q) X.xe s := by
  have hd := plainZ_depth 60 d hp
  have e : str_ (shown d) = PyData.shown (toPy d) := by
    unfold shown
    simp [str_]
  refine call_repr_slot (by omega) (S.typeIs s fun _ _ z => z) S.slotRepr (S.call X.A.in1 X.xe s _ hg (by show X.A.units + 1 + _ < cLine; omega) (fun _ _ z => z) fun h' u tk hk => ?_)
  exact ⟨_, _, rfl, .str _, H, I.kept hk, ⟨_, rfl⟩, by rw [← e]; exact q⟩
theorem one_of {b : Blt} {c : Bool} {ds : List D} {st : Sto} {r : D × Sto} (e : bltE b c ds st = some r) (h : b ≠ .min ∧ b ≠ .max) : ∃ a, ds = [a] := by
  cases ds with
  | nil => cases b <;> simp [bltE] at e
  | cons a t =>
    cases t with
    | nil => exact ⟨a, rfl⟩
    | cons a' t => cases b <;> first | exact absurd rfl h.1 | exact absurd rfl h.2 | (simp [bltE] at e)
theorem op_len (c : Bool) : CallR X (.builtin "len") (rBlt (kwOf X) .len c) := by
  intro pins s σ H xs us Q I rx h
  obtain ⟨g, Bs, base, st, ds, d, st', L, rs, e, q⟩ := h
  obtain ⟨a, rfl⟩ := one_of e ⟨by decide, by decide⟩
  obtain ⟨v, rfl, r⟩ := reps1 rs
  simp only [bltE] at e
  split at e
  · split at e
    · rename_i z hz
      cases e
      have ex := r.str_; subst ex
      exact call_len_str pins s σ H _ us Q I rx ⟨_, rfl, by rw [str_len, ← line_eq]; exact hz, by rw [str_len]; exact q.here L (.sca (.int _))⟩
    · cases e
  · obtain ⟨l, e1, e2⟩ := mpd e
    cases e2
    obtain ⟨p, vs, rfl, hq, rr⟩ := seq_at L r e1
    exact call_len_seq pins s σ H _ us Q I rx ⟨p, vs, rfl, hq, by rw [← rr.length]; exact q.here L (.sca (.int _))⟩
theorem op_min (hc : X.calm = true) (c : Bool) : CallR X (.builtin "min") (rBlt (kwOf X) .min c) := by
  intro pins s σ H xs us Q I rx h
  obtain ⟨g, Bs, base, st, ds, d, st', L, rs, e, q⟩ := h
  unfold bltE at e
  split at e <;> first | (rename_i hb; cases hb; done) | skip
  all_goals first | contradiction | skip
  · rename_i i j _
    cases e
    obtain ⟨v, w, rfl, r1, r2⟩ := reps2 rs
    have e1 := r1.int_; have e2 := r2.int_; subst e1 e2
    exact call_min2 hc pins s σ H _ us Q I rx ⟨i, j, rfl, q.here L (.sca (.int _))⟩
  all_goals cases e
theorem op_max (hc : X.calm = true) (c : Bool) : CallR X (.builtin "max") (rBlt (kwOf X) .max c) := by
  intro pins s σ H xs us Q I rx h
  obtain ⟨g, Bs, base, st, ds, d, st', L, rs, e, q⟩ := h
  unfold bltE at e
  split at e <;> first | contradiction | skip
  · rename_i i j _
    cases e
    obtain ⟨v, w, rfl, r1, r2⟩ := reps2 rs
    have e1 := r1.int_; have e2 := r2.int_; subst e1 e2
    exact call_max2 hc pins s σ H _ us Q I rx ⟨i, j, rfl, q.here L (.sca (.int _))⟩
  all_goals cases e
theorem reps_keys {κ : Kw} {g : Gh} {H : Hp} : ∀ {l : List (D × D)} {kvs : List (Key × V)}, RepK κ g H l kvs → Reps κ g H (l.map (·.1)) (kvs.map fun kv => kV kv.1)
  | _, _, .nil => .nil
  | _, _, .cons (k := k) _ t => .cons (by
      cases k with
      | inl i => exact .sca (.int i)
      | inr x => exact .sca (.str x.cps.toList)) (reps_keys t)
theorem op_tuple (hc : X.calm = true) (c : Bool) : CallR X (.type "tuple") (rBlt (kwOf X) .tuple c) := by
  intro pins s σ H xs us Q I rx h
  obtain ⟨g, Bs, base, st, ds, d, st', L, rs, e, q⟩ := h
  obtain ⟨a, rfl⟩ := one_of e ⟨by decide, by decide⟩
  obtain ⟨v, rfl, r⟩ := reps1 rs
  simp only [bltE] at e
  cases e1 : seqOf st a with
  | none =>
    rw [e1] at e
    obtain ⟨l, e2, e3⟩ := mpd e
    cases e3
    cases a with
    | own m =>
      simp only [dicOwn] at e2
      split at e2
      · rename_i l' hl'
        cases e2
        obtain ⟨p, kvs, rfl, hp, hH, rk⟩ := own_dic L r hl'
        exact call_tupleD hc pins s σ H _ us Q I rx ⟨p, kvs, rfl, .inl hH, fun b hb => q.tup L hb (reps_keys rk)⟩
      · cases e2
    | _ => cases e2
  | some l =>
    rw [e1] at e
    cases e
    obtain ⟨p, vs, rfl, hq, rr⟩ := seq_at L r e1
    rcases hq with hq | hq
    · exact call_tuple_of pins s σ H _ us Q I rx ⟨p, vs, rfl, .inl ⟨hq, fun l hl => q.tup L hl rr⟩⟩
    · cases a with
      | tup m =>
        cases e1
        exact call_tuple_of pins s σ H _ us Q I rx ⟨p, vs, rfl, .inr ⟨hq, q.here L r⟩⟩
      | lst m =>
        obtain ⟨p', vs', ep, hl, rr'⟩ := lst_at L r (l := l) e1
        cases ep
        exact call_tuple_of pins s σ H _ us Q I rx ⟨_, vs', rfl, .inl ⟨.inl (.inl hl), fun l hl => q.tup L hl rr'⟩⟩
      | own m =>
        obtain ⟨p', vs', ep, hl, rr'⟩ := lst_at L r (l := l) e1
        cases ep
        exact call_tuple_of pins s σ H _ us Q I rx ⟨_, vs', rfl, .inl ⟨.inl (.inl hl), fun l hl => q.tup L hl rr'⟩⟩
      | _ => cases e1
theorem op_list (c : Bool) : CallR X (.type "list") (rBlt (kwOf X) .list c) := by
  intro pins s σ H xs us Q I rx h
  obtain ⟨g, Bs, base, st, ds, d, st', L, rs, e, q⟩ := h
  obtain ⟨a, rfl⟩ := one_of e ⟨by decide, by decide⟩
  obtain ⟨v, rfl, r⟩ := reps1 rs
  have go : ∀ l, seqOf st a = some l → mkL c l st = (d, st') → wpAny (model X.prog X.w) X.A (call (.type "list") us) (EP X pins σ Q) X.xe s := fun l e1 e2 => by
    obtain ⟨rfl, rfl⟩ := pr_of (congrArg some e2)
    obtain ⟨p, vs, rfl, hq, rr⟩ := seq_at L r e1
    exact call_list_of pins s σ H _ us Q I rx ⟨p, vs, rfl, hq, fun l hl => q.mkL L hl rr⟩
  cases a with
  | scr m =>
    have e' : some (mkL c (m.map D.int) st) = some (d, st') := e
    obtain ⟨rfl, rfl⟩ := pr_of e'
    obtain ⟨p, rfl, hp⟩ := r.scr_
    exact call_list_of pins s σ H _ us Q I rx ⟨p, _, rfl, .inl hp.sq, fun l hl => q.mkL L hl (reps_int m)⟩
  | _ =>
    simp only [bltE] at e
    obtain ⟨l, e1, e2⟩ := mpd e
    exact go l e1 e2
theorem op_sorted (c : Bool) : CallR X (.builtin "sorted") (rBlt (kwOf X) .sorted c) := by
  intro pins s σ H xs us Q I rx h
  obtain ⟨g, Bs, base, st, ds, d, st', L, rs, e, q⟩ := h
  obtain ⟨a, rfl⟩ := one_of e ⟨by decide, by decide⟩
  obtain ⟨v, rfl, r⟩ := reps1 rs
  simp only [bltE] at e
  obtain ⟨l, e1, e⟩ := bnd e
  obtain ⟨ns, e2, e⟩ := mpd e
  obtain ⟨rfl, rfl⟩ := pr_of (congrArg some e)
  obtain ⟨p, vs, rfl, hq, rr⟩ := lst_at L r e1
  have ev := intsOf_rep e2 rr
  subst ev
  refine cr_sortedI pins s σ H _ us Q I rx ⟨p, ns, rfl, .inl (.inl hq), fun ns' l h1 h2 hl => ?_⟩
  rw [sorted_uniq h1 h2]
  exact q.mkL L hl (reps_int _)
theorem lexI_eq : ∀ a b : List Int, lexI a b = HT.lexLt a b
  | [], [] => rfl
  | [], _ :: _ => rfl
  | _ :: _, [] => rfl
  | x :: xs, y :: ys => by
    rw [HT.lexLt_cons, ← lexI_eq xs ys]; rfl
theorem intsOf_map' : ∀ {l : List D} {ns : List Int}, intsOf l = some ns → l = ns.map .int
  | [], _, e => by cases e; rfl
  | .int i :: l, _, e => by
    obtain ⟨ns', e1, e2⟩ := mpd (show (intsOf l).map (i :: ·) = _ from e)
    subst e2
    rw [List.map_cons, intsOf_map' e1]
  | .non :: _, _, e => by cases e
  | .bl _ :: _, _, e => by cases e
  | .str _ :: _, _, e => by cases e
  | .tup _ :: _, _, e => by cases e
  | .lst _ :: _, _, e => by cases e
  | .dic _ :: _, _, e => by cases e
  | .rng _ _ :: _, _, e => by cases e
  | .own _ :: _, _, e => by cases e
  | .scr _ :: _, _, e => by cases e
theorem tupsI_eq : ∀ {l : List D} {ts : List (List Int)}, tupsI l = some ts → l = ts.map tD
  | [], _, e => by cases e; rfl
  | .tup m :: l, _, e => by
    obtain ⟨t, e1, e2⟩ := bnd (show ((intsOf m).bind fun t => (tupsI l).map (t :: ·)) = _ from e)
    obtain ⟨ts', e3, e4⟩ := mpd e2
    subst e4
    rw [List.map_cons, ← tupsI_eq e3, intsOf_map' e1]; rfl
  | .non :: _, _, e => by cases e
  | .bl _ :: _, _, e => by cases e
  | .str _ :: _, _, e => by cases e
  | .int _ :: _, _, e => by cases e
  | .lst _ :: _, _, e => by cases e
  | .dic _ :: _, _, e => by cases e
  | .rng _ _ :: _, _, e => by cases e
  | .own _ :: _, _, e => by cases e
  | .scr _ :: _, _, e => by cases e
theorem intsOf_ints : ∀ ns : List Int, intsOf (ns.map D.int) = some ns
  | [] => rfl
  | i :: ns => by rw [List.map_cons]; show (intsOf (ns.map D.int)).map (i :: ·) = _; rw [intsOf_ints ns]; rfl
theorem rep_tD {κ : Kw} {g : Gh} {H : Hp} {t : List Int} {v : V} (r : Rep κ g H (tD t) v) : ∃ a : Addr, v = .ref a ∧ SqT κ.K H a (t.map V.int) := by
  obtain ⟨a, vs, rfl, h, rs⟩ := r.tup_
  have e := intsOf_rep (intsOf_ints t) rs
  subst e
  exact ⟨a, rfl, h.sq⟩
theorem reps_perm {κ : Kw} {g : Gh} {H : Hp} {vs ys : List V} (p : vs.Perm ys) : ∀ {ts : List (List Int)}, Reps κ g H (ts.map tD) vs → ∃ ts', ts.Perm ts' ∧ Reps κ g H (ts'.map tD) ys := by
  induction p with
  | nil => intro ts r; exact ⟨ts, List.Perm.refl _, r⟩
  | cons x p ih =>
    intro ts r
    cases ts with
    | nil => cases r
    | cons t ts =>
      cases r with
      | cons r1 r2 =>
        obtain ⟨ts', p', r'⟩ := ih r2
        exact ⟨t :: ts', p'.cons t, .cons r1 r'⟩
  | swap x y l =>
    intro ts r
    match ts, r with
    | t :: u :: ts, .cons r1 (.cons r2 r3) => exact ⟨u :: t :: ts, List.Perm.swap _ _ _, .cons r2 (.cons r1 r3)⟩
  | trans p1 p2 ih1 ih2 =>
    intro ts r
    obtain ⟨t1, q1, r1⟩ := ih1 r
    obtain ⟨t2, q2, r2⟩ := ih2 r1
    exact ⟨t2, q1.trans q2, r2⟩
theorem reps_pair {κ : Kw} {g : Gh} {H : Hp} {R : V → V → Prop} {S : List Int → List Int → Prop} (h : ∀ t u v w, Rep κ g H (tD t) v → Rep κ g H (tD u) w → R v w → S t u) : ∀ {ts : List (List Int)} {ys : List V}, Reps κ g H (ts.map tD) ys → ys.Pairwise R → ts.Pairwise S
  | [], _, _, _ => List.Pairwise.nil
  | t :: ts, _, .cons r1 r2, p => by
    have p2 := List.pairwise_cons.mp p
    refine List.pairwise_cons.mpr ⟨fun u hu => ?_, reps_pair h r2 p2.2⟩
    have : ∀ {ts : List (List Int)} {ys : List V}, Reps κ g H (ts.map tD) ys → ∀ u ∈ ts, ∃ w ∈ ys, Rep κ g H (tD u) w := by
      intro ts
      induction ts with
      | nil => intro ys r u hu; cases hu
      | cons x ts ih =>
        intro ys r u hu
        cases r with
        | cons q1 q2 =>
          rcases List.mem_cons.mp hu with rfl | hu
          · exact ⟨_, List.mem_cons_self, q1⟩
          · obtain ⟨w, hw, q⟩ := ih q2 u hu
            exact ⟨w, List.mem_cons_of_mem _ hw, q⟩
    obtain ⟨w, hw, q⟩ := this r2 u hu
    exact h t u _ w r1 q (p2.1 w hw)
theorem sortT_uniq {ts ts' : List (List Int)} (hp : ts.Perm ts') (hs : ts'.Pairwise fun n m => HT.lexLt m n = false) : ts' = sortT ts := by
  have h1 : (sortT ts).Perm ts := List.mergeSort_perm _ _
  have h2 : (sortT ts).Pairwise fun n m => HT.lexLt m n = false := by
    have := List.pairwise_mergeSort (le := fun a b : List Int => !lexI b a) (fun a b c h h' => by
      rw [lexI_eq] at *
      simp only [Bool.not_eq_true'] at *
      exact lex_tr a b c h h') (fun a b => by
      rw [lexI_eq, lexI_eq]
      cases e : HT.lexLt a b with
      | false => simp
      | true => rw [lex_asym a b e]; simp) ts
    exact this.imp fun {a b} h => by
      rw [lexI_eq] at h
      simpa using h
  exact List.Perm.eq_of_pairwise (le := fun n m => HT.lexLt m n = false) (fun a b _ _ h h' => lex_anti a b h' h) hs h2 (hp.symm.trans h1.symm)
theorem op_sortedT (hu : X.A.units + 65 < cLine) (c : Bool) : CallR X (.builtin "sorted") (rBlt (kwOf X) .sortedT c) := by
  intro pins s σ H xs us Q I rx h
  obtain ⟨g, Bs, base, st, ds, d, st', L, rs, e, q⟩ := h
  obtain ⟨a, rfl⟩ := one_of e ⟨by decide, by decide⟩
  obtain ⟨v, rfl, r⟩ := reps1 rs
  simp only [bltE] at e
  obtain ⟨l, e1, e⟩ := bnd e
  obtain ⟨ts, e2, e⟩ := bnd e
  split at e
  · rename_i hh
    obtain ⟨rfl, rfl⟩ := pr_of e
    obtain ⟨p, vs, rfl, hq, rr⟩ := lst_at L r e1
    have el := tupsI_eq e2
    subst el
    have mem : ∀ {ts : List (List Int)} {vs : List V}, Reps (kwOf X) g H (ts.map tD) vs → ∀ x ∈ vs, ∃ t ∈ ts, Rep (kwOf X) g H (tD t) x := by
      intro ts
      induction ts with
      | nil => intro vs r x hx; cases r; cases hx
      | cons t ts ih =>
        intro vs r x hx
        cases r with
        | cons q1 q2 =>
          rcases List.mem_cons.mp hx with rfl | hx
          · exact ⟨t, List.mem_cons_self, q1⟩
          · obtain ⟨u, hu, q⟩ := ih q2 x hx
            exact ⟨u, List.mem_cons_of_mem _ hu, q⟩
    refine cr_sortET hu pins s σ H _ us Q I rx ⟨p, vs, rfl, .inl (.inl hq), fun x hx => ?_, ?_, fun ys p2 hp hw hn => ?_⟩
    · obtain ⟨t, _, q1⟩ := mem rr x hx
      obtain ⟨b, rfl, h⟩ := rep_tD q1
      exact ⟨b, t, rfl, h⟩
    · match ts, hh, rr with
      | t :: ts, hh, .cons q1 q2 =>
        have e : t = [] := by simpa using hh
        subst e
        obtain ⟨b, rfl, h⟩ := rep_tD q1
        exact ⟨b, _, rfl, h⟩
    · obtain ⟨ts', hp', rr'⟩ := reps_perm hp.symm rr
      have hs' : ts'.Pairwise fun n m => HT.lexLt m n = false := reps_pair (fun t u v w q1 q2 hR => by
        obtain ⟨b, rfl, h1⟩ := rep_tD q1
        obtain ⟨b', rfl, h2⟩ := rep_tD q2
        exact hR b b' t u rfl rfl h1 h2) rr' hw
      have es := sortT_uniq hp' hs'
      subst es
      exact q.mkL L hn rr'
  · cases e
theorem op_int (c : Bool) : CallR X (.type "int") (rBlt (kwOf X) .int c) := by
  intro pins s σ H xs us Q I rx h
  obtain ⟨g, Bs, base, st, ds, d, st', L, rs, e, q⟩ := h
  obtain ⟨a, rfl⟩ := one_of e ⟨by decide, by decide⟩
  obtain ⟨v, rfl, r⟩ := reps1 rs
  cases a <;> simp only [bltE] at e <;> first | (cases e; done) | skip
  · cases e
    have ex := r.bl_; subst ex
    exact call_int1 pins s σ H _ us Q I rx (.inr ⟨_, rfl, q.here L (.sca (.int _))⟩)
  · cases e
    have ex := r.int_; subst ex
    exact call_int1 pins s σ H _ us Q I rx (.inl ⟨_, rfl, q.here L (.sca (.int _))⟩)
theorem op_all (hc : X.calm = true) (c : Bool) : CallR X (.builtin "all") (rBlt (kwOf X) .all c) := by
  intro pins s σ H xs us Q I rx h
  obtain ⟨g, Bs, base, st, ds, d, st', L, rs, e, q⟩ := h
  obtain ⟨a, rfl⟩ := one_of e ⟨by decide, by decide⟩
  obtain ⟨v, rfl, r⟩ := reps1 rs
  simp only [bltE] at e
  obtain ⟨l, e1, e⟩ := bnd e
  obtain ⟨ns, e2, e⟩ := mpd e
  cases e
  obtain ⟨p, vs, rfl, hq, rr⟩ := lst_at L r e1
  have ev := trus_rep e2 rr
  subst ev
  exact cr_all hc pins s σ H _ us Q I rx ⟨p, ns, rfl, .inl (.inl hq), q.here L (.sca (.bl _))⟩
theorem op_any (hc : X.calm = true) (c : Bool) : CallR X (.builtin "any") (rBlt (kwOf X) .any c) := by
  intro pins s σ H xs us Q I rx h
  obtain ⟨g, Bs, base, st, ds, d, st', L, rs, e, q⟩ := h
  obtain ⟨a, rfl⟩ := one_of e ⟨by decide, by decide⟩
  obtain ⟨v, rfl, r⟩ := reps1 rs
  simp only [bltE] at e
  obtain ⟨l, e1, e⟩ := bnd e
  obtain ⟨ns, e2, e⟩ := mpd e
  cases e
  obtain ⟨p, vs, rfl, hq, rr⟩ := lst_at L r e1
  have ev := trus_rep e2 rr
  subst ev
  exact cr_any hc pins s σ H _ us Q I rx ⟨p, ns, rfl, .inl (.inl hq), q.here L (.sca (.bl _))⟩
theorem op_sum (hc : X.calm = true) (c : Bool) : CallR X (.builtin "sum") (rBlt (kwOf X) .sum c) := by
  intro pins s σ H xs us Q I rx h
  obtain ⟨g, Bs, base, st, ds, d, st', L, rs, e, q⟩ := h
  obtain ⟨a, rfl⟩ := one_of e ⟨by decide, by decide⟩
  obtain ⟨v, rfl, r⟩ := reps1 rs
  simp only [bltE] at e
  obtain ⟨l, e1, e⟩ := bnd e
  obtain ⟨ns, e2, e⟩ := mpd e
  cases e
  obtain ⟨p, vs, rfl, hq, rr⟩ := lst_at L r e1
  have ev := intsOf_rep e2 rr
  subst ev
  exact cr_sum hc pins s σ H _ us Q I rx ⟨p, ns, rfl, .inl (.inl hq), q.here L (.sca (.int _))⟩
theorem op_repr (hg : X.A.guards = some []) (hu : X.A.units + 65 < cLine) (c : Bool) : CallR X (.builtin "repr") (rBlt (kwOf X) .repr c) := by
  intro pins s σ H xs us Q I rx h
  obtain ⟨g, Bs, base, st, ds, d, st', L, rs, e, q⟩ := h
  obtain ⟨a, rfl⟩ := one_of e ⟨by decide, by decide⟩
  obtain ⟨v, rfl, r⟩ := reps1 rs
  obtain ⟨u, rfl, ru⟩ := vals1 rx
  simp only [bltE] at e
  split at e
  · rename_i l hl
    split at e
    · rename_i hp
      rw [Bool.and_eq_true] at hp
      cases e
      have hp' : plain 60 (res st a) = true := by rw [hl]; exact hp.1
      have dp := r.res L hp'
      rw [hl] at dp
      cases dp with
      | tup h1 h2 =>
        cases ru
        exact call_reprD hg hu I (d := .tup l) (.tup h1 h2) hp.1 hp.2 (q.here L (.sca (.str _)))
    · split at e
      · rename_i hp
        rw [Bool.and_eq_true] at hp
        cases e
        have ea : a = .tup l := by
          cases a with
          | tup m => exact hl
          | own n =>
            simp only [res] at hl
            split at hl <;> cases hl
          | _ => cases hl
        subst ea
        obtain ⟨p, vs, rfl, t1, p1⟩ := r.tup_
        cases ru
        have hs := hp.2
        unfold showOk at hs
        rw [Bool.and_eq_true] at hs
        obtain ⟨T, idr, S⟩ := by_tup (n := 59) I (by simpa [plainZ] using hp.1) t1.sq p1 hs.1 (reprZ_fits hp.1 hp.2)
        exact call_reprZ hg hu I S hp.1 (q.here L (.sca (.str _)))
      · cases e
  · rename_i l hl
    split at e
    · rename_i hp
      rw [Bool.and_eq_true] at hp
      cases e
      have hp' : plain 60 (res st a) = true := by rw [hl]; exact hp.1
      have dp := r.res L hp'
      rw [hl] at dp
      cases dp with
      | lst h1 h2 =>
        cases ru
        exact call_reprD hg hu I (d := .lst l) (.lst h1 h2) hp.1 hp.2 (q.here L (.sca (.str _)))
    · split at e
      · rename_i hp
        rw [Bool.and_eq_true] at hp
        cases e
        have ea : lstOf st a = some l := by
          cases a with
          | lst m => exact congrArg some (D.lst.inj hl)
          | own n =>
            simp only [res] at hl
            simp only [lstOf]
            split at hl <;> cases hl
            rename_i hm
            rw [hm]
          | _ => cases hl
        obtain ⟨p, vs, rfl, t1, p1⟩ := lst_at L r ea
        cases ru
        have hs := hp.2
        unfold showOk at hs
        rw [Bool.and_eq_true] at hs
        obtain ⟨T, idr, S⟩ := by_lst (n := 59) I (by simpa [plainZ] using hp.1) t1 p1 hs.1 (reprZ_fits hp.1 hp.2)
        exact call_reprZ hg hu I S hp.1 (q.here L (.sca (.str _)))
      · cases e
  · rename_i l hl
    split at e
    · rename_i hp
      rw [Bool.and_eq_true] at hp
      cases e
      have hs := hp.2
      unfold showOk at hs
      rw [Bool.and_eq_true] at hs
      have ea : ∃ p kvs, v = .ref p ∧ Rd H p (.dK kvs) ∧ RepK (kwOf X) g H l kvs := by
        cases a with
        | dic m =>
          cases hl
          have h' : l.length ≤ 1 ∧ plainZK 59 l = true := by simpa [plainZ] using hp.1
          cases r with
          | sca z => cases z
          | wdic hz _ => omega
          | dic h1 h2 h3 => exact ⟨_, _, rfl, h2, h3⟩
        | own n =>
          simp only [res] at hl
          split at hl <;> cases hl
          rename_i hm
          obtain ⟨p, kvs, e1, _, e2, e3⟩ := own_dic L r hm
          exact ⟨p, kvs, e1, .inl e2, e3⟩
        | _ => cases hl
      obtain ⟨p, kvs, rfl, h2, h3⟩ := ea
      cases ru
      obtain ⟨T, idr, S⟩ := by_dic (n := 59) I hp.1 h2 h3 hs.1 (reprZ_fits hp.1 hp.2)
      exact call_reprZ hg hu I S hp.1 (q.here L (.sca (.str _)))
    · cases e
  · rename_i l hl
    split at e
    · rename_i hp
      rw [Bool.and_eq_true] at hp
      cases e
      have hp' : plain 60 (res st a) = true := by rw [hl]; exact hp.1
      have dp := r.res L hp'
      rw [hl] at dp
      have hf := repr_fits hp.1 hp.2
      simp only [toPy, PyData.shown] at hf
      simp only [toPy] at dp
      cases dp
      obtain ⟨t, rfl⟩ := ru
      refine P.repr_of_str ⟨.str _, H, I.tok _, ⟨_, rfl⟩, ?_⟩ hf
      have e : str_ (shown (.str l)) = reprText ⟨l.toArray⟩ := by
        unfold shown
        simp [str_, toPy, PyData.shown]
      rw [← e]
      exact q.here L (.sca (.str _))
    · cases e
  · rename_i i hl
    split at e
    · rename_i hp
      cases e
      have hp' : plain 60 (res st a) = true := by rw [hl]; rfl
      have dp := r.res L hp'
      rw [hl] at dp
      simp only [toPy] at dp
      cases dp
      obtain ⟨t, rfl⟩ := ru
      unfold showOk at hp
      rw [Bool.and_eq_true] at hp
      have h2 : i.natAbs.log2 < 1920 := by
        have := hp.1
        simpa only [toPy, PyData.showable, decide_eq_true_eq] using this
      refine P.repr_of_int h2 ⟨.str _, H, I.tok _, ⟨_, rfl⟩, ?_⟩
      have e : str_ (shown (.int i)) = toString i := by
        unfold shown
        simp [str_, toPy, PyData.shown]
      rw [← e]
      exact q.here L (.sca (.str _))
    · cases e
  · rename_i b hl
    cases e
    have hp' : plain 60 (res st a) = true := by rw [hl]; rfl
    have dp := r.res L hp'
    rw [hl] at dp
    simp only [toPy] at dp
    cases dp
    have eu : u = .bool b := ru
    subst eu
    refine P.repr_of_bool ⟨.str _, H, I.tok _, ⟨_, rfl⟩, ?_⟩
    have e : str_ (shown (.bl b)) = (if b = true then Str.ofString "True" else Str.ofString "False") := by
      unfold shown
      cases b <;> simp [str_, toPy, PyData.shown]
    rw [← e]
    exact q.here L (.sca (.str _))
  · rename_i hl
    cases e
    have hp' : plain 60 (res st a) = true := by rw [hl]; rfl
    have dp := r.res L hp'
    rw [hl] at dp
    simp only [toPy] at dp
    cases dp
    have eu : u = .none := ru
    subst eu
    refine P.repr_of_none ⟨.str _, H, I.tok _, ⟨_, rfl⟩, ?_⟩
    have e : str_ (shown .non) = "None" := by
      unfold shown
      simp [str_, toPy, PyData.shown]
    rw [← e]
    exact q.here L (.sca (.str _))
  · cases e
theorem op_strB (c : Bool) : CallR X (.type "str") (rBlt (kwOf X) .str c) := by
  intro pins s σ H xs us Q I rx h
  obtain ⟨g, Bs, base, st, ds, d, st', L, rs, e, q⟩ := h
  obtain ⟨a, rfl⟩ := one_of e ⟨by decide, by decide⟩
  obtain ⟨v, rfl, r⟩ := reps1 rs
  obtain ⟨u, rfl, ru⟩ := vals1 rx
  cases a with
  | int i =>
    replace e : (if showOk (.int i) then some (D.str (shown (.int i)), st) else none) = some (d, st') := e
    split at e
    · rename_i hp
      cases e
      have ev := r.int_; subst ev
      obtain ⟨t, rfl⟩ := ru
      unfold showOk at hp
      rw [Bool.and_eq_true] at hp
      have h2 : i.natAbs.log2 < 1920 := by
        have := hp.1
        simpa only [toPy, PyData.showable, decide_eq_true_eq] using this
      refine P.str_of_int h2 ⟨.str _, H, I.tok _, ⟨_, rfl⟩, ?_⟩
      have e : str_ (shown (.int i)) = toString i := by
        unfold shown
        simp [str_, toPy, PyData.shown]
      rw [← e]
      exact q.here L (.sca (.str _))
    · cases e
  | bl b =>
    cases e
    have ev := r.bl_; subst ev
    have eu : u = .bool b := ru
    subst eu
    refine P.str_of_bool ⟨.str _, H, I.tok _, ⟨_, rfl⟩, ?_⟩
    have e : str_ (shown (.bl b)) = (if b = true then Str.ofString "True" else Str.ofString "False") := by
      unfold shown
      cases b <;> simp [str_, toPy, PyData.shown]
    have e2 : (Str.ofString (if b = true then "True" else "False")) = (if b = true then Str.ofString "True" else Str.ofString "False") := by cases b <;> rfl
    first
      | (rw [← e]; exact q.here L (.sca (.str _)))
      | (show Q (.str (Str.ofString (if b = true then "True" else "False"))) H; rw [e2, ← e]; exact q.here L (.sca (.str _)))
  | _ => cases e
def bltName : Blt → String
  | .len => "len" | .min => "min" | .max => "max" | .tuple => "tuple" | .list => "list" | .sorted => "sorted" | .sortedT => "sorted" | .repr => "repr" | .int => "int" | .all => "all" | .any => "any" | .sum => "sum" | .str => "str" | .range1 => "range" | .range2 => "range"
def bltIsTy : Blt → Bool
  | .tuple => true | .list => true | .int => true | .str => true | .range1 => true | .range2 => true
  | _ => false
def bltV (b : Blt) : Value := if bltIsTy b = true then .type (bltName b) else .builtin (bltName b)
theorem op_blt (hc : X.calm = true) (hg : X.A.guards = some []) (hu : X.A.units + 65 < cLine) (b : Blt) (c : Bool) : CallR X (bltV b) (rBlt (kwOf X) b c) := by
  have none_ : ∀ {f : Value}, (∀ ds st, bltE b c ds st = none) → CallR X f (rBlt (kwOf X) b c) := fun hn => by
    intro pins s σ H xs us Q I rx ⟨g, Bs, base, st, ds, d, st', L, rs, e, q⟩
    rw [hn] at e; cases e
  cases b with
  | len => exact op_len c
  | min => exact op_min hc c
  | max => exact op_max hc c
  | tuple => exact op_tuple hc c
  | list => exact op_list c
  | sorted => exact op_sorted c
  | sortedT => exact op_sortedT hu c
  | repr => exact op_repr hg hu c
  | int => exact op_int c
  | all => exact op_all hc c
  | any => exact op_any hc c
  | sum => exact op_sum hc c
  | str => exact op_strB c
  | range1 => exact none_ fun ds st => by cases ds with | nil => rfl | cons a t => cases t <;> rfl
  | range2 => exact none_ fun ds st => by cases ds with | nil => rfl | cons a t => cases t <;> rfl
theorem plain_stars {es : List Expr} {env : PySem.Env} {pos : Pos} (h : es.all notStar = true) : (backTo pos (starEach es env)).any (·.1) = false := by
  induction es with
  | nil => rfl
  | cons a es ih =>
    rw [List.all_cons, Bool.and_eq_true] at h
    rw [star_cons h.1]
    show (false || (backTo pos (starEach es env)).any (·.1)) = false
    rw [Bool.false_or]
    exact ih h.2
theorem s_blt {b : Blt} {c : Bool} {x : Str} {p pos : Pos} {a : Expr} {es : List Expr} {el : EL} (hc : X.calm = true) (hgd : X.A.guards = some []) (hu : X.A.units + 65 < cLine) (hg : Gl X x) (hm : X.mg x = none) (hx : x = Str.ofString (bltName b)) (hst : (a :: es).all notStar = true) (ha : PA X (a :: es) (rdL X Γ el)) : PE X (.Call (.Name x p) (a :: es) [] pos) (rdE X Γ (.blt b el c)) := by
  have hst' := hst
  rw [List.all_cons, Bool.and_eq_true] at hst
  have imp : PE X (.Call (.Name x p) (a :: es) [] pos) (tCB (rBlt (kwOf X) b c) (rdL X Γ el)) := by
    have hv : bootBuiltins x = some (bltV b) := by subst hx; cases b <;> with_unfolding_all rfl
    have hn : x ≠ "__name__" := by subst hx; cases b <;> decide
    have hd : (x == ("__debug__" : Str)) = false := by subst hx; cases b <;> decide
    have ho := op_blt hc hgd hu b c
    by_cases ht : bltIsTy b = true
    · have e : bltV b = .type (bltName b) := if_pos ht
      rw [e] at hv ho
      exact pe_callTy ho hg hm hv ha hn hd (star_cons hst.1) (plain_stars hst.2)
    · have e : bltV b = .builtin (bltName b) := if_neg ht
      rw [e] at hv ho
      exact pe_callB ho hg hm hv ha hn hd (star_cons hst.1) (plain_stars hst.2)
  refine PE_imp imp fun σ H Q ⟨g, Bs, env, st, d, st', L, En, e, q⟩ => ?_
  rw [evE] at e
  obtain ⟨⟨ds, st1⟩, e1, e⟩ := bnd e
  exact ⟨g, Bs, env, st, ds, st1, L, En, e1, fun vs g1 H1 L1 x1 r1 => ⟨g1, Bs, Γ.base, st1, ds, d, st', L1, r1, e, fun v g2 H2 L2 x2 r2 => q v g2 H2 L2 (x1.trans x2) r2⟩⟩
theorem reps_rg {g : Gh} {H : Hp} {κ : Kw} (n : Int) : Reps κ g H (rgD n) (rgV 0 n) := by
  unfold rgD rgV
  rw [Int.sub_zero]
  generalize List.range n.toNat = l
  induction l with
  | nil => exact .nil
  | cons a l ih => exact .cons (by show Rep κ g H (D.int (a : Int)) (V.int (0 + (a : Int))); rw [Int.zero_add]; exact .sca (.int _)) ih
theorem mem_dedI {k : Int} : ∀ {l : List Int}, k ∈ dedI l ↔ k ∈ l
  | [] => Iff.rfl
  | a :: r => by
    have ih := mem_dedI (k := k) (l := r)
    unfold dedI
    by_cases h : a ∈ r
    · rw [if_pos h, ih, List.mem_cons]
      exact ⟨.inr, fun z => z.elim (fun z => z ▸ h) id⟩
    · rw [if_neg h, List.mem_cons, List.mem_cons, ih]
theorem nodup_dedI : ∀ l : List Int, (dedI l).Nodup
  | [] => List.nodup_nil
  | a :: r => by
    unfold dedI
    by_cases h : a ∈ r
    · rw [if_pos h]; exact nodup_dedI r
    · rw [if_neg h]; exact List.nodup_cons.mpr ⟨fun z => h (mem_dedI.mp z), nodup_dedI r⟩
theorem setI_uniq {ns l : List Int} (hs : ns.Pairwise (· < ·)) (hm : ∀ k, k ∈ ns ↔ k ∈ l) : ns = setI l := by
  refine sorted_uniq ?_ (hs.imp fun h => Int.le_of_lt h)
  have nd : ns.Nodup := hs.imp fun h => Int.ne_of_lt h
  exact (List.perm_ext_iff_of_nodup nd (nodup_dedI l)).mpr fun k => (hm k).trans mem_dedI.symm
theorem s_sst {c : Bool} {x y : Str} {p p2 p3 pos : Pos} {a : Expr} {ea : E} (hc : X.calm = true) (hg : Gl X x) (hm : X.mg x = none) (hx : x = Str.ofString "sorted") (hg2 : Gl X y) (hm2 : X.mg y = none) (hy : y = Str.ofString "set") (hs : notStar a = true) (ha : PE X a (rdE X Γ ea)) : PE X (.Call (.Name x p) [.Call (.Name y p2) [a] [] p3] [] pos) (rdE X Γ (.rgv .sst c ea)) := by
  subst hx
  subst hy
  have h1 : PE X (.Call (.Name "set" p2) [a] [] p3) (tCB (rSetL X) (tCons (rdE X Γ ea) tNil)) := pe_callTy (cr_setL hc) hg2 hm2 boot_set (pa_cons ha pa_nil (star_cons hs)) (by decide) (by decide) (star_cons hs) (plain_stars rfl)
  have h2 : PE X (.Call (.Name "sorted" p) [.Call (.Name "set" p2) [a] [] p3] [] pos) (tCB (rSortedSet X.w) (tCons (tCB (rSetL X) (tCons (rdE X Γ ea) tNil)) tNil)) :=
    pe_callB (cr_sortedSet hc) hg hm (by with_unfolding_all rfl) (pa_cons h1 pa_nil (star_cons rfl)) (by decide) (by decide) (star_cons rfl) (plain_stars rfl)
  refine PE_imp h2 fun σ H Q ⟨g, Bs, env, st, d, st', L, En, e, q⟩ => ?_
  rw [evE] at e
  obtain ⟨⟨d1, st1⟩, e1, e⟩ := bnd e
  refine ⟨g, Bs, env, st, d1, st1, L, En, e1, fun v g1 H1 L1 x1 r1 => ?_⟩
  obtain ⟨l, e2, e⟩ := bnd (show ((lstOf st1 d1).bind fun l => (intsOf l).bind fun l => if l.length < 64 then some (mkL c ((setI l).map .int) st1) else none) = some (d, st') from e)
  obtain ⟨ns, e3, e⟩ := bnd e
  split at e
  · rename_i h64
    obtain ⟨rfl, rfl⟩ := pr_of e
    obtain ⟨p, vs, rfl, hq, rr⟩ := lst_at L1 r1 e2
    have ev := intsOf_rep e3 rr
    subst ev
    refine ⟨p, ns, rfl, hq, h64, fun p2 n hp hn => ⟨p2, _, n, rfl, upd_same, by omega, fun ms p3 hs hm hl hp3 => ?_⟩⟩
    have em : ms = setI ns := setI_uniq hs fun k => by rw [hm k, decide_eq_true_eq]
    rw [em]
    have x2 := ext_fz L1 hp (SetO X.w p2 (fun j => decide (j ∈ ns)) n)
    exact Out.mkL (fun v g2 H2 L2 x r2 => q v g2 H2 L2 (x1.trans (x2.trans x)) r2) (live_fz L1 hp _) hp3 (reps_int _)
  · cases e
theorem s_rgv {t : Nst} {c : Bool} {x y : Str} {p p2 p3 pos : Pos} {a : Expr} {ea : E} (hc : X.calm = true) (hg : Gl X x) (hm : X.mg x = none) (hx : x = Str.ofString (nstOut t)) (hg2 : Gl X y) (hm2 : X.mg y = none) (hy : y = Str.ofString (nstIn t)) (hs : notStar a = true) (ha : PE X a (rdE X Γ ea)) : PE X (.Call (.Name x p) [.Call (.Name y p2) [a] [] p3] [] pos) (rdE X Γ (.rgv t c ea)) := by
  subst hy
  have hr' : ∀ (hg2 : Gl X "range") (hm2 : X.mg "range" = none), PRg X (.Call (.Name "range" p2) [a] [] p3) (tRg1 (rdE X Γ ea)) := fun hg2 hm2 => prg_1 hg2 hm2 ha (star_cons hs)
  cases t with
  | sst => exact s_sst hc hg hm hx hg2 hm2 rfl hs ha
  | tup =>
    subst hx
    have hr := hr' hg2 hm2
    refine PE_imp (pe_tupRg hc hg hm hr) fun σ H Q ⟨g, Bs, env, st, d, st', L, En, e, q⟩ => ?_
    rw [evE] at e
    obtain ⟨⟨d1, st1⟩, e1, e⟩ := bnd e
    refine ⟨g, Bs, env, st, d1, st1, L, En, e1, fun v g1 H1 L1 x1 r1 => ?_⟩
    obtain ⟨n, rfl⟩ : ∃ n, d1 = .int n := by cases d1 <;> first | exact ⟨_, rfl⟩ | cases e
    · replace e : (if -(2 ^ 62) ≤ n ∧ n.toNat ≤ 16777216 then some (D.tup (rgD n), st1) else none) = some (d, st') := e
      split at e
      · rename_i hz
        cases e
        have ev := r1.int_; subst ev
        refine ⟨n, rfl, ⟨by omega, by omega, hz.1, by omega, by omega⟩, fun l hl => ?_⟩
        exact Out.tup (fun v g2 H2 L2 x2 r2 => q v g2 H2 L2 (x1.trans x2) r2) L1 hl (reps_rg n)
      · cases e
  | lst =>
    subst hx
    have hr := hr' hg2 hm2
    refine PE_imp (pe_listRg hc hg hm hr) fun σ H Q ⟨g, Bs, env, st, d, st', L, En, e, q⟩ => ?_
    rw [evE] at e
    obtain ⟨⟨d1, st1⟩, e1, e⟩ := bnd e
    refine ⟨g, Bs, env, st, d1, st1, L, En, e1, fun v g1 H1 L1 x1 r1 => ?_⟩
    obtain ⟨n, rfl⟩ : ∃ n, d1 = .int n := by cases d1 <;> first | exact ⟨_, rfl⟩ | cases e
    · replace e : (if -(2 ^ 62) ≤ n ∧ n.toNat ≤ 16777216 then some (mkL c (rgD n) st1) else none) = some (d, st') := e
      split at e
      · rename_i hz
        have e' : mkL c (rgD n) st1 = (d, st') := Option.some.inj e
        obtain ⟨rfl, rfl⟩ := pr_of (congrArg some e')
        have ev := r1.int_; subst ev
        refine ⟨n, rfl, ⟨by omega, by omega, hz.1, by omega, by omega⟩, fun l hl => ?_⟩
        exact Out.mkL (fun v g2 H2 L2 x2 r2 => q v g2 H2 L2 (x1.trans x2) r2) L1 hl (reps_rg n)
      · cases e
end
end Mc

set_option linter.all false
set_option maxRecDepth 100000
set_option Elab.async false
set_option maxHeartbeats 1000000
namespace Mc
open PySem PySem.Spec PyProof.Rows L2

theorem joinT_eq (s : Tx) : ∀ l : List Tx, Builtin.Str.glued (str_ s) (l.map str_) = str_ (joinT s l) := by
  intro l
  have gen : ∀ (l : List Tx) (acc : Array Nat), (l.map str_).foldl (fun acc p => acc ++ (str_ s).cps ++ p.cps) acc = acc ++ ((l.map fun t => s ++ t).flatten).toArray := by
    intro l
    induction l with
    | nil => intro acc; simp
    | cons x r ih =>
      intro acc
      rw [List.map_cons, List.foldl_cons, ih, List.map_cons, List.flatten_cons]
      simp [str_, Array.append_assoc]
  have j1 : ∀ (x : Tx) (r : List Tx), joinT s (x :: r) = x ++ (r.map fun t => s ++ t).flatten := by
    intro x r
    induction r generalizing x with
    | nil => simp [joinT]
    | cons y r ih =>
      show x ++ s ++ joinT s (y :: r) = _
      rw [ih y, List.map_cons, List.flatten_cons]
      simp [List.append_assoc]
  cases l with
  | nil => rfl
  | cons x r =>
    rw [j1]
    unfold Builtin.Str.glued
    rw [List.map_cons, List.drop_one, List.tail_cons, List.headD_cons, gen]
    simp [str_]
theorem lens_eq : ∀ l : List Tx, ((l.map str_).map (·.length)).sum = lensT l
  | [] => rfl
  | x :: r => by
    rw [List.map_cons, List.map_cons, List.sum_cons, lens_eq r, str_len]; rfl
section
variable {κ : Kw} {g : Gh} {H : Hp} {Bs : Nat → Prop} {base : Nat} {st : Sto}
theorem strsOf_rep : ∀ {l : List D} {vs : List V} {ns : List Tx}, strsOf l = some ns → Reps κ g H l vs → vs = (ns.map str_).map V.str
  | [], _, _, e, .nil => by cases e; rfl
  | .str i :: l, _, _, e, .cons r t => by
    obtain ⟨ns', e1, e2⟩ := mpd (show (strsOf l).map (i :: ·) = _ from e)
    subst e2
    rw [r.str_, strsOf_rep e1 t]; rfl
  | .non :: _, _, _, e, _ => by cases e
  | .bl _ :: _, _, _, e, _ => by cases e
  | .int _ :: _, _, _, e, _ => by cases e
  | .tup _ :: _, _, _, e, _ => by cases e
  | .lst _ :: _, _, _, e, _ => by cases e
  | .dic _ :: _, _, _, e, _ => by cases e
  | .rng _ _ :: _, _, _, e, _ => by cases e
  | .own _ :: _, _, _, e, _ => by cases e
  | .scr _ :: _, _, _, e, _ => by cases e
mutual
theorem below_mono {n m : Nat} (h : n ≤ m) : ∀ {d : D}, below n d = true → below m d = true
  | .tup l, e => by simp only [below] at e ⊢; exact belowL_mono h e
  | .lst l, e => by simp only [below] at e ⊢; exact belowL_mono h e
  | .dic l, e => by simp only [below] at e ⊢; exact belowK_mono h e
  | .own k, e => by
    simp only [below, decide_eq_true_eq] at e ⊢
    exact Nat.lt_of_lt_of_le e h
  | .non, _ => rfl
  | .bl _, _ => rfl
  | .int _, _ => rfl
  | .str _, _ => rfl
  | .rng _ _, _ => rfl
  | .scr _, _ => rfl
theorem belowL_mono {n m : Nat} (h : n ≤ m) : ∀ {d : List D}, belowL n d = true → belowL m d = true
  | [], _ => rfl
  | _ :: _, e => by
    simp only [belowL, Bool.and_eq_true] at e ⊢
    exact ⟨below_mono h e.1, belowL_mono h e.2⟩
theorem belowK_mono {n m : Nat} (h : n ≤ m) : ∀ {d : List (D × D)}, belowK n d = true → belowK m d = true
  | [], _ => rfl
  | (_, _) :: _, e => by
    simp only [belowK, Bool.and_eq_true] at e ⊢
    exact ⟨⟨below_mono h e.1.1, below_mono h e.1.2⟩, belowK_mono h e.2⟩
end
theorem belowL_app {n : Nat} : ∀ {a b : List D}, belowL n (a ++ b) = (belowL n a && belowL n b)
  | [], _ => by simp [belowL]
  | d :: a, b => by rw [List.cons_append, belowL, belowL, belowL_app, Bool.and_assoc]
theorem belowL_iff {n : Nat} : ∀ {a : List D}, belowL n a = true ↔ ∀ d ∈ a, below n d = true
  | [] => by simp [belowL]
  | d :: a => by
    rw [belowL, Bool.and_eq_true, belowL_iff]
    simp
theorem belowL_sub {n : Nat} {a b : List D} (h : ∀ d ∈ b, d ∈ a) (e : belowL n a = true) : belowL n b = true :=
  belowL_iff.mpr fun d hd => belowL_iff.mp e d (h d hd)
/-- a list cell is written -/
theorem wr_lst {n : Nat} {a : Addr} {l l' : List D} {vs : List V} {Q : VK} {d : D} {v : V} (L : Live κ g Bs base st H) (hn : st[n]? = some (.lst l)) (ha : g.al[n]? = some a)
    (r : Reps κ g H l' vs) (hb : n < base → ∀ b, belowL b l = true → belowL b l' = true) (q : Out κ g H Bs base d (st.set n (.lst l')) Q) (rd : ∀ g' H', Ext g H g' H' → Rep κ g' H' d v) : Q v (upd H a (.lst vs)) := by
  have x := ext_wr (c := .lst l) L ha (.lst vs)
  exact q v g _ (live_wr L hn ha (.lst vs) (c' := .lst l') ⟨vs, upd_same, r.mono x⟩ hb) x (rd _ _ x)
theorem wr_ok {n : Nat} {d : D} (h : wr base n d = true) (hn : n < base) (b : Nat) : below b d = true := by
  unfold wr at h
  rw [Bool.or_eq_true, decide_eq_true_eq] at h
  rcases h with h | h
  · omega
  · exact below_mono (Nat.zero_le _) h
theorem wrL_ok {n : Nat} {d : List D} (h : wrL base n d = true) (hn : n < base) (b : Nat) : belowL b d = true := by
  unfold wrL at h
  rw [Bool.or_eq_true, decide_eq_true_eq] at h
  rcases h with h | h
  · omega
  · exact belowL_mono (Nat.zero_le _) h
theorem Reps.dropLast {l : List D} {vs : List V} (r : Reps κ g H l vs) : Reps κ g H l.dropLast vs.dropLast := by
  rw [List.dropLast_eq_take, List.dropLast_eq_take, r.length]
  exact r.take _
theorem Reps.erase : ∀ {l : List D} {vs : List V} (i : Nat), Reps κ g H l vs → Reps κ g H (l.eraseIdx i) (vs.eraseIdx i)
  | _, _, _, .nil => .nil
  | _, _, 0, .cons _ t => t
  | _, _, i + 1, .cons r t => .cons r (Reps.erase i t)
theorem findIx_ok {d : D} : ∀ {l : List D} {j : Nat}, findIx d l = some j → ∃ z, l[j]? = some z ∧ eqv z d = true ∧ ∀ m z', m < j → l[m]? = some z' → eqv z' d = false
  | [], j, e => by cases e
  | a :: r, j, e => by
    rw [findIx] at e
    split at e
    · rename_i h
      cases e
      exact ⟨a, rfl, h, fun m z' hm _ => absurd hm (Nat.not_lt_zero _)⟩
    · rename_i h
      obtain ⟨j', e1, e2⟩ := mpd e
      subst e2
      obtain ⟨z, h1, h2, h3⟩ := findIx_ok e1
      refine ⟨z, by simpa using h1, h2, fun m z' hm hz => ?_⟩
      cases m with
      | zero => cases hz; simpa using h
      | succ m => exact h3 m z' (by omega) (by simpa using hz)
theorem toPyL_get : ∀ {l : List D} {j : Nat} {z : D}, l[j]? = some z → (toPyL l)[j]? = some (toPy z)
  | a :: r, 0, z, e => by cases e; rfl
  | a :: r, j + 1, z, e => by
    simp only [toPyL]
    simpa using toPyL_get (l := r) (j := j) (by simpa using e)
theorem toPyL_len : ∀ {l : List D}, (toPyL l).length = l.length
  | [] => rfl
  | _ :: r => by simp only [toPyL, List.length_cons, toPyL_len]
theorem plainL_mem {n : Nat} : ∀ {l : List D}, plainL n l = true → ∀ d ∈ l, plain n d = true
  | [], _, d, hd => nomatch hd
  | a :: r, h, d, hd => by
    have h' : plain n a = true ∧ plainL n r = true := by simpa [plainL] using h
    rcases List.mem_cons.mp hd with e | hd
    · rw [e]; exact h'.1
    · exact plainL_mem h'.2 d hd
end
section
variable {X : Cx} {Γ : Cfg}
def metTy (m : Met) : String := match m with
  | .join => "str" | .upper => "str" | .update => "dict"
  | _ => "list"
def metNm (m : Met) : String := match m with
  | .append => "append" | .extend => "extend" | .insert => "insert" | .pop0 => "pop" | .popI => "pop" | .index => "index" | .count => "count" | .join => "join" | .upper => "upper" | .update => "update"
def metId (m : Met) : String := metTy m ++ "." ++ metNm m
def rMet (κ : Kw) (m : Met) : V → List V → Hp → VK → Prop := fun x xs H Q => ∃ g Bs base st o ds d st', Live κ g Bs base st H ∧ Rep κ g H o x ∧ Reps κ g H ds xs ∧ metE base m o ds st = some (d, st') ∧ Out κ g H Bs base d st' Q
theorem met_ty {κ : Kw} {g : Gh} {H : Hp} {Bs : Nat → Prop} {base : Nat} {st : Sto} {m : Met} {o : D} {x : V} (L : Live κ g Bs base st H) (ro : Rep κ g H o x) (e : metOk m o st = true) : tyV κ.K (metTy m) x H := by
  have li : (lstOf st o).isSome = true → tyV κ.K "list" x H := fun h => by
    obtain ⟨l, hl⟩ := Option.isSome_iff_exists.mp h
    obtain ⟨a, vs, rfl, h2, _⟩ := lst_at L ro hl
    exact .inl ⟨rfl, vs, .inl (.inl h2)⟩
  cases m with
  | join =>
    cases o <;> first | (cases e; done) | skip
    rw [ro.str_]
    exact (show "str" = "str" from rfl)
  | upper =>
    cases o <;> first | (cases e; done) | skip
    rw [ro.str_]
    exact (show "str" = "str" from rfl)
  | update => cases o <;> cases e
  | append => exact li (by cases o <;> exact e)
  | extend => exact li (by cases o <;> exact e)
  | insert => exact li (by cases o <;> exact e)
  | pop0 => exact li (by cases o <;> exact e)
  | popI => exact li (by cases o <;> exact e)
  | index => exact li (by cases o <;> exact e)
  | count => exact li (by cases o <;> exact e)
theorem m_append : MtR X "list.append" (rMet (kwOf X) .append) := by
  intro pins s σ H x xs v us Q I rx rxs h
  obtain ⟨g, Bs, base, st, o, ds, d, st', L, ro, rs, e, q⟩ := h
  unfold metE at e
  split at e <;> first | contradiction | skip
  · rename_i n d1 _
    split at e
    · rename_i l hl
      split at e
      · rename_i hz
        cases e
        obtain ⟨a, vs, rfl, ha, h2, h3⟩ := own_lst L ro hl
        obtain ⟨w, rfl, r1⟩ := reps1 rs
        refine mt_append pins s σ H _ _ v us Q I rx rxs ⟨a, vs, w, rfl, rfl, h2, by rw [← h3.length, ← line_eq]; exact hz.1, ?_⟩
        refine wr_lst L hl ha (h3.append (.cons r1 .nil)) (fun hn b hb => ?_) q fun _ _ _ => .sca .non
        rw [belowL_app, hb, Bool.true_and]
        simp only [belowL, wr_ok hz.2 hn b, Bool.and_self]
      · cases e
    · cases e
  all_goals cases e
theorem m_extend : MtR X "list.extend" (rMet (kwOf X) .extend) := by
  intro pins s σ H x xs v us Q I rx rxs h
  obtain ⟨g, Bs, base, st, o, ds, d, st', L, ro, rs, e, q⟩ := h
  unfold metE at e
  split at e <;> first | contradiction | skip
  · rename_i n d1 _
    split at e
    · rename_i l hl
      obtain ⟨r, e1, e⟩ := bnd e
      split at e
      · rename_i hz
        cases e
        obtain ⟨a, vs, rfl, ha, h2, h3⟩ := own_lst L ro hl
        obtain ⟨w, rfl, r1⟩ := reps1 rs
        obtain ⟨b, ws, rfl, k2, k3⟩ := lst_at L r1 e1
        refine mt_extend pins s σ H _ _ v us Q I rx rxs ⟨a, b, vs, ws, rfl, rfl, h2, k2, by rw [← h3.length, ← k3.length, ← line_eq]; exact hz.1, ?_⟩
        refine wr_lst L hl ha (h3.append k3) (fun hn b hb => ?_) q fun _ _ _ => .sca .non
        rw [belowL_app, hb, Bool.true_and]
        exact wrL_ok hz.2 hn b
      · cases e
    · cases e
  all_goals cases e
theorem m_insert : MtR X "list.insert" (rMet (kwOf X) .insert) := by
  intro pins s σ H x xs v us Q I rx rxs h
  obtain ⟨g, Bs, base, st, o, ds, d, st', L, ro, rs, e, q⟩ := h
  unfold metE at e
  split at e <;> first | contradiction | skip
  · rename_i n i d1 _
    split at e
    · rename_i l hl
      split at e
      · rename_i hz
        cases e
        obtain ⟨a, vs, rfl, ha, h2, h3⟩ := own_lst L ro hl
        obtain ⟨w1, w, rfl, r0, r1⟩ := reps2 rs
        have e0 := r0.int_; subst e0
        refine mt_insert pins s σ H _ _ v us Q I rx rxs ⟨a, vs, i, w, rfl, rfl, h2, by rw [← h3.length, ← line_eq]; exact hz.1, hz.2.1, by omega, ?_⟩
        refine wr_lst L hl ha (((h3.take _).append (.cons r1 .nil)).append (h3.drop _)) (fun hn b hb => ?_) q fun _ _ _ => .sca .non
        rw [belowL_app, belowL_app, belowL_sub (fun d hd => List.mem_of_mem_take hd) hb, belowL_sub (fun d hd => List.mem_of_mem_drop hd) hb]
        simp only [belowL, wr_ok hz.2.2.2 hn b, Bool.and_self]
      · cases e
    · cases e
  all_goals cases e
theorem m_pop0 : MtR X "list.pop" (rMet (kwOf X) .pop0) := by
  intro pins s σ H x xs v us Q I rx rxs h
  obtain ⟨g, Bs, base, st, o, ds, d, st', L, ro, rs, e, q⟩ := h
  unfold metE at e
  split at e <;> first | contradiction | skip
  · rename_i n _
    split at e
    · rename_i l hl
      obtain ⟨d1, e1, e⟩ := mpd e
      cases e
      obtain ⟨a, vs, rfl, ha, h2, h3⟩ := own_lst L ro hl
      cases rs
      obtain ⟨w, ew, rw'⟩ := h3.get e1
      refine mt_pop pins s σ H _ _ v us Q I rx rxs ⟨a, vs, w, rfl, rfl, h2, by rw [← h3.length]; exact ew, ?_⟩
      refine wr_lst L hl ha h3.dropLast (fun hn b hb => belowL_sub (fun d hd => List.dropLast_subset _ hd) hb) q fun _ _ x => rw'.mono x
    · cases e
  all_goals cases e
theorem m_popI : MtR X "list.pop" (rMet (kwOf X) .popI) := by
  intro pins s σ H x xs v us Q I rx rxs h
  obtain ⟨g, Bs, base, st, o, ds, d, st', L, ro, rs, e, q⟩ := h
  unfold metE at e
  split at e <;> first | contradiction | skip
  · rename_i n i _
    split at e
    · rename_i l hl
      obtain ⟨j, e1, e⟩ := bnd e
      obtain ⟨d1, e2, e⟩ := mpd e
      cases e
      obtain ⟨a, vs, rfl, ha, h2, h3⟩ := own_lst L ro hl
      obtain ⟨w1, rfl, r0⟩ := reps1 rs
      have e0 := r0.int_; subst e0
      obtain ⟨w, ew, rw'⟩ := h3.get e2
      obtain ⟨k1, k2, k3, k4⟩ := ixN_seq (show ixN l.length i = some j from e1)
      have hz := (I.lstM h2).1
      rw [← h3.length, sizeLine_eq] at hz
      refine mt_popAt pins s σ H _ _ v us Q I rx rxs ⟨a, vs, i, j, w, rfl, rfl, h2, by omega, by omega, by rw [← h3.length]; exact k1, ew, ?_⟩
      refine wr_lst L hl ha (h3.erase j) (fun hn b hb => belowL_sub (fun d hd => List.mem_of_mem_eraseIdx hd) hb) q fun _ _ x => rw'.mono x
    · cases e
  all_goals cases e
theorem m_index (hu : X.A.units + 65 < cLine) : MtR X "list.index" (rMet (kwOf X) .index) := by
  intro pins s σ H x xs v us Q I rx rxs h
  obtain ⟨g, Bs, base, st, o, ds, d, st', L, ro, rs, e, q⟩ := h
  unfold metE at e
  split at e <;> first | contradiction | skip
  · rename_i d1 _
    split at e
    · rename_i l hl
      split at e
      · rename_i hp
        obtain ⟨j, e1, e⟩ := mpd e
        cases e
        rw [Bool.and_eq_true] at hp
        obtain ⟨a, vs, rfl, h2, h3⟩ := lst_at L ro hl
        obtain ⟨w, rfl, r1⟩ := reps1 rs
        obtain ⟨z, k1, k2, k3⟩ := findIx_ok e1
        have pz : ∀ z ∈ l, plain 59 z = true := plainL_mem hp.2
        refine mt_indexD hu pins s σ H _ _ v us Q I rx rxs ⟨a, w, toPy d1, toPyL l, j, toPy z, rfl, rfl, .lst (.inl (.inl h2)) (Reps.dp hp.2 h3), Rep.dp hp.1 r1, plainL_shaped hp.2, plain_shaped hp.1, toPyL_get k1, ?_, fun m z' hm hz => ?_, q.here L (.sca (.int _))⟩
        · rw [eqv_py 59 60 z d1 (pz z (List.mem_of_getElem? k1)) hp.1]; exact k2
        · have hml : m < l.length := by
            have := (List.getElem?_eq_some_iff.mp hz).1
            rw [toPyL_len] at this
            exact this
          have e3 := toPyL_get (List.getElem?_eq_getElem hml)
          rw [hz] at e3
          cases e3
          rw [eqv_py 59 60 _ d1 (pz _ (List.getElem_mem hml)) hp.1]
          exact k3 m _ hm (List.getElem?_eq_getElem hml)
      · cases e
    · cases e
  all_goals cases e
theorem m_count : MtR X "list.count" (rMet (kwOf X) .count) := by
  intro pins s σ H x xs v us Q I rx rxs h
  obtain ⟨g, Bs, base, st, o, ds, d, st', L, ro, rs, e, q⟩ := h
  unfold metE at e
  split at e <;> first | contradiction | skip
  · rename_i k _
    split at e
    · rename_i l hl
      obtain ⟨ns, e2, e⟩ := mpd e
      cases e
      obtain ⟨a, vs, rfl, h2, h3⟩ := lst_at L ro hl
      obtain ⟨w, rfl, r1⟩ := reps1 rs
      have e0 := r1.int_; subst e0
      have ev := intsOf_rep e2 h3
      subst ev
      exact mt_lcount pins s σ H _ _ v us Q I rx rxs ⟨a, ns, k, rfl, rfl, .inl (.inl h2), q.here L (.sca (.int _))⟩
    · cases e
  all_goals cases e
theorem m_join : MtR X "str.join" (rMet (kwOf X) .join) := by
  intro pins s σ H x xs v us Q I rx rxs h
  obtain ⟨g, Bs, base, st, o, ds, d, st', L, ro, rs, e, q⟩ := h
  unfold metE at e
  split at e <;> first | contradiction | skip
  · rename_i z d1 _
    obtain ⟨l, e1, e⟩ := bnd e
    obtain ⟨ts, e2, e⟩ := bnd e
    split at e
    · rename_i hz
      cases e
      have ex := ro.str_; subst ex
      obtain ⟨w, rfl, r1⟩ := reps1 rs
      obtain ⟨a, vs, rfl, hq, h3⟩ := seq_at L r1 e1
      have ev := strsOf_rep e2 h3
      subst ev
      refine mt_join pins s σ H _ _ v us Q I rx rxs ⟨str_ z, a, ts.map str_, rfl, rfl, hq, ?_, ?_⟩
      · rw [lens_eq, List.length_map, str_len]
        exact hz
      · have : Txt.join (str_ z) (ts.map str_) = str_ (joinT z ts) := joinT_eq z ts
        rw [this]
        exact q.here L (.sca (.str _))
    · cases e
  all_goals cases e
theorem m_upper : MtR X "str.upper" (rMet (kwOf X) .upper) := by
  intro pins s σ H x xs v us Q I rx rxs h
  obtain ⟨g, Bs, base, st, o, ds, d, st', L, ro, rs, e, q⟩ := h
  unfold metE at e
  split at e <;> first | contradiction | skip
  · rename_i z _
    split at e
    · rename_i hz
      cases e
      have ex := ro.str_; subst ex
      cases rs
      refine mt_upper pins s σ H _ _ v us Q I rx rxs ⟨str_ z, rfl, rfl, by rw [str_len]; exact hz, ?_⟩
      have : Txt.upper (str_ z) = str_ (upT z) := by
        unfold upT
        simp [str_]
      rw [this]
      exact q.here L (.sca (.str _))
    · cases e
  all_goals cases e

def metV (m : Met) : Value := .builtin (metId m)
theorem m_all (hu : X.A.units + 65 < cLine) (m : Met) (hm : m ≠ .update) : MtR X (metId m) (rMet (kwOf X) m) := by
  cases m with
  | append => exact m_append
  | extend => exact m_extend
  | insert => exact m_insert
  | pop0 => exact m_pop0
  | popI => exact m_popI
  | index => exact m_index hu
  | count => exact m_count
  | join => exact m_join
  | upper => exact m_upper
  | update => exact absurd rfl hm
theorem m_facts (m : Met) (hm : m ≠ .update) : PlainAttrs (metTy m) ∧ Slot (metTy m) (Str.ofString (metNm m)) (metId m) ∧ typeOf (.builtin (metId m)) = pure (.type "method_descriptor") := by
  cases m with
  | append => exact ⟨F.plainAttrs_list, F.slot_list_append, F.type_list_append⟩
  | extend => exact ⟨F.plainAttrs_list, F.slot_list_extend, F.type_list_extend⟩
  | insert => exact ⟨F.plainAttrs_list, F.slot_list_insert, F.type_list_insert⟩
  | pop0 => exact ⟨F.plainAttrs_list, F.slot_list_pop, F.type_list_pop⟩
  | popI => exact ⟨F.plainAttrs_list, F.slot_list_pop, F.type_list_pop⟩
  | index => exact ⟨F.plainAttrs_list, F.slot_list_index, F.type_list_index⟩
  | count => exact ⟨F.plainAttrs_list, F.slot_list_count, F.type_list_count⟩
  | join => exact ⟨F.plainAttrs_str, F.slot_str_join, F.type_str_join⟩
  | upper => exact ⟨F.plainAttrs_str, F.slot_str_upper, F.type_str_upper⟩
  | update => exact absurd rfl hm
theorem stars_all {es : List Expr} {env : PySem.Env} {pos : Pos} (h : es.all notStar = true) : (backTo pos (starEach es env)).all (fun x => !x.1) = true := by
  induction es with
  | nil => rfl
  | cons a es ih =>
    rw [List.all_cons, Bool.and_eq_true] at h
    rw [star_cons h.1]
    show (!false && (backTo pos (starEach es env)).all (fun x => !x.1)) = true
    exact ih h.2
/-- what may stand ahead of a method's name -/
def plainRcv : Expr → Bool
  | .Name _ _ => true
  | .Constant _ _ _ => true
  | .Subscript _ _ _ => true
  | _ => false
theorem base_rcv {o : Expr} {nm : Str} {env : PySem.Env} (h : plainRcv o = true) : attributeBase o nm env (eval o env) = eval o env := by
  cases o <;> first | (simp [plainRcv] at h; done) | rfl
theorem s_met0 {m : Met} {o : Expr} {eo : E} {x : Str} {apos pos : Pos} (hu : X.A.units + 65 < cLine) (hm : m ≠ .update) (ho : PE X o (rdE X Γ eo)) (hx : x = Str.ofString (metNm m)) (hr : plainRcv o = true) (hl : (apos.endLine == pos.line) = true) : PE X (.Call (.Attribute o x apos) [] [] pos) (rdE X Γ (.met m eo .nil)) := by
  obtain ⟨f1, f2, f3⟩ := m_facts m hm
  subst hx
  refine PE_imp (pe_bm0 f1 f2 f3 (m_all hu m hm) ho (base_rcv hr) hl) fun σ H Q ⟨g, Bs, env, st, d, st', L, En, e, q⟩ => ?_
  rw [evE] at e
  obtain ⟨⟨d1, st1⟩, e1, e⟩ := bnd e
  split at e
  · rename_i hk
    rw [evL] at e
    refine ⟨g, Bs, env, st, d1, st1, L, En, e1, fun v g1 H1 L1 x1 r1 => ⟨met_ty L1 r1 hk, g1, Bs, Γ.base, st1, d1, [], d, st', L1, r1, .nil, e, fun w g2 H2 L2 x2 r2 => q w g2 H2 L2 (x1.trans x2) r2⟩⟩
  · cases e
theorem s_met {m : Met} {o a : Expr} {es : List Expr} {eo : E} {el : EL} {x : Str} {apos pos : Pos} (hu : X.A.units + 65 < cLine) (hm : m ≠ .update) (ho : PE X o (rdE X Γ eo)) (ha : PA X (a :: es) (rdL X Γ el)) (hst : (a :: es).all notStar = true) (hn : (a :: es).length < 30) (hx : x = Str.ofString (metNm m)) (hr : plainRcv o = true) (hl : (apos.endLine == pos.line) = true) : PE X (.Call (.Attribute o x apos) (a :: es) [] pos) (rdE X Γ (.met m eo el)) := by
  obtain ⟨f1, f2, f3⟩ := m_facts m hm
  subst hx
  have hst' := hst
  rw [List.all_cons, Bool.and_eq_true] at hst'
  refine PE_imp (pe_bm f1 f2 f3 (m_all hu m hm) ho ha (base_rcv hr) ?_ hl (star_cons hst'.1) (plain_stars hst'.2)) fun σ H Q ⟨g, Bs, env, st, d, st', L, En, e, q⟩ => ?_
  · rw [stars_all hst, Bool.true_and]
    show (true && decide ((a :: es).length + 0 + 0 < 30)) = true
    rw [Bool.true_and, decide_eq_true_eq]
    omega
  · rw [evE] at e
    obtain ⟨⟨d1, st1⟩, e1, e⟩ := bnd e
    split at e
    · rename_i hk
      obtain ⟨⟨ds, st2⟩, e2, e⟩ := bnd e
      refine ⟨g, Bs, env, st, d1, st1, L, En, e1, fun v g1 H1 L1 x1 r1 => ⟨met_ty L1 r1 hk, g1, Bs, env, st1, ds, st2, L1, En.mono x1, e2, fun vs g2 H2 L2 x2 r2 => ⟨g2, Bs, Γ.base, st2, d1, ds, d, st', L2, r1.mono x2, r2, e, fun w g3 H3 L3 x3 r3 => q w g3 H3 L3 ((x1.trans x2).trans x3) r3⟩⟩⟩
    · cases e
end
end Mc

set_option linter.all false
set_option maxRecDepth 100000
set_option Elab.async false
set_option maxHeartbeats 1000000
namespace Mc
open PySem PySem.Spec PyProof.Rows L2

section
variable {κ : Kw} {g g' : Gh} {H H' : Hp} {Bs : Nat → Prop} {base : Nat} {st : Sto} {p : Addr} {Q : VK} {d : D}
/-- a thing made outside is taken in as a list, a dict -/
theorem take_mkL {c : Bool} {l : List D} {vs : List V} {g0 : Gh} {H0 : Hp} (x : Ext g0 H0 g H) (h0 : H0 p = none) (L : Live κ g Bs base st H) (hp1 : p ∉ g.al) (hp2 : ¬ g.F p) (hH : H p = some (.lst vs)) (r : Reps κ g H l vs)
    (o : ∀ v g' H', Live κ g' Bs base (Mc.mkL c l st).2 H' → Ext g0 H0 g' H' → Rep κ g' H' (Mc.mkL c l st).1 v → Q v H') : Q (.ref p) H := by
  cases c with
  | false => exact o _ _ _ (live_take_fz L hp1 (by rw [hH]; exact fun z => nomatch z)) (take_fz x h0) (.lst ⟨.inr rfl, hH⟩ (r.mn mn_fz))
  | true =>
    refine o _ _ _ (live_take_cell L hp1 hp2 (.lst l) ⟨vs, hH, r.mn mn_cell⟩) (take_cell x h0) (.own ?_)
    show (g.al ++ [p])[st.length]? = some p
    rw [← L.len]; simp
theorem take_mkD {c : Bool} {l : List (D × D)} {vs : List (Key × V)} {g0 : Gh} {H0 : Hp} (x : Ext g0 H0 g H) (h0 : H0 p = none) (L : Live κ g Bs base st H) (hp1 : p ∉ g.al) (hp2 : ¬ g.F p) (hH : H p = some (.dK vs)) (r : RepK κ g H l vs)
    (o : ∀ v g' H', Live κ g' Bs base (Mc.mkD c l st).2 H' → Ext g0 H0 g' H' → Rep κ g' H' (Mc.mkD c l st).1 v → Q v H') : Q (.ref p) H := by
  cases c with
  | false => exact o _ _ _ (live_take_fz L hp1 (by rw [hH]; exact fun z => nomatch z)) (take_fz x h0) (.dic (.inr rfl) (.inl hH) (r.mn mn_fz))
  | true =>
    refine o _ _ _ (live_take_cell L hp1 hp2 (.dic l) ⟨vs, hH, r.mn mn_cell⟩) (take_cell x h0) (.own ?_)
    show (g.al ++ [p])[st.length]? = some p
    rw [← L.len]; simp
end
section
variable {X : Cx} {Γ : Cfg}
def trsOf (X : Cx) (Γ : Cfg) : PL → List (TE × TE)
  | .nil => []
  | .cons k v r => (rdE X Γ k, rdE X Γ v) :: trsOf X Γ r
inductive RepP (κ : Kw) (g : Gh) (H : Hp) : List (D × D) → List (V × V) → Prop
  | nil : RepP κ g H [] []
  | cons {a b : D} {x y : V} {l : List (D × D)} {vs : List (V × V)} : Rep κ g H a x → Rep κ g H b y → RepP κ g H l vs → RepP κ g H ((a, b) :: l) ((x, y) :: vs)
theorem pairs_run : ∀ (ps : PL) (g : Gh) (Bs : Nat → Prop) (env : Env) (st : Sto) (l : List (D × D)) (st' : Sto) (σ : L2.St) (H : Hp) (Q : List (V × V) → Hp → Prop), Live (kwOf X) g Bs Γ.base st H → EnvR (kwOf X) g H env σ → evP Γ ps env st = some (l, st') →
    (∀ vs g' H', Live (kwOf X) g' Bs Γ.base st' H' → Ext g H g' H' → RepP (kwOf X) g' H' l vs → Q vs H') → tPairs (trsOf X Γ ps) σ H Q
  | .nil, g, Bs, env, st, l, st', σ, H, Q, L, En, e, q => by
    rw [evP] at e; cases e
    exact q _ _ _ L .refl .nil
  | .cons k v r, g, Bs, env, st, l, st', σ, H, Q, L, En, e, q => by
    rw [evP] at e
    obtain ⟨⟨d1, st1⟩, e1, e⟩ := bnd e
    obtain ⟨⟨d2, st2⟩, e2, e⟩ := bnd e
    obtain ⟨⟨l3, st3⟩, e3, e⟩ := mpd e
    cases e
    refine ⟨g, Bs, env, st, d1, st1, L, En, e1, fun x g1 H1 L1 x1 r1 => ⟨g1, Bs, env, st1, d2, st2, L1, En.mono x1, e2, fun y g2 H2 L2 x2 r2 => ?_⟩⟩
    refine pairs_run r g2 Bs env st2 l3 _ σ H2 _ L2 ((En.mono x1).mono x2) e3 fun vs g3 H3 L3 x3 r3 => ?_
    exact q _ g3 H3 L3 ((x1.trans x2).trans x3) (.cons ((r1.mono x2).mono x3) (r2.mono x3) r3)
theorem keys_of {κ : Kw} {g : Gh} {H : Hp} {l : List (D × D)} {vs : List (V × V)} (h : (l.all fun p => isKey p.1) = true) (r : RepP κ g H l vs) : ∃ (kvs : List (Key × V)), vs = kvs.map (fun kv => (kV kv.1, kv.2)) ∧ RepK κ g H l kvs := by
  induction r with
  | nil => exact ⟨[], rfl, .nil⟩
  | cons r1 r2 t ih =>
    rw [List.all_cons, Bool.and_eq_true] at h
    obtain ⟨k, rfl, hk⟩ := key_of_d h.1
    obtain ⟨kvs, h2, h3⟩ := ih h.2
    have e := hk r1
    subst e h2
    exact ⟨(k, _) :: kvs, rfl, .cons r2 h3⟩
theorem foldl_put {κ : Kw} {g : Gh} {H : Hp} : ∀ {l : List (D × D)} {more kvs : List (Key × V)} {acc : List (D × D)}, RepK κ g H l more → RepK κ g H acc kvs → RepK κ g H (l.foldl (fun l p => Mc.put p.1 p.2 l) acc) (mergeK kvs more) := by
  intro l
  induction l with
  | nil => intro more kvs acc r q; cases r; exact q
  | cons p l ih =>
    intro more kvs acc r q
    cases r with
    | @cons k d v _ vs r t => exact ih (more := vs) (kvs := putK kvs k v) t (RepK.put r q)
theorem s_dic {ps : PL} {c : Bool} {pos : Pos} {keys : List (Option Expr)} {values : List Expr} (h : PPs X pos keys values (trsOf X Γ ps)) (hall : keys.all (·.isSome) = true) (hl : keys.length = values.length) (h0 : keys ≠ []) (h15 : keys.length ≤ 15) : PE X (.Dict keys values pos) (rdE X Γ (.dic ps c)) :=
  PE_imp (pe_disp h hall hl h0 h15) fun σ H Q ⟨g, Bs, env, st, d, st', L, En, e, q⟩ => by
    rw [evE] at e
    obtain ⟨⟨l, st1⟩, e1, e⟩ := bnd e
    split at e
    · rename_i hk
      obtain ⟨rfl, rfl⟩ := pr_of e
      intro p hp
      have hp1 := notIn_al L hp
      have hp2 := notF L hp
      have x0 : Ext g H g (upd H p (.dK [])) := ext_out hp hp1 hp2 _
      refine pairs_run ps g Bs env st l st1 σ _ _ (live_out L hp1 hp2 _) (En.mono x0) e1 fun vs g1 H1 L1 x1 r1 => ?_
      obtain ⟨k1, k2, k3⟩ := still_out x1 hp1 hp2
      obtain ⟨kvs, e3, r2⟩ := keys_of hk.1 r1
      refine ⟨k3, kvs, e3, by rw [← r2.length]; exact hk.2, ?_⟩
      have x2 : Ext g H g1 (upd H1 p (.dK (mergeK [] kvs))) := ext_set (x0.trans x1) hp hp2 _
      have rr := foldl_put r2 (.nil : RepK (kwOf X) g1 H1 [] [])
      exact take_mkD x2 hp (live_out L1 k1 k2 _) k1 k2 upd_same (rr.mn (mn_out k1 k2 _)) q
    · cases e
theorem s_dnil {c : Bool} {pos : Pos} : PE X (.Dict [] [] pos) (rdE X Γ (.dic .nil c)) :=
  PE_imp pe_dnewK fun σ H Q ⟨g, Bs, env, st, d, st', L, En, e, q⟩ => by
    rw [evE, evP] at e
    have e' : some (mkD c [] st) = some (d, st') := e
    obtain ⟨rfl, rfl⟩ := pr_of e'
    exact fun p hp => Out.mkD q L hp .nil
def tyName : Ty → String
  | .int => "int" | .str => "str" | .bool => "bool" | .tuple => "tuple" | .list => "list" | .dict => "dict" | .nonT => "NoneType"
theorem kit_one (K : PySem.W.Frag) (t t' : Ty) (ht : t ≠ .nonT) : PySem.W.kitOne K (.type (tyName t')) (.type (tyName t)) = some (isTy t t') := by
  cases t <;> first | exact absurd rfl ht | skip
  all_goals cases t' <;> with_unfolding_all rfl
theorem rep_ty {κ : Kw} {g : Gh} {H : Hp} {Bs : Nat → Prop} {base : Nat} {st : Sto} {d : D} {v : V} {t : Ty} (L : Live κ g Bs base st H) (r : Rep κ g H d v) (e : tyOf st d = some t) : TyX κ.K H v (.type (tyName t)) := by
  cases d with
  | non => cases e; rw [r.non_]; exact .base .non
  | bl b => cases e; rw [r.bl_]; exact .base (.bl b)
  | int b => cases e; rw [r.int_]; exact .base (.int b)
  | str b => cases e; rw [r.str_]; exact .base (.str _)
  | tup l =>
    cases e
    obtain ⟨a, vs, rfl, h1, _⟩ := r.tup_
    rcases h1 with ⟨_, h | ⟨o, h⟩⟩ | h
    · exact .base (.tup h)
    · exact .fTuple h
    · rcases h with (h | ⟨_, h⟩) | ⟨o, its, n, h1, h2, _⟩
      · cases h
      · cases h
      · exact .kTuple h1 h2
  | lst l =>
    cases e
    obtain ⟨a, vs, rfl, _, h1, _⟩ := r.lst_
    exact .base (.lst h1)
  | dic l =>
    cases e
    cases r with
    | sca q => cases q
    | dic h1 h2 h3 =>
      rcases h2 with h | ⟨o, h⟩
      · exact .base (.dK h)
      · exact .fDict h
    | wdic hw2 hw =>
      obtain ⟨⟨es, n, KD⟩, _⟩ := hw
      exact .kDict KD.at_ rfl
  | own n =>
    simp only [tyOf] at e
    split at e
    · rename_i l hl
      cases e
      obtain ⟨a, vs, rfl, _, h1, _⟩ := own_lst L r hl
      exact .base (.lst h1)
    · rename_i l hl
      cases e
      obtain ⟨a, vs, rfl, _, h1, _⟩ := own_dic L r hl
      exact .base (.dK h1)
    · cases e
  | _ => cases e
theorem s_isi {t : Ty} {x y : Str} {a : Expr} {ea : E} {p p2 pos : Pos} (ht : t ≠ .nonT) (hg : Gl X x) (hm : X.mg x = none) (hx : x = "isinstance") (hg2 : Gl X y) (hm2 : X.mg y = none) (hy : y = Str.ofString (tyName t)) (hst : notStar a = true) (ha : PE X a (rdE X Γ ea)) :
    PE X (.Call (.Name x p) [a, .Name y p2] [] pos) (rdE X Γ (.isi ea t)) := by
  have hb : PE X (.Name y p2) (tC (.ty (tyName t))) := by
    refine pe_bltn (u := .type (tyName t)) hg2 hm2 ?_ rfl ?_ ?_
    · subst hy; cases t <;> first | exact absurd rfl ht | with_unfolding_all rfl
    · subst hy; cases t <;> decide
    · subst hy; cases t <;> decide
  have hv : bootBuiltins x = some (.builtin "isinstance") := by subst hx; with_unfolding_all rfl
  have hn : x ≠ "__name__" := by subst hx; decide
  have hd : (x == ("__debug__" : Str)) = false := by subst hx; decide
  refine PE_imp (pe_callB call_isi hg hm hv (pa_cons ha (pa_cons hb pa_nil) (star_cons hst)) hn hd (star_cons hst) rfl) fun σ H Q ⟨g, Bs, env, st, d, st', L, En, e, q⟩ => ?_
  rw [evE] at e
  obtain ⟨⟨d1, st1⟩, e1, e⟩ := bnd e
  obtain ⟨t', e2, e⟩ := mpd e
  cases e
  exact ⟨g, Bs, env, st, d1, _, L, En, e1, fun v g1 H1 L1 x1 r1 => ⟨v, .ty (tyName t), .type (tyName t'), .type (tyName t), isTy t t', rfl, .ty _, rep_ty L1 r1 e2, kit_one _ t t' ht, q _ _ _ L1 x1 (.sca (.bl _))⟩⟩
end
end Mc

set_option linter.all false
set_option maxRecDepth 100000
set_option Elab.async false
set_option maxHeartbeats 1000000
namespace Mc
open PySem PySem.Spec PyProof.Rows L2

section
variable {prog : Program} {w : World} {A : Around} {E : Value → Shared → Prop} {s : Shared}
theorem isTup_iter {h : Heap} {a t : Addr} {i : Nat} (x : IsTupIter h a t i) : h.IsTupleIter a t i := x
theorem walks_shift {I ax : Addr} (hh : A.handled = none) (hne : ax ≠ I) (items : Array Value) (k : Nat) :
    Walks prog w A I [I, ax] [I] (items.size - k) (fun i v => items[k + i]? = some v) (fun i h => h.IsTupleIter I ax (k + i) ∧ h.IsTuple ax items ∧ k ≤ items.size) where
  sub := (Walks.tuple (prog := prog) (w := w) hh I ax hne items).sub
  frame := fun _ _ _ st hk => ⟨st.1.at fun o e => hk I (by simp) o e, st.2.1.at fun o e => hk ax (by simp) o e, st.2.2⟩
  item := fun i s Q E hi st hQ => (Walks.tuple (prog := prog) (w := w) hh I ax hne items).item (k + i) s Q E (by omega) ⟨st.1, st.2.1⟩ fun v h' tk hv st' kk => hQ v h' tk hv ⟨st'.1, st'.2, st.2.2⟩ kk
  done := fun s Q E st hQ => (Walks.tuple (prog := prog) (w := w) hh I ax hne items).done s Q E (by
    have e : k + (items.size - k) = items.size := by have := st.2.2; omega
    have h1 := st.1
    rw [e] at h1
    exact ⟨h1, st.2.1⟩) hQ
  self := fun i s Q E st hQ => (Walks.tuple (prog := prog) (w := w) hh I ax hne items).self (k + i) s Q E ⟨st.1, st.2.1⟩ hQ
theorem itemsOf_drop {items acc : Array Value} {k : Nat} (h : ItemsOf (fun i v => items[k + i]? = some v) acc (items.size - k)) : acc.toList = items.toList.drop k := by
  obtain ⟨h1, h2⟩ := h
  apply List.ext_getElem?
  intro j
  rw [List.getElem?_drop, Array.getElem?_toList, Array.getElem?_toList]
  by_cases hj : j < acc.size
  · have e : acc[j]? = some acc[j] := by simp [hj]
    rw [e]
    exact (h2 j _ e).symm
  · rw [Array.getElem?_eq_none (by omega), Array.getElem?_eq_none (by omega)]
theorem unpackItems_star {t : Addr} {items : Array Value} {k : Nat} {Q : List Value → Shared → Prop} (hh : A.handled = none) (ht : IsTup s.heap t items) (hk : k ≤ items.size) (hz : items.size ≤ sizeLine)
    (hQ : ∀ (s' : Shared), (∀ b o, s.heap.get? b = some o → s'.heap.get? b = some o) → s'.gens = s.gens → s'.drawn = s.drawn → s'.os = s.os →
      Q (items.toList.take k ++ [Value.ref s'.heap.objs.size]) { s' with heap := s'.heap.push { cls := .type "list", data := .seq (items.toList.drop k).toArray } }) :
    wpAny (model prog w) A (unpackItems (.ref t) (k + 1) (some k)) Q E s := by
  have hlt : t ≠ s.heap.objs.size := by obtain ⟨o, ho, _⟩ := ht; exact Nat.ne_of_lt (Heap.lt_size ho)
  unfold unpackItems
  refine wpAny_bind ?_
  unfold notIterableAtAll
  refine wpAny_bind (wpAny_specialOf ht.typeIs slot_tuple_iter.lookup ?_)
  refine wpAny_pure ?_
  simp only [Bool.false_eq_true, if_false]
  refine wpAny_bind (wpAny_holding (iter_tuple ht ?_))
  refine wpAny_bind (wpAny_holding (draw_tuple hlt k 0 _ _ ⟨_, Heap.get?_push_size _ rfl, rfl, rfl⟩ (ht.push _) (by omega) fun h₁ hit₁ hs₁ => ?_))
  rw [List.drop_zero, Nat.zero_add] at *
  have hlen : (items.toList.take k).length = k := by rw [List.length_take, Array.length_toList]; omega
  rw [if_neg (by rw [hlen]; omega)]
  have ht₁ : IsTup h₁ t items := (ht.push _).extBut hs₁.extBut hlt
  have hit1 : h₁.IsTupleIter s.heap.objs.size t (k + 0) := hit₁
  have hI : ∃ o, h₁.get? s.heap.objs.size = some o := by obtain ⟨o, e, _⟩ := hit₁; exact ⟨o, e⟩
  have hT : ∃ o, h₁.get? t = some o := by obtain ⟨o, e, _⟩ := ht₁; exact ⟨o, e⟩
  refine wpAny_bind (wpAny_holding (wpAny_collect_iter (T := "tuple_iterator") (.inr (.inr (.inr rfl))) (walks_shift (prog := prog) (w := w) (A := A.in1) (k := k) hh hlt items).toS (fun i s st => by
    obtain ⟨o, e, c, _⟩ := st.1
    exact ⟨o, e, c⟩) ⟨hit1, ht₁, hk⟩ (fun b hb => ?_) (by simp) (fun s' acc hm hacc => ?_) (by omega)))
  · rcases List.mem_cons.mp hb with e | hb
    · obtain ⟨o, e'⟩ := hI; rw [e]; exact Heap.lt_size e'
    · have e : b = t := by simpa using hb
      obtain ⟨o, e'⟩ := hT; rw [e]; exact Heap.lt_size e'
  · rw [itemsOf_drop hacc]
    have e0 : ¬ (items.toList.drop k).length < k + 1 - 1 - k := by rw [show k + 1 - 1 - k = 0 by omega]; exact Nat.not_lt_zero _
    show wpAny _ _ (if (items.toList.drop k).length < k + 1 - 1 - k then _ else _) _ _ _
    rw [if_neg e0]
    have e1 : k + 1 - 1 - k = 0 := by omega
    rw [e1]
    have e2 : (items.toList.drop k).take ((items.toList.drop k).length - 0) = items.toList.drop k := by rw [Nat.sub_zero, List.take_length]
    have e3 : (items.toList.drop k).drop ((items.toList.drop k).length - 0) = [] := by rw [Nat.sub_zero, List.drop_length]
    rw [e2, e3]
    refine wpAny_bind (wpAny_newObj_type ?_ (by show (items.toList.drop k).toArray.size ≤ sizeLine; rw [List.size_toArray, List.length_drop, Array.length_toList]; omega))
    refine wpAny_pure ?_
    rw [List.append_nil]
    refine hQ s' (fun b o e => ?_) hm.gens hm.drawn hm.os
    refine hm.heap b o ?_ ?_
    · intro hb
      have hbe : b = s.heap.objs.size := by simpa using hb
      rw [hbe] at e
      exact absurd (Heap.lt_size e) (Nat.lt_irrefl _)
    · exact hs₁.extBut b o (Nat.ne_of_lt (Heap.lt_size e)) (Heap.get?_push_of_some _ e)
end

section
variable {prog : Program} {w : World} {A : Around} {E : Value → Shared → Prop} {s : Shared}
theorem draw_list {it t : Addr} {items : Array Value} (hne : t ≠ it) : ∀ (n i : Nat) (s : Shared) (Q : List Value → Shared → Prop), s.heap.IsListIter it t i → s.heap.IsList t items → i + n ≤ items.size →
    (∀ h', Heap.IsListIter h' it t (i + n) → Heap.SameBut it s.heap h' → Q ((items.toList.drop i).take n) { s with heap := h' }) → wpAny (model prog w) A (draw (.ref it) n) Q E s
  | 0, i, s, Q, hit, _, _, hQ => by
    show wpAny _ _ (pure []) Q E s
    exact wpAny_pure (by simpa using hQ s.heap hit (Heap.SameBut.refl ..))
  | n + 1, i, s, Q, hit, ht, hle, hQ => by
    have hlt : i < items.size := by omega
    show wpAny _ _ (pyNext (.ref it) >>= _) Q E s
    refine wpAny_bind (wpAny_pyNext_list_item hit ht (x := items[i]) (by simp [hlt]) fun h₁ hit₁ hs₁ => ?_)
    refine wpAny_bind (wpAny_holding (draw_list hne n (i + 1) _ _ hit₁ (ht.extBut hs₁.extBut hne) (by omega) fun h₂ hit₂ hs₂ => wpAny_pure ?_))
    have hd : items.toList.drop i = items[i] :: items.toList.drop (i + 1) := by simp [List.drop_eq_getElem_cons, hlt]
    have := hQ h₂ (by rw [show i + (n + 1) = i + 1 + n by omega]; exact hit₂) (hs₁.trans hs₂)
    rw [hd, List.take_succ_cons] at this
    exact this
theorem isList_push {h : Heap} {t : Addr} {items : Array Value} {o : Obj} (x : h.IsList t items) : (h.push o).IsList t items :=
  let ⟨u, hu, r⟩ := x; ⟨u, Heap.get?_push_of_some _ hu, r⟩
theorem unpackItems_list {t : Addr} {items : Array Value} {Q : List Value → Shared → Prop} (hh : A.handled = none) (ht : s.heap.IsList t items)
    (hQ : ∀ h', Heap.ExtBut s.heap.objs.size s.heap h' → Q items.toList { s with heap := h' }) : wpAny (model prog w) A (unpackItems (.ref t) items.size none) Q E s := by
  have hlt : t ≠ s.heap.objs.size := by obtain ⟨o, ho, _⟩ := ht; exact Nat.ne_of_lt (Heap.lt_size ho)
  unfold unpackItems
  refine wpAny_bind ?_
  · unfold notIterableAtAll
    refine wpAny_bind (wpAny_specialOf ht.typeIs slot_list_iter.lookup ?_)
    refine wpAny_pure ?_
    simp only [Bool.false_eq_true, if_false]
    refine wpAny_bind (wpAny_holding (wpAny_pyIter_list ht ?_))
    refine wpAny_bind (wpAny_holding (draw_list hlt items.size 0 _ _ ⟨_, Heap.get?_push_size _ rfl, rfl, rfl⟩ (isList_push ht) (by omega) fun h₁ hit₁ hs₁ => ?_))
    have hall : List.take items.size (List.drop 0 items.toList) = items.toList := by
      rw [List.drop_zero]; exact List.take_of_length_le (by simp)
    rw [hall]
    rw [if_neg (by simp)]
    have ht₁ : h₁.IsList t items := (isList_push ht).extBut hs₁.extBut hlt
    refine wpAny_bind (wpAny_holding (wpAny_pyNext_list_end hh hit₁ ht₁ (by simp) fun h₂ he₂ => ?_))
    simp only [Option.isSome_none, Bool.false_eq_true, if_false]
    refine wpAny_pure (hQ h₂ fun b o hb e => he₂ b o hb (hs₁.extBut b o hb (Heap.get?_push_of_some _ e)))
theorem assign_Tuple_list {env : PySem.Env} {elts : List Expr} {x1} {pos : Pos} {t : Addr} {items : Array Value} {Q : Unit → Shared → Prop} (hh : A.handled = none) (ht : s.heap.IsList t items)
    (hn : (assignEach elts env).length = items.size) (hstar : (assignEach elts env).findIdx? (·.1) = none)
    (h : ∀ h', Heap.ExtBut s.heap.objs.size s.heap h' → wpAny (model prog w) A (assignInOrder ((assignEach elts env).map (·.2)) items.toList) Q E { s with heap := h' }) :
    wpAny (model prog w) A (assign (.Tuple elts x1 pos) env (.ref t)) Q E s := by
  rw [assign_Tuple]
  refine wpAny_bind (wpAny_standAt ?_)
  unfold unpack
  rw [hn, hstar]
  exact wpAny_bind (wpAny_holding (unpackItems_list hh ht h))
end
mutual
def slotsT : Tg → List Nat
  | .name i => [i]
  | .tup ts => slotsL ts
  | .sub _ _ => []
def slotsL : TL → List Nat
  | .nil => []
  | .cons t r => slotsT t ++ slotsL r
  | .star t => slotsT t
end
/-- the slots outside S are the same -/
def Agree (S : List Nat) (σ σ' : L2.St) : Prop := σ'.length = σ.length ∧ ∀ j, j ∉ S → σ'[j]? = σ[j]?
theorem Agree.refl {S : List Nat} {σ : L2.St} : Agree S σ σ := ⟨rfl, fun _ _ => rfl⟩
theorem Agree.trans {S T : List Nat} {a b c : L2.St} (x : Agree S a b) (y : Agree T b c) : Agree (S ++ T) a c :=
  ⟨y.1.trans x.1, fun j h => by
    rw [List.mem_append, not_or] at h
    exact (y.2 j h.2).trans (x.2 j h.1)⟩
theorem wipe_get {σ : L2.St} : ∀ (l : List Nat) (j : Nat), (L2.wipe σ l)[j]? = if j ∈ l ∧ j < σ.length then some none else σ[j]?
  | [], j => by simp [L2.wipe]
  | i :: r, j => by
    show ((L2.wipe σ r).set i none)[j]? = _
    rw [List.getElem?_set, wipe_length, wipe_get r j]
    by_cases h : i = j
    · subst h
      by_cases hl : i < σ.length
      · simp [hl]
      · simp [hl]
    · have : j ≠ i := fun e => h e.symm
      simp [h, this]
theorem Agree.wipe {S vs : List Nat} {σ σ' : L2.St} (x : Agree S (L2.wipe σ vs) σ') (h : ∀ j ∈ S, j ∈ vs) : L2.wipe σ' vs = L2.wipe σ vs := by
  have hl : σ'.length = σ.length := by rw [x.1, wipe_length]
  apply List.ext_getElem?
  intro j
  rw [wipe_get, wipe_get, hl]
  by_cases hj : j ∈ vs ∧ j < σ.length
  · rw [if_pos hj, if_pos hj]
  · rw [if_neg hj, if_neg hj]
    by_cases hm : j ∈ vs
    · have hn : ¬ j < σ.length := fun z => hj ⟨hm, z⟩
      rw [List.getElem?_eq_none (by omega), List.getElem?_eq_none (by omega)]
    · rw [x.2 j (fun z => hm (h j z)), wipe_get, if_neg (fun z => hm z.1)]
section
variable {X : Cx} {Γ : Cfg}
def rdG (X : Cx) (Γ : Cfg) (t : Tg) : TG := fun v σ H Q => ∃ g Bs env st d env' st', Live (kwOf X) g Bs Γ.base st H ∧ EnvR (kwOf X) g H env σ ∧ Rep (kwOf X) g H d v ∧ asT Γ t d env st = some (env', st') ∧
  ∀ g' H' σ', Live (kwOf X) g' Bs Γ.base st' H' → Ext g H g' H' → EnvR (kwOf X) g' H' env' σ' → Agree (slotsT t) σ σ' → Q σ' H'
def rdGs (X : Cx) (Γ : Cfg) (t : TL) : TGs := fun vs σ H Q => ∃ g Bs env st ds env' st', Live (kwOf X) g Bs Γ.base st H ∧ EnvR (kwOf X) g H env σ ∧ Reps (kwOf X) g H ds vs ∧ asL Γ t ds env st = some (env', st') ∧
  ∀ g' H' σ', Live (kwOf X) g' Bs Γ.base st' H' → Ext g H g' H' → EnvR (kwOf X) g' H' env' σ' → Agree (slotsL t) σ σ' → Q σ' H'
theorem PG_imp {e : Expr} {t t' : TG} (h : PG X e t) (i : ∀ v σ H Q, t' v σ H Q → t v σ H Q) : PG X e t' := ⟨fun pins s σ H v u Q I r q => h.run pins s σ H v u Q I r (i _ _ _ _ q)⟩
theorem PGs_imp {e : List Expr} {t t' : TGs} (h : PGs X e t) (i : ∀ v σ H Q, t' v σ H Q → t v σ H Q) : PGs X e t' := ⟨fun pins s σ H v u Q I r q => h.run pins s σ H v u Q I r (i _ _ _ _ q)⟩
theorem g_name {i : Nat} {x : Str} {pos : Pos} (hN : X.N.Nodup) (hi : X.N[i]? = some x) (hx : Loc X.env.scope x) (hf : X.fn x = true ∨ X.env.scope.names.lookup x = some .local) : PG X (.Name x pos) (rdG X Γ (.name i)) :=
  PG_imp (pg_name hN hi hx hf) fun v σ H Q ⟨g, Bs, env, st, d, env', st', L, En, r, e, q⟩ => by
    rw [asT] at e
    cases e
    refine q g H _ L .refl (En.set r) ⟨by rw [List.length_set], fun j hj => ?_⟩
    have : i ≠ j := fun z => hj (by simp [slotsT, z])
    rw [List.getElem?_set_ne this]
theorem gs_nil : PGs X [] (rdGs X Γ .nil) :=
  PGs_imp pgs_nil fun v σ H Q ⟨g, Bs, env, st, ds, env', st', L, En, r, e, q⟩ => by
    cases ds with
    | nil =>
      cases r
      rw [asL] at e
      cases e
      exact ⟨rfl, q g H σ L .refl En .refl⟩
    | cons d l => cases e
theorem each_cons {e : Expr} {es : List Expr} {env : PySem.Env} (h : notStar e = true) : assignEach (e :: es) env = (false, assign e env) :: assignEach es env := by
  cases e <;> first | rfl | (simp [notStar] at h)
theorem gs_cons {a : Expr} {es : List Expr} {t : Tg} {ts : TL} (hs : notStar a = true) (h1 : PG X a (rdG X Γ t)) (h2 : PGs X es (rdGs X Γ ts)) : PGs X (a :: es) (rdGs X Γ (.cons t ts)) :=
  PGs_imp (pgs_cons h1 h2 (by rw [each_cons hs]; rfl)) fun v σ H Q ⟨g, Bs, env, st, ds, env', st', L, En, r, e, q⟩ => by
    cases ds with
    | nil => cases e
    | cons d l =>
      cases r with
      | cons r rr =>
        rw [asL] at e
        obtain ⟨⟨env1, st1⟩, e1, e⟩ := bnd e
        refine ⟨_, _, rfl, g, Bs, env, st, d, env1, st1, L, En, r, e1, fun g1 H1 σ1 L1 x1 En1 a1 => ?_⟩
        exact ⟨g1, Bs, env1, st1, l, env', st', L1, En1, rr.mono x1, e, fun g2 H2 σ2 L2 x2 En2 a2 => q g2 H2 σ2 L2 (x1.trans x2) En2 (a1.trans a2)⟩
/-- the starred target gets the list -/
theorem gs_star {a : Expr} {p : Pos} {t : Tg} (h1 : PG X a (rdG X Γ t)) : PGs X [.Starred a p] (rdGs X Γ (.cons t .nil)) := by
  refine ⟨fun pins s σ H vs us Q I r h => ?_⟩
  have e : (assignEach [.Starred a p] X.env).map (·.2) = [assign a X.env] := rfl
  have e2 : rdGs X Γ (.cons t .nil) vs σ H Q → gCons (rdG X Γ t) gNil vs σ H Q := fun ⟨g, Bs, env, st, ds, env', st', L, En, rq, e, q⟩ => by
    clear r h
    cases ds with
    | nil => cases e
    | cons d l =>
      cases rq with
      | cons r rr =>
        rw [asL] at e
        obtain ⟨⟨env1, st1⟩, e1, e⟩ := bnd e
        cases l with
        | cons _ _ => cases e
        | nil =>
          cases rr
          rw [asL] at e
          cases e
          exact ⟨_, _, rfl, g, Bs, env, st, d, env1, st1, L, En, r, e1, fun g1 H1 σ1 L1 x1 En1 a1 => ⟨rfl, q g1 H1 σ1 L1 x1 En1 (by simpa [slotsL] using a1)⟩⟩
  obtain ⟨v, rr, ev, hh⟩ := e2 h
  subst ev
  cases r with
  | cons r rt =>
    rw [e]
    refine assignInOrder_cons (thn (h1.run pins s σ H _ _ _ I r hh) fun _ s1 ⟨σ1, H1, I1, er, q1⟩ => ?_)
    subst er
    cases rt
    exact assignInOrder_nil ⟨σ1, H1, I1, q1⟩
/-- how many targets; the place of the star -/
def TL.starAt : TL → Option Nat
  | .nil => none
  | .cons _ r => r.starAt.map (· + 1)
  | .star _ => some 0
def unstar : TL → TL
  | .nil => .nil
  | .cons t r => .cons t (unstar r)
  | .star t => .cons t .nil
theorem slots_unstar : ∀ ts : TL, slotsL (unstar ts) = slotsL ts
  | .nil => rfl
  | .cons t r => by simp only [unstar, slotsL, slots_unstar r]
  | .star t => by simp [unstar, slotsL]
theorem unstar_none : ∀ ts : TL, ts.starAt = none → unstar ts = ts
  | .nil, _ => rfl
  | .cons t r, h => by
    have h' : r.starAt = none := by simpa [TL.starAt] using h
    simp only [unstar, unstar_none r h']
  | .star t, h => by simp [TL.starAt] at h
theorem asL_len : ∀ (ts : TL) (l : List D) (env : Env) (st : Sto) (r : Env × Sto), ts.starAt = none → asL Γ ts l env st = some r → l.length = ts.len
  | .nil, [], _, _, _, _, _ => rfl
  | .nil, _ :: _, _, _, _, _, e => by cases e
  | .cons t ts, [], _, _, _, _, e => by cases e
  | .cons t ts, d :: l, env, st, r, h, e => by
    have h' : ts.starAt = none := by simpa [TL.starAt] using h
    rw [asL] at e
    obtain ⟨x, _, e⟩ := bnd e
    simp only [List.length_cons, TL.len, asL_len ts l _ _ r h' e]
  | .star _, _, _, _, _, h, _ => by simp [TL.starAt] at h
theorem asL_unstar : ∀ (ts : TL) (k : Nat) (l : List D) (env : Env) (st : Sto) (r : Env × Sto), ts.starAt = some k → asL Γ ts l env st = some r → k ≤ l.length ∧ asL Γ (unstar ts) (l.take k ++ [.lst (l.drop k)]) env st = some r
  | .nil, _, _, _, _, _, h, _ => by simp [TL.starAt] at h
  | .cons t ts, k, [], _, _, _, _, e => by cases e
  | .cons t ts, k, d :: l, env, st, r, h, e => by
    have h' : ts.starAt.map (· + 1) = some k := h
    obtain ⟨k', h1, h2⟩ := mpd h'
    subst h2
    rw [asL] at e
    obtain ⟨x, e1, e⟩ := bnd e
    obtain ⟨i1, i2⟩ := asL_unstar ts k' l _ _ r h1 e
    refine ⟨by rw [List.length_cons]; omega, ?_⟩
    simp only [unstar, List.take_succ_cons, List.cons_append, List.drop_succ_cons]
    rw [asL, e1]
    exact i2
  | .star t, k, l, env, st, r, h, e => by
    have : k = 0 := by simpa [TL.starAt] using h.symm
    subst this
    refine ⟨Nat.zero_le _, ?_⟩
    simp only [unstar, List.take_zero, List.drop_zero, List.nil_append]
    have e' : asT Γ t (.lst l) env st = some r := e
    rw [asL, e']
    simp [asL]
theorem plain_star : ∀ (ts : TL), ts.plain = true → ts.starAt = none
  | .nil, _ => rfl
  | .cons t r, h => by
    have h' : r.plain = true := h
    simp only [TL.starAt, plain_star r h', Option.map_none]
  | .star _, h => by cases h
theorem star_plain : ∀ (ts : TL) (k : Nat), ts.starAt = some k → ts.plain = false
  | .nil, _, h => by simp [TL.starAt] at h
  | .cons t r, k, h => by
    obtain ⟨k', h1, _⟩ := mpd (show r.starAt.map (· + 1) = some k from h)
    exact star_plain r k' h1
  | .star _, _, _ => rfl
theorem g_tup {es : List Expr} {ts : TL} {k : Nat} {pos : Pos} (hc : X.calm = true) (h : PGs X es (rdGs X Γ ts)) (hn : (assignEach es X.env).length = ts.len) (hst : (assignEach es X.env).findIdx? (·.1) = none) (hs : ts.starAt = none) : PG X (.Tuple es k pos) (rdG X Γ (.tup ts)) := by
  refine ⟨fun pins s σ H v u Q I ru ⟨g, Bs, env, st, d, env', st', L, En, r, e, q⟩ => ?_⟩
  cases d with
  | tup l =>
    rw [asT] at e
    exact (pg_tup (k := k) (pos := pos) hc h hn hst).run pins s σ H v u Q I ru (by
      obtain ⟨a, vs, rfl, h1, h2⟩ := r.tup_
      exact ⟨a, vs, rfl, h1.sq, by rw [← h2.length]; exact asL_len ts l _ _ _ hs e, g, Bs, env, st, l, env', st', L, En, h2, e, q⟩)
  | lst l =>
    rw [asT] at e
    split at e
    · obtain ⟨a, vs, rfl, h1, h2⟩ := lst_at L r (show lstOf st (.lst l) = some l from rfl)
      cases ru
      obtain ⟨its, rv, ht, hz⟩ := I.list (.inl (.inl h1))
      have hl := asL_len ts l _ _ _ hs e
      refine assign_Tuple_list (I.ok.hd hc) ht.isList (by simp [hn, ← rv.length, ← h2.length, hl]) hst fun h' hx => ?_
      have I1 : Inv X pins σ H { s with heap := h' } := I.kept (t' := s.toks) fun b o e => hx b o (Nat.ne_of_lt (Heap.lt_size e)) e
      exact h.run pins _ σ H vs _ Q I1 (by simpa using rv) ⟨g, Bs, env, st, l, env', st', L, En, h2, e, q⟩
    · cases e
  | _ => cases e
theorem g_tupS {es : List Expr} {ts : TL} {k j : Nat} {pos : Pos} (hc : X.calm = true) (h : PGs X es (rdGs X Γ (unstar ts))) (hn : (assignEach es X.env).length = k + 1) (hst : (assignEach es X.env).findIdx? (·.1) = some k) (hs : ts.starAt = some k) : PG X (.Tuple es j pos) (rdG X Γ (.tup ts)) := by
  refine ⟨fun pins s σ H v u Q I ru ⟨g, Bs, env, st, d, env', st', L, En, r, e, q⟩ => ?_⟩
  cases d with
  | tup l =>
    rw [asT] at e
    obtain ⟨a, vs, rfl, h1, h2⟩ := r.tup_
    cases ru
    obtain ⟨its, rv, ht, hz⟩ := I.tuple h1.sq
    obtain ⟨i1, i2⟩ := asL_unstar ts k l _ _ _ hs e
    have hl := rv.length
    have hl2 := h2.length
    rw [assign_Tuple]
    refine wpAny_bind (wpAny_standAt ?_)
    unfold unpack
    rw [hn, hst]
    refine wpAny_bind (wpAny_holding (unpackItems_star (I.ok.hd hc) ht (by rw [List.size_toArray]; omega) (by rw [List.size_toArray]; omega) fun s' kp hg hd ho => ?_))
    obtain ⟨hp', gn', dr', tk', os'⟩ := s'
    obtain rfl : gn' = s.gens := hg
    obtain rfl : dr' = s.drawn := hd
    obtain rfl : os' = s.os := ho
    have I1 : Inv X pins σ H { s with heap := hp', toks := tk' } := I.kept kp
    have hf : H hp'.objs.size = none := I1.hok.fresh (Nat.le_refl _)
    have I2 := I1.laid (a := hp'.objs.size) (o := .lst (vs.drop k)) (h' := hp'.push { cls := .type "list", data := .seq (its.drop k).toArray }) (t' := tk') (fun b u e => Heap.get?_push_of_some _ e) (Nat.le_refl _)
      ⟨by rw [List.length_drop]; omega, its.drop k, 0, rv.drop k, Heap.get?_push_size _ rfl⟩
    have x2 := ext_fz L hf (.lst (vs.drop k))
    have L2' := live_fz L hf (.lst (vs.drop k))
    have r2 : Reps (kwOf X) (g.fz hp'.objs.size) (upd H hp'.objs.size (.lst (vs.drop k))) (l.take k ++ [.lst (l.drop k)]) (vs.take k ++ [.ref hp'.objs.size]) :=
      ((h2.take k).mono x2).append (.cons (.lst ⟨.inr rfl, upd_same⟩ ((h2.drop k).mono x2)) .nil)
    refine h.run pins _ σ _ _ _ Q I2 ((rv.take k).append (.cons (show RelV (.ref hp'.objs.size) (.ref hp'.objs.size) from rfl) .nil)) ⟨g.fz hp'.objs.size, Bs, env, st, _, env', st', L2', En.mono x2, r2, i2, fun g' H' σ' L3 x3 En3 a3 => ?_⟩
    refine q g' H' σ' L3 (x2.trans x3) En3 ?_
    rw [slots_unstar] at a3
    exact a3
  | lst l =>
    rw [asT, star_plain ts k hs] at e
    cases e
  | _ => cases e
theorem wr_dic {κ : Kw} {g : Gh} {H : Hp} {Bs : Nat → Prop} {base : Nat} {st : Sto} {n : Nat} {a : Addr} {l l' : List (D × D)} {vs : List (Key × V)} (L : Live κ g Bs base st H) (hn : st[n]? = some (.dic l)) (ha : g.al[n]? = some a)
    (r : RepK κ g H l' vs) (hb : n < base → ∀ b, belowK b l = true → belowK b l' = true) : Live κ g Bs base (st.set n (.dic l')) (upd H a (.dK vs)) ∧ Ext g H g (upd H a (.dK vs)) := by
  have x := ext_wr (c := .dic l) L ha (.dK vs)
  exact ⟨live_wr L hn ha (.dK vs) (c' := .dic l') ⟨vs, upd_same, r.mn x.mn⟩ hb, x⟩
theorem wr_lst' {κ : Kw} {g : Gh} {H : Hp} {Bs : Nat → Prop} {base : Nat} {st : Sto} {n : Nat} {a : Addr} {l l' : List D} {vs : List V} (L : Live κ g Bs base st H) (hn : st[n]? = some (.lst l)) (ha : g.al[n]? = some a)
    (r : Reps κ g H l' vs) (hb : n < base → ∀ b, belowL b l = true → belowL b l' = true) : Live κ g Bs base (st.set n (.lst l')) (upd H a (.lst vs)) ∧ Ext g H g (upd H a (.lst vs)) := by
  have x := ext_wr (c := .lst l) L ha (.lst vs)
  exact ⟨live_wr L hn ha (.lst vs) (c' := .lst l') ⟨vs, upd_same, r.mn x.mn⟩ hb, x⟩
theorem belowK_iff {n : Nat} : ∀ {a : List (D × D)}, belowK n a = true ↔ ∀ d ∈ a, below n d.1 = true ∧ below n d.2 = true
  | [] => by simp [belowK]
  | (x, y) :: a => by
    rw [belowK, Bool.and_eq_true, Bool.and_eq_true, belowK_iff]
    simp
theorem belowK_put {b : Nat} {k d : D} {l : List (D × D)} (hk : below b k = true) (hd : below b d = true) (h : belowK b l = true) : belowK b (put k d l) = true := by
  rw [belowK_iff] at h ⊢
  unfold put
  split
  · intro p hp
    obtain ⟨q, hq, e⟩ := List.mem_map.mp hp
    have hq' := h q hq
    subst e
    split
    · exact ⟨hq'.1, hd⟩
    · exact hq'
  · intro p hp
    rcases List.mem_append.mp hp with hp | hp
    · exact h p hp
    · have e : p = (k, d) := by simpa using hp
      rw [e]
      exact ⟨hk, hd⟩
theorem below_key {b : Nat} {k : D} (h : isKey k = true) : below b k = true := by
  cases k <;> first | rfl | (simp [isKey] at h)
def rSet (κ : Kw) (base : Nat) : TSet := fun o i v H Q => ∃ g Bs st do_ di dv st', Live κ g Bs base st H ∧ Rep κ g H do_ o ∧ Rep κ g H di i ∧ Rep κ g H dv v ∧ setE base do_ di dv st = some st' ∧ ∀ g' H', Live κ g' Bs base st' H' → Ext g H g' H' → Q H'
theorem op_set (hu : X.A.units + 1 < cLine) (base : Nat) : PSet X (rSet (kwOf X) base) := by
  intro pins s σ H o i v ov iv u Q I ro ri rv h
  obtain ⟨g, Bs, st, dob, di, dv, st', L, r1, r2, r3, e, q⟩ := h
  unfold setE at e
  split at e
  · rename_i n
    split at e
    · rename_i l hl
      split at e
      · rename_i k
        split at e
        · rename_i hw
          obtain ⟨j, e1, e⟩ := mpd e
          subst e
          obtain ⟨a, vs, rfl, ha, h2, h3⟩ := own_lst L r1 hl
          have ei := r2.int_; subst ei
          have hx := wr_lst' L hl ha (h3.set r3 j) fun hn b hb => belowL_iff.mpr fun d hd => by
            rcases List.mem_or_eq_of_mem_set hd with hd | hd
            · exact belowL_iff.mp hb d hd
            · rw [hd]; exact wr_ok hw hn b
          exact set_list pins s σ H _ _ v ov iv u Q I ro ri rv ⟨a, vs, k, j, rfl, rfl, h2, by rw [← h3.length]; exact e1, q _ _ hx.1 hx.2⟩
        · cases e
      · cases e
    · rename_i l hl
      split at e
      · rename_i hw
        cases e
        obtain ⟨a, kvs, rfl, ha, h2, h3⟩ := own_dic L r1 hl
        obtain ⟨key, rfl, hkv⟩ := key_of_d hw.2.1
        have ei := hkv r2; subst ei
        have hx := wr_dic L hl ha (h3.put (k := key) r3) fun hn b hb => belowK_put (below_key hw.2.1) (wr_ok hw.1 hn b) hb
        cases ro
        exact d_setItem hu I (.k h2 (by rw [← h3.length, ← line_eq]; exact hw.2.2)) ri rv fun s' I' => ⟨_, I', q _ _ hx.1 hx.2⟩
      · cases e
    · cases e
  · cases e
def notSlice : Expr → Bool
  | .Slice _ _ _ _ => false
  | _ => true
theorem g_sub {o i : Expr} {eo ei : E} {pos : Pos} (hu : X.A.units + 1 < cLine) (ho : PE X o (rdE X Γ eo)) (hi : PE X i (rdE X Γ ei)) (hs : notSlice i = true) : PG X (.Subscript o i pos) (rdG X Γ (.sub eo ei)) :=
  PG_imp (pg_sub ho hi (op_set hu Γ.base) (by intro v; cases i <;> first | rfl | (simp [notSlice] at hs))) fun v σ H Q ⟨g, Bs, env, st, d, env', st', L, En, r, e, q⟩ => by
    rw [asT] at e
    obtain ⟨⟨d1, st1⟩, e1, e⟩ := bnd e
    obtain ⟨⟨d2, st2⟩, e2, e⟩ := bnd e
    obtain ⟨st3, e3, e⟩ := mpd e
    cases e
    refine ⟨g, Bs, env, st, d1, st1, L, En, e1, fun x g1 H1 L1 x1 r1 => ⟨g1, Bs, env, st1, d2, st2, L1, En.mono x1, e2, fun y g2 H2 L2 x2 r2 => ⟨g2, Bs, st2, d1, d2, d, _, L2, r1.mono x2, r2, (r.mono x1).mono x2, e3, fun g3 H3 L3 x3 => ?_⟩⟩⟩
    exact q g3 H3 σ L3 ((x1.trans x2).trans x3) (((En.mono x1).mono x2).mono x3) .refl
end
end Mc

set_option linter.all false
set_option maxRecDepth 100000
set_option Elab.async false
set_option maxHeartbeats 1000000
namespace Mc
open PySem PySem.Spec PyProof.Rows L2


def ItOk (κ : Kw) (J : L2.It) (src : D) (orig items : List D) (base : Nat) (g0 : Gh) (H0 : Hp) : Prop :=
  ∀ (g : Gh) (H : Hp) (Bs : Nat → Prop) (st : Sto) (i : Nat), Live κ g Bs base st H → Ext g0 H0 g H → still src orig st = true →
    (i < items.length → J.go i H ∧ ∀ x H', J.yld i H x H' → ∃ g', Live κ g' Bs base st H' ∧ Ext g H g' H' ∧ (∀ p, p ∉ g.al → ¬ g.F p → H p ≠ none → H' p = H p ∧ p ∉ g'.al ∧ ¬ g'.F p) ∧ ∀ d, items[i]? = some d → Rep κ g' H' d x) ∧ (items.length ≤ i → J.stop i H)
section
variable {X : Cx} {Γ : Cfg} {tg : Expr}
def rdI (X : Cx) (Γ : Cfg) (it : Mc.It) : TI := fun σ H R => ∃ g Bs env st src orig items st', Live (kwOf X) g Bs Γ.base st H ∧ EnvR (kwOf X) g H env σ ∧ evI Γ it env st = some ((src, orig, items), st') ∧
  ∀ J g' H', Live (kwOf X) g' Bs Γ.base st' H' → Ext g H g' H' → still src orig st' = true → ItOk (kwOf X) J src orig items Γ.base g' H' → R J H'
theorem PI_imp {e : Expr} {t t' : TI} (h : PI X tg e t) (i : ∀ σ H R, t' σ H R → t σ H R) : PI X tg e t' := ⟨fun pins s σ H R I q => h.run pins s σ H R I (i _ _ _ q)⟩
/-- nothing new: the walk leaves the heap -/
theorem ItOk.plain {κ : Kw} {J : L2.It} {src : D} {orig items : List D} {base : Nat} {g0 : Gh} {H0 : Hp}
    (h : ∀ (g : Gh) (H : Hp) (Bs : Nat → Prop) (st : Sto) (i : Nat), Live κ g Bs base st H → Ext g0 H0 g H → still src orig st = true → (i < items.length → J.go i H ∧ ∀ x H', J.yld i H x H' → H' = H ∧ ∀ d, items[i]? = some d → Rep κ g H d x) ∧ (items.length ≤ i → J.stop i H)) :
    ItOk κ J src orig items base g0 H0 := fun g H Bs st i L x e => by
  obtain ⟨h1, h2⟩ := h g H Bs st i L x e
  refine ⟨fun hi => ⟨(h1 hi).1, fun v H' y => ?_⟩, h2⟩
  obtain ⟨eh, r⟩ := (h1 hi).2 v H' y
  subst eh
  exact ⟨g, L, .refl, fun p a b c => ⟨rfl, a, b⟩, r⟩
theorem ok_list {κ : Kw} {a : Addr} {src : D} {l : List D} {base : Nat} {g0 : Gh} {H0 : Hp} (h : ∀ (g : Gh) (H : Hp) (Bs : Nat → Prop) (st : Sto), Live κ g Bs base st H → Ext g0 H0 g H → still src l st = true → ∃ vs, SqL κ.K H a vs ∧ Reps κ g H l vs) : ItOk κ (Itl κ.K a) src l l base g0 H0 :=
  .plain fun g H Bs st i L x e => by
    obtain ⟨vs, hq, r⟩ := h g H Bs st L x e
    refine ⟨fun hi => ?_, fun hi => ⟨vs, hq, by rw [← r.length]; exact hi⟩⟩
    obtain ⟨v, hv, _⟩ := r.get (List.getElem?_eq_getElem hi)
    refine ⟨⟨vs, v, hq, hv⟩, fun y H' ⟨eh, hy⟩ => ⟨eh, fun d hd => ?_⟩⟩
    obtain ⟨w, hw, rw'⟩ := r.get hd
    have := hy vs hq
    rw [hw] at this
    cases this
    exact rw'
theorem ok_tup {κ : Kw} {a : Addr} {src : D} {l : List D} {base : Nat} {g0 : Gh} {H0 : Hp} (h : ∀ (g : Gh) (H : Hp) (Bs : Nat → Prop) (st : Sto), Live κ g Bs base st H → Ext g0 H0 g H → still src l st = true → ∃ vs, SqT κ.K H a vs ∧ Reps κ g H l vs) : ItOk κ (Itt κ.K a) src l l base g0 H0 :=
  .plain fun g H Bs st i L x e => by
    obtain ⟨vs, hq, r⟩ := h g H Bs st L x e
    refine ⟨fun hi => ?_, fun hi => ⟨vs, hq, by rw [← r.length]; exact hi⟩⟩
    obtain ⟨v, hv, _⟩ := r.get (List.getElem?_eq_getElem hi)
    refine ⟨⟨vs, v, hq, hv⟩, fun y H' ⟨eh, hy⟩ => ⟨eh, fun d hd => ?_⟩⟩
    obtain ⟨w, hw, rw'⟩ := r.get hd
    have := hy vs hq
    rw [hw] at this
    cases this
    exact rw'
theorem ok_str {κ : Kw} {s : Tx} {orig : List D} {base : Nat} {g0 : Gh} {H0 : Hp} : ItOk κ (Its (str_ s)) (.str s) orig (s.map fun c => .str [c]) base g0 H0 :=
  .plain fun g H Bs st i L x e => by
    have hl : (str_ s).cps.size = s.length := by simp [str_]
    refine ⟨fun hi => ?_, fun hi => ?_⟩
    · rw [List.length_map] at hi
      refine ⟨show i < (str_ s).cps.size by rw [hl]; exact hi, fun y H' ⟨eh, c, hc, ey⟩ => ⟨eh, fun d hd => ?_⟩⟩
      subst ey
      have hc' : s[i]? = some c := by simpa [str_] using hc
      rw [List.getElem?_map, hc'] at hd
      cases hd
      exact .sca (.str [c])
    · rw [List.length_map] at hi
      show (str_ s).cps.size ≤ i
      rw [hl]; exact hi
theorem ok_rng {κ : Kw} {lo : Int} {n : Nat} {base : Nat} {g0 : Gh} {H0 : Hp} : ItOk κ (Itr lo n) .non [] ((List.range n).map fun (k : Nat) => .int (lo + (k : Int))) base g0 H0 :=
  .plain fun g H Bs st i L x e => by
    refine ⟨fun hi => ?_, fun hi => ?_⟩
    · rw [List.length_map, List.length_range] at hi
      refine ⟨hi, fun y H' ⟨eh, ey⟩ => ⟨eh, fun d hd => ?_⟩⟩
      subst ey
      rw [List.getElem?_map, List.getElem?_range hi] at hd
      cases hd
      exact .sca (.int _)
    · rw [List.length_map, List.length_range] at hi
      exact hi
theorem ok_rngC {κ : Kw} {lo c : Int} {n : Nat} {base : Nat} {g0 : Gh} {H0 : Hp} : ItOk κ (Itc lo c n) .non [] ((List.range n).map fun (k : Nat) => .int (lo + (k : Int) * c)) base g0 H0 :=
  .plain fun g H Bs st i L x e => by
    refine ⟨fun hi => ?_, fun hi => ?_⟩
    · rw [List.length_map, List.length_range] at hi
      refine ⟨hi, fun y H' ⟨eh, ey⟩ => ⟨eh, fun d hd => ?_⟩⟩
      subst ey
      rw [List.getElem?_map, List.getElem?_range hi] at hd
      cases hd
      exact .sca (.int _)
    · rw [List.length_map, List.length_range] at hi
      exact hi
/-- a value is walked -/
theorem walk_val {pins : List (Addr × Obj)} {s : Shared} {σ : L2.St} {H : Hp} {g : Gh} {Bs : Nat → Prop} {base : Nat} {st : Sto} {src : D} {l : List D} {x : V} {v : Value} {R : L2.It → Hp → Prop} (I : Inv X pins σ H s) (rx : RelV x v) (L : Live (kwOf X) g Bs base st H) (r : Rep (kwOf X) g H src x) (e : itemsE st src = some l)
    (q : ∀ J, ItOk (kwOf X) J src l l base g H → R J H) : wpAny (model X.prog X.w) X.A (pyIter v) (PIE X pins σ tg R) X.xe s := by
  have doL : ∀ a, x = .ref a → (∃ vs, SqL X.K H a vs) → ItOk (kwOf X) (Itl X.K a) src l l base g H → wpAny (model X.prog X.w) X.A (pyIter v) (PIE X pins σ tg R) X.xe s := fun a ex ⟨vs, hq⟩ ok => by
    subst ex
    cases rx
    obtain ⟨its, rv, p, hz⟩ := I.list hq
    exact wpAny_pyIter_list p.isList (pi_one (tk := s.toks) I _ (turn_list a _) ⟨_, Heap.get?_push_size _ rfl, rfl, rfl⟩ (q _ ok))
  cases src with
  | str z =>
    have ez := r.str_; subst ez
    simp only [itemsE] at e
    split at e
    · cases e
      obtain ⟨t, rfl⟩ := rx
      cases ha : (str_ z).cps.all (· < 128)
      · exact wpAny_pyIter_wide ha (pi_one (tk := s.toks) I _ (turn_str _ _ t "str_iterator" (.inr rfl)) ⟨_, Heap.get?_push_size _ rfl, rfl, rfl⟩ (q _ ok_str))
      · exact wpAny_pyIter_ascii ha (pi_one (tk := s.toks) I _ (turn_str _ _ t "str_ascii_iterator" (.inl rfl)) ⟨_, Heap.get?_push_size _ rfl, rfl, rfl⟩ (q _ ok_str))
    · cases e
  | tup m =>
    cases e
    obtain ⟨a, vs, rfl, h1, h2⟩ := r.tup_
    cases rx
    obtain ⟨its, rv, p, hz⟩ := I.tuple h1.sq
    refine wpAny_pyIter_tuple (show s.heap.IsTuple a its.toArray from p) (pi_one (tk := s.toks) I _ (turn_tuple a _) ⟨_, Heap.get?_push_size _ rfl, rfl, rfl⟩ (q _ (ok_tup fun g' H' Bs' st' L' x' e' => ?_)))
    exact ⟨vs, (h1.mono x').sq, h2.mono x'⟩
  | lst m =>
    cases e
    obtain ⟨a, vs, rfl, hF, h1, h2⟩ := r.lst_
    exact doL a rfl ⟨vs, .inl (.inl h1)⟩ (ok_list fun g' H' Bs' st' L' x' e' => ⟨vs, .inl (.inl (x'.lk a hF vs h1)), h2.mono x'⟩)
  | own n =>
    have e' : lstOf st (.own n) = some l := e
    simp only [lstOf] at e'
    split at e'
    · rename_i m hm
      cases e'
      obtain ⟨a, vs, rfl, ha, h1, h2⟩ := own_lst L r hm
      refine doL a rfl ⟨vs, .inl (.inl h1)⟩ (ok_list fun g' H' Bs' st' L' x' e' => ?_)
      simp only [still] at e'
      split at e'
      · rename_i m' hm'
        have em := sameL_eq e'
        subst em
        obtain ⟨b, hb, ws, k1, k2⟩ := L'.cell n _ hm'
        have := x'.al n a ha
        rw [hb] at this
        cases this
        exact ⟨ws, .inl (.inl k1), k2⟩
      · cases e'
    · cases e'
  | _ => cases e
theorem i_ex {e : Expr} {ee : E} (he : PE X e (rdE X Γ ee)) : PI X tg e (rdI X Γ (.ex ee)) := by
  refine ⟨fun pins s σ H R I ⟨g, Bs, env, st, src, orig, items, st', L, En, e, q⟩ => ?_⟩
  rw [evI] at e
  obtain ⟨⟨d1, st1⟩, e1, e⟩ := bnd e
  obtain ⟨l, e2, e⟩ := bnd e
  split at e <;> first | (cases e; done) | skip
  rename_i hst
  cases e
  refine thn (he.run pins s σ H (fun x H1 => ∃ g1, Live (kwOf X) g1 Bs Γ.base st1 H1 ∧ Ext g H g1 H1 ∧ Rep (kwOf X) g1 H1 d1 x) I ⟨g, Bs, env, st, d1, st1, L, En, e1, fun v g1 H1 L1 x1 r1 => ⟨g1, L1, x1, r1⟩⟩) fun v s1 ⟨x, H1, I1, rx, g1, L1, x1, r1⟩ => ?_
  exact walk_val I1 rx L1 r1 e2 fun J ok => q J g1 H1 L1 x1 hst ok
theorem rd_rng {ds : List D} {items : List D} {st st' : Sto} {src : D} {orig : List D} (e : (match ds with
    | [.int j] => if -(2 ^ 62) ≤ j ∧ j < 2 ^ 62 then some ((D.non, ([] : List D), (List.range j.toNat).map fun (k : Nat) => D.int (0 + (k : Int))), st) else none
    | [.int i, .int j] => if -(2 ^ 62) ≤ i ∧ i < 2 ^ 62 ∧ -(2 ^ 62) ≤ j ∧ j < 2 ^ 62 then some ((.non, [], (List.range (j - i).toNat).map fun (k : Nat) => .int (i + (k : Int))), st) else none
    | [.int i, .int j, .int c] => if 0 < c ∧ c < 1048576 ∧ 0 ≤ i ∧ i < 2 ^ 60 ∧ 0 ≤ j ∧ j < 2 ^ 60 then some ((.non, [], (List.range (stepsI i j c)).map fun (k : Nat) => .int (i + (k : Int) * c)), st) else none
    | _ => none) = some ((src, orig, items), st')) : src = .non ∧ orig = [] ∧ st' = st ∧ ((∃ j, ds = [.int j] ∧ (-(2 ^ 62) ≤ j ∧ j < 2 ^ 62) ∧ items = (List.range j.toNat).map fun (k : Nat) => D.int (0 + (k : Int))) ∨
      (∃ i j, ds = [.int i, .int j] ∧ (-(2 ^ 62) ≤ i ∧ i < 2 ^ 62 ∧ -(2 ^ 62) ≤ j ∧ j < 2 ^ 62) ∧ items = (List.range (j - i).toNat).map fun (k : Nat) => D.int (i + (k : Int))) ∨
      ∃ i j c, ds = [.int i, .int j, .int c] ∧ (0 < c ∧ c < 1048576 ∧ 0 ≤ i ∧ i < 2 ^ 60 ∧ 0 ≤ j ∧ j < 2 ^ 60) ∧ items = (List.range (stepsI i j c)).map fun (k : Nat) => D.int (i + (k : Int) * c)) := by
  split at e
  · split at e
    · rename_i hz
      cases e
      exact ⟨rfl, rfl, rfl, .inl ⟨_, rfl, hz, rfl⟩⟩
    · cases e
  · split at e
    · rename_i hz
      cases e
      exact ⟨rfl, rfl, rfl, .inr (.inl ⟨_, _, rfl, hz, rfl⟩)⟩
    · cases e
  · split at e
    · rename_i hz
      cases e
      exact ⟨rfl, rfl, rfl, .inr (.inr ⟨_, _, _, rfl, hz, rfl⟩)⟩
    · cases e
  · cases e
theorem i_rng1 {a : Expr} {ea : E} {x : Str} {p pos : Pos} (hx : x = "range") (hg : Gl X x) (hm : X.mg x = none) (ha : PE X a (rdE X Γ ea)) (hs : notStar a = true) : PI X tg (.Call (.Name x p) [a] [] pos) (rdI X Γ (.rng (.cons ea .nil))) := by
  subst hx
  exact PI_imp (pi_range1 hg hm (l_cons hs ha l_nil) (star_cons hs)) fun σ H R ⟨g, Bs, env, st, src, orig, items, st', L, En, e, q⟩ => by
    rw [evI] at e
    obtain ⟨⟨ds, st1⟩, e1, e⟩ := bnd e
    obtain ⟨rfl, rfl, rfl, h⟩ := rd_rng e
    have hl : ds.length = 1 := by
      rw [evL] at e1
      obtain ⟨_, _, e1⟩ := bnd e1
      obtain ⟨_, e3, e1⟩ := mpd e1
      rw [evL] at e3
      cases e3
      cases e1
      rfl
    rcases h with ⟨j, rfl, hz, rfl⟩ | ⟨i, j, rfl, hz, rfl⟩ | ⟨i, j, c, rfl, hz, rfl⟩
    · refine ⟨g, Bs, env, st, _, _, L, En, e1, fun vs g1 H1 L1 x1 r1 => ?_⟩
      obtain ⟨v, rfl, r⟩ := reps1 r1
      have ev := r.int_; subst ev
      exact ⟨_, rfl, hz.1, hz.2, q _ g1 H1 L1 x1 rfl ok_rng⟩
    · simp at hl
    · simp at hl
theorem i_rng2 {a b : Expr} {ea eb : E} {x : Str} {p pos : Pos} (hx : x = "range") (hg : Gl X x) (hm : X.mg x = none) (ha : PE X a (rdE X Γ ea)) (hb : PE X b (rdE X Γ eb)) (hs : notStar a = true) (hs2 : notStar b = true) : PI X tg (.Call (.Name x p) [a, b] [] pos) (rdI X Γ (.rng (.cons ea (.cons eb .nil)))) := by
  subst hx
  exact PI_imp (pi_range2 hg hm (l_cons hs ha (l_cons hs2 hb l_nil)) (by rw [star_cons hs, star_cons hs2]; rfl) (star_cons hs2)) fun σ H R ⟨g, Bs, env, st, src, orig, items, st', L, En, e, q⟩ => by
    rw [evI] at e
    obtain ⟨⟨ds, st1⟩, e1, e⟩ := bnd e
    obtain ⟨rfl, rfl, rfl, h⟩ := rd_rng e
    have hl : ds.length = 2 := by
      rw [evL] at e1
      obtain ⟨_, _, e1⟩ := bnd e1
      obtain ⟨_, e3, e1⟩ := mpd e1
      rw [evL] at e3
      obtain ⟨_, _, e3⟩ := bnd e3
      obtain ⟨_, e4, e3⟩ := mpd e3
      rw [evL] at e4
      cases e4
      cases e3
      cases e1
      rfl
    rcases h with ⟨j, rfl, hz, rfl⟩ | ⟨i, j, rfl, hz, rfl⟩ | ⟨i, j, c, rfl, hz, rfl⟩
    · simp at hl
    · refine ⟨g, Bs, env, st, _, _, L, En, e1, fun vs g1 H1 L1 x1 r1 => ?_⟩
      obtain ⟨v, w, rfl, r, r'⟩ := reps2 r1
      have ev := r.int_; have ew := r'.int_; subst ev ew
      exact ⟨_, _, rfl, hz, q _ g1 H1 L1 x1 rfl ok_rng⟩
    · simp at hl
theorem rgc_of {i j c : Int} (h : 0 < c ∧ c < 1048576 ∧ 0 ≤ i ∧ i < 2 ^ 60 ∧ 0 ≤ j ∧ j < 2 ^ 60) : RgC i j c (stepsI i j c) := by
  obtain ⟨h1, h2, h3, h4, h5, h6⟩ := h
  have e : Builtin.Range.rangeSize i j c = if i < j then (j - i - 1) / c + 1 else 0 := by
    unfold Builtin.Range.rangeSize
    rw [if_pos (by omega)]
  have b1 : i < j → 0 ≤ (j - i - 1) / c ∧ (j - i - 1) / c ≤ j - i - 1 := fun hij => ⟨Int.ediv_nonneg (by omega) (by omega), Int.ediv_le_self c (by omega)⟩
  refine ⟨by omega, by omega, ?_, ?_⟩
  · unfold Builtin.Range.small
    rw [e]
    simp only [Builtin.Range.rangeFitsLong, Bool.and_eq_true, Bool.or_eq_true, decide_eq_true_eq, beq_iff_eq, h1, gt_iff_lt, if_true]
    by_cases hij : i < j
    · have := b1 hij
      rw [if_pos hij]
      omega
    · rw [if_neg hij]
      omega
  · rw [e]
    unfold stepsI
    by_cases hij : i < j
    · have := b1 hij
      rw [if_pos hij]
      omega
    · rw [if_neg hij]
      rfl
theorem i_rng3 {a b c : Expr} {ea eb ec : E} {x : Str} {p pos : Pos} (hx : x = "range") (hg : Gl X x) (hm : X.mg x = none) (ha : PE X a (rdE X Γ ea)) (hb : PE X b (rdE X Γ eb)) (hc : PE X c (rdE X Γ ec)) (hs : notStar a = true) (hs2 : notStar b = true) (hs3 : notStar c = true) : PI X tg (.Call (.Name x p) [a, b, c] [] pos) (rdI X Γ (.rng (.cons ea (.cons eb (.cons ec .nil))))) := by
  subst hx
  exact PI_imp (pi_range3 hg hm (l_cons hs ha (l_cons hs2 hb (l_cons hs3 hc l_nil))) (star_cons hs) (plain_stars (by simp [hs2, hs3]))) fun σ H R ⟨g, Bs, env, st, src, orig, items, st', L, En, e, q⟩ => by
    rw [evI] at e
    obtain ⟨⟨ds, st1⟩, e1, e⟩ := bnd e
    obtain ⟨rfl, rfl, rfl, h⟩ := rd_rng e
    have hl : ds.length = 3 := by
      rw [evL] at e1
      obtain ⟨_, _, e1⟩ := bnd e1
      obtain ⟨_, e3, e1⟩ := mpd e1
      rw [evL] at e3
      obtain ⟨_, _, e3⟩ := bnd e3
      obtain ⟨_, e4, e3⟩ := mpd e3
      rw [evL] at e4
      obtain ⟨_, _, e4⟩ := bnd e4
      obtain ⟨_, e5, e4⟩ := mpd e4
      rw [evL] at e5
      cases e5
      cases e4
      cases e3
      cases e1
      rfl
    rcases h with ⟨j, rfl, hz, rfl⟩ | ⟨i, j, rfl, hz, rfl⟩ | ⟨i, j, c, rfl, hz, rfl⟩
    · simp at hl
    · simp at hl
    · refine ⟨g, Bs, env, st, _, _, L, En, e1, fun vs g1 H1 L1 x1 r1 => ?_⟩
      cases r1 with
      | cons r0 t =>
        obtain ⟨v, w, rfl, r, r'⟩ := reps2 t
        have eu := r0.int_; have ev := r.int_; have ew := r'.int_; subst eu ev ew
        exact ⟨i, j, c, _, rfl, rgc_of hz, q _ g1 H1 L1 x1 rfl ok_rngC⟩

def Fin (X : Cx) (D : Ends) (base : Nat) (g : Gh) (H : Hp) (Bs : Nat → Prop) (f : Fl) (env : Env) (st : Sto) : Prop :=
  ∀ g' H', Live (kwOf X) g' Bs base st H' → Ext g H g' H' → match f with
    | .nx => ∀ σ', EnvR (kwOf X) g' H' env σ' → D.nx σ' H'
    | .bk => ∀ σ', EnvR (kwOf X) g' H' env σ' → D.bk σ' H'
    | .ct => ∀ σ', EnvR (kwOf X) g' H' env σ' → D.ct σ' H'
    | .rt d => ∀ v, Rep (kwOf X) g' H' d v → D.rt v H'
theorem Fin.later {D : Ends} {base : Nat} {g g' : Gh} {H H' : Hp} {Bs : Nat → Prop} {f : Fl} {env : Env} {st : Sto} (h : Fin X D base g H Bs f env st) (x : Ext g H g' H') : Fin X D base g' H' Bs f env st :=
  fun g2 H2 L2 x2 => h g2 H2 L2 (x.trans x2)
def rdS (X : Cx) (Γ : Cfg) (s : S) : TS := fun D σ H => ∃ g Bs env st f env' st', Live (kwOf X) g Bs Γ.base st H ∧ EnvR (kwOf X) g H env σ ∧ evS Γ s env st = some (f, env', st') ∧ Fin X D Γ.base g H Bs f env' st'
def rdB (X : Cx) (Γ : Cfg) (s : SL) : TS := fun D σ H => ∃ g Bs env st f env' st', Live (kwOf X) g Bs Γ.base st H ∧ EnvR (kwOf X) g H env σ ∧ evB Γ s env st = some (f, env', st') ∧ Fin X D Γ.base g H Bs f env' st'
theorem PS_imp {s : Stmt} {t t' : TS} (h : PS X s t) (i : ∀ D σ H, t' D σ H → t D σ H) : PS X s t' := ⟨fun pins s σ H D I q => h.run pins s σ H D I (i _ _ _ q)⟩
theorem PSs_imp {s : List Stmt} {t t' : TS} (h : PSs X s t) (i : ∀ D σ H, t' D σ H → t D σ H) : PSs X s t' := ⟨fun pins s σ H D I q => h.run pins s σ H D I (i _ _ _ q)⟩
theorem noFold {iter : Expr} (h : ∀ a b c, iter ≠ .Set a b c) (env : PySem.Env) : ∀ x, foldedSetIterable iter env x = pure x := by
  intro x
  cases iter <;> first | rfl | exact absurd rfl (h _ _ _)
theorem s_for {iter : Expr} {body : List Stmt} {it : Mc.It} {t : Tg} {b : SL} {pos : Pos} (hx : X.xe = fun _ _ => False) (hc : X.calm = true) (hi : PI X tg iter (rdI X Γ it)) (hg : PG X tg (rdG X Γ t)) (hb : PSs X body (rdB X Γ b)) (hn : ∀ a b c, iter ≠ .Set a b c) : PS X (.For tg iter body [] pos) (rdS X Γ (.for_ t it b)) :=
  PS_imp (ps_for (by rw [hx]; exact PassesOwn.never) hc hi hg hb (noFold hn _)) fun D σ H ⟨g, Bs, env, st, f, env', st', L, En, e, q⟩ => by
    rw [evS] at e
    obtain ⟨⟨⟨src, orig, items⟩, st1⟩, e1, e⟩ := bnd e
    refine ⟨g, Bs, env, st, src, orig, items, st1, L, En, e1, fun J g1 H1 L1 x1 hst ok => ?_⟩
    have q1 := q.later x1
    generalize hstep : (fun (d : Mc.D) (env : Env) (st : Sto) => (asT Γ t d env st).bind fun y => (evB Γ b y.1 y.2).bind fun z => if still src orig z.2.2 = true then some z else none) = step at e
    refine ⟨fun i m σ H => ∃ g env st, m = items.length - i ∧ i ≤ items.length ∧ Live (kwOf X) g Bs Γ.base st H ∧ Ext g1 H1 g H ∧ EnvR (kwOf X) g H env σ ∧ still src orig st = true ∧ loopF step (items.drop i) env st = some (f, env', st'),
      ⟨items.length, g1, env, st1, by simp, Nat.zero_le _, L1, .refl, En.mono x1, hst, by simpa using e⟩, ?_⟩
    rintro i m σ2 H2 ⟨g2, env2, st2, rfl, hi, L2, x2, En2, hs2, e2⟩
    obtain ⟨k1, k2⟩ := ok g2 H2 Bs st2 i L2 x2 hs2
    by_cases hlt : i < items.length
    · obtain ⟨go, yld⟩ := k1 hlt
      have hd : items.drop i = items[i] :: items.drop (i + 1) := by rw [List.drop_eq_getElem_cons hlt]
      rw [hd] at e2
      have e2' : (step items[i] env2 st2).bind (fun x => match x.1 with
        | .nx => loopF step (items.drop (i + 1)) x.2.1 x.2.2
        | .ct => loopF step (items.drop (i + 1)) x.2.1 x.2.2
        | .bk => some (.nx, x.2.1, x.2.2)
        | .rt v => some (.rt v, x.2.1, x.2.2)) = some (f, env', st') := e2
      obtain ⟨⟨f3, env3, st3⟩, e3, e4⟩ := bnd e2'
      rw [← hstep] at e3
      obtain ⟨⟨env5, st5⟩, e5, e3⟩ := bnd e3
      obtain ⟨⟨f6, env6, st6⟩, e6, e3⟩ := bnd e3
      split at e3 <;> first | (cases e3; done) | skip
      rename_i hs3
      cases e3
      refine .inr ⟨go, fun σ' H' => ∃ g env st, i + 1 ≤ items.length ∧ Live (kwOf X) g Bs Γ.base st H' ∧ Ext g1 H1 g H' ∧ EnvR (kwOf X) g H' env σ' ∧ still src orig st = true ∧ loopF step (items.drop (i + 1)) env st = some (f, env', st'), fun σ' H' ⟨g, env, st, a, b, c, d, e, f⟩ => ⟨items.length - (i + 1), by omega, g, env, st, rfl, a, b, c, d, e, f⟩, fun x H3 y => ?_⟩
      obtain ⟨g3, L3, x3, _, r3⟩ := yld x H3 y
      refine ⟨g3, Bs, env2, st2, items[i], env5, st5, L3, En2.mono x3, r3 _ (List.getElem?_eq_getElem hlt), e5, fun g4 H4 σ4 L4 x4 En4 _ => ?_⟩
      refine ⟨g4, Bs, env5, st5, f3, env3, st3, L4, En4, e6, fun g5 H5 L5 x5 => ?_⟩
      have xx : Ext g1 H1 g5 H5 := ((x2.trans x3).trans x4).trans x5
      cases f3 with
      | nx => exact fun σ5 En5 => ⟨g5, env3, st3, hlt, L5, xx, En5, hs3, e4⟩
      | ct => exact fun σ5 En5 => ⟨g5, env3, st3, hlt, L5, xx, En5, hs3, e4⟩
      | bk =>
        have e4' : some (Fl.nx, env3, st3) = some (f, env', st') := e4
        cases e4'
        exact fun σ5 En5 => q1 g5 H5 L5 xx σ5 En5
      | rt v =>
        have e4' : some (Fl.rt v, env3, st3) = some (f, env', st') := e4
        cases e4'
        exact fun w rw' => q1 g5 H5 L5 xx w rw'
    · have hie : i = items.length := by omega
      subst hie
      rw [List.drop_length] at e2
      have e2' : some (Fl.nx, env2, st2) = some (f, env', st') := e2
      cases e2'
      exact .inl ⟨k2 (Nat.le_refl _), q1 g2 H2 L2 x2 σ2 En2⟩

theorem f_nil {env : PySem.Env} : PTs X [] (rdF X Γ .nil) := ⟨fun pins s σ H Q I ⟨g, Bs, env, st, k, st', L, En, e, q⟩ => by
  rw [evF] at e; cases e
  exact pts_nil.run pins s σ H Q I (q g H L .refl)⟩
theorem f_one {c : Expr} {t : Te} (h : PT X c (rdT X Γ t)) : PTs X [c] (rdF X Γ (.cons t .nil)) := ⟨fun pins s σ H Q I ⟨g, Bs, env, st, k, st', L, En, e, q⟩ => by
  rw [evF] at e
  obtain ⟨⟨k1, st1⟩, e1, e⟩ := bnd e
  have e' : k = k1 ∧ st' = st1 := by
    simp only at e
    cases k1 with
    | true => rw [if_pos rfl, evF] at e; cases e; exact ⟨rfl, rfl⟩
    | false => rw [if_neg Bool.false_ne_true] at e; cases e; exact ⟨rfl, rfl⟩
  obtain ⟨rfl, rfl⟩ := e'
  exact (pts_one h).run pins s σ H Q I ⟨g, Bs, env, st, k, st', L, En, e1, q⟩⟩
theorem loopC_cons {step : D → Sto → Option (Option D × Sto)} {d : D} {r : List D} {st st' : Sto} {ys : List D} (e : loopC step (d :: r) st = some (ys, st')) : ∃ o st1 zs, step d st = some (o, st1) ∧ loopC step r st1 = some (zs, st') ∧ ys = (match o with | some v => v :: zs | none => zs) := by
  have e' : (step d st).bind (fun x => (loopC step r x.2).map fun y => (match x.1 with | some v => v :: y.1 | none => y.1, y.2)) = some (ys, st') := e
  obtain ⟨⟨o, st1⟩, e1, e2⟩ := bnd e'
  obtain ⟨⟨zs, st2⟩, e3, e4⟩ := mpd e2
  cases e4
  exact ⟨o, st1, zs, e1, e3, rfl⟩
theorem lc_imp {it : Mc.It} {t : Tg} {fs : FL} {e : E} {c : Bool} {vs : List Nat} (hsl : ∀ j ∈ slotsT t, j ∈ vs) {σ : L2.St} {H : Hp} {Q : VK} (h : rdE X Γ (.lc t it fs e vs c) σ H Q) : tLc (rdI X Γ it) (rdG X Γ t) (rdF X Γ fs) (rdE X Γ e) vs σ H Q := by
  obtain ⟨g, Bs, env, st, d, st', L, En, e0, q⟩ := h
  rw [evE] at e0
  obtain ⟨⟨⟨src, orig, items⟩, st1⟩, e1, e0⟩ := bnd e0
  obtain ⟨⟨l, st2⟩, e2, e0⟩ := bnd e0
  split at e0 <;> first | (cases e0; done) | skip
  rename_i hz0
  have hz : l.length ≤ line := hz0
  obtain ⟨rfl, rfl⟩ := pr_of e0
  refine ⟨g, Bs, env, st, src, orig, items, st1, L, En, e1, fun J g1 H1 L1 x1 hst okJ => ?_⟩
  intro D hD
  have hp1 := notIn_al L1 hD
  have hp2 := notF L1 hD
  have x0 : Ext g1 H1 g1 (upd H1 D (.lst [])) := ext_out hD hp1 hp2 _
  have En1 := En.mono x1
  generalize hstep : (fun (d : Mc.D) (st : Sto) => (asT Γ t d (Mc.wipe env vs) st).bind fun y => (evF Γ fs y.1 y.2).bind fun z =>
      if z.1 = true then (evE Γ e y.1 z.2).bind fun v => if still src orig v.2 = true then some (some v.1, v.2) else none else if still src orig z.2 = true then some ((none : Option Mc.D), z.2) else none) = step at e2
  refine ⟨fun i m H => ∃ g st acc vacc ys, m = items.length - i ∧ i ≤ items.length ∧ Live (kwOf X) g Bs Γ.base st H ∧ Ext g1 H1 g H ∧ D ∉ g.al ∧ ¬ g.F D ∧ H D = some (.lst vacc) ∧ Reps (kwOf X) g H acc vacc ∧ still src orig st = true ∧ loopC step (items.drop i) st = some (ys, st2) ∧ l = acc ++ ys,
    ⟨items.length, g1, st1, [], [], l, by simp, Nat.zero_le _, live_out L1 hp1 hp2 _, x0, hp1, hp2, upd_same, .nil, hst, by simpa using e2, rfl⟩, ?_⟩
  rintro i m H2 ⟨g2, st2', acc, vacc, ys, rfl, hi, L2, x2, a2, f2, hH2, r2, hs2, e3, el⟩
  obtain ⟨k1, k2⟩ := okJ g2 H2 Bs st2' i L2 x2 hs2
  by_cases hlt : i < items.length
  · obtain ⟨go, yld⟩ := k1 hlt
    have hd : items.drop i = items[i] :: items.drop (i + 1) := by rw [List.drop_eq_getElem_cons hlt]
    rw [hd] at e3
    obtain ⟨o, st3, zs, e4, e5, ey⟩ := loopC_cons e3
    rw [← hstep] at e4
    obtain ⟨⟨env5, st5⟩, e6, e4⟩ := bnd e4
    obtain ⟨⟨k7, st7⟩, e7, e4⟩ := bnd e4
    refine .inr ⟨go, fun H' => ∃ g st acc vacc ys, i + 1 ≤ items.length ∧ Live (kwOf X) g Bs Γ.base st H' ∧ Ext g1 H1 g H' ∧ D ∉ g.al ∧ ¬ g.F D ∧ H' D = some (.lst vacc) ∧ Reps (kwOf X) g H' acc vacc ∧ still src orig st = true ∧ loopC step (items.drop (i + 1)) st = some (ys, st2) ∧ l = acc ++ ys,
      fun H' ⟨g, st, acc, vacc, ys, a, b, c, d, e, f, h, j, k, m⟩ => ⟨items.length - (i + 1), by omega, g, st, acc, vacc, ys, rfl, a, b, c, d, e, f, h, j, k, m⟩, fun x H3 y => ?_⟩
    obtain ⟨g3, L3, x3, o3, r3⟩ := yld x H3 y
    obtain ⟨o3a, o3b, o3c⟩ := o3 D a2 f2 (by rw [hH2]; exact fun z => nomatch z)
    rw [hH2] at o3a
    have r2' := r2.mono x3
    refine ⟨g3, Bs, Mc.wipe env vs, st2', items[i], env5, st5, L3, ((En1.mono (x2.trans x3)).wipe _), r3 _ (List.getElem?_eq_getElem hlt), e6, fun g4 H4 σ4 L4 x4 En4 ag => ⟨ag.wipe hsl, ?_⟩⟩
    have at4 : D ∉ g4.al ∧ ¬ g4.F D ∧ H4 D = some (.lst vacc) := by
      have xx : Ext g3 (upd H3 D (.lst vacc)) g4 H4 := by
        have e : upd H3 D (.lst vacc) = H3 := by
          funext b
          by_cases hb : b = D
          · subst hb; rw [upd_same, o3a]
          · rw [upd_ne hb]
        rw [e]; exact x4
      exact still_out xx o3b o3c
    refine ⟨g4, Bs, env5, st5, k7, st7, L4, En4, e7, fun g5 H5 L5 x5 => ?_⟩
    have at5 : D ∉ g5.al ∧ ¬ g5.F D ∧ H5 D = some (.lst vacc) := by
      have xx : Ext g4 (upd H4 D (.lst vacc)) g5 H5 := by
        have e : upd H4 D (.lst vacc) = H4 := by
          funext b
          by_cases hb : b = D
          · subst hb; rw [upd_same, at4.2.2]
          · rw [upd_ne hb]
        rw [e]; exact x5
      exact still_out xx at4.1 at4.2.1
    have ext5 : Ext g1 H1 g5 H5 := ((x2.trans x3).trans x4).trans x5
    have r5 := (r2'.mono x4).mono x5
    cases k7 with
    | false =>
      rw [if_neg Bool.false_ne_true] at e4
      simp only [Bool.false_eq_true, if_false]
      split at e4 <;> first | (cases e4; done) | skip
      rename_i hs3
      cases e4
      exact ⟨g5, st7, acc, vacc, zs, hlt, L5, ext5, at5.1, at5.2.1, at5.2.2, r5, hs3, e5, by rw [el, ey]⟩
    | true =>
      rw [if_pos rfl] at e4
      simp only [if_true]
      obtain ⟨⟨dv, st8⟩, e8, e4⟩ := bnd e4
      split at e4 <;> first | (cases e4; done) | skip
      rename_i hs3
      cases e4
      refine ⟨g5, Bs, env5, st7, dv, st8, L5, En4.mono x5, e8, fun v g6 H6 L6 x6 r6 => ?_⟩
      have at6 : D ∉ g6.al ∧ ¬ g6.F D ∧ H6 D = some (.lst vacc) := by
        have xx : Ext g5 (upd H5 D (.lst vacc)) g6 H6 := by
          have e : upd H5 D (.lst vacc) = H5 := by
            funext b
            by_cases hb : b = D
            · subst hb; rw [upd_same, at5.2.2]
            · rw [upd_ne hb]
          rw [e]; exact x6
        exact still_out xx at5.1 at5.2.1
      have hlen : acc.length < l.length := by rw [el, ey, List.length_append, List.length_cons]; omega
      refine ⟨vacc, at6.2.2, by rw [← (r5.mono x6).length, ← line_eq]; omega, ?_⟩
      have mn := mn_out at6.1 at6.2.1 (.lst (vacc ++ [v])) (H := H6)
      refine ⟨g6, st8, acc ++ [dv], vacc ++ [v], zs, hlt, live_out L6 at6.1 at6.2.1 _, ext_set (ext5.trans x6) hD hp2 _, at6.1, at6.2.1, upd_same, (((r5.mono x6).mn mn).append (.cons (r6.mn mn) .nil)), hs3, e5, by rw [el, ey]; simp⟩
  · have hie : i = items.length := by omega
    subst hie
    rw [List.drop_length] at e3
    have e3' : some (([] : List Mc.D), st2') = some (ys, st2) := e3
    cases e3'
    rw [List.append_nil] at el
    subst el
    exact .inl ⟨k2 (Nat.le_refl _), take_mkL (x1.trans x2) (x1.dm D hD) L2 a2 f2 hH2 r2 q⟩
theorem s_lc {elt iter : Expr} {ifs : List Expr} {scope : Scope} {own : List (Str × Nat)} {pos : Pos} {it : Mc.It} {t : Tg} {fs : FL} {e : E} {c : Bool} {vs : List Nat} (hc : X.calm = true) (hN : X.N.Nodup) (hi : PI X tg iter (rdI X Γ it)) (ok : BlkOk X.N X.env.scope scope own)
    (hg : ∀ (s : Shared) (H : Hp) (C : Addr) (cl : List (Str × Addr)) (fp : List Addr), PG (X.blk s H scope (compEnvC scope cl C X.env) fp) tg (rdG X Γ t)) (ht : ∀ (s : Shared) (H : Hp) (C : Addr) (cl : List (Str × Addr)) (fp : List Addr), PTs (X.blk s H scope (compEnvC scope cl C X.env) fp) ifs (rdF X Γ fs))
    (he : ∀ (s : Shared) (H : Hp) (C : Addr) (cl : List (Str × Addr)) (fp : List Addr), PE (X.blk s H scope (compEnvC scope cl C X.env) fp) elt (rdE X Γ e)) (hn : ∀ a b c, iter ≠ .Set a b c) (hv : own.map (·.2) = vs) (hsl : ∀ j ∈ slotsT t, j ∈ vs) :
    PE X (.ListComp elt [⟨tg, iter, ifs, 0⟩] scope pos) (rdE X Γ (.lc t it fs e vs c)) := by
  subst hv
  exact PE_imp (pe_lc hc hN hi ok hg ht he (noFold hn _)) fun σ H Q h => lc_imp hsl h
end
end Mc

set_option linter.all false
set_option maxRecDepth 100000
set_option Elab.async false
set_option maxHeartbeats 1000000
namespace Mc
open PySem PySem.Spec PyProof.Rows L2

section
variable {X : Cx} {Γ : Cfg} {pos : Pos}
theorem b_nil : PSs X [] (rdB X Γ .nil) := PSs_imp pss_nil fun D σ H ⟨g, Bs, env, st, f, env', st', L, En, e, q⟩ => by
  rw [evB] at e; cases e
  exact q g H L .refl σ En
theorem b_cons {s : Stmt} {ss : List Stmt} {i : S} {r : SL} (h1 : PS X s (rdS X Γ i)) (h2 : PSs X ss (rdB X Γ r)) : PSs X (s :: ss) (rdB X Γ (.cons i r)) :=
  PSs_imp (pss_cons h1 h2) fun D σ H ⟨g, Bs, env, st, f, env', st', L, En, e, q⟩ => by
    rw [evB] at e
    obtain ⟨⟨f1, env1, st1⟩, e1, e⟩ := bnd e
    refine ⟨g, Bs, env, st, f1, env1, st1, L, En, e1, fun g1 H1 L1 x1 => ?_⟩
    cases f1 with
    | nx => exact fun σ1 En1 => ⟨g1, Bs, env1, st1, f, env', st', L1, En1, e, q.later x1⟩
    | bk =>
      have e' : some (Fl.bk, env1, st1) = some (f, env', st') := e
      cases e'
      exact q g1 H1 L1 x1
    | ct =>
      have e' : some (Fl.ct, env1, st1) = some (f, env', st') := e
      cases e'
      exact q g1 H1 L1 x1
    | rt v =>
      have e' : some (Fl.rt v, env1, st1) = some (f, env', st') := e
      cases e'
      exact q g1 H1 L1 x1
theorem s_pass : PS X (.Pass pos) (rdS X Γ .pass) := PS_imp ps_pass fun D σ H ⟨g, Bs, env, st, f, env', st', L, En, e, q⟩ => by
  rw [evS] at e; cases e; exact q g H L .refl σ En
theorem s_brk : PS X (.Break pos) (rdS X Γ .brk) := PS_imp ps_break fun D σ H ⟨g, Bs, env, st, f, env', st', L, En, e, q⟩ => by
  rw [evS] at e; cases e; exact q g H L .refl σ En
theorem s_cnt : PS X (.Continue pos) (rdS X Γ .cnt) := PS_imp ps_continue fun D σ H ⟨g, Bs, env, st, f, env', st', L, En, e, q⟩ => by
  rw [evS] at e; cases e; exact q g H L .refl σ En
theorem s_retN : PS X (.Return none pos) (rdS X Γ .retN) := PS_imp ps_retN fun D σ H ⟨g, Bs, env, st, f, env', st', L, En, e, q⟩ => by
  rw [evS] at e; cases e; exact q g H L .refl .non (.sca .non)
theorem s_ret {a : Expr} {ea : E} (ha : PE X a (rdE X Γ ea)) : PS X (.Return (some a) pos) (rdS X Γ (.ret ea)) := PS_imp (ps_ret ha) fun D σ H ⟨g, Bs, env, st, f, env', st', L, En, e, q⟩ => by
  rw [evS] at e
  obtain ⟨⟨d, st1⟩, e1, e⟩ := mpd e
  cases e
  exact ⟨g, Bs, env, st, d, _, L, En, e1, fun v g1 H1 L1 x1 r1 => q g1 H1 L1 x1 v r1⟩
/-- an expression that is dropped; not a comprehension -/
def noComp : Expr → Bool
  | .ListComp _ _ _ _ => false
  | .SetComp _ _ _ _ => false
  | .DictComp _ _ _ _ _ => false
  | _ => true
theorem noSwap {e : Expr} {t : Option Expr} {n : Nat} {env : PySem.Env} (h : noComp e = true) : swapsWith e t n env = pure false := by
  cases e <;> first | rfl | (simp [noComp] at h)
theorem s_ex {a : Expr} {ea : E} (ha : PE X a (rdE X Γ ea)) (hn : noComp a = true) : PS X (.Expr a pos) (rdS X Γ (.ex ea)) := PS_imp (ps_expr ha (noSwap hn)) fun D σ H ⟨g, Bs, env, st, f, env', st', L, En, e, q⟩ => by
  rw [evS] at e
  obtain ⟨⟨d, st1⟩, e1, e⟩ := mpd e
  cases e
  exact ⟨g, Bs, env, st, d, _, L, En, e1, fun v g1 H1 L1 x1 r1 => q g1 H1 L1 x1 σ (En.mono x1)⟩
theorem s_iff {c : Expr} {a b : List Stmt} {tc : Te} {ia ib : SL} (hc : PT X c (rdT X Γ tc)) (ha : PSs X a (rdB X Γ ia)) (hb : PSs X b (rdB X Γ ib)) : PS X (.If c a b pos) (rdS X Γ (.iff tc ia ib)) :=
  PS_imp (ps_if hc ha hb) fun D σ H ⟨g, Bs, env, st, f, env', st', L, En, e, q⟩ => by
    rw [evS] at e
    obtain ⟨⟨k, st1⟩, e1, e⟩ := bnd e
    refine ⟨g, Bs, env, st, k, st1, L, En, e1, fun g1 H1 L1 x1 => ?_⟩
    cases k with
    | true => exact ⟨g1, Bs, env, st1, f, env', st', L1, En.mono x1, e, q.later x1⟩
    | false => exact ⟨g1, Bs, env, st1, f, env', st', L1, En.mono x1, e, q.later x1⟩
/-- target = value, the plain road -/
theorem s_asg {tg a : Expr} {t : Tg} {ea : E} (ha : PE X a (rdE X Γ ea)) (hg : PG X tg (rdG X Γ t)) (hs : swapsWithSole [tg] a pos.line X.env = pure false) (hw : swappedStores [tg] a X.env = pure none) (hst : notStar tg = true) : PS X (.Assign [tg] a pos) (rdS X Γ (.asg t ea)) :=
  PS_imp (ps_asg ha hg hs hw (by rw [each_cons hst]; rfl)) fun D σ H ⟨g, Bs, env, st, f, env', st', L, En, e, q⟩ => by
    rw [evS] at e
    obtain ⟨⟨d, st1⟩, e1, e⟩ := bnd e
    obtain ⟨⟨env2, st2⟩, e2, e⟩ := mpd e
    cases e
    exact ⟨g, Bs, env, st, d, st1, L, En, e1, fun v g1 H1 L1 x1 r1 => ⟨g1, Bs, env, st1, d, _, _, L1, En.mono x1, r1, e2, fun g2 H2 σ2 L2 x2 En2 _ => q g2 H2 L2 (x1.trans x2) σ2 En2⟩⟩
/-- name = [..] on one line: another road -/
theorem s_asgLc {i : Nat} {y : Str} {py spos : Pos} {elt tg iter : Expr} {ifs : List Expr} {scope : Scope} {own : List (Str × Nat)} {it : Mc.It} {t : Tg} {fs : FL} {e : E} {c : Bool} {vs : List Nat}
    (hc : X.calm = true) (hN : X.N.Nodup) (hy : X.N[i]? = some y) (hyl : X.env.scope.names.lookup y = some .local) (hsw : swapsWith (.ListComp elt [⟨tg, iter, ifs, 0⟩] scope pos) (some (.Name y py)) spos.line X.env = pure true)
    (hi : PI X tg iter (rdI X Γ it)) (ok : BlkOk X.N X.env.scope scope own)
    (hg : ∀ (s : Shared) (H : Hp) (C : Addr) (cl : List (Str × Addr)) (fp : List Addr), PG (X.blk s H scope (compEnvC scope cl C X.env) fp) tg (rdG X Γ t)) (ht : ∀ (s : Shared) (H : Hp) (C : Addr) (cl : List (Str × Addr)) (fp : List Addr), PTs (X.blk s H scope (compEnvC scope cl C X.env) fp) ifs (rdF X Γ fs))
    (he : ∀ (s : Shared) (H : Hp) (C : Addr) (cl : List (Str × Addr)) (fp : List Addr), PE (X.blk s H scope (compEnvC scope cl C X.env) fp) elt (rdE X Γ e)) (hn : ∀ a b c, iter ≠ .Set a b c) (hv : own.map (·.2) = vs) (hsl : ∀ j ∈ slotsT t, j ∈ vs) :
    PS X (.Assign [.Name y py] (.ListComp elt [⟨tg, iter, ifs, 0⟩] scope pos) spos) (rdS X Γ (.asg (.name i) (.lc t it fs e vs c))) :=
by
  subst hv
  refine PS_imp (ps_setLc hc hN hy hyl hsw hi ok hg ht he (noFold hn _)) fun D σ H ⟨g, Bs, env, st, f, env', st', L, En, e0, q⟩ => ?_
  rw [evS] at e0
  obtain ⟨⟨d, st1⟩, e1, e0⟩ := bnd e0
  obtain ⟨⟨env2, st2⟩, e2, e0⟩ := mpd e0
  cases e0
  rw [asT] at e2
  cases e2
  show tLc _ _ _ _ _ σ H _
  refine lc_imp (c := c) hsl ⟨g, Bs, env, st, d, _, L, En, e1, fun v g1 H1 L1 x1 r1 => ?_⟩
  exact q g1 H1 L1 x1 _ ((En.mono x1).set r1)
/-- a, b = x, y; a, b, c = x, y, z: plain local names -/
theorem s_par {i j : Nat} {x y : Str} {a b : Expr} {ea eb : E} {px py pt : Pos} {kt k2 : Nat} {pt2 : Pos} (hc : X.calm = true) (hN : X.N.Nodup) (hi : X.N[i]? = some x) (hj : X.N[j]? = some y) (hij : i ≠ j)
    (hx : X.env.scope.names.lookup x = some .local) (hy : X.env.scope.names.lookup y = some .local) (ha : PE X a (rdE X Γ ea)) (hb : PE X b (rdE X Γ eb)) (ns : notStar a = true) (ns2 : notStar b = true)
    (hw : swappedStores [.Tuple [.Name x px, .Name y py] kt pt] (.Tuple [a, b] k2 pt2) X.env = pure (some [x, y])) :
    PS X (.Assign [.Tuple [.Name x px, .Name y py] kt pt] (.Tuple [a, b] k2 pt2) pos) (rdS X Γ (.asg (.tup (.cons (.name i) (.cons (.name j) .nil))) (.tup (.cons ea (.cons eb .nil))))) :=
  PS_imp (ps_par hc hN hi hj hij hx hy (l_cons ns ha (l_cons ns2 hb l_nil)) hw) fun D σ H ⟨g, Bs, env, st, f, env', st', L, En, e0, q⟩ => by
    rw [evS] at e0
    obtain ⟨⟨d, st1⟩, e1, e0⟩ := bnd e0
    obtain ⟨⟨env2, st2⟩, e2, e0⟩ := mpd e0
    cases e0
    rw [evE] at e1
    obtain ⟨⟨ds, st3⟩, e3, e1⟩ := bnd e1
    split at e1 <;> first | (cases e1; done) | skip
    cases e1
    refine ⟨g, Bs, env, st, ds, _, L, En, e3, fun vs g1 H1 L1 x1 r1 => ?_⟩
    rw [asT] at e2
    cases r1 with
    | nil => cases e2
    | cons r1 t1 =>
      cases t1 with
      | nil => cases e2
      | cons r2 t2 =>
        cases t2 with
        | cons _ _ => cases e2
        | nil =>
          cases e2
          exact ⟨_, _, rfl, q g1 H1 L1 x1 _ (((En.mono x1).set r1).set r2)⟩
theorem s_par3 {i j l : Nat} {x y z : Str} {a b c : Expr} {ea eb ec : E} {px py pz pt : Pos} {kt k2 : Nat} {pt2 : Pos} (hc : X.calm = true) (hN : X.N.Nodup) (hi : X.N[i]? = some x) (hj : X.N[j]? = some y) (hl : X.N[l]? = some z) (hij : i ≠ j) (hil : i ≠ l) (hjl : j ≠ l)
    (hx : X.env.scope.names.lookup x = some .local) (hy : X.env.scope.names.lookup y = some .local) (hz : X.env.scope.names.lookup z = some .local) (ha : PE X a (rdE X Γ ea)) (hb : PE X b (rdE X Γ eb)) (hcc : PE X c (rdE X Γ ec)) (ns : notStar a = true) (ns2 : notStar b = true) (ns3 : notStar c = true)
    (hw : swappedStores [.Tuple [.Name x px, .Name y py, .Name z pz] kt pt] (.Tuple [a, b, c] k2 pt2) X.env = pure (some [x, y, z])) :
    PS X (.Assign [.Tuple [.Name x px, .Name y py, .Name z pz] kt pt] (.Tuple [a, b, c] k2 pt2) pos) (rdS X Γ (.asg (.tup (.cons (.name i) (.cons (.name j) (.cons (.name l) .nil)))) (.tup (.cons ea (.cons eb (.cons ec .nil)))))) :=
  PS_imp (ps_par3 hc hN hi hj hl hij hil hjl hx hy hz (l_cons ns ha (l_cons ns2 hb (l_cons ns3 hcc l_nil))) hw) fun D σ H ⟨g, Bs, env, st, f, env', st', L, En, e0, q⟩ => by
    rw [evS] at e0
    obtain ⟨⟨d, st1⟩, e1, e0⟩ := bnd e0
    obtain ⟨⟨env2, st2⟩, e2, e0⟩ := mpd e0
    cases e0
    rw [evE] at e1
    obtain ⟨⟨ds, st3⟩, e3, e1⟩ := bnd e1
    split at e1 <;> first | (cases e1; done) | skip
    cases e1
    refine ⟨g, Bs, env, st, ds, _, L, En, e3, fun vs g1 H1 L1 x1 r1 => ?_⟩
    rw [asT] at e2
    cases r1 with
    | nil => cases e2
    | cons r1 t1 =>
      cases t1 with
      | nil => cases e2
      | cons r2 t2 =>
        cases t2 with
        | nil => cases e2
        | cons r3 t3 =>
          cases t3 with
          | cons _ _ => cases e2
          | nil =>
            cases e2
            exact ⟨_, _, _, rfl, q g1 H1 L1 x1 _ ((((En.mono x1).set r1).set r2).set r3)⟩
/-- name += e, name -= e -/
theorem s_aug {i : Nat} {x : Str} {a : Expr} {ea : E} {o : Bop} {p : Pos} (ho : o = .add ∨ o = .sub) (hN : X.N.Nodup) (hi : X.N[i]? = some x) (hx : Loc X.env.scope x) (ha : PE X a (rdE X Γ ea)) (hf : X.fn x = true ∨ X.env.scope.names.lookup x = some .local) :
    PS X (.AugAssign (.Name x p) (bopOf o) a pos) (rdS X Γ (.aug i o ea)) := by
  have key : ∀ {D : Ends} {σ : L2.St} {H : Hp} {f : Int → Int → Int}, (∀ p q : Int, augI o p q = some (Mc.D.int (f p q))) → rdS X Γ (.aug i o ea) D σ H → tAug i (rdE X Γ ea) (ipI f) D σ H := fun {D σ H f} hf ⟨g, Bs, env, st, fl, env', st', L, En, e, q⟩ => by
    rw [evS] at e
    split at e <;> first | (cases e; done) | skip
    rename_i d hd
    obtain ⟨v, hv, r⟩ := En.2 i d hd
    obtain ⟨⟨d1, st1⟩, e1, e⟩ := bnd e
    obtain ⟨d2, e2, e⟩ := mpd e
    cases e
    refine ⟨v, hv, g, Bs, env, st, d1, _, L, En, e1, fun w g1 H1 L1 x1 r1 => ?_⟩
    simp only at e2
    split at e2 <;> first | (cases e2; done) | skip
    rename_i p q' _
    rw [hf] at e2
    cases e2
    have ev := r.int_; subst ev
    have ew := r1.int_; subst ew
    exact ⟨_, _, rfl, rfl, q g1 H1 L1 x1 _ ((En.mono x1).set (.sca (.int _)))⟩
  rcases ho with rfl | rfl
  · exact PS_imp (ps_aug hN hi hx ha ip_add hf) fun D σ H h => key (fun _ _ => rfl) h
  · exact PS_imp (ps_aug hN hi hx ha ip_sub hf) fun D σ H h => key (fun _ _ => rfl) h
theorem get_listP : PGet X (rIxL X.K) := by
  intro pins s σ H x y v u Q I rx ry h
  obtain ⟨p, xs, i, z, rfl, rfl, hq, he, q⟩ := h
  cases rx
  obtain ⟨t, rfl⟩ := ry
  obtain ⟨its, r, pl, hz⟩ := I.list hq
  obtain ⟨j, h1, h2, h3, h4, h5⟩ := atI_get he
  obtain ⟨w, ew, rw'⟩ := r.get h2
  have hl := r.length
  have hn := line63
  have fin : EP X pins σ Q w s := ⟨z, H, I, rw', q⟩
  by_cases h0 : 0 ≤ i
  · have hj : i.toNat = j := by
      rw [seqIndex_of h0 h5] at h1
      exact Option.some.inj h1
    exact wpAny_getItem_list pl.isList h0 (by omega) (by rw [hj]; simpa using ew) fin
  · have hj : (i + (its.toArray.size : Int)).toNat = j := by
      rw [seqIndex_neg (by omega) h4] at h1
      rw [List.size_toArray, ← hl]
      exact Option.some.inj h1
    exact wpAny_getItem_list_neg pl.isList (by omega) (by rw [List.size_toArray] <;> omega) (by omega) (by rw [hj]; simpa using ew) fin
/-- a[i] += e, a[i] -= e -/
theorem s_augS {oa a : Expr} {y : Str} {eo ei ea : E} {o : Bop} {p p1 p2 : Pos} (hu : X.A.units + 1 < cLine) (ho : o = .add ∨ o = .sub) (hO : PE X oa (rdE X Γ eo)) (hI : PE X (.Name y p1) (rdE X Γ ei)) (ha : PE X a (rdE X Γ ea)) :
    PS X (.AugAssign (.Subscript oa (.Name y p1) p2) (bopOf o) a p) (rdS X Γ (.augS eo ei o ea)) := by
  have key : ∀ {D : Ends} {σ : L2.St} {H : Hp} {f : Int → Int → Int}, (∀ p q : Int, augI o p q = some (Mc.D.int (f p q))) → rdS X Γ (.augS eo ei o ea) D σ H → tAugS (rdE X Γ eo) (rdE X Γ ei) (rdE X Γ ea) (rIxL X.K) (ipI f) (rSet (kwOf X) Γ.base) D σ H := fun {D σ H f} hf ⟨g, Bs, env, st, fl, env', st', L, En, e, q⟩ => by
    rw [evS] at e
    obtain ⟨⟨d1, st1⟩, e1, e⟩ := bnd e
    obtain ⟨⟨d2, st2⟩, e2, e⟩ := bnd e
    obtain ⟨l, e3, e⟩ := bnd e
    obtain ⟨old, e4, e⟩ := bnd e
    obtain ⟨⟨d5, st5⟩, e5, e⟩ := bnd e
    obtain ⟨d6, e6, e⟩ := bnd e
    obtain ⟨st7, e7, e⟩ := mpd e
    cases e
    obtain ⟨j, rfl⟩ : ∃ j, d2 = .int j := by cases d2 <;> first | exact ⟨_, rfl⟩ | cases e4
    replace e4 : at_ l j = some old := e4
    obtain ⟨p, rfl⟩ : ∃ p, old = .int p := by cases old <;> first | exact ⟨_, rfl⟩ | cases e6
    obtain ⟨q', rfl⟩ : ∃ q', d5 = .int q' := by cases d5 <;> first | exact ⟨_, rfl⟩ | cases e6
    replace e6 : augI o p q' = some d6 := e6
    rw [hf] at e6
    cases e6
    refine ⟨g, Bs, env, st, d1, st1, L, En, e1, fun v g1 H1 L1 x1 r1 => ⟨g1, Bs, env, st1, _, st2, L1, En.mono x1, e2, fun u g2 H2 L2 x2 r2 => ?_⟩⟩
    obtain ⟨a, vs, rfl, t1, pr⟩ := lst_at L2 (r1.mono x2) e3
    have ey := r2.int_; subst ey
    obtain ⟨w, e8, r8⟩ := pr.at e4
    refine ⟨a, vs, j, w, rfl, rfl, .inl (.inl t1), e8, ?_⟩
    refine ⟨g2, Bs, env, st2, _, st5, L2, (En.mono x1).mono x2, e5, fun y g3 H3 L3 x3 r3 => ?_⟩
    have e9 := r8.int_; subst e9
    have e10 := r3.int_; subst e10
    refine ⟨_, _, rfl, rfl, ?_⟩
    exact ⟨g3, Bs, st5, d1, .int j, _, _, L3, (r1.mono x2).mono x3, r2.mono x3, .sca (.int _), e7, fun g4 H4 L4 x4 => q g4 H4 L4 (((x1.trans x2).trans x3).trans x4) _ ((((En.mono x1).mono x2).mono x3).mono x4)⟩
  rcases ho with rfl | rfl
  · exact PS_imp (ps_augS hO hI get_listP ha ip_add (op_set hu Γ.base)) fun D σ H h => key (fun _ _ => rfl) h
  · exact PS_imp (ps_augS hO hI get_listP ha ip_sub (op_set hu Γ.base)) fun D σ H h => key (fun _ _ => rfl) h
/-- while -/
theorem s_whl {c : Expr} {body : List Stmt} {tc : Te} {b : SL} (hx : X.xe = fun _ _ => False) (hc : PT X c (rdT X Γ tc)) (hb : PSs X body (rdB X Γ b)) : PS X (.While c body [] pos) (rdS X Γ (.whl tc b)) :=
  PS_imp (ps_while (by rw [hx]; exact PassesOwn.never) hc hb) fun D σ H ⟨g, Bs, env, st, f, env', st', L, En, e, q⟩ => by
    rw [evS] at e
    refine ⟨fun m σ2 H2 => ∃ g2 env2 st2, Live (kwOf X) g2 Bs Γ.base st2 H2 ∧ Ext g H g2 H2 ∧ EnvR (kwOf X) g2 H2 env2 σ2 ∧ loopW (fun env st => evT Γ tc env st) (fun env st => evB Γ b env st) m env2 st2 = some (f, env', st'), ⟨Γ.fuel, g, env, st, L, .refl, En, e⟩, ?_⟩
    rintro m σ2 H2 ⟨g2, env2, st2, L2, x2, En2, e2⟩
    cases m with
    | zero => cases e2
    | succ m =>
      have e2' : (evT Γ tc env2 st2).bind (fun k => if k.1 = true then (evB Γ b env2 k.2).bind fun x => match x.1 with
        | .nx => loopW (fun env st => evT Γ tc env st) (fun env st => evB Γ b env st) m x.2.1 x.2.2
        | .ct => loopW (fun env st => evT Γ tc env st) (fun env st => evB Γ b env st) m x.2.1 x.2.2
        | .bk => some (.nx, x.2.1, x.2.2)
        | .rt v => some (.rt v, x.2.1, x.2.2)
        else some (.nx, env2, k.2)) = some (f, env', st') := e2
      obtain ⟨⟨k, st3⟩, e3, e4⟩ := bnd e2'
      refine ⟨g2, Bs, env2, st2, k, st3, L2, En2, e3, fun g3 H3 L3 x3 => ?_⟩
      cases k with
      | false =>
        have e4' : some (Fl.nx, env2, st3) = some (f, env', st') := e4
        cases e4'
        exact q g3 H3 L3 (x2.trans x3) σ2 (En2.mono x3)
      | true =>
        obtain ⟨⟨f5, env5, st5⟩, e5, e6⟩ := bnd (show (evB Γ b env2 st3).bind _ = _ from e4)
        refine ⟨fun σ' H' => ∃ g2 env2 st2, Live (kwOf X) g2 Bs Γ.base st2 H' ∧ Ext g H g2 H' ∧ EnvR (kwOf X) g2 H' env2 σ' ∧ loopW (fun env st => evT Γ tc env st) (fun env st => evB Γ b env st) m env2 st2 = some (f, env', st'), fun σ' H' h => ⟨m, Nat.lt_succ_self _, h⟩, ?_⟩
        refine ⟨g3, Bs, env2, st3, f5, env5, st5, L3, En2.mono x3, e5, fun g6 H6 L6 x6 => ?_⟩
        have xx := (x2.trans x3).trans x6
        cases f5 with
        | nx => exact fun σ6 En6 => ⟨g6, env5, st5, L6, xx, En6, e6⟩
        | ct => exact fun σ6 En6 => ⟨g6, env5, st5, L6, xx, En6, e6⟩
        | bk =>
          have e6' : some (Fl.nx, env5, st5) = some (f, env', st') := e6
          cases e6'
          exact fun σ6 En6 => q g6 H6 L6 xx σ6 En6
        | rt v =>
          have e6' : some (Fl.rt v, env5, st5) = some (f, env', st') := e6
          cases e6'
          exact fun w rw' => q g6 H6 L6 xx w rw'
end
end Mc

set_option linter.all false
set_option maxRecDepth 100000
set_option Elab.async false
set_option maxHeartbeats 1000000
namespace Mc
open PySem PySem.Spec PyProof.Rows L2

def patV : Pattern → Option Tx
  | .MatchValue (.Constant (.str z) _ _) _ => some z.cps.toList
  | _ => none
def patVs : List Pattern → Option (List Tx)
  | [] => some []
  | p :: ps => (patV p).bind fun z => (patVs ps).map (z :: ·)
def patS : Pattern → Option (List Tx)
  | .MatchOr ps _ => patVs ps
  | p => (patV p).map ([·])
def isWild : Pattern → Bool
  | .MatchAs none none _ => true
  | _ => false
section
variable {X : Cx} {Γ : Cfg} {pos : Pos}
theorem str_lst {x : Tx} {z : Str} : ((str_ x).cps.toList == z.cps.toList) = decide (x = z.cps.toList) := by
  rw [Bool.eq_iff_iff]; simp [str_]
theorem pat_val {p : Pattern} {z : Tx} (hp : patV p = some z) {pins : List (Addr × Obj)} {s : Shared} {σ : L2.St} {H : Hp} {x : Tx} {t : Tok} {Q : Option (List (Str × Value)) → Shared → Prop} (I : Inv X pins σ H s)
    (q : ∀ s', Inv X pins σ H s' → Q (if decide (x = z) = true then some [] else none) s') : wpAny (model X.prog X.w) X.A (matchPattern p X.env (.str (str_ x) t)) Q X.xe s := by
  unfold patV at hp
  split at hp <;> first | (cases hp; done) | skip
  rename_i zz _ _ _
  cases hp
  refine wpAny_matchPattern_Value (thn ((pe_str (X := X)).run pins s σ H (fun v H' => v = V.str zz ∧ H' = H) I ⟨rfl, rfl⟩) fun u s1 ⟨v, H1, I1, rv, e1, e2⟩ => ?_)
  subst e1 e2
  obtain ⟨t2, rfl⟩ := rv
  refine PySem.P.eq_str ?_
  refine wpAny_truthy_bool ?_
  rw [str_lst]
  have := q s1 I1
  cases h : decide (x = zz.cps.toList) <;> rw [h] at this <;> exact this
theorem pat_first : ∀ {ps : List Pattern} {zs : List Tx}, patVs ps = some zs → ∀ {pins : List (Addr × Obj)} {s : Shared} {σ : L2.St} {H : Hp} {x : Tx} {t : Tok} {Q : Option (List (Str × Value)) → Shared → Prop}, Inv X pins σ H s →
    (∀ s', Inv X pins σ H s' → Q (if zs.any (fun z => decide (x = z)) = true then some [] else none) s') → wpAny (model X.prog X.w) X.A (matchFirst ps X.env (.str (str_ x) t)) Q X.xe s
  | [], zs, h, pins, s, σ, H, x, t, Q, I, q => by
    cases h
    exact wpAny_matchFirst_nil (q s I)
  | p :: ps, zs, h, pins, s, σ, H, x, t, Q, I, q => by
    obtain ⟨z, h1, h⟩ := bnd (show (patV p).bind (fun z => (patVs ps).map (z :: ·)) = some zs from h)
    obtain ⟨zs', h2, h⟩ := mpd h
    subst h
    refine wpAny_matchFirst_cons (pat_val h1 I fun s1 I1 => ?_)
    cases hd : decide (x = z) with
    | true =>
      have := q s1 I1
      rw [List.any_cons, hd, Bool.true_or, if_pos rfl] at this
      rw [if_pos rfl]
      exact this
    | false =>
      rw [if_neg Bool.false_ne_true]
      refine pat_first h2 I1 fun s2 I2 => ?_
      have := q s2 I2
      rw [List.any_cons, hd, Bool.false_or] at this
      exact this
theorem names_nil : ∀ {ps : List Pattern} {zs : List Tx}, patVs ps = some zs → namesOfAll (ps.take 1) = []
  | [], _, _ => rfl
  | p :: ps, zs, h => by
    obtain ⟨z, h1, h⟩ := bnd (show (patV p).bind (fun z => (patVs ps).map (z :: ·)) = some zs from h)
    unfold patV at h1
    split at h1 <;> first | (cases h1; done) | skip
    rfl
theorem pat_str {p : Pattern} {zs : List Tx} (hp : patS p = some zs) {pins : List (Addr × Obj)} {s : Shared} {σ : L2.St} {H : Hp} {x : Tx} {t : Tok} {Q : Option (List (Str × Value)) → Shared → Prop} (I : Inv X pins σ H s)
    (q : ∀ s', Inv X pins σ H s' → Q (if zs.any (fun z => decide (x = z)) = true then some [] else none) s') : wpAny (model X.prog X.w) X.A (matchPattern p X.env (.str (str_ x) t)) Q X.xe s := by
  unfold patS at hp
  split at hp
  · rename_i ps pos
    refine wpAny_matchPattern_Or (pat_first hp I fun s1 I1 => ?_)
    have := q s1 I1
    cases h : zs.any (fun z => decide (x = z)) with
    | true =>
      rw [h, if_pos rfl] at this
      rw [if_pos rfl]
      show Q (some ((namesOfAll (ps.take 1)).filterMap _)) s1
      rw [names_nil hp]
      exact this
    | false =>
      rw [h, if_neg Bool.false_ne_true] at this
      rw [if_neg Bool.false_ne_true]
      exact this
  · obtain ⟨z, h1, h⟩ := mpd hp
    subst h
    refine pat_val h1 I fun s1 I1 => ?_
    have := q s1 I1
    rw [List.any_cons, List.any_nil, Bool.or_false] at this
    exact this
/-- the cases of a match -/
structure PMs (X : Cx) (cs : List MatchCase) (t : V → TS) : Prop where
  run : ∀ (pins : List (Addr × Obj)) (s : Shared) (σ : L2.St) (H : Hp) (D : Ends) (v : V) (u : Value) (first : Bool), Inv X pins σ H s → RelV v u → t v D σ H → wpAny (model X.prog X.w) X.A (matchCases cs X.env u first) (SP X pins D) X.xe s
def rdM (X : Cx) (Γ : Cfg) (m : ML) : V → TS := fun v D σ H => ∃ g Bs env st d f env' st', Live (kwOf X) g Bs Γ.base st H ∧ EnvR (kwOf X) g H env σ ∧ Rep (kwOf X) g H d v ∧ evM Γ m d env st = some (f, env', st') ∧ Fin X D Γ.base g H Bs f env' st'
theorem m_nil : PMs X [] (rdM X Γ .nil) := ⟨fun pins s σ H D v u first I rv ⟨g, Bs, env, st, d, f, env', st', L, En, r, e, q⟩ => by
  rw [evM] at e; cases e
  exact wpAny_matchCases_nil ⟨σ, H, I, q g H L .refl σ En⟩⟩
theorem m_val {p : Pattern} {zs : List Tx} {body : List Stmt} {b : SL} {cs : List MatchCase} {m : ML} (hp : patS p = some zs) (hb : PSs X body (rdB X Γ b)) (hm : PMs X cs (rdM X Γ m)) : PMs X (⟨p, none, body⟩ :: cs) (rdM X Γ (.val zs b m)) :=
  ⟨fun pins s σ H D v u first I rv ⟨g, Bs, env, st, d, f, env', st', L, En, r, e, q⟩ => by
    cases d <;> first | (simp [evM] at e; done) | skip
    rename_i x
    rw [evM] at e
    have ev := r.str_
    subst ev
    obtain ⟨t, rfl⟩ := id rv
    refine wpAny_matchCases_cons (pat_str hp I fun s1 I1 => ?_)
    cases h : zs.any (fun z => decide (x = z)) with
    | true =>
      rw [h, if_pos rfl] at e
      rw [if_pos rfl]
      refine wpAny_assignInOrder_none ?_
      exact hb.run pins s1 σ H D I1 ⟨g, Bs, env, st, f, env', st', L, En, e, q⟩
    | false =>
      rw [h, if_neg Bool.false_ne_true] at e
      rw [if_neg Bool.false_ne_true]
      exact hm.run pins s1 σ H D _ _ false I1 rv ⟨g, Bs, env, st, _, f, env', st', L, En, r, e, q⟩⟩
theorem m_any {p : Pattern} {body : List Stmt} {b : SL} {cs : List MatchCase} {m : ML} (hp : isWild p = true) (hb : PSs X body (rdB X Γ b)) : PMs X (⟨p, none, body⟩ :: cs) (rdM X Γ (.any b m)) :=
  ⟨fun pins s σ H D v u first I rv ⟨g, Bs, env, st, d, f, env', st', L, En, r, e, q⟩ => by
    rw [evM] at e
    unfold isWild at hp
    split at hp <;> first | (cases hp; done) | skip
    refine wpAny_matchCases_cons (wpAny_matchPattern_Capture ?_)
    refine wpAny_assignInOrder_none ?_
    exact hb.run pins s σ H D I ⟨g, Bs, env, st, f, env', st', L, En, e, q⟩⟩
theorem s_mat {a : Expr} {ea : E} {cs : List MatchCase} {m : ML} (ha : PE X a (rdE X Γ ea)) (hm : PMs X cs (rdM X Γ m)) : PS X (.Match a cs pos) (rdS X Γ (.mat ea m)) :=
  ⟨fun pins s σ H D I ⟨g, Bs, env, st, f, env', st', L, En, e, q⟩ => by
    rw [evS] at e
    obtain ⟨⟨d, st1⟩, e1, e⟩ := bnd e
    refine wpAny_Match (thn (ha.run pins s σ H (fun v H1 => ∃ g1, Live (kwOf X) g1 Bs Γ.base st1 H1 ∧ Ext g H g1 H1 ∧ Rep (kwOf X) g1 H1 d v) I ⟨g, Bs, env, st, d, st1, L, En, e1, fun v g1 H1 L1 x1 r1 => ⟨g1, L1, x1, r1⟩⟩) fun u s1 ⟨v, H1, I1, rv, g1, L1, x1, r1⟩ => ?_)
    exact hm.run pins s1 σ H1 D v u true I1 rv ⟨g1, Bs, env, st1, d, f, env', st', L1, En.mono x1, r1, e, q.later x1⟩⟩
end
end Mc

set_option linter.all false
set_option maxRecDepth 100000
set_option Elab.async false
set_option maxHeartbeats 1000000
namespace Mc
open PySem PySem.Spec PyProof.Rows L2
theorem loopK_cons {step : D → Sto → Option (Option (D × D) × Sto)} {d : D} {r : List D} {acc ys : List (D × D)} {st st' : Sto} (e : loopK step (d :: r) acc st = some (ys, st')) : ∃ o st1, step d st = some (o, st1) ∧ loopK step r (match o with | some p => put p.1 p.2 acc | none => acc) st1 = some (ys, st') := by
  have e' : (step d st).bind (fun x => loopK step r (match x.1 with | some p => put p.1 p.2 acc | none => acc) x.2) = some (ys, st') := e
  obtain ⟨⟨o, st1⟩, e1, e2⟩ := bnd e'
  exact ⟨o, st1, e1, e2⟩
theorem put_len (k v : D) (l : List (D × D)) : l.length ≤ (put k v l).length := by
  unfold put
  split <;> simp
theorem loopK_len {step : D → Sto → Option (Option (D × D) × Sto)} : ∀ {l : List D} {acc ys : List (D × D)} {st st' : Sto}, loopK step l acc st = some (ys, st') → acc.length ≤ ys.length
  | [], acc, ys, st, st', e => by
    have e' : some (acc, st) = some (ys, st') := e
    cases e'
    exact Nat.le_refl _
  | d :: r, acc, ys, st, st', e => by
    obtain ⟨o, st1, _, e2⟩ := loopK_cons e
    have := loopK_len e2
    cases o with
    | none => exact this
    | some p => exact Nat.le_trans (put_len _ _ _) this
section
variable {X : Cx} {Γ : Cfg} {tg : Expr}
theorem same_upd {H : Hp} {D : Addr} {o : HO} (h : H D = some o) : upd H D o = H := by
  funext b
  by_cases hb : b = D
  · subst hb; rw [upd_same, h]
  · rw [upd_ne hb]
theorem dc_imp {it : Mc.It} {t : Tg} {fs : FL} {ek ev : E} {c : Bool} {vs : List Nat} (hsl : ∀ j ∈ slotsT t, j ∈ vs) {σ : L2.St} {H : Hp} {Q : VK} (h : rdE X Γ (.dc t it fs ek ev vs c) σ H Q) : tDc (rdI X Γ it) (rdG X Γ t) (rdF X Γ fs) (rdE X Γ ek) (rdE X Γ ev) vs σ H Q := by
  obtain ⟨g, Bs, env, st, d, st', L, En, e0, q⟩ := h
  rw [evE] at e0
  obtain ⟨⟨⟨src, orig, items⟩, st1⟩, e1, e0⟩ := bnd e0
  obtain ⟨⟨l, st2⟩, e2, e0⟩ := bnd e0
  split at e0 <;> first | (cases e0; done) | skip
  rename_i hz0
  have hz : l.length < line := hz0
  obtain ⟨rfl, rfl⟩ := pr_of e0
  refine ⟨g, Bs, env, st, src, orig, items, st1, L, En, e1, fun J g1 H1 L1 x1 hst okJ => ?_⟩
  intro D hD
  have hp1 := notIn_al L1 hD
  have hp2 := notF L1 hD
  have x0 : Ext g1 H1 g1 (upd H1 D (.dK [])) := ext_out hD hp1 hp2 _
  have En1 := En.mono x1
  generalize hstep : (fun (d : Mc.D) (st : Sto) => (asT Γ t d (Mc.wipe env vs) st).bind fun y => (evF Γ fs y.1 y.2).bind fun z =>
      if z.1 = true then (evE Γ ek y.1 z.2).bind fun a => (evE Γ ev y.1 a.2).bind fun b => if (still src orig b.2 && isKey a.1) = true then some (some (a.1, b.1), b.2) else none else if still src orig z.2 = true then some ((none : Option (Mc.D × Mc.D)), z.2) else none) = step at e2
  refine ⟨fun i m H => ∃ g st acc vacc, m = items.length - i ∧ i ≤ items.length ∧ Live (kwOf X) g Bs Γ.base st H ∧ Ext g1 H1 g H ∧ D ∉ g.al ∧ ¬ g.F D ∧ H D = some (.dK vacc) ∧ RepK (kwOf X) g H acc vacc ∧ still src orig st = true ∧ loopK step (items.drop i) acc st = some (l, st2),
    ⟨items.length, g1, st1, [], [], by simp, Nat.zero_le _, live_out L1 hp1 hp2 _, x0, hp1, hp2, upd_same, .nil, hst, by simpa using e2⟩, ?_⟩
  rintro i m H2 ⟨g2, st2', acc, vacc, rfl, hi, L2, x2, a2, f2, hH2, r2, hs2, e3⟩
  obtain ⟨k1, k2⟩ := okJ g2 H2 Bs st2' i L2 x2 hs2
  by_cases hlt : i < items.length
  · obtain ⟨go, yld⟩ := k1 hlt
    have hd : items.drop i = items[i] :: items.drop (i + 1) := by rw [List.drop_eq_getElem_cons hlt]
    rw [hd] at e3
    have hacc := loopK_len e3
    obtain ⟨o, st3, e4, e5⟩ := loopK_cons e3
    rw [← hstep] at e4
    obtain ⟨⟨env5, st5⟩, e6, e4⟩ := bnd e4
    obtain ⟨⟨k7, st7⟩, e7, e4⟩ := bnd e4
    refine .inr ⟨go, fun H' => ∃ g st acc vacc, i + 1 ≤ items.length ∧ Live (kwOf X) g Bs Γ.base st H' ∧ Ext g1 H1 g H' ∧ D ∉ g.al ∧ ¬ g.F D ∧ H' D = some (.dK vacc) ∧ RepK (kwOf X) g H' acc vacc ∧ still src orig st = true ∧ loopK step (items.drop (i + 1)) acc st = some (l, st2),
      fun H' ⟨g, st, acc, vacc, a, b, c, d, e, f, h, j, k⟩ => ⟨items.length - (i + 1), by omega, g, st, acc, vacc, rfl, a, b, c, d, e, f, h, j, k⟩, fun x H3 y => ?_⟩
    obtain ⟨g3, L3, x3, o3, r3⟩ := yld x H3 y
    obtain ⟨o3a, o3b, o3c⟩ := o3 D a2 f2 (by rw [hH2]; exact fun z => nomatch z)
    rw [hH2] at o3a
    have r2' := r2.mono x3
    refine ⟨g3, Bs, Mc.wipe env vs, st2', items[i], env5, st5, L3, ((En1.mono (x2.trans x3)).wipe _), r3 _ (List.getElem?_eq_getElem hlt), e6, fun g4 H4 σ4 L4 x4 En4 ag => ⟨ag.wipe hsl, ?_⟩⟩
    have at4 : D ∉ g4.al ∧ ¬ g4.F D ∧ H4 D = some (.dK vacc) := still_out (H := H3) (by rw [same_upd o3a]; exact x4) o3b o3c
    refine ⟨g4, Bs, env5, st5, k7, st7, L4, En4, e7, fun g5 H5 L5 x5 => ?_⟩
    have at5 : D ∉ g5.al ∧ ¬ g5.F D ∧ H5 D = some (.dK vacc) := still_out (H := H4) (by rw [same_upd at4.2.2]; exact x5) at4.1 at4.2.1
    have ext5 : Ext g1 H1 g5 H5 := ((x2.trans x3).trans x4).trans x5
    have r5 := (r2'.mono x4).mono x5
    cases k7 with
    | false =>
      rw [if_neg Bool.false_ne_true] at e4
      simp only [Bool.false_eq_true, if_false]
      split at e4 <;> first | (cases e4; done) | skip
      rename_i hs3
      cases e4
      exact ⟨g5, st7, acc, vacc, hlt, L5, ext5, at5.1, at5.2.1, at5.2.2, r5, hs3, e5⟩
    | true =>
      rw [if_pos rfl] at e4
      simp only [if_true]
      obtain ⟨⟨dk, st8⟩, e8, e4⟩ := bnd e4
      obtain ⟨⟨dv, st9⟩, e9, e4⟩ := bnd e4
      split at e4 <;> first | (cases e4; done) | skip
      rename_i hs3
      obtain ⟨hs4, hik⟩ := Bool.and_eq_true_iff.mp hs3
      cases e4
      obtain ⟨key, rfl, hkv⟩ := key_of_d hik
      refine ⟨g5, Bs, env5, st7, keyD key, st8, L5, En4.mono x5, e8, fun vk g6 H6 L6 x6 r6 => ?_⟩
      have at6 : D ∉ g6.al ∧ ¬ g6.F D ∧ H6 D = some (.dK vacc) := still_out (H := H5) (by rw [same_upd at5.2.2]; exact x6) at5.1 at5.2.1
      refine ⟨g6, Bs, env5, st8, dv, st9, L6, (En4.mono x5).mono x6, e9, fun v g7 H7 L7 x7 r7 => ?_⟩
      have at7 : D ∉ g7.al ∧ ¬ g7.F D ∧ H7 D = some (.dK vacc) := still_out (H := H6) (by rw [same_upd at6.2.2]; exact x7) at6.1 at6.2.1
      have r5' := (r5.mono x6).mono x7
      have ek : vk = kV key := hkv r6
      subst ek
      refine ⟨vacc, key, rfl, at7.2.2, by rw [← r5'.length, ← line_eq]; omega, ?_⟩
      have mn := mn_out at7.1 at7.2.1 (.dK (putK vacc key v)) (H := H7)
      exact ⟨g7, st9, put (keyD key) dv acc, putK vacc key v, hlt, live_out L7 at7.1 at7.2.1 _, ext_set ((ext5.trans x6).trans x7) hD hp2 _, at7.1, at7.2.1, upd_same, ((r5'.mn mn).put (r7.mn mn)), hs4, e5⟩
  · have hie : i = items.length := by omega
    subst hie
    rw [List.drop_length] at e3
    have e3' : some (acc, st2') = some (l, st2) := e3
    cases e3'
    exact .inl ⟨k2 (Nat.le_refl _), take_mkD (x1.trans x2) (x1.dm D hD) L2 a2 f2 hH2 r2 q⟩
theorem s_dc {kx vx iter : Expr} {ifs : List Expr} {scope : Scope} {own : List (Str × Nat)} {pos : Pos} {it : Mc.It} {t : Tg} {fs : FL} {ek ev : E} {c : Bool} {vs : List Nat} (hc : X.calm = true) (hN : X.N.Nodup) (hi : PI X tg iter (rdI X Γ it)) (ok : BlkOk X.N X.env.scope scope own)
    (hg : ∀ (s : Shared) (H : Hp) (C : Addr) (cl : List (Str × Addr)) (fp : List Addr), PG (X.blk s H scope (compEnvC scope cl C X.env) fp) tg (rdG X Γ t)) (ht : ∀ (s : Shared) (H : Hp) (C : Addr) (cl : List (Str × Addr)) (fp : List Addr), PTs (X.blk s H scope (compEnvC scope cl C X.env) fp) ifs (rdF X Γ fs))
    (hk : ∀ (s : Shared) (H : Hp) (C : Addr) (cl : List (Str × Addr)) (fp : List Addr), PE (X.blk s H scope (compEnvC scope cl C X.env) fp) kx (rdE X Γ ek))
    (he : ∀ (s : Shared) (H : Hp) (C : Addr) (cl : List (Str × Addr)) (fp : List Addr), PE (X.blk s H scope (compEnvC scope cl C X.env) fp) vx (rdE X Γ ev)) (hn : ∀ a b c, iter ≠ .Set a b c) (hv : own.map (·.2) = vs) (hsl : ∀ j ∈ slotsT t, j ∈ vs) :
    PE X (.DictComp kx vx [⟨tg, iter, ifs, 0⟩] scope pos) (rdE X Γ (.dc t it fs ek ev vs c)) := by
  subst hv
  exact PE_imp (pe_dc hc hN hi ok hg ht hk he (noFold hn _)) fun σ H Q h => dc_imp hsl h
/-- name = {..} on one line -/
theorem ps_setDc {i : Nat} {y : Str} {py : Pos} {kx vx tg iter : Expr} {ifs : List Expr} {scope : Scope} {own : List (Str × Nat)} {pos spos : Pos} {wi : TI} {g : TG} {tt : TT} {tk tv : TE} (hc : X.calm = true) (hN : X.N.Nodup) (hy : X.N[i]? = some y) (hyl : X.env.scope.names.lookup y = some .local)
    (hsw : swapsWith (.DictComp kx vx [⟨tg, iter, ifs, 0⟩] scope pos) (some (.Name y py)) spos.line X.env = pure true) (hi : PI X tg iter wi) (ok : BlkOk X.N X.env.scope scope own)
    (hg : ∀ (s : Shared) (H : Hp) (C : Addr) (cl : List (Str × Addr)) (fp : List Addr), PG (X.blk s H scope (compEnvC scope cl C X.env) fp) tg g) (ht : ∀ (s : Shared) (H : Hp) (C : Addr) (cl : List (Str × Addr)) (fp : List Addr), PTs (X.blk s H scope (compEnvC scope cl C X.env) fp) ifs tt)
    (hk : ∀ (s : Shared) (H : Hp) (C : Addr) (cl : List (Str × Addr)) (fp : List Addr), PE (X.blk s H scope (compEnvC scope cl C X.env) fp) kx tk)
    (he : ∀ (s : Shared) (H : Hp) (C : Addr) (cl : List (Str × Addr)) (fp : List Addr), PE (X.blk s H scope (compEnvC scope cl C X.env) fp) vx tv) (hs : ∀ x, foldedSetIterable iter X.env x = pure x) :
    PS X (.Assign [.Name y py] (.DictComp kx vx [⟨tg, iter, ifs, 0⟩] scope pos) spos) (tAsg (tDc wi g tt tk tv (own.map (·.2))) (gName i)) := by
  refine ⟨fun pins s σ H D I h => ?_⟩
  rw [exec_Assign_Name_used _ _ _ _ hsw]
  refine wpAny_bind (wpAny_standAt (wpAny_bind ?_))
  show wpAny _ X.A (do let _ ← comprehension (.DictComp kx vx [⟨tg, iter, ifs, 0⟩] scope pos) scope X.env (firstIterPos [⟨tg, iter, ifs, 0⟩] pos) newDict false (eval iter X.env) (some (assign (.Name y py) X.env))) _ _ s
  have h : tDc wi g tt tk tv (own.map (·.2)) σ H (fun x H1 => gName i x σ H1 D.nx) := h
  refine wpAny_bind (thn (dc_core (Qf := fun _ s' => SP X pins D .next s') hc hN I hi ok hg ht hk he hs h fun L C s' m H' I' q hn f => ?_) fun _ s' hq => wpAny_pure (wpAny_pure hq))
  show wpAny _ _ (assign (.Name y py) X.env (.ref L)) _ _ _
  refine wpAny_assign_Name (store_ok2 (v := V.ref L) I' hN hy (.inl hyl) rfl (fun s2 I2 ⟨a, sb, ha⟩ => ?_) (.inr hyl))
  obtain ⟨f0, f1, f2, f3, f4, f5⟩ := f
  have haC : C ≠ a := by
    rcases ha with z | z
    · rw [z]; exact f1
    · exact fun e => f4 y a z e.symm
  refine ⟨m, hn.sameBut sb haC, fun h3 sb3 => ?_⟩
  exact ⟨_, H', I2.turned (t' := s2.toks) (fun b o hb e => (sb3.2 b hb).trans e) f0 f1 f3 f4 f5, q⟩
theorem s_asgDc {i : Nat} {y : Str} {py spos : Pos} {kx vx iter : Expr} {ifs : List Expr} {scope : Scope} {own : List (Str × Nat)} {pos : Pos} {it : Mc.It} {t : Tg} {fs : FL} {ek ev : E} {c : Bool} {vs : List Nat}
    (hc : X.calm = true) (hN : X.N.Nodup) (hy : X.N[i]? = some y) (hyl : X.env.scope.names.lookup y = some .local) (hsw : swapsWith (.DictComp kx vx [⟨tg, iter, ifs, 0⟩] scope pos) (some (.Name y py)) spos.line X.env = pure true)
    (hi : PI X tg iter (rdI X Γ it)) (ok : BlkOk X.N X.env.scope scope own)
    (hg : ∀ (s : Shared) (H : Hp) (C : Addr) (cl : List (Str × Addr)) (fp : List Addr), PG (X.blk s H scope (compEnvC scope cl C X.env) fp) tg (rdG X Γ t)) (ht : ∀ (s : Shared) (H : Hp) (C : Addr) (cl : List (Str × Addr)) (fp : List Addr), PTs (X.blk s H scope (compEnvC scope cl C X.env) fp) ifs (rdF X Γ fs))
    (hk : ∀ (s : Shared) (H : Hp) (C : Addr) (cl : List (Str × Addr)) (fp : List Addr), PE (X.blk s H scope (compEnvC scope cl C X.env) fp) kx (rdE X Γ ek))
    (he : ∀ (s : Shared) (H : Hp) (C : Addr) (cl : List (Str × Addr)) (fp : List Addr), PE (X.blk s H scope (compEnvC scope cl C X.env) fp) vx (rdE X Γ ev)) (hn : ∀ a b c, iter ≠ .Set a b c) (hv : own.map (·.2) = vs) (hsl : ∀ j ∈ slotsT t, j ∈ vs) :
    PS X (.Assign [.Name y py] (.DictComp kx vx [⟨tg, iter, ifs, 0⟩] scope pos) spos) (rdS X Γ (.asg (.name i) (.dc t it fs ek ev vs c))) := by
  subst hv
  refine PS_imp (ps_setDc hc hN hy hyl hsw hi ok hg ht hk he (noFold hn _)) fun D σ H ⟨g, Bs, env, st, f, env', st', L, En, e0, q⟩ => ?_
  rw [evS] at e0
  obtain ⟨⟨d, st1⟩, e1, e0⟩ := bnd e0
  obtain ⟨⟨env2, st2⟩, e2, e0⟩ := mpd e0
  cases e0
  rw [asT] at e2
  cases e2
  show tDc _ _ _ _ _ _ σ H _
  refine dc_imp (c := c) hsl ⟨g, Bs, env, st, d, _, L, En, e1, fun v g1 H1 L1 x1 r1 => ?_⟩
  exact q g1 H1 L1 x1 _ ((En.mono x1).set r1)
end
end Mc

set_option linter.all false
set_option maxRecDepth 100000
set_option Elab.async false
set_option maxHeartbeats 1000000
namespace PySem
open Sem (wp)
open AutoSeq1 (wpAny_loadPart')
theorem mc_meets_enumerate_newT (l : Addr) (items : Array Value) (n : Nat) (dct : Option Addr) (sl : Array (Option Value)) :
    Meets (Builtin.«enumerate.__new__» ⟨[.type "enumerate", .ref l], []⟩) (fun _ R s => s.heap.get? l = some { cls := .type "tuple", dict := dct, data := .seq items n, slots := sl } ∧
      R (.ok (.ret (.ref (s.heap.push { cls := .type "tuple_iterator", data := .fields #[.ref l, .int 0 0] }).objs.size)))
        { s with heap := (s.heap.push { cls := .type "tuple_iterator", data := .fields #[.ref l, .int 0 0] }).push { cls := .type "enumerate", data := .fields #[.none, .bool false, .ref s.heap.objs.size, rawInt 0, .none, .none] } }) :=
  .of_wp fun prog w A R s h => by
    obtain ⟨hp, g, d, tk, os⟩ := s; obtain ⟨hl, h⟩ := h
    have hsub := sub_enumerate
    have hL : Heap.IsTuple (Shared.heap ⟨hp, g, d, tk, os⟩) l items := ⟨_, hl, rfl, n, rfl⟩
    wp_walk using wpAny_loadPart' hl
    refine wpAny_stack_any fun st => wpAny_pure ?_
    split
    · rename_i c _ _ _ _ _
      cases (c == Value.type "enumerate")
      · wp_walk using wpAny_loadPart' hl, wpAny_pyIter_tuple hL
        exact ⟨_, rfl, h⟩
      · wp_walk using wpAny_loadPart' hl, wpAny_pyIter_tuple hL
        exact ⟨_, rfl, h⟩
    · wp_walk using wpAny_loadPart' hl, wpAny_pyIter_tuple hL
      exact ⟨_, rfl, h⟩
section
variable {prog : Program} {w : World} {A : Around} {E : Value → Shared → Prop} {s : Shared}
theorem mc_call_enumerate_tuple {l : Addr} {items : Array Value} {Q : Value → Shared → Prop} (hL : s.heap.IsTuple l items)
    (h : ∀ h', IsEnum h' (s.heap.objs.size + 1) s.heap.objs.size 0 .none → h'.IsTupleIter s.heap.objs.size l 0 → h'.objs.size = s.heap.objs.size + 2 →
      (∀ b o, s.heap.get? b = some o → h'.get? b = some o) → Q (.ref (s.heap.objs.size + 1)) { s with heap := h' }) :
    wpAny (model prog w) A (call (.type "enumerate") [.ref l]) Q E s := by
  obtain ⟨⟨c, dct, dt, sl⟩, hl, hc, n, hd⟩ := hL
  replace hc : c = .type "tuple" := hc
  replace hd : dt = .seq items n := hd
  subst hc hd
  refine callType_new F.called_enumerate (by decide) (F.typeCall_enumerate_1 _) (F.newCall_enumerate_1 _) (fun obj => F.args_object_init_2 obj _) F.entry_enumerate_new
    (mc_meets_enumerate_newT l items n dct sl) ⟨hl, ?_⟩
  have hz : (s.heap.push { cls := .type "tuple_iterator", data := .fields #[.ref l, .int 0 0] }).objs.size = s.heap.objs.size + 1 := Heap.size_push ..
  show _ ∧ _
  rw [hz]
  have he : IsEnum ((s.heap.push { cls := .type "tuple_iterator", data := .fields #[.ref l, .int 0 0] }).push
      { cls := .type "enumerate", data := .fields #[.none, .bool false, .ref s.heap.objs.size, rawInt 0, .none, .none] }) (s.heap.objs.size + 1) s.heap.objs.size 0 .none := by
    have := Heap.get?_push_size (s.heap.push { cls := .type "tuple_iterator", data := .fields #[.ref l, .int 0 0] })
      (o := { cls := .type "enumerate", data := .fields #[.none, .bool false, .ref s.heap.objs.size, rawInt 0, .none, .none] }) rfl
    rw [hz] at this; exact this
  refine ⟨⟨_, he, rfl⟩, h _ he ⟨_, Heap.get?_push_of_some _ (Heap.get?_push_size _ rfl), rfl, rfl⟩ (by rw [Heap.size_push, hz]) fun b o x => Heap.get?_push_of_some _ (Heap.get?_push_of_some _ x)⟩
end
theorem mc_draws_tuple {prog : Program} {w : World} {A : Around} (hh : A.handled = none) (it l : Addr) (hne : l ≠ it) (items : Array Value) :
    Draws prog w A it [it, l] items.size (fun i v => items[i]? = some v) (fun i h => h.IsTupleIter it l i ∧ h.IsTuple l items) where
  live := fun _ _ st => let ⟨o, ho, _⟩ := st.1; ⟨o, ho⟩
  frame := fun _ _ _ st hk => ⟨st.1.at fun o e => hk it (by simp) o e, let ⟨o, ho, r⟩ := st.2; ⟨o, hk l (by simp) o ho, r⟩⟩
  item := fun i s Q E hi st hQ => by
    refine RZ.nextOf_tuple_item st.1 st.2 (x := items[i]) (by simp [hi]) fun h' hit' hs' => ?_
    exact hQ _ h' s.toks (by simp [hi]) ⟨hit', let ⟨o, ho, r⟩ := st.2; ⟨o, hs'.extBut _ _ hne ho, r⟩⟩ hs'
  done := fun s Q E st hE => RZ.nextOf_tuple_end hh st.1 st.2 (by simp) fun h' e a b => hE h' e a b
end PySem

set_option linter.all false
set_option maxRecDepth 100000
set_option Elab.async false
set_option maxHeartbeats 1000000
namespace Mc
open PySem PySem.Spec PyProof.Rows L2
def IteT (K : PySem.W.Frag) (a : Addr) : L2.It :=
  ⟨fun i H => ∃ (xs : List V) (x : V), SqT K H a xs ∧ xs[i]? = some x, fun i H v H' => ∃ T x, v = .ref T ∧ H T = none ∧ H' = upd H T (.tup [.int (i : Nat), x]) ∧ ∀ xs, SqT K H a xs → xs[i]? = some x, fun i H => ∃ xs : List V, SqT K H a xs ∧ xs.length ≤ i⟩
def IteS (x : Str) : L2.It :=
  ⟨fun i _ => i < x.cps.size, fun i H v H' => ∃ T c, v = .ref T ∧ H T = none ∧ H' = upd H T (.tup [.int (i : Nat), .str ⟨#[c]⟩]) ∧ x.cps[i]? = some c, fun i _ => x.cps.size ≤ i⟩
theorem turn_enumT {P : Program} {w : World} {K : PySem.W.Frag} {elts : List Expr} {kk : Nat} {tpos : Pos} (a e it : Addr) :
    Turn P w K (.Tuple elts kk tpos) (IteT K a) [e, it] e (fun i h => (∃ old, IsEnum h e it ((i : Nat) : Int) old) ∧ h.IsTupleIter it a i ∧ e ≠ it) where
  mem := by simp
  obj := fun i h st b hb => by
    obtain ⟨⟨old, he⟩, ⟨o, ho, hc, hd⟩, _⟩ := st
    have e' : b = e ∨ b = it := by simpa using hb
    rcases e' with z | z
    · rw [z]; exact ⟨_, he, fun v q => nomatch q⟩
    · rw [z]; exact ⟨o, ho, fun v q => by rw [hd] at q; cases q⟩
  keep := fun i h h' st k => let ⟨⟨old, he⟩, hi, hne⟩ := st; ⟨⟨old, k e (by simp) _ he⟩, hi.at fun o q => k it (by simp) o q, hne⟩
  item := by
    intro X hP hw hK hc i pins s σ H E I hf st hg
    subst hP hw hK
    obtain ⟨⟨old, he⟩, hit, hne⟩ := st
    obtain ⟨xs, x, hq, hx⟩ := hg
    obtain ⟨its, rv, p, hz⟩ := I.tuple hq
    obtain ⟨u, hu, ru⟩ := rv.get hx
    have hel : e < s.heap.objs.size := Heap.lt_size he
    have hil : it < s.heap.objs.size := by obtain ⟨_, q, _⟩ := hit; exact Heap.lt_size q
    have hia : a ≠ it := fun q => by
      subst q
      obtain ⟨o, h1, h2, _⟩ := hit
      obtain ⟨o2, h3, h4, _⟩ := p
      rw [h1] at h3; cases h3
      rw [h2] at h4
      exact absurd (Value.type.inj h4) (by decide)
    have hea : e ≠ a := fun q => by
      subst q
      obtain ⟨o2, h3, h4, _⟩ := p
      have he' : s.heap.get? e = some _ := he
      rw [he'] at h3; cases h3
      exact absurd (Value.type.inj h4) (by decide)
    have hlt : i < its.toArray.size := by simpa using (List.getElem?_eq_some_iff.mp hu).1
    refine wpAny_pyNext_enum_itemD (mc_draws_tuple (A := X.A.in1) (show X.A.in1.handled = none from I.ok.hd hc) it a hia its.toArray) he ⟨hit, p⟩ hlt hne (by simp [hne, hea]) fun x2 h' tk hP2 ho hit' hT hsz hk => ?_
    have ex : x2 = u := by
      have h1 : its.toArray[i]? = some x2 := hP2
      have h2 : its[i]? = some x2 := by simpa using h1
      rw [hu] at h2; cases h2; rfl
    subst ex
    refine ⟨_, rfl, wpAny_letOwnedTupleGo_enum (s := { s with heap := h', toks := tk + 1 }) ho fun h'' he' sb => ?_⟩
    have hT2 : h''.get? s.heap.objs.size = some { cls := .type "tuple", data := .seq #[.int i tk, x2] } := (sb.2 _ (Nat.ne_of_gt hel)).trans hT
    have new : ObjOk X.prog X.w (upd H s.heap.objs.size (.tup [.int (i : Nat), x])) h'' s.heap.objs.size (.tup [.int (i : Nat), x]) :=
      ⟨by show 2 ≤ sizeLine; decide, [.int i tk, x2], .cons ⟨_, rfl⟩ (.cons ru .nil), ⟨_, hT2, rfl, _, rfl⟩⟩
    have I1 : Inv X pins σ (upd H s.heap.objs.size (.tup [.int (i : Nat), x])) { s with heap := h'', toks := tk + 1 } :=
      I.turnedNew (ch := [e, it]) (fun b ob hb q => (sb.2 b (fun z => hb (by simp [z]))).trans (hk b ob (fun z => hb (by simp [z])) (fun z => hb (by simp [z])) q)) hf (Nat.le_refl _) new
    refine ⟨.ref s.heap.objs.size, _, I1, rfl, ⟨_, x, rfl, I.hok.fresh (Nat.le_refl _), rfl, fun ys hy => by rw [I.tuple_inj hy hq]; exact hx⟩, ⟨⟨x2, ?_⟩, hit'.1.at fun o q => (sb.2 it (Ne.symm hne)).trans q, hne⟩, fun b hb => ?_⟩
    · have e1 : ((i + 1 : Nat) : Int) = (i : Int) + 1 := by omega
      rw [e1]; exact he'
    · have hb' : b < s.heap.objs.size := by
        have e' : b = e ∨ b = it := by simpa using hb
        rcases e' with z | z
        · rw [z]; exact hel
        · rw [z]; exact hil
      rw [upd_ne (Nat.ne_of_lt hb')]
      exact (hf b hb).1
  done := by
    intro X hP hw hK hc i pins s σ H E I hf st hg
    subst hP hw hK
    obtain ⟨⟨old, he⟩, hit, hne⟩ := st
    obtain ⟨xs, hq, hx⟩ := hg
    obtain ⟨its, rv, p, hz⟩ := I.tuple hq
    obtain ⟨f0, f1, f2, f3, f4, f5⟩ := hf it (by simp)
    have hl := rv.length
    have hia : a ≠ it := fun q => by
      subst q
      obtain ⟨o, h1, h2, _⟩ := hit
      obtain ⟨o2, h3, h4, _⟩ := p
      rw [h1] at h3; cases h3
      rw [h2] at h4
      exact absurd (Value.type.inj h4) (by decide)
    have hn : its.toArray[i]? = none := by simp; omega
    have hT : s.TypeIs (.ref e) "enumerate" := ⟨_, he, rfl⟩
    unfold pyNext
    refine PySem.wpAny_bind (wpAny_attempt (wpAny_callSpecial?_slot (name := Str.ofString "__next__") hT F.slot_enumerate_next
      (wpAny_call_entry F.slot_enumerate_next hT F.entry_enumerate_next ?_ (F.args_enumerate_next_1 _))))
    show wpAny _ _ (field (.ref e) 2 >>= _) _ _ _
    refine PySem.wpAny_bind (wpAny_field he rfl (x := .ref it) rfl ?_)
    refine PySem.wpAny_bind (RZ.nextOf_tuple_end (show X.A.in1.handled = none from I.ok.hd hc) hit p hn fun h' x he' hx' => ?_)
    obtain ⟨o, ho, hc'⟩ := hx'
    refine PySem.wpAny_bind (wpAny_isInstance (T := "StopIteration") (b := true) ⟨o, ho, hc'⟩ isSubtype_stop ?_)
    exact wpAny_pure ⟨rfl, I.turned (t' := s.toks) (fun b o hb q => he' b o hb q) f0 f1 f3 f4 f5⟩
  self := fun A i s Q E st h => let ⟨⟨_, he⟩, _⟩ := st; wpAny_pyIter_enum he h
theorem turn_enumS {P : Program} {w : World} {K : PySem.W.Frag} {elts : List Expr} {kk : Nat} {tpos : Pos} (e it : Addr) (x : Str) (t : Tok) :
    Turn P w K (.Tuple elts kk tpos) (IteS x) [e, it] e (fun i h => (∃ old, IsEnum h e it ((i : Nat) : Int) old) ∧ h.IsStrIter it (strIterType x) x t i ∧ e ≠ it) where
  mem := by simp
  obj := fun i h st b hb => by
    obtain ⟨⟨old, he⟩, ⟨o, ho, hc, hd⟩, _⟩ := st
    have e' : b = e ∨ b = it := by simpa using hb
    rcases e' with z | z
    · rw [z]; exact ⟨_, he, fun v q => nomatch q⟩
    · rw [z]; exact ⟨o, ho, fun v q => by rw [hd] at q; cases q⟩
  keep := fun i h h' st k => let ⟨⟨old, he⟩, ⟨o, ho, r⟩, hne⟩ := st; ⟨⟨old, k e (by simp) _ he⟩, ⟨o, k it (by simp) o ho, r⟩, hne⟩
  item := by
    intro X hP hw hK hc i pins s σ H E I hf st hg
    subst hP hw hK
    obtain ⟨⟨old, he⟩, hit, hne⟩ := st
    have hel : e < s.heap.objs.size := Heap.lt_size he
    have hil : it < s.heap.objs.size := by obtain ⟨_, q, _⟩ := hit; exact Heap.lt_size q
    have D : Draws X.prog X.w X.A.in1 it [it] x.cps.size (fun i v => ∃ c u, x.cps[i]? = some c ∧ v = .str ⟨#[c]⟩ u) (fun i h => h.IsStrIter it (strIterType x) x t i) := by
      unfold strIterType
      split
      · exact Draws.strAscii (show X.A.in1.handled = none from I.ok.hd hc) it x t
      · exact Draws.strWide (show X.A.in1.handled = none from I.ok.hd hc) it x t
    refine wpAny_pyNext_enum_itemD D he hit hg hne (by simp [hne]) fun x2 h' tk hP2 ho hit' hT hsz hk => ?_
    obtain ⟨c, tu, hcx, rfl⟩ := hP2
    refine ⟨_, rfl, wpAny_letOwnedTupleGo_enum (s := { s with heap := h', toks := tk + 1 }) ho fun h'' he' sb => ?_⟩
    have hT2 : h''.get? s.heap.objs.size = some { cls := .type "tuple", data := .seq #[.int i tk, .str ⟨#[c]⟩ tu] } := (sb.2 _ (Nat.ne_of_gt hel)).trans hT
    have new : ObjOk X.prog X.w (upd H s.heap.objs.size (.tup [.int (i : Nat), .str ⟨#[c]⟩])) h'' s.heap.objs.size (.tup [.int (i : Nat), .str ⟨#[c]⟩]) :=
      ⟨by show 2 ≤ sizeLine; decide, [.int i tk, .str ⟨#[c]⟩ tu], .cons ⟨_, rfl⟩ (.cons ⟨_, rfl⟩ .nil), ⟨_, hT2, rfl, _, rfl⟩⟩
    have I1 : Inv X pins σ (upd H s.heap.objs.size (.tup [.int (i : Nat), .str ⟨#[c]⟩])) { s with heap := h'', toks := tk + 1 } :=
      I.turnedNew (ch := [e, it]) (fun b ob hb q => (sb.2 b (fun z => hb (by simp [z]))).trans (hk b ob (fun z => hb (by simp [z])) (fun z => hb (by simp [z])) q)) hf (Nat.le_refl _) new
    refine ⟨.ref s.heap.objs.size, _, I1, rfl, ⟨_, c, rfl, I.hok.fresh (Nat.le_refl _), rfl, hcx⟩, ⟨⟨.str ⟨#[c]⟩ tu, ?_⟩, let ⟨o, ho, r⟩ := hit'; ⟨o, (sb.2 it (Ne.symm hne)).trans ho, r⟩, hne⟩, fun b hb => ?_⟩
    · have e1 : ((i + 1 : Nat) : Int) = (i : Int) + 1 := by omega
      rw [e1]; exact he'
    · have hb' : b < s.heap.objs.size := by
        have e' : b = e ∨ b = it := by simpa using hb
        rcases e' with z | z
        · rw [z]; exact hel
        · rw [z]; exact hil
      rw [upd_ne (Nat.ne_of_lt hb')]
      exact (hf b hb).1
  done := by
    intro X hP hw hK hc i pins s σ H E I hf st hg
    subst hP hw hK
    obtain ⟨⟨old, he⟩, hit, hne⟩ := st
    obtain ⟨f0, f1, f2, f3, f4, f5⟩ := hf it (by simp)
    have hx : x.cps[i]? = none := Array.getElem?_eq_none hg
    have hT : s.TypeIs (.ref e) "enumerate" := ⟨_, he, rfl⟩
    unfold pyNext
    refine PySem.wpAny_bind (wpAny_attempt (wpAny_callSpecial?_slot (name := Str.ofString "__next__") hT F.slot_enumerate_next
      (wpAny_call_entry F.slot_enumerate_next hT F.entry_enumerate_next ?_ (F.args_enumerate_next_1 _))))
    show wpAny _ _ (field (.ref e) 2 >>= _) _ _ _
    refine PySem.wpAny_bind (wpAny_field he rfl (x := .ref it) rfl ?_)
    have hend : ∀ {Q : Value → Shared → Prop} {E : Value → Shared → Prop}, (∀ h' e, Heap.ExtBut it s.heap h' → (∃ o, h'.get? e = some o ∧ o.cls = .type "StopIteration") → E (.ref e) { s with heap := h' }) → wpAny (model X.prog X.w) X.A.in1 (Builtin.SmallTypes.nextOf (.ref it)) Q E s := by
      intro Q E hE
      have hit2 := hit
      unfold strIterType at hit2
      split at hit2
      · exact wpAny_nextOf_ascii_end (show X.A.in1.handled = none from I.ok.hd hc) hit2 hx hE
      · exact wpAny_nextOf_wide_end (show X.A.in1.handled = none from I.ok.hd hc) hit2 hx hE
    refine PySem.wpAny_bind (hend fun h' x he' hx' => ?_)
    obtain ⟨o, ho, hc'⟩ := hx'
    refine PySem.wpAny_bind (wpAny_isInstance (T := "StopIteration") (b := true) ⟨o, ho, hc'⟩ isSubtype_stop ?_)
    exact wpAny_pure ⟨rfl, I.turned (t' := s.toks) (fun b o hb q => he' b o hb q) f0 f1 f3 f4 f5⟩
  self := fun A i s Q E st h => let ⟨⟨_, he⟩, _⟩ := st; wpAny_pyIter_enum he h
theorem new_tup {κ : Kw} {g : Gh} {H : Hp} {Bs : Nat → Prop} {base : Nat} {st : Sto} {T : Addr} {ds : List D} {vs : List V} (L : Live κ g Bs base st H) (hp : H T = none) (r : Reps κ g H ds vs) :
    ∃ g', Live κ g' Bs base st (upd H T (.tup vs)) ∧ Ext g H g' (upd H T (.tup vs)) ∧ (∀ p, p ∉ g.al → ¬ g.F p → H p ≠ none → upd H T (.tup vs) p = H p ∧ p ∉ g'.al ∧ ¬ g'.F p) ∧ Rep κ g' (upd H T (.tup vs)) (.tup ds) (.ref T) := by
  refine ⟨g.fz T, live_fz L hp _, ext_fz L hp _, fun p h1 h2 h3 => ?_, .tup (.inl ⟨.inr rfl, .inl upd_same⟩) (r.mono (ext_fz L hp _))⟩
  have hne : p ≠ T := fun e => h3 (e ▸ hp)
  exact ⟨upd_ne hne, h1, fun h => by
    rcases h with h | h
    · exact h2 h
    · exact hne h⟩
theorem ok_enumL {κ : Kw} {a : Addr} {src : D} {l : List D} {base : Nat} {g0 : Gh} {H0 : Hp} (h : ∀ (g : Gh) (H : Hp) (Bs : Nat → Prop) (st : Sto), Live κ g Bs base st H → Ext g0 H0 g H → still src l st = true → ∃ vs, SqL κ.K H a vs ∧ Reps κ g H l vs) :
    ItOk κ (Ite κ.K a) src l (l.mapIdx fun (i : Nat) d => .tup [.int (i : Int), d]) base g0 H0 := fun g H Bs st i L x e => by
  obtain ⟨vs, hq, r⟩ := h g H Bs st L x e
  refine ⟨fun hi => ?_, fun hi => ⟨vs, hq, by rw [← r.length]; simpa using hi⟩⟩
  rw [List.length_mapIdx] at hi
  obtain ⟨v, hv, rv⟩ := r.get (List.getElem?_eq_getElem hi)
  refine ⟨⟨vs, v, hq, hv⟩, fun y H' ⟨T, z, ey, hT, eH, hz⟩ => ?_⟩
  subst ey eH
  have := hz vs hq
  rw [hv] at this
  cases this
  obtain ⟨g', L', x', p', r'⟩ := new_tup L hT (.cons (.sca (.int (i : Int))) (.cons rv .nil))
  refine ⟨g', L', x', p', fun d hd => ?_⟩
  rw [List.getElem?_mapIdx, List.getElem?_eq_getElem hi] at hd
  cases hd
  exact r'
theorem ok_enumT {κ : Kw} {a : Addr} {src : D} {l : List D} {base : Nat} {g0 : Gh} {H0 : Hp} (h : ∀ (g : Gh) (H : Hp) (Bs : Nat → Prop) (st : Sto), Live κ g Bs base st H → Ext g0 H0 g H → still src l st = true → ∃ vs, SqT κ.K H a vs ∧ Reps κ g H l vs) :
    ItOk κ (IteT κ.K a) src l (l.mapIdx fun (i : Nat) d => .tup [.int (i : Int), d]) base g0 H0 := fun g H Bs st i L x e => by
  obtain ⟨vs, hq, r⟩ := h g H Bs st L x e
  refine ⟨fun hi => ?_, fun hi => ⟨vs, hq, by rw [← r.length]; simpa using hi⟩⟩
  rw [List.length_mapIdx] at hi
  obtain ⟨v, hv, rv⟩ := r.get (List.getElem?_eq_getElem hi)
  refine ⟨⟨vs, v, hq, hv⟩, fun y H' ⟨T, z, ey, hT, eH, hz⟩ => ?_⟩
  subst ey eH
  have := hz vs hq
  rw [hv] at this
  cases this
  obtain ⟨g', L', x', p', r'⟩ := new_tup L hT (.cons (.sca (.int (i : Int))) (.cons rv .nil))
  refine ⟨g', L', x', p', fun d hd => ?_⟩
  rw [List.getElem?_mapIdx, List.getElem?_eq_getElem hi] at hd
  cases hd
  exact r'
theorem ok_enumS {κ : Kw} {s : Tx} {orig : List D} {base : Nat} {g0 : Gh} {H0 : Hp} : ItOk κ (IteS (str_ s)) (.str s) orig ((s.map fun c => D.str [c]).mapIdx fun (i : Nat) d => .tup [.int (i : Int), d]) base g0 H0 := fun g H Bs st i L x e => by
  have hl : (str_ s).cps.size = s.length := by simp [str_]
  refine ⟨fun hi => ?_, fun hi => ?_⟩
  · rw [List.length_mapIdx, List.length_map] at hi
    refine ⟨show i < (str_ s).cps.size by rw [hl]; exact hi, fun y H' ⟨T, c, ey, hT, eH, hc⟩ => ?_⟩
    subst ey eH
    have hc' : s[i]? = some c := by simpa [str_] using hc
    obtain ⟨g', L', x', p', r'⟩ := new_tup (ds := [.int (i : Int), .str [c]]) L hT (.cons (.sca (.int (i : Int))) (.cons (.sca (.str [c])) .nil))
    refine ⟨g', L', x', p', fun d hd => ?_⟩
    rw [List.getElem?_mapIdx, List.getElem?_map, hc'] at hd
    cases hd
    exact r'
  · rw [List.length_mapIdx, List.length_map] at hi
    show (str_ s).cps.size ≤ i
    rw [hl]; exact hi
section
variable {X : Cx} {Γ : Cfg}
theorem fresh2 {pins : List (Addr × Obj)} {σ : L2.St} {H : Hp} {s : Shared} (I : Inv X pins σ H s) : ∀ b ∈ [s.heap.objs.size + 1, s.heap.objs.size], FpOk X pins H b := fun b hb => by
  have e' : b = s.heap.objs.size + 1 ∨ b = s.heap.objs.size := by simpa using hb
  have hle : s.heap.objs.size ≤ b := by
    rcases e' with z | z
    · rw [z]; exact Nat.le_add_right _ _
    · rw [z]; exact Nat.le_refl _
  exact I.fpOk hle (I.hok.fresh hle)
theorem i_enu {a : Expr} {ea : E} {elts : List Expr} {kk : Nat} {x : Str} {p pos tpos : Pos} (hx : x = "enumerate") (hg : Gl X x) (hm : X.mg x = none) (ha : PE X a (rdE X Γ ea)) (hs : notStar a = true) : PI X (.Tuple elts kk tpos) (.Call (.Name x p) [a] [] pos) (rdI X Γ (.enu ea)) := by
  subst hx
  refine ⟨fun pins s σ H R I ⟨g, Bs, env, st, src, orig, items, st', L, En, e, q⟩ => ?_⟩
  rw [evI] at e
  obtain ⟨⟨d1, st1⟩, e1, e⟩ := bnd e
  obtain ⟨l, e2, e⟩ := bnd e
  split at e <;> first | (cases e; done) | skip
  rename_i hst
  cases e
  refine Call_ (ld_blt I hg hm boot_enumerate (PyProof.Rows.callWith_type1 (thn ((pa_cons ha pa_nil (by rw [star_cons hs])).run pos pins s σ H (fun vs H1 => ∃ y g1, vs = [y] ∧ Live (kwOf X) g1 Bs Γ.base st1 H1 ∧ Ext g H g1 H1 ∧ Rep (kwOf X) g1 H1 d1 y) I ⟨g, Bs, env, st, d1, st1, L, En, e1, fun v g1 H1 L1 x1 r1 => ⟨v, g1, rfl, L1, x1, r1⟩⟩) fun us s1 ⟨vs, H1, I1, r1, y, g1, ev, L1, x1, ry⟩ => ?_) (star_cons hs) rfl))
  subst ev
  cases r1 with
  | cons rx rr =>
  cases rr
  have hst' : still d1 orig st1 = true := hst
  have e2' : itemsE st1 d1 = some orig := e2
  have doL : ∀ (a : Addr) (u0 : Value), y = .ref a → RelV y u0 → (∃ vs, SqL X.K H1 a vs) → ItOk (kwOf X) (Ite X.K a) d1 orig (orig.mapIdx fun (i : Nat) d => .tup [.int (i : Int), d]) Γ.base g1 H1 →
      wpAny (model X.prog X.w) X.A (call (.type "enumerate") [u0]) (fun v s1 => wpAny (model X.prog X.w) X.A (pyIter v) (PIE X pins σ (.Tuple elts kk tpos) R) X.xe s1) X.xe s1 := by
    rintro a u0 ey rx' ⟨vs, hq⟩ ok
    subst ey
    cases rx'
    obtain ⟨its, rv, p', hz⟩ := I1.list hq
    exact call_enumerate_list p'.isList fun h' he hit hsz hk => wpAny_pyIter_enum he
      ⟨s1.heap.objs.size + 1, [s1.heap.objs.size + 1, s1.heap.objs.size], _, _, H1, rfl, I1.kept (t' := s1.toks) hk, turn_enum a (s1.heap.objs.size + 1) s1.heap.objs.size, ⟨⟨.none, he⟩, hit, Nat.succ_ne_self _⟩, fresh2 I1, q _ _ _ L1 x1 hst' ok⟩
  clear e2 hst
  cases d1 with
  | str z =>
    have ez := ry.str_; subst ez
    simp only [itemsE] at e2'
    split at e2'
    · cases e2'
      obtain ⟨t, rfl⟩ := rx
      exact call_enumerate_str fun h' he hit hsz hk => wpAny_pyIter_enum he
        ⟨s1.heap.objs.size + 1, [s1.heap.objs.size + 1, s1.heap.objs.size], _, _, H1, rfl, I1.kept (t' := s1.toks) hk, turn_enumS (s1.heap.objs.size + 1) s1.heap.objs.size (str_ z) t, ⟨⟨.none, he⟩, hit, Nat.succ_ne_self _⟩, fresh2 I1, q _ _ _ L1 x1 hst' ok_enumS⟩
    · cases e2'
  | tup m =>
    cases e2'
    obtain ⟨a, vs, rfl, h1, h2⟩ := ry.tup_
    cases rx
    obtain ⟨its, rv, p', hz⟩ := I1.tuple h1.sq
    exact mc_call_enumerate_tuple (show s1.heap.IsTuple a its.toArray from p') fun h' he hit hsz hk => wpAny_pyIter_enum he
      ⟨s1.heap.objs.size + 1, [s1.heap.objs.size + 1, s1.heap.objs.size], _, _, H1, rfl, I1.kept (t' := s1.toks) hk, turn_enumT a (s1.heap.objs.size + 1) s1.heap.objs.size, ⟨⟨.none, he⟩, hit, Nat.succ_ne_self _⟩, fresh2 I1,
        q _ _ _ L1 x1 hst' (ok_enumT fun g' H' Bs' st' L' x' e3 => ⟨vs, (h1.mono x').sq, h2.mono x'⟩)⟩
  | lst m =>
    cases e2'
    obtain ⟨a, vs, rfl, hF, h1, h2⟩ := ry.lst_
    exact doL a _ rfl rx ⟨vs, .inl (.inl h1)⟩ (ok_enumL fun g' H' Bs' st' L' x' e3 => ⟨vs, .inl (.inl (x'.lk a hF vs h1)), h2.mono x'⟩)
  | own n =>
    have e3 : lstOf st1 (.own n) = some orig := e2'
    simp only [lstOf] at e3
    split at e3
    · rename_i m hm0
      cases e3
      obtain ⟨a, vs, rfl, ha', h1, h2⟩ := own_lst L1 ry hm0
      refine doL a _ rfl rx ⟨vs, .inl (.inl h1)⟩ (ok_enumL fun g' H' Bs' st' L' x' e3 => ?_)
      simp only [still] at e3
      split at e3
      · rename_i m' hm'
        have em := sameL_eq e3
        subst em
        obtain ⟨b, hb, ws, k1, k2⟩ := L'.cell n _ hm'
        have := x'.al n a ha'
        rw [hb] at this
        cases this
        exact ⟨ws, .inl (.inl k1), k2⟩
      · cases e3
    · cases e3
  | _ => cases e2'
end
theorem src_list {κ : Kw} {g : Gh} {H : Hp} {Bs : Nat → Prop} {base : Nat} {st : Sto} {d : D} {y : V} {l : List D} (L : Live κ g Bs base st H) (r : Rep κ g H d y) (e : lstOf st d = some l) :
    ∃ a, y = .ref a ∧ ∀ (g' : Gh) (H' : Hp) (Bs' : Nat → Prop) (st' : Sto), Live κ g' Bs' base st' H' → Ext g H g' H' → stillO d l st' = true → ∃ vs, SqL κ.K H' a vs ∧ Reps κ g' H' l vs := by
  cases d <;> first | (cases e; done) | skip
  case lst m =>
    cases e
    obtain ⟨a, vs, rfl, hF, h1, h2⟩ := r.lst_
    exact ⟨a, rfl, fun g' H' Bs' st' L' x' _ => ⟨vs, .inl (.inl (x'.lk a hF vs h1)), h2.mono x'⟩⟩
  case own n =>
    simp only [lstOf] at e
    split at e <;> first | (cases e; done) | skip
    rename_i m hm
    cases e
    obtain ⟨a, vs, rfl, ha, h1, h2⟩ := own_lst L r hm
    refine ⟨a, rfl, fun g' H' Bs' st' L' x' e' => ?_⟩
    simp only [stillO] at e'
    split at e'
    · rename_i m' hm2
      have em := sameL_eq e'
      subst em
      obtain ⟨b, hb, ws, k1, k2⟩ := L'.cell n _ hm2
      have := x'.al n a ha
      rw [hb] at this
      cases this
      exact ⟨ws, .inl (.inl k1), k2⟩
    · cases e'
theorem src_tup {κ : Kw} {g : Gh} {H : Hp} {y : V} {l : List D} (r : Rep κ g H (.tup l) y) :
    ∃ a, y = .ref a ∧ ∀ (g' : Gh) (H' : Hp), Ext g H g' H' → ∃ vs, SqT κ.K H' a vs ∧ Reps κ g' H' l vs := by
  obtain ⟨a, vs, rfl, h1, h2⟩ := r.tup_
  exact ⟨a, rfl, fun g' H' x' => ⟨vs, (h1.mono x').sq, h2.mono x'⟩⟩
theorem still_two {a b : D} {x y : List D} {st : Sto} (h : still (.dic [(a, b)]) [.lst x, .lst y] st = true) : stillO a x st = true ∧ stillO b y st = true := Bool.and_eq_true_iff.mp h
theorem ok_zipL {κ : Kw} {a b : Addr} {s1 s2 : D} {l m : List D} {base : Nat} {g0 : Gh} {H0 : Hp} (hl : l.length = m.length)
    (h1 : ∀ (g' : Gh) (H' : Hp) (Bs' : Nat → Prop) (st' : Sto), Live κ g' Bs' base st' H' → Ext g0 H0 g' H' → stillO s1 l st' = true → ∃ vs, SqL κ.K H' a vs ∧ Reps κ g' H' l vs)
    (h2 : ∀ (g' : Gh) (H' : Hp) (Bs' : Nat → Prop) (st' : Sto), Live κ g' Bs' base st' H' → Ext g0 H0 g' H' → stillO s2 m st' = true → ∃ vs, SqL κ.K H' b vs ∧ Reps κ g' H' m vs) :
    ItOk κ (Itz κ.K a b) (.dic [(s1, s2)]) [.lst l, .lst m] (List.zipWith (fun p q => .tup [p, q]) l m) base g0 H0 := fun g H Bs st i L x e => by
  obtain ⟨e1, e2⟩ := still_two e
  obtain ⟨vs, hq1, r1⟩ := h1 g H Bs st L x e1
  obtain ⟨ws, hq2, r2⟩ := h2 g H Bs st L x e2
  refine ⟨fun hi => ?_, fun hi => ⟨vs, ws, hq1, hq2, .inl (by rw [← r1.length]; simpa [hl] using hi)⟩⟩
  have hi1 : i < l.length := by simp [hl] at hi; omega
  have hi2 : i < m.length := by omega
  obtain ⟨v, hv, rv⟩ := r1.get (List.getElem?_eq_getElem hi1)
  obtain ⟨u, hu, ru⟩ := r2.get (List.getElem?_eq_getElem hi2)
  refine ⟨⟨vs, ws, v, u, hq1, hq2, hv, hu⟩, fun y H' ⟨T, z1, z2, ey, hT, eH, hz1, hz2⟩ => ?_⟩
  subst ey eH
  have t1 := hz1 vs hq1
  have t2 := hz2 ws hq2
  rw [hv] at t1
  rw [hu] at t2
  cases t1
  cases t2
  obtain ⟨g', L', x', p', r'⟩ := new_tup L hT (.cons rv (.cons ru .nil))
  refine ⟨g', L', x', p', fun d hd => ?_⟩
  rw [List.getElem?_zipWith, List.getElem?_eq_getElem hi1, List.getElem?_eq_getElem hi2] at hd
  cases hd
  exact r'
theorem ok_zipT {κ : Kw} {a b : Addr} {src : D} {cont l m : List D} {base : Nat} {g0 : Gh} {H0 : Hp} (hl : l.length = m.length)
    (h1 : ∀ (g' : Gh) (H' : Hp), Ext g0 H0 g' H' → ∃ vs, SqT κ.K H' a vs ∧ Reps κ g' H' l vs)
    (h2 : ∀ (g' : Gh) (H' : Hp), Ext g0 H0 g' H' → ∃ vs, SqT κ.K H' b vs ∧ Reps κ g' H' m vs) :
    ItOk κ (RZ.ItzT κ.K a b) src cont (List.zipWith (fun p q => .tup [p, q]) l m) base g0 H0 := fun g H Bs st i L x e => by
  obtain ⟨vs, hq1, r1⟩ := h1 g H x
  obtain ⟨ws, hq2, r2⟩ := h2 g H x
  refine ⟨fun hi => ?_, fun hi => ⟨vs, ws, hq1, hq2, .inl (by rw [← r1.length]; simpa [hl] using hi)⟩⟩
  have hi1 : i < l.length := by simp [hl] at hi; omega
  have hi2 : i < m.length := by omega
  obtain ⟨v, hv, rv⟩ := r1.get (List.getElem?_eq_getElem hi1)
  obtain ⟨u, hu, ru⟩ := r2.get (List.getElem?_eq_getElem hi2)
  refine ⟨⟨vs, ws, v, u, hq1, hq2, hv, hu⟩, fun y H' ⟨T, z1, z2, ey, hT, eH, hz1, hz2⟩ => ?_⟩
  subst ey eH
  have t1 := hz1 vs hq1
  have t2 := hz2 ws hq2
  rw [hv] at t1
  rw [hu] at t2
  cases t1
  cases t2
  obtain ⟨g', L', x', p', r'⟩ := new_tup L hT (.cons rv (.cons ru .nil))
  refine ⟨g', L', x', p', fun d hd => ?_⟩
  rw [List.getElem?_zipWith, List.getElem?_eq_getElem hi1, List.getElem?_eq_getElem hi2] at hd
  cases hd
  exact r'
theorem lst_not_tup {st : Sto} {d : D} {l : List D} (h : seqOf st d = some l) : (isLst st d = true ∧ lstOf st d = some l) ∨ (isLst st d = false ∧ d = .tup l) := by
  cases d <;> first | (exact .inr ⟨rfl, by cases h; rfl⟩) | (refine .inl ?_; simp only [seqOf] at h; exact ⟨by simp only [isLst, h, Option.isSome_some], h⟩)
section
variable {X : Cx} {Γ : Cfg}
theorem i_zip {a b : Expr} {ea eb : E} {elts : List Expr} {kk : Nat} {x : Str} {p pos tpos : Pos} (hx : x = "zip") (hg : Gl X x) (hm : X.mg x = none) (ha : PE X a (rdE X Γ ea)) (hb : PE X b (rdE X Γ eb)) (hs : notStar a = true) (hs2 : notStar b = true) :
    PI X (.Tuple elts kk tpos) (.Call (.Name x p) [a, b] [] pos) (rdI X Γ (.zip ea eb)) := by
  subst hx
  exact PI_imp (RZ.pi_zipA hg hm (l_cons hs ha (l_cons hs2 hb l_nil)) (star_cons hs) (by rw [star_cons hs2]; rfl)) fun σ H R ⟨g, Bs, env, st, src, orig, items, st', L, En, e, q⟩ => by
    rw [evI] at e
    obtain ⟨⟨d1, st1⟩, e1, e⟩ := bnd e
    obtain ⟨⟨d2, st2⟩, e2, e⟩ := bnd e
    obtain ⟨l, e3, e⟩ := bnd e
    obtain ⟨m, e4, e⟩ := bnd e
    split at e <;> first | (cases e; done) | skip
    rename_i hz
    obtain ⟨hl, hk, hst⟩ := hz
    cases e
    have e3' : seqOf st2 d1 = some l := e3
    have e4' : seqOf st2 d2 = some m := e4
    have hk' : isLst st2 d1 = isLst st2 d2 := hk
    refine ⟨g, Bs, env, st, [d1, d2], st2, L, En, by rw [evL, e1]; show Option.map _ (evL Γ _ env st1) = _; rw [evL, e2]; rfl, fun vs g1 H1 L1 x1 r1 => ?_⟩
    obtain ⟨v, w, rfl, r, r'⟩ := reps2 r1
    rcases lst_not_tup e3' with ⟨k1, k2⟩ | ⟨k1, rfl⟩
    · rcases lst_not_tup e4' with ⟨k3, k4⟩ | ⟨k3, rfl⟩
      · obtain ⟨a1, rfl, f1⟩ := src_list L1 r k2
        obtain ⟨a2, rfl, f2⟩ := src_list L1 r' k4
        obtain ⟨s1, s2⟩ := still_two hst
        obtain ⟨vs, h1, _⟩ := f1 g1 H1 _ _ L1 .refl s1
        obtain ⟨ws, h2, _⟩ := f2 g1 H1 _ _ L1 .refl s2
        exact ⟨a1, a2, vs, ws, rfl, .inl ⟨h1, h2, q _ g1 H1 L1 x1 hst (ok_zipL hl f1 f2)⟩⟩
      · rw [k1, k3] at hk'; cases hk'
    · rcases lst_not_tup e4' with ⟨k3, k4⟩ | ⟨k3, rfl⟩
      · rw [k1, k3] at hk'; cases hk'
      · obtain ⟨a1, rfl, f1⟩ := src_tup r
        obtain ⟨a2, rfl, f2⟩ := src_tup r'
        obtain ⟨vs, h1, _⟩ := f1 g1 H1 .refl
        obtain ⟨ws, h2, _⟩ := f2 g1 H1 .refl
        exact ⟨a1, a2, vs, ws, rfl, .inr ⟨h1, h2, q _ g1 H1 L1 x1 hst (ok_zipT hl f1 f2)⟩⟩
theorem i_rev {tg a : Expr} {ea : E} {x : Str} {p pos : Pos} (hx : x = "reversed") (hg : Gl X x) (hm : X.mg x = none) (ha : PE X a (rdE X Γ ea)) (hs : notStar a = true) : PI X tg (.Call (.Name x p) [a] [] pos) (rdI X Γ (.rev ea)) := by
  subst hx
  exact PI_imp (RT.pi_revA hg hm ha (star_cons hs)) fun σ H R ⟨g, Bs, env, st, src, orig, items, st', L, En, e, q⟩ => by
    rw [evI] at e
    obtain ⟨⟨d1, st1⟩, e1, e⟩ := bnd e
    obtain ⟨l, e2, e⟩ := bnd e
    split at e <;> first | (cases e; done) | skip
    rename_i hst
    cases e
    have e2' : seqOf st1 d1 = some orig := e2
    refine ⟨g, Bs, env, st, d1, st1, L, En, e1, fun v g1 H1 L1 x1 r1 => ?_⟩
    rcases lst_not_tup e2' with ⟨k1, k2⟩ | ⟨k1, rfl⟩
    · obtain ⟨a1, rfl, f1⟩ := src_list L1 r1 k2
      have sO : ∀ st, still d1 orig st = true → stillO d1 orig st = true := by
        intro st hh
        cases d1 <;> first | exact hh | rfl
      obtain ⟨vs, h1, rr⟩ := f1 g1 H1 _ _ L1 .refl (sO _ hst)
      refine ⟨a1, vs, rfl, .inl ⟨h1, q _ g1 H1 L1 x1 hst (.plain fun g H Bs st i L x e => ?_)⟩⟩
      obtain ⟨ws, h2, r2⟩ := f1 g H Bs st L x (sO _ e)
      have l1 := rr.length
      have l2 := r2.length
      refine ⟨fun hi => ?_, fun hi => by rw [List.length_reverse] at hi; show vs.length ≤ i; omega⟩
      rw [List.length_reverse] at hi
      have hj : orig.length - 1 - i < orig.length := by omega
      obtain ⟨v, hv, _⟩ := r2.get (List.getElem?_eq_getElem hj)
      have hv' : ws[vs.length - 1 - i]? = some v := by rw [← l1]; exact hv
      refine ⟨⟨by show i < vs.length; omega, ws, v, h2, hv'⟩, fun y H' ⟨eh, hy⟩ => ⟨eh, fun d hd => ?_⟩⟩
      rw [List.getElem?_reverse hi] at hd
      obtain ⟨w, hw, rw'⟩ := r2.get hd
      have := hy ws h2
      rw [← l1, hw] at this
      cases this
      exact rw'
    · obtain ⟨a1, rfl, f1⟩ := src_tup r1
      obtain ⟨vs, h1, rr⟩ := f1 g1 H1 .refl
      refine ⟨a1, vs, rfl, .inr ⟨h1, q _ g1 H1 L1 x1 hst (.plain fun g H Bs st i L x e => ?_)⟩⟩
      obtain ⟨ws, h2, r2⟩ := f1 g H x
      have l1 := rr.length
      have l2 := r2.length
      refine ⟨fun hi => ?_, fun hi => by rw [List.length_reverse] at hi; show vs.length ≤ i; omega⟩
      rw [List.length_reverse] at hi
      have hj : orig.length - 1 - i < orig.length := by omega
      obtain ⟨v, hv, _⟩ := r2.get (List.getElem?_eq_getElem hj)
      have hv' : ws[vs.length - 1 - i]? = some v := by rw [← l1]; exact hv
      refine ⟨⟨by show i < vs.length; omega, ws, v, h2, hv'⟩, fun y H' ⟨eh, hy⟩ => ⟨eh, fun d hd => ?_⟩⟩
      rw [List.getElem?_reverse hi] at hd
      obtain ⟨w, hw, rw'⟩ := r2.get hd
      have := hy ws h2
      rw [← l1, hw] at this
      cases this
      exact rw'
end
end Mc

set_option linter.all false
set_option maxRecDepth 100000
set_option Elab.async false
set_option maxHeartbeats 1000000
namespace Mc
open PySem PySem.Spec PyProof.Rows L2

section
variable {κ : Kw} {g g' : Gh} {H H' : Hp}
mutual
theorem Rep.bel : ∀ {d : D} {v : V}, Rep κ g H d v → Mc.below g.al.length d = true
  | _, _, .sca h => by cases h <;> rfl
  | _, _, .tup _ h2 => by simp only [Mc.below]; exact Reps.bel h2
  | _, _, .lst _ h2 => by simp only [Mc.below]; exact Reps.bel h2
  | _, _, .dic _ _ h3 => by simp only [Mc.below]; exact RepK.bel h3
  | _, _, .wdic _ h => by simp only [Mc.below]; exact belowK_mono (Nat.zero_le _) h.2.1.1
  | _, _, .rng _ _ => rfl
  | _, _, .own h => by simp only [Mc.below, decide_eq_true_eq]; exact (List.getElem?_eq_some_iff.mp h).1
  | _, _, .scr _ => rfl
theorem Reps.bel : ∀ {d : List D} {v : List V}, Reps κ g H d v → belowL g.al.length d = true
  | _, _, .nil => rfl
  | _, _, .cons h1 h2 => by simp only [belowL, Rep.bel h1, Reps.bel h2, Bool.and_self]
theorem RepK.bel : ∀ {d : List (D × D)} {v : List (Key × V)}, RepK κ g H d v → belowK g.al.length d = true
  | _, _, .nil => rfl
  | _, _, .cons (k := k) h1 h2 => by
    have e : Mc.below g.al.length (keyD k) = true := by cases k <;> rfl
    simp only [belowK, e, Rep.bel h1, RepK.bel h2, Bool.and_self]
end
/-- the ghost behind a call: the cells from n on stand still -/
def Gh.pop (g : Gh) (n : Nat) : Gh := ⟨g.al.take n, fun a => g.F a ∨ ∃ i : Nat, n ≤ i ∧ g.al[i]? = some a⟩
theorem pop_al {n i : Nat} (h : i < n) : (g.pop n).al[i]? = g.al[i]? := by
  show (g.al.take n)[i]? = _
  rw [List.getElem?_take_of_lt h]
mutual
theorem Rep.keep {n : Nat} : ∀ {d : D} {v : V}, Mc.below n d = true → Rep κ g H d v → Rep κ (g.pop n) H d v
  | _, _, _, .sca h => .sca h
  | _, _, b, .tup h1 h2 => .tup (by
      rcases h1 with ⟨h1, h3⟩ | h
      · exact .inl ⟨.inl h1, h3⟩
      · exact .inr h) (Reps.keep (by simpa only [Mc.below] using b) h2)
  | _, _, b, .lst h1 h2 => .lst ⟨.inl h1.1, h1.2⟩ (Reps.keep (by simpa only [Mc.below] using b) h2)
  | _, _, b, .dic h1 h2 h3 => .dic (.inl h1) h2 (RepK.keep (by simpa only [Mc.below] using b) h3)
  | _, _, _, .wdic hz h => .wdic hz h
  | _, _, _, .rng h1 h2 => .rng (.inl h1) h2
  | _, _, b, .own h => by
    simp only [Mc.below, decide_eq_true_eq] at b
    exact .own (by rw [pop_al b]; exact h)
  | _, _, _, .scr h => .scr (by
      rcases h with ⟨h1, h3⟩ | h
      · exact .inl ⟨.inl h1, h3⟩
      · exact .inr h)
theorem Reps.keep {n : Nat} : ∀ {d : List D} {v : List V}, belowL n d = true → Reps κ g H d v → Reps κ (g.pop n) H d v
  | _, _, _, .nil => .nil
  | _, _, b, .cons h1 h2 => by
    simp only [belowL, Bool.and_eq_true] at b
    exact .cons (Rep.keep b.1 h1) (Reps.keep b.2 h2)
theorem RepK.keep {n : Nat} : ∀ {d : List (D × D)} {v : List (Key × V)}, belowK n d = true → RepK κ g H d v → RepK κ (g.pop n) H d v
  | _, _, _, .nil => .nil
  | _, _, b, .cons h1 h2 => by
    simp only [belowK, Bool.and_eq_true] at b
    exact .cons (Rep.keep b.1.2 h1) (RepK.keep b.2 h2)
end
section
variable {Bs : Nat → Prop} {base : Nat} {st : Sto}
mutual
theorem Rep.frz {n : Nat} (L : Live κ g Bs base st H) : ∀ (k : Nat) {d d' : D} {v : V}, Mc.frz st n k d = some d' → Rep κ g H d v → Rep κ (g.pop n) H d' v
  | k + 1, .tup l, d', v, e, r => by
    rw [Mc.frz] at e
    obtain ⟨l', e1, e2⟩ := mpd e
    subst e2
    obtain ⟨a, vs, rfl, h1, h2⟩ := r.tup_
    exact .tup (by
      rcases h1 with ⟨h1, h3⟩ | h
      · exact .inl ⟨.inl h1, h3⟩
      · exact .inr h) (Reps.frz L k e1 h2)
  | k + 1, .lst l, d', v, e, r => by
    rw [Mc.frz] at e
    obtain ⟨l', e1, e2⟩ := mpd e
    subst e2
    obtain ⟨a, vs, rfl, h1, h3, h2⟩ := r.lst_
    exact .lst ⟨.inl h1, h3⟩ (Reps.frz L k e1 h2)
  | k + 1, .own m, d', v, e, r => by
    rw [Mc.frz] at e
    split at e
    · rename_i hm
      cases e
      exact Rep.keep (by simp only [Mc.below, decide_eq_true_eq]; exact hm) r
    · rename_i hm
      split at e
      · rename_i l hl
        obtain ⟨l', e1, e2⟩ := mpd e
        subst e2
        obtain ⟨a, vs, rfl, ha, h3, h2⟩ := own_lst L r hl
        exact .lst ⟨.inr ⟨m, Nat.le_of_not_lt hm, ha⟩, h3⟩ (Reps.frz L k e1 h2)
      · rename_i l hl
        obtain ⟨l', e1, e2⟩ := mpd e
        subst e2
        obtain ⟨a, vs, rfl, ha, h3, h2⟩ := own_dic L r hl
        exact .dic (.inr ⟨m, Nat.le_of_not_lt hm, ha⟩) (.inl h3) (RepK.frz L k e1 h2)
      · cases e
  | k + 1, .dic l, d', v, e, r => by
    rw [Mc.frz] at e
    split at e
    · rename_i hb
      cases e
      exact Rep.keep (by simpa only [Mc.below] using hb) r
    · cases e
  | 0, .dic l, d', v, e, r => by
    rw [Mc.frz] at e
    split at e
    · rename_i hb
      cases e
      exact Rep.keep (by simpa only [Mc.below] using hb) r
    · cases e
  | 0, .own m, d', v, e, r => by
    rw [Mc.frz] at e
    split at e
    · rename_i hm
      cases e
      exact Rep.keep (by simp only [Mc.below, decide_eq_true_eq]; exact hm) r
    · cases e
  | 0, .tup _, _, _, e, _ => by rw [Mc.frz] at e; cases e
  | 0, .lst _, _, _, e, _ => by rw [Mc.frz] at e; cases e
  | k, .non, _, _, e, r => by cases k <;> (rw [Mc.frz] at e; cases e; exact Rep.keep rfl r)
  | k, .bl _, _, _, e, r => by cases k <;> (rw [Mc.frz] at e; cases e; exact Rep.keep rfl r)
  | k, .int _, _, _, e, r => by cases k <;> (rw [Mc.frz] at e; cases e; exact Rep.keep rfl r)
  | k, .str _, _, _, e, r => by cases k <;> (rw [Mc.frz] at e; cases e; exact Rep.keep rfl r)
  | k, .rng _ _, _, _, e, r => by cases k <;> (rw [Mc.frz] at e; cases e; exact Rep.keep rfl r)
  | k, .scr _, _, _, e, r => by cases k <;> (rw [Mc.frz] at e; cases e; exact Rep.keep rfl r)
theorem Reps.frz {n : Nat} (L : Live κ g Bs base st H) : ∀ (k : Nat) {d d' : List D} {v : List V}, frzL st n k d = some d' → Reps κ g H d v → Reps κ (g.pop n) H d' v
  | _, [], _, _, e, r => by
    rw [frzL] at e; cases e; cases r; exact .nil
  | k, d :: l, _, _, e, r => by
    rw [frzL] at e
    obtain ⟨d', e1, e⟩ := bnd e
    obtain ⟨l', e2, e⟩ := mpd e
    subst e
    cases r with
    | cons r t => exact .cons (Rep.frz L k e1 r) (Reps.frz L k e2 t)
theorem RepK.frz {n : Nat} (L : Live κ g Bs base st H) : ∀ (k : Nat) {d d' : List (D × D)} {v : List (Key × V)}, frzK st n k d = some d' → RepK κ g H d v → RepK κ (g.pop n) H d' v
  | _, [], _, _, e, r => by
    rw [frzK] at e; cases e; cases r; exact .nil
  | k, (a, d) :: l, _, _, e, r => by
    rw [frzK] at e
    obtain ⟨d', e1, e⟩ := bnd e
    obtain ⟨l', e2, e⟩ := mpd e
    subst e
    cases r with
    | cons r t => exact .cons (Rep.frz L k e1 r) (RepK.frz L k e2 t)
end
end
/-- into a def's body: its base is the cells' number -/
theorem live_in {Bs : Nat → Prop} {base : Nat} {st : Sto} (L : Live κ g Bs base st H) : Live κ g (fun b => Bs b ∨ b = st.length) st.length st H where
  len := L.len
  nd := L.nd
  nf := L.nf
  dF := L.dF
  cell := L.cell
  cl := fun b i c hb hi e => by
    rcases hb with hb | hb
    · exact L.cl b i c hb hi e
    · subst hb
      obtain ⟨a, _, h⟩ := L.cell i c e
      rw [← L.len]
      cases c with
      | lst l => obtain ⟨vs, _, r⟩ := h; exact r.bel
      | dic l => obtain ⟨vs, _, r⟩ := h; exact r.bel
  le := fun b hb => by
    rcases hb with hb | hb
    · exact Nat.le_trans (L.le b hb) L.bs
    · rw [hb]; exact Nat.le_refl _
  bs := Nat.le_refl _
/-- out of it -/
theorem pop_ok {Bs : Nat → Prop} {base : Nat} {st st1 st2 : Sto} {d d' : D} {v : V} (L : Live κ g Bs base st H) (L1 : Live κ g' (fun b => Bs b ∨ b = st.length) st.length st1 H') (x : Ext g H g' H') (r : Rep κ g' H' d v) (e : popD st.length d st1 = some (d', st2)) :
    ∃ g2, Live κ g2 Bs base st2 H' ∧ Ext g H g2 H' ∧ Rep κ g2 H' d' v := by
  unfold popD at e
  split at e
  · rename_i hl
    cases e
    exact ⟨g', ⟨L1.len, L1.nd, L1.nf, L1.dF, L1.cell, fun b i c hb => L1.cl b i c (.inl hb), L.le, Nat.le_trans L.bs L1.bs⟩, x, r⟩
  · obtain ⟨d2, e1, e⟩ := mpd e
    cases e
    have hlt : ∀ a, a ∈ g'.al.take st.length → ∃ i, i < st.length ∧ g'.al[i]? = some a := fun a ha => by
      obtain ⟨i, hi⟩ := List.mem_iff_getElem?.mp ha
      by_cases h : i < st.length
      · rw [List.getElem?_take_of_lt h] at hi
        exact ⟨i, h, hi⟩
      · rw [List.getElem?_eq_none (by rw [List.length_take]; omega)] at hi
        cases hi
    have inj : ∀ (i j : Nat) (a : Addr), g'.al[i]? = some a → g'.al[j]? = some a → i = j := fun i j a h1 h2 => by
      obtain ⟨p1, q1⟩ := List.getElem?_eq_some_iff.mp h1
      obtain ⟨p2, q2⟩ := List.getElem?_eq_some_iff.mp h2
      exact (List.getElem_inj L1.nd).mp (q1.trans q2.symm)
    refine ⟨g'.pop st.length, ⟨?_, L1.nd.sublist (List.take_sublist _ _), fun a ha hF => ?_, fun a hF => ?_, fun i c e2 => ?_, fun b i c hb hi e2 => ?_, L.le, ?_⟩, ⟨fun i a e2 => ?_, fun a h => .inl (x.fz a h), x.rd, x.lk, x.kp, fun a h => x.nal a (List.mem_of_mem_take h), fun a h => ?_, x.dm⟩, Rep.frz L1 60 e1 r⟩
    · show (g'.al.take st.length).length = (st1.take st.length).length
      rw [List.length_take, List.length_take, L1.len]
    · obtain ⟨i, hi, ei⟩ := hlt a ha
      rcases hF with hF | ⟨j, hj, ej⟩
      · exact L1.nf a (List.mem_of_getElem? ei) hF
      · have := inj i j a ei ej
        omega
    · rcases hF with hF | ⟨j, hj, ej⟩
      · exact L1.dF a hF
      · have hj' : j < st1.length := by rw [← L1.len]; exact (List.getElem?_eq_some_iff.mp ej).1
        obtain ⟨b, eb, cr⟩ := L1.cell j _ (List.getElem?_eq_getElem hj')
        rw [ej] at eb
        cases eb
        generalize st1[j] = c at cr
        cases c with
        | lst l => obtain ⟨vs, h, _⟩ := cr; rw [h]; exact fun z => nomatch z
        | dic l => obtain ⟨vs, h, _⟩ := cr; rw [h]; exact fun z => nomatch z
    · have hi : i < st.length := by
        have := (List.getElem?_eq_some_iff.mp e2).1
        rw [List.length_take] at this
        omega
      rw [List.getElem?_take_of_lt hi] at e2
      obtain ⟨a, h1, h2⟩ := L1.cell i c e2
      have hb := L1.cl st.length i c (.inr rfl) hi e2
      refine ⟨a, by rw [pop_al hi]; exact h1, ?_⟩
      cases c with
      | lst l => obtain ⟨vs, h, r⟩ := h2; exact ⟨vs, h, r.keep hb⟩
      | dic l => obtain ⟨vs, h, r⟩ := h2; exact ⟨vs, h, r.keep hb⟩
    · have hi' : i < st.length := Nat.lt_of_lt_of_le hi (Nat.le_trans (L.le b hb) L.bs)
      rw [List.getElem?_take_of_lt hi'] at e2
      exact L1.cl b i c (.inl hb) hi e2
    · rw [List.length_take]
      have h1 := L1.bs
      have h2 := L.bs
      omega
    · have hi : i < st.length := by rw [← L.len]; exact (List.getElem?_eq_some_iff.mp e2).1
      rw [pop_al hi]
      exact x.al i a e2
    · rcases h with h | ⟨j, hj, ej⟩
      · exact x.nF a h
      · rcases x.nal a (List.mem_of_getElem? ej) with h | h
        · obtain ⟨i, hi⟩ := List.mem_iff_getElem?.mp h
          have hlt' : i < st.length := by rw [← L.len]; exact (List.getElem?_eq_some_iff.mp hi).1
          have := inj i j a (x.al i a hi) ej
          omega
        · exact .inr h
end

structure FnG (P : Program) (w : World) (K : PySem.W.Frag) (mg : Str → Option Value) (base : Heap) (k : Nat) (f : Addr) (fd : FuncData) (ps : List Str) (sp : List V → Hp → VK → Prop) : Prop where
  run : ∀ (A : Around) (outer : List PySem.Env) (s : Shared) (H : Hp) (args : Args) (us : List Value) (vs : List V) (Q : VK), Room k A → A.guards = some [] → Env0 P w K mg base A outer s H → BindsTo s fd args (ps.zip us) → Vals vs us → vs.length = ps.length → sp vs H Q →
    codeAny (model P w) A (.call (.ref f) args) (fun r s' => match r with | .ok (.ret u) => CE outer P w H s Q u s' | _ => False) s
abbrev cxD (P : Program) (w : World) (K : PySem.W.Frag) (mg : Str → Option Value) (base : Heap) (N : List Str) (qual : Str) (scope : Scope) (f : Addr) (cd : Value) (A : Around) (outer : List PySem.Env) (s : Shared) (H : Hp) : Cx :=
  (cxOf (fun _ _ _ _ _ _ => False) P w K mg base N qual scope f cd A outer s H (fun _ _ _ => False)).nox
theorem deeper_guards {A : Around} {env : PySem.Env} (h : A.guards = some []) : (A.deeper env).guards = some [] := h
theorem fng_of {P : Program} {w : World} {K : PySem.W.Frag} {mg : Str → Option Value} {base : Heap} {k : Nat} {f : Addr} {name qual : Str} {params : Arguments} {body : List Stmt} {scope : Scope} {dV kV doc pm cdv ct oc : Value} {an od : Option Addr}
    {osl : Array (Option Value)} {N ps : List Str} {sp : List V → Hp → VK → Prop} (lk : K.lookup f = some ⟨oc, od, .func (PySem.W.fnOf name qual params body scope dV kV doc pm an cdv ct), osl⟩) (hcd : PySem.W.codeIn K cdv qual = true) (S : FnScope N ps scope)
    (hbody : ∀ (A : Around) (outer : List PySem.Env) (s : Shared) (H : Hp) (vs : List V) (Q : VK), Room k (A.deeper (envOfC qual scope s.heap.objs.size f cdv)) → A.guards = some [] → vs.length = ps.length → sp vs H Q →
      ∃ t, PSs (cxD P w K mg base N qual scope f cdv A outer s H) body t ∧ t { nx := fun _ H' => Q .non H', rt := Q } (start N vs) H) :
    FnG P w K mg base (k + 1) f (PySem.W.fnOf name qual params body scope dV kV doc pm an cdv ct) ps sp := by
  refine ⟨fun A outer s H args us vs Q hr hgd e0 hb r hl hsp => ?_⟩
  have KX : K.In s.heap := e0.mod.kin.keeps fun b o e => (e0.bs b o e).1
  have lim : s.heap.NoLimit := e0.mod.nolimit.keeps fun b o e => (e0.bs b o e).1
  have hkind : ∀ y ∈ ps.zip us, scope.names.lookup y.1 = some .local ∨ (scope.names.lookup y.1 = some .cell ∧ ((cellsFrom (s.heap.objs.size + 1) scope.names []).lookup y.1).isSome = true) := fun ⟨n, v⟩ hy => by
    rcases S.par n (List.of_mem_zip hy).1 with q | q
    · exact .inl q
    · exact .inr ⟨q, PySem.W.cellsFrom_some _ _ _ (.inl q)⟩
  refine codeAny_call_function hr.depth (KX _ _ lk) rfl S.co S.gen rfl (PySem.W.codeRec_of KX hcd) (hb _ _ _ _ ?_)
  refine wpAny_newFunctionEnv_cells S.kind hkind fun env he s1 x => ?_
  subst he
  refine ⟨lim.keeps x.toInCall.keep, codeAny_func ?_⟩
  obtain ⟨t, ht, hq⟩ := hbody A outer s H vs Q (hr.deeper _) hgd hl hsp
  have I0 : Inv (cxOf (fun _ _ _ _ _ _ => False) P w K mg base N qual scope f cdv A outer s H (fun _ _ _ => False)) [] (start N vs) H s1 := inv_start S hr.hd e0 hl r x
  have I : Inv (cxD P w K mg base N qual scope f cdv A outer s H) [] (start N vs) H s1 := I0.wish _
  refine wpAny_mono (ht.run [] s1 (start N vs) H _ I hq) (fun fl s' hs => ?_) fun e s' hs => False.elim hs
  have fin : ∀ {σ' : L2.St} {H' : Hp} {v : V} {u : Value}, Inv (cxD P w K mg base N qual scope f cdv A outer s H) [] σ' H' s' → RelV v u → Q v H' → CE outer P w H s Q u s' :=
    fun {σ' H' v u} J rv q => ⟨v, H', J.os, J.bare, J.base, J.hok, rv, q⟩
  cases fl with
  | ret u =>
    obtain ⟨v, σ', H', J, rv, q⟩ := hs
    exact fin J rv q
  | next =>
    obtain ⟨σ', H', J, q⟩ := hs
    exact fin (v := V.non) (u := Value.none) J rfl q
  | brk =>
    obtain ⟨_, _, _, q⟩ := hs
    exact False.elim q
  | cont =>
    obtain ⟨_, _, _, q⟩ := hs
    exact False.elim q
def spD (κ : Kw) (T : Tab) (k f : Nat) : List V → Hp → VK → Prop := fun vs H Q => ∃ g Bs b st ds d st', Live κ g Bs b st H ∧ Reps κ g H ds vs ∧ callD T k b f ds st = some (d, st') ∧
  ∀ v g' H', Live κ g' Bs b st' H' → Ext g H g' H' → Rep κ g' H' d v → Q v H'
abbrev cfg (T : Tab) (k b : Nat) : Cfg := ⟨callD T k, T.glb, T.shp, b, T.fuel⟩
/-- how a shape binds -/
def ShpOk (κ : Kw) (fd : FuncData) (ps : List Str) (p : Shp) : Prop :=
  ∀ (s : Shared) (us ws : List Value) (vs zs : List V) (es ks ds : List D) (g : Gh) (H : Hp), κ.K.In s.heap → Vals vs us → Vals zs ws → Reps κ g H es vs → Reps κ g H ks zs → es.length = p.np → ks.length = p.ks.length → agD es ks p.ag = some ds →
    ∃ (as : List Value) (avs : List V), BindsTo s fd ⟨us, (p.ks.map str_).zip ws⟩ (ps.zip as) ∧ avs.length = ps.length ∧ Vals avs as ∧ Reps κ g H ds avs
structure CallOk (T : Tab) (k : Nat) (X : Cx) (x : Str) (p : Shp) : Prop where
  ex : ∃ (f : Addr) (fd : FuncData) (ps : List Str), X.mg x = some (.ref f) ∧ PySem.W.keepIn X.K (.ref f) = true ∧ FnG X.prog X.w X.K X.mg X.base k f fd ps (spD (kwOf X) T k p.f) ∧ ShpOk (kwOf X) fd ps p
section
variable {X : Cx} {T : Tab} {k b : Nat} {x : Str} {p : Shp} {sh : Nat} {ps pos : Pos} {kws : List Keyword} {el kl : EL}
/-- keywords with names -/
def kwNames : List Keyword → Option (List Str)
  | [] => some []
  | ⟨some n, _, _⟩ :: r => (kwNames r).map (n :: ·)
  | _ => none
theorem kw_names {env : PySem.Env} : ∀ {kws : List Keyword} {ks : List Str}, kwNames kws = some ks → (backToKw pos (keywordEach kws env)).all (·.1.isSome) = true ∧ (backToKw pos (keywordEach kws env)).filterMap (·.1) = ks ∧ (backToKw pos (keywordEach kws env)).any (·.1.isNone) = false
  | [], _, h => by cases h; exact ⟨rfl, rfl, rfl⟩
  | ⟨some n, v, p⟩ :: r, _, h => by
    obtain ⟨ks', h1, h2⟩ := mpd (show (kwNames r).map (n :: ·) = _ from h)
    subst h2
    obtain ⟨i1, i2, i3⟩ := kw_names (env := env) h1
    refine ⟨?_, ?_, ?_⟩
    · show (true && (backToKw pos (keywordEach r env)).all (·.1.isSome)) = true
      rw [i1]; rfl
    · show n :: (backToKw pos (keywordEach r env)).filterMap (·.1) = _
      rw [i2]
    · show (false || (backToKw pos (keywordEach r env)).any (·.1.isNone)) = false
      rw [i3]; rfl
  | ⟨none, _, _⟩ :: _, _, h => by cases h
theorem run_g {pins : List (Addr × Obj)} {s : Shared} {σ : L2.St} {H : Hp} {Q : VK} {us ws : List Value} {vs zs : List V} {es ks : List D} {d : D} {g : Gh} {Bs : Nat → Prop} {st st' : Sto} (C : CallOk T k X x p) (hr : Room k X.A) (hgd : X.A.guards = some []) {f : Addr} (hf : X.mg x = some (.ref f))
    (I : Inv X pins σ H s) (r : Vals vs us) (rz : Vals zs ws) (L : Live (kwOf X) g Bs b st H) (re : Reps (kwOf X) g H es vs) (rk : Reps (kwOf X) g H ks zs) (hn : es.length = p.np) (hk : ks.length = p.ks.length) {ds : List D} (ha : agD es ks p.ag = some ds) (e : callD T k b p.f ds st = some (d, st'))
    (q : ∀ v g' H', Live (kwOf X) g' Bs b st' H' → Ext g H g' H' → Rep (kwOf X) g' H' d v → Q v H') : wpAny (model X.prog X.w) X.A (call (.ref f) us ((p.ks.map str_).zip ws)) (EP X pins σ Q) X.xe s := by
  obtain ⟨f', fd, ps, hm, _, F, S⟩ := C.ex
  rw [hf] at hm
  cases hm
  obtain ⟨as, avs, hb, hl, hv, rd⟩ := S s us ws vs zs es ks ds g H I.kIn r rz re rk hn hk ha
  refine wpAny_call (codeAny_mono (F.run X.A X.stack s H ⟨us, (p.ks.map str_).zip ws⟩ as avs Q hr hgd I.env0 hb hv hl ⟨g, Bs, b, st, ds, d, st', L, rd, e, q⟩) fun r s' hq => ?_)
  cases r with
  | error e => exact False.elim hq
  | ok fl =>
    cases fl with
    | ret u => exact I.after hq
    | next => exact False.elim hq
    | brk => exact False.elim hq
    | cont => exact False.elim hq
theorem s_call {args : List Expr} (C : CallOk T k X x p) (hr : Room k X.A) (hgd : X.A.guards = some []) (hg : Gl X x) (hdb : (x == ("__debug__" : Str)) = false) (hsh : T.shp[sh]? = some p) (hst : args.all notStar = true) (hkn : kwNames kws = some (p.ks.map str_)) (hel : args = [] → el = .nil)
    (ha : PA X args (rdL X (cfg T k b) el)) (hkw : PK X kws (rdL X (cfg T k b) kl)) : PE X (.Call (.Name x ps) args kws pos) (rdE X (cfg T k b) (.call sh el kl)) := by
  refine ⟨fun pins s σ H Q I ⟨g, Bs, env, st, d, st', L, En, e, q⟩ => ?_⟩
  rw [evE] at e
  obtain ⟨p', e0, e⟩ := bnd e
  have ep : p' = p := by
    have : T.shp[sh]? = some p' := e0
    rw [hsh] at this
    cases this; rfl
  subst ep
  obtain ⟨⟨es, st1⟩, e1, e⟩ := bnd e
  obtain ⟨⟨ks, st2⟩, e2, e⟩ := bnd e
  split at e <;> first | (cases e; done) | skip
  rename_i hn
  obtain ⟨ds, e3, ecall⟩ := bnd e
  clear e
  obtain ⟨f, fd, ps', hm, hk, _⟩ := C.ex
  obtain ⟨k1, k2, k3⟩ := kw_names (env := X.env) (pos := pos) hkn
  refine wpAny_Call_Name_kw (ld_glob I hg hm ?_ hdb)
  cases args with
  | nil =>
    refine PySem.W.callWith_KW0 (h₀ := X.base) I.ok.mod.kin hk k1 ?_ (by rw [k3]; rfl)
    have e1' : es = [] ∧ st1 = st := by
      rw [hel rfl, evL] at e1
      cases e1
      exact ⟨rfl, rfl⟩
    obtain ⟨rfl, rfl⟩ := e1'
    refine thn (hkw.run pos pins s σ H (fun zs H2 => ∃ g2, Live (kwOf X) g2 Bs b st2 H2 ∧ Ext g H g2 H2 ∧ Reps (kwOf X) g2 H2 ks zs) I ⟨g, Bs, env, st1, ks, st2, L, En, e2, fun vs g2 H2 L2 x2 r2 => ⟨g2, L2, x2, r2⟩⟩) fun ws s2 ⟨zs, H2, I2, rz, g2, L2, x2, r2⟩ => ⟨I2.kIn, ?_⟩
    rw [k2]
    exact run_g C hr hgd hm I2 .nil rz L2 .nil r2 hn.1 hn.2 e3 ecall fun v g3 H3 L3 x3 r3 => q v g3 H3 L3 (x2.trans x3) r3
  | cons a args =>
    rw [List.all_cons, Bool.and_eq_true] at hst
    refine PySem.W.callWith_KW (h₀ := X.base) I.ok.mod.kin hk k1 (thn (ha.run pos pins s σ H (fun vs H1 => ∃ g1, Live (kwOf X) g1 Bs b st1 H1 ∧ Ext g H g1 H1 ∧ Reps (kwOf X) g1 H1 es vs) I ⟨g, Bs, env, st, es, st1, L, En, e1, fun vs g2 H2 L2 x2 r2 => ⟨g2, L2, x2, r2⟩⟩) fun us s1 ⟨vs, H1, I1, r, g1, L1, x1, r1⟩ => ?_) ?_ (star_cons hst.1)
    · refine thn (hkw.run pos pins s1 σ H1 (fun zs H2 => ∃ g2, Live (kwOf X) g2 Bs b st2 H2 ∧ Ext g1 H1 g2 H2 ∧ Reps (kwOf X) g2 H2 ks zs) I1 ⟨g1, Bs, env, st1, ks, st2, L1, En.mono x1, e2, fun vs g2 H2 L2 x2 r2 => ⟨g2, L2, x2, r2⟩⟩) fun ws s2 ⟨zs, H2, I2, rz, g2, L2, x2, r2⟩ => ⟨I2.kIn, ?_⟩
      rw [k2]
      exact run_g C hr hgd hm I2 r rz L2 (r1.mono x2) r2 hn.1 hn.2 e3 ecall fun v g3 H3 L3 x3 r3 => q v g3 H3 L3 ((x1.trans x2).trans x3) r3
    · rw [k3, Bool.or_false, star_cons hst.1]
      show (false || (backTo pos (starEach args X.env)).any (·.1)) = false
      rw [plain_stars hst.2]; rfl
theorem k_nil {Γ : Cfg} : PK X [] (rdL X Γ .nil) := ⟨fun pos pins s σ H Q I ⟨g, Bs, env, st, ds, st', L, En, e, q⟩ => by
  rw [evL] at e; cases e
  exact pk_nil.run pos pins s σ H Q I (q _ g H L .refl .nil)⟩
theorem k_cons {Γ : Cfg} {nm : Option Str} {a : Expr} {kp : Pos} {ea : E} (ha : PE X a (rdE X Γ ea)) (hk : PK X kws (rdL X Γ kl)) : PK X (⟨nm, a, kp⟩ :: kws) (rdL X Γ (.cons ea kl)) := ⟨fun pos pins s σ H Q I ⟨g, Bs, env, st, ds, st', L, En, e, q⟩ => by
  rw [evL] at e
  obtain ⟨⟨d1, st1⟩, e1, e⟩ := bnd e
  obtain ⟨⟨d2, st2⟩, e2, e⟩ := mpd e
  cases e
  exact (pk_cons ha hk).run pos pins s σ H Q I ⟨g, Bs, env, st, d1, st1, L, En, e1, fun v g1 H1 L1 x1 r1 => ⟨g1, Bs, env, st1, d2, _, L1, En.mono x1, e2, fun us g2 H2 L2 x2 r2 => q _ _ _ L2 (x1.trans x2) (.cons (r1.mono x2) r2)⟩⟩⟩
end
end Mc

set_option linter.all false
set_option maxRecDepth 100000
set_option Elab.async false
set_option maxHeartbeats 4000000
namespace Mc
open PySem PySem.Spec PyProof.Rows L2

def nmVis (nm : Nm) (x : Str) : Bool := match nm.sc.names.lookup x with
  | some .local => true
  | some .cell => true
  | some .free => true
  | _ => false
def nmSt (nm : Nm) (x : Str) : Bool := match nm.sc.names.lookup x with
  | some .local => true
  | some .cell => nm.fnOf x
  | _ => false
def plainNm (x : Str) : Bool := !(x == ("__debug__" : Str)) && !(x == ("__classdict__" : Str))
def isVar (nm : Nm) (i : Nat) (x : Str) : Bool := decide (nm.N[i]? = some x) && (nmVis nm x && plainNm x)
def isStv (nm : Nm) (i : Nat) (x : Str) : Bool := decide (nm.N[i]? = some x) && nmSt nm x
def isGl (nm : Nm) (x : Str) : Bool := decide (nm.sc.names.lookup x = some .globalImplicit) && plainNm x
def cstOk : D → Const → Bool
  | .non, .none => true
  | .bl a, .bool b => a == b
  | .int i, .int j => decide (i = j)
  | .str s, .str z => decide (s = z.cps.toList)
  | _, _ => false
def Nm.blk (nm : Nm) (scope : Scope) : Nm := { nm with sc := relS scope nm.sc, fn := some scope.names }
def ownP (nm : Nm) (own : List Nat) : List (Str × Nat) := own.map fun i => (nm.N.getD i Str.empty, i)
def truArm : Expr → Bool
  | .UnaryOp .Not _ _ => false
  | .BoolOp _ _ _ => false
  | .IfExp _ _ _ _ => false
  | .Compare _ _ _ _ => false
  | _ => true
def notSet : Expr → Bool
  | .Set _ _ _ => false
  | _ => true
def FL.isNil : FL → Bool
  | .nil => true
  | _ => false

mutual
def chkE (sp : List Shp) (nm : Nm) : E → Expr → Bool
  | .cst d, .Constant c _ _ => cstOk d c
  | .var i, .Name x _ => isVar nm i x
  | .glb j, .Name x _ => decide (nm.glb[j]? = some x) && isGl nm x
  | .bin o a b _, .BinOp l op r _ => decide (op = bopOf o) && (chkE sp nm a l && chkE sp nm b r)
  | .neg a, .UnaryOp .USub x _ => chkE sp nm a x
  | .nt a, .UnaryOp .Not x _ => chkE sp nm a x
  | .and a b, .BoolOp .And (x :: y :: r) p => chkE sp nm a x && chkE sp nm b (match r with | [] => y | _ => .BoolOp .And (y :: r) p)
  | .or a b, .BoolOp .Or (x :: y :: r) p => chkE sp nm a x && chkE sp nm b (match r with | [] => y | _ => .BoolOp .Or (y :: r) p)
  | .cmp a l, .Compare x ops cs _ => chkE sp nm a x && chkC sp nm l ops cs
  | .ife t a b, .IfExp c x y _ => chkT sp nm t c && (chkE sp nm a x && chkE sp nm b y)
  | .tup es, .Tuple xs _ _ => chkL sp nm es xs
  | .lst es _, .List xs _ => chkL sp nm es xs
  | .dic .nil _, .Dict [] [] _ => true
  | .dic ps _, .Dict (k :: ks) vs _ => chkP sp nm ps (k :: ks) vs && decide ((k :: ks).length ≤ 15)
  | .idx a i, .Subscript v s _ => chkE sp nm a v && (chkE sp nm i s && notSlice s)
  | .slc a lo hi _, .Subscript v (.Slice l h none _) _ => chkE sp nm a v && (chkO sp nm lo l && chkO sp nm hi h)
  | .rgv t _ e, .Call (.Name x _) [.Call (.Name y _) [a] [] _] [] _ => decide (x = Str.ofString (nstOut t)) && (isGl nm x && (decide (x ∈ nm.blt) && (decide (y = Str.ofString (nstIn t)) && (isGl nm y && (decide (y ∈ nm.blt) && (notStar a && chkE sp nm e a))))))
  | .rev a _, .Subscript v (.Slice none none (some (.UnaryOp .USub (.Constant (.int k) _ _) _)) _) _ => decide (k = 1) && chkE sp nm a v
  | .call sh es kl, .Call (.Name x _) args kws _ => match sp[sh]? with
    | some p => decide (nm.defs[p.f]? = some x) && (isGl nm x && (args.all notStar && (decide (kwNames kws = some (p.ks.map str_)) && (chkL sp nm es args && chkK sp nm kl kws))))
    | none => false
  | .blt b es _, .Call (.Name x _) (a :: r) [] _ => decide (x = Str.ofString (bltName b)) && (isGl nm x && (decide (x ∈ nm.blt) && ((a :: r).all notStar && chkL sp nm es (a :: r))))
  | .isi a t, .Call (.Name x _) [v, .Name y _] [] _ => decide (x = "isinstance") && (isGl nm x && (decide (x ∈ nm.blt) && (decide (y = Str.ofString (tyName t)) && (isGl nm y && (decide (y ∈ nm.blt) && (decide (t ≠ .nonT) && (notStar v && chkE sp nm a v)))))))
  | .met m o es, .Call (.Attribute ov x apos) args [] pos => decide (x = Str.ofString (metNm m)) && (decide (m ≠ .update) && (plainRcv ov && ((apos.endLine == pos.line) && (args.all notStar && (decide (args.length < 30) && (chkE sp nm o ov && chkL sp nm es args))))))
  | .lc t it fs e own _, .ListComp elt [⟨tg, iter, ifs, ac⟩] scope _ => decide (ac = 0) && (chkI sp nm it tg iter && (notSet iter && (blkC nm.N nm.sc scope (ownP nm own) && ((slotsT t).all (fun j => own.contains j) && (chkG sp (nm.blk scope) t tg && (chkF sp (nm.blk scope) fs ifs && chkE sp (nm.blk scope) e elt))))))
  | .dc t it fs ek ev own _, .DictComp kx vx [⟨tg, iter, ifs, ac⟩] scope _ => decide (ac = 0) && (chkI sp nm it tg iter && (notSet iter && (blkC nm.N nm.sc scope (ownP nm own) && ((slotsT t).all (fun j => own.contains j) && (chkG sp (nm.blk scope) t tg && (chkF sp (nm.blk scope) fs ifs && (chkE sp (nm.blk scope) ek kx && chkE sp (nm.blk scope) ev vx)))))))
  | _, _ => false
def chkT (sp : List Shp) (nm : Nm) : Te → Expr → Bool
  | .ex e, x => truArm x && chkE sp nm e x
  | .nt t, .UnaryOp .Not x _ => chkT sp nm t x
  | .and a b, .BoolOp .And (x :: y :: r) p => chkT sp nm a x && chkT sp nm b (match r with | [] => y | _ => .BoolOp .And (y :: r) p)
  | .or a b, .BoolOp .Or (x :: y :: r) p => chkT sp nm a x && chkT sp nm b (match r with | [] => y | _ => .BoolOp .Or (y :: r) p)
  | .cmp a l, .Compare x ops cs _ => chkE sp nm a x && chkC sp nm l ops cs
  | .ife t a b, .IfExp c x y _ => chkT sp nm t c && (chkT sp nm a x && chkT sp nm b y)
  | _, _ => false
def chkC (sp : List Shp) (nm : Nm) : CL → List CmpOp → List Expr → Bool
  | .one o e, [op], [x] => decide (op = copOf o) && (!behindInMarks op x && chkE sp nm e x)
  | .cons o e r, op :: ops, x :: cs => decide (op = copOf o) && (chkE sp nm e x && chkC sp nm r ops cs)
  | _, _, _ => false
def chkO (sp : List Shp) (nm : Nm) : OE → Option Expr → Bool
  | .no, none => true
  | .yes e, some x => chkE sp nm e x
  | _, _ => false
def chkL (sp : List Shp) (nm : Nm) : EL → List Expr → Bool
  | .nil, [] => true
  | .cons e r, x :: xs => notStar x && (chkE sp nm e x && chkL sp nm r xs)
  | .star e r, .Starred x _ :: xs => chkE sp nm e x && chkL sp nm r xs
  | _, _ => false
def chkK (sp : List Shp) (nm : Nm) : EL → List Keyword → Bool
  | .nil, [] => true
  | .cons e r, ⟨_, x, _⟩ :: xs => chkE sp nm e x && chkK sp nm r xs
  | _, _ => false
def chkP (sp : List Shp) (nm : Nm) : PL → List (Option Expr) → List Expr → Bool
  | .nil, [], [] => true
  | .cons k v r, some x :: xs, y :: ys => chkE sp nm k x && (chkE sp nm v y && chkP sp nm r xs ys)
  | _, _, _ => false
def chkF (sp : List Shp) (nm : Nm) : FL → List Expr → Bool
  | .nil, [] => true
  | .cons t r, [c] => r.isNil && chkT sp nm t c
  | _, _ => false
def chkI (sp : List Shp) (nm : Nm) : Mc.It → Expr → Expr → Bool
  | .ex e, _, x => chkE sp nm e x
  | .rng (.cons a .nil), _, .Call (.Name x _) [v] [] _ => decide (x = "range") && (isGl nm x && (decide (x ∈ nm.blt) && (notStar v && chkE sp nm a v)))
  | .rng (.cons a (.cons b .nil)), _, .Call (.Name x _) [v, u] [] _ => decide (x = "range") && (isGl nm x && (decide (x ∈ nm.blt) && (notStar v && (notStar u && (chkE sp nm a v && chkE sp nm b u)))))
  | .rng (.cons a (.cons b (.cons c .nil))), _, .Call (.Name x _) [v, u, w] [] _ => decide (x = "range") && (isGl nm x && (decide (x ∈ nm.blt) && (notStar v && (notStar u && (notStar w && (chkE sp nm a v && (chkE sp nm b u && chkE sp nm c w)))))))
  | .enu a, .Tuple _ _ _, .Call (.Name x _) [v] [] _ => decide (x = "enumerate") && (isGl nm x && (decide (x ∈ nm.blt) && (notStar v && chkE sp nm a v)))
  | .zip a b, .Tuple _ _ _, .Call (.Name x _) [v, u] [] _ => decide (x = "zip") && (isGl nm x && (decide (x ∈ nm.blt) && (notStar v && (notStar u && (chkE sp nm a v && chkE sp nm b u)))))
  | .rev a, _, .Call (.Name x _) [v] [] _ => decide (x = "reversed") && (isGl nm x && (decide (x ∈ nm.blt) && (notStar v && chkE sp nm a v)))
  | _, _, _ => false
def chkG (sp : List Shp) (nm : Nm) : Tg → Expr → Bool
  | .name i, .Name x _ => isStv nm i x
  | .tup ts, .Tuple es _ _ => chkTL sp nm ts es
  | .sub o i, .Subscript v s _ => chkE sp nm o v && (chkE sp nm i s && notSlice s)
  | _, _ => false
def chkTL (sp : List Shp) (nm : Nm) : TL → List Expr → Bool
  | .nil, [] => true
  | .cons t r, x :: xs => notStar x && (chkG sp nm t x && chkTL sp nm r xs)
  | .star t, [.Starred x _] => chkG sp nm t x
  | _, _ => false
end
end Mc

set_option linter.all false
set_option maxRecDepth 100000
set_option Elab.async false
set_option maxHeartbeats 4000000
namespace Mc
open PySem PySem.Spec PyProof.Rows L2

theorem an {a b : Bool} (h : (a && b) = true) : a = true ∧ b = true := Bool.and_eq_true_iff.mp h
theorem dc {p : Prop} [Decidable p] (h : decide p = true) : p := of_decide_eq_true h
/-- what the surroundings must be -/
structure Env1 (T : Tab) (nm : Nm) (k : Nat) (X : Cx) : Prop where
  good : Good nm X
  room : Room k X.A
  call : ∀ (sh : Nat) (p : Shp) (x : Str), T.shp[sh]? = some p → nm.defs[p.f]? = some x → CallOk T k X x p
  glb : ∀ (j : Nat) (x : Str), nm.glb[j]? = some x → ∃ (d : D) (v : V) (u : Value), T.glb[j]? = some d ∧ X.mg x = some u ∧ RelV v u ∧ ∀ g H, Rep (kwOf X) g H d v
section
variable {T : Tab} {nm : Nm} {k b : Nat} {X : Cx}
theorem vis_of {sc : Scope} (G : Good nm X) {x : Str} (h : nmVis nm x = true) : Vis X.env.scope x := by
  unfold nmVis at h
  unfold Vis
  rw [G.sc]
  split at h
  · rename_i e; exact .inl e
  · rename_i e; exact .inr (.inl e)
  · rename_i e; exact .inr (.inr e)
  · cases h
theorem st_of (G : Good nm X) {x : Str} (h : nmSt nm x = true) : L2.Loc X.env.scope x ∧ (X.fn x = true ∨ X.env.scope.names.lookup x = some .local) := by
  unfold nmSt at h
  unfold L2.Loc
  rw [G.sc, G.fn]
  split at h
  · rename_i e; exact ⟨.inl e, .inr e⟩
  · rename_i e; exact ⟨.inr e, .inl h⟩
  · cases h
theorem pn_of {x : Str} (h : plainNm x = true) : (x == ("__debug__" : Str)) = false ∧ (x == ("__classdict__" : Str)) = false := by
  obtain ⟨h1, h2⟩ := an h
  exact ⟨by simpa using h1, by simpa using h2⟩
theorem gl_of (G : Good nm X) {x : Str} (h : isGl nm x = true) : Gl X x ∧ (x == ("__debug__" : Str)) = false := by
  obtain ⟨h1, h2⟩ := an h
  refine ⟨?_, (pn_of h2).1⟩
  show X.env.scope.names.lookup x = _
  rw [G.sc]
  exact dc h1
theorem u1 (G : Good nm X) : X.A.units + 1 < cLine := by have := G.room.un; omega
theorem u65 (G : Good nm X) : X.A.units + 65 < cLine := by have := G.room.un; omega
theorem kwEq (h : kwOf X = kwOf X) : True := trivial
/-- into a comprehension's block -/
theorem Env1.blk {s : Shared} {H : Hp} {C : Addr} {cl : List (Str × Addr)} {fp : List Addr} {scope : Scope} (E : Env1 T nm k X) (hs : scope.kind = .function) : Env1 T (nm.blk scope) k (X.blk s H scope (compEnvC scope cl C X.env) fp) where
  good := {
    N := E.good.N
    nd := E.good.nd
    sc := by
      show relabel scope X.env = relS scope nm.sc
      have e : relabel scope X.env = relS scope X.env.scope := rfl
      rw [e, E.good.sc]
    kind := hs
    fn := fun x => rfl
    calm := E.good.calm
    xe := rfl
    gd := E.good.gd
    room := E.good.room
    blt := E.good.blt }
  room := E.room
  call := fun sh p x h1 h2 => ⟨(E.call sh p x h1 h2).ex⟩
  glb := E.glb
theorem own_ix (G : Good nm X) : ∀ (own : List Nat), (ownP nm own).map (·.2) = own
  | [] => rfl
  | i :: r => by show i :: (ownP nm r).map (·.2) = _; rw [own_ix G r]
theorem bad {α : Prop} (h : false = true) : α := absurd h Bool.false_ne_true

variable {Γ : Cfg}
theorem l_star {a : Expr} {p : Pos} {es : List Expr} {ea : E} {el : EL} (ha : PE X a (rdE X Γ ea)) (hr : PA X es (rdL X Γ el)) : PA X (.Starred a p :: es) (rdL X Γ (.star ea el)) :=
  PA_imp (StX.pa_star ha hr) fun σ H Q ⟨g, Bs, env, st, ds, st', L, En, e, q⟩ => by
    rw [evL] at e
    obtain ⟨⟨d1, st1⟩, e1, e⟩ := bnd e
    obtain ⟨l, e2, e⟩ := bnd e
    obtain ⟨⟨d3, st3⟩, e3, e⟩ := mpd e
    cases e
    refine ⟨g, Bs, env, st, d1, st1, L, En, e1, fun v g1 H1 L1 x1 r1 => ?_⟩
    obtain ⟨a, vs, rfl, hq, rr⟩ := seq_at L1 r1 e2
    exact ⟨a, vs, rfl, hq.symm, g1, Bs, env, st1, d3, _, L1, En.mono x1, e3, fun us g2 H2 L2 x2 r2 => q _ _ _ L2 (x1.trans x2) ((rr.mono x2).append r2)⟩
theorem pt_pw {op : BoolOp} {vs : List Expr} {p : Pos} {t : TT} (h : PT X (.BoolOp op vs p) t) : PW X (.BoolOp op vs p) t := ⟨fun wh pins s σ H Q I q => h.run pins s σ H Q I q⟩

mutual
theorem sE : ∀ (e : E) (nm : Nm) (X : Cx) (x : Expr), Env1 T nm k X → chkE T.shp nm e x = true → PE X x (rdE X (cfg T k b) e)
  | .cst d, nm, X, x, G, h => by
    cases x with
    | Constant c n p =>
      have h' : cstOk d c = true := h
      cases d <;> cases c <;> first | exact bad h' | skip
      · exact s_non
      · have e := eq_of_beq h'; subst e; exact s_bl
      · have e := dc h'; subst e; exact s_int
      · rename_i s z
        have e : s = z.cps.toList := dc h'
        subst e
        have : z = str_ z.cps.toList := by simp [str_]
        rw [this]
        have e2 : (str_ z.cps.toList).cps.toList = z.cps.toList := by simp [str_]
        rw [e2]
        exact s_str
    | _ => exact bad h
  | .var i, nm, X, x, G, h => by
    cases x with
    | Name y p =>
      obtain ⟨h1, h2⟩ := an (show isVar nm i y = true from h)
      obtain ⟨h2, h3⟩ := an h2
      exact s_var (by rw [G.good.N]; exact dc h1) (vis_of (sc := nm.sc) G.good h2) (pn_of h3).1 (pn_of h3).2
    | _ => exact bad h
  | .glb j, nm, X, x, G, h => by
    cases x with
    | Name y p =>
      obtain ⟨h1, h2⟩ := an (show (decide (nm.glb[j]? = some y) && isGl nm y) = true from h)
      obtain ⟨d, v, u, h3, h4, h5, h6⟩ := G.glb j y (dc h1)
      obtain ⟨g1, g2⟩ := gl_of G.good h2
      exact s_glb g1 h4 h5 g2 h3 h6
    | _ => exact bad h
  | .bin o a b c, nm, X, x, G, h => by
    cases x with
    | BinOp l op r p =>
      obtain ⟨h1, h2⟩ := an (show (decide (op = bopOf o) && (chkE T.shp nm a l && chkE T.shp nm b r)) = true from h)
      obtain ⟨h2, h3⟩ := an h2
      have e := dc h1
      subst e
      exact s_bin (sE a nm X l G h2) (sE b nm X r G h3)
    | _ => exact bad h
  | .neg a, nm, X, x, G, h => by
    cases x with
    | UnaryOp op y p =>
      cases op with
      | USub => exact s_neg (sE a nm X y G (show chkE T.shp nm a y = true from h))
      | _ => exact bad h
    | _ => exact bad h
  | .nt a, nm, X, x, G, h => by
    cases x with
    | UnaryOp op y p =>
      cases op with
      | Not => exact s_nt (sE a nm X y G (show chkE T.shp nm a y = true from h))
      | _ => exact bad h
    | _ => exact bad h
  | .and a b, nm, X, x, G, h => by
    cases x with
    | BoolOp op vs p =>
      cases op with
      | And =>
        cases vs with
        | nil => exact bad h
        | cons y vs =>
          cases vs with
          | nil => exact bad h
          | cons z r =>
            cases r with
            | nil =>
              obtain ⟨h1, h2⟩ := an (show (chkE T.shp nm a y && chkE T.shp nm b z) = true from h)
              exact s_and (sE a nm X y G h1) (s_and1 (sE b nm X z G h2))
            | cons w r =>
              obtain ⟨h1, h2⟩ := an (show (chkE T.shp nm a y && chkE T.shp nm b (.BoolOp .And (z :: w :: r) p)) = true from h)
              exact s_and (sE a nm X y G h1) (sE b nm X _ G h2)
      | _ => exact bad h
    | _ => exact bad h
  | .or a b, nm, X, x, G, h => by
    cases x with
    | BoolOp op vs p =>
      cases op with
      | Or =>
        cases vs with
        | nil => exact bad h
        | cons y vs =>
          cases vs with
          | nil => exact bad h
          | cons z r =>
            cases r with
            | nil =>
              obtain ⟨h1, h2⟩ := an (show (chkE T.shp nm a y && chkE T.shp nm b z) = true from h)
              exact s_or (sE a nm X y G h1) (s_and1 (sE b nm X z G h2))
            | cons w r =>
              obtain ⟨h1, h2⟩ := an (show (chkE T.shp nm a y && chkE T.shp nm b (.BoolOp .Or (z :: w :: r) p)) = true from h)
              exact s_or (sE a nm X y G h1) (sE b nm X _ G h2)
      | _ => exact bad h
    | _ => exact bad h
  | .cmp a l, nm, X, x, G, h => by
    cases x with
    | Compare y ops cs p =>
      obtain ⟨h1, h2⟩ := an (show (chkE T.shp nm a y && chkC T.shp nm l ops cs) = true from h)
      exact s_cmp (sE a nm X y G h1) (sC l nm X ops cs G h2)
    | _ => exact bad h
  | .ife t a b, nm, X, x, G, h => by
    cases x with
    | IfExp c y z p =>
      obtain ⟨h1, h2⟩ := an (show (chkT T.shp nm t c && (chkE T.shp nm a y && chkE T.shp nm b z)) = true from h)
      obtain ⟨h2, h3⟩ := an h2
      exact s_ife (sT t nm X c G h1) (sE a nm X y G h2) (sE b nm X z G h3)
    | _ => exact bad h
  | .tup es, nm, X, x, G, h => by
    cases x with
    | Tuple xs n p => exact s_tup (sL es nm X xs G (show chkL T.shp nm es xs = true from h))
    | _ => exact bad h
  | .lst es c, nm, X, x, G, h => by
    cases x with
    | List xs p => exact s_lst (sL es nm X xs G (show chkL T.shp nm es xs = true from h))
    | _ => exact bad h
  | .dic ps c, nm, X, x, G, h => by
    cases x with
    | Dict ks vs p =>
      cases ks with
      | nil =>
        cases vs with
        | nil =>
          cases ps with
          | nil => exact s_dnil
          | cons _ _ _ => exact bad h
        | cons _ _ => cases ps <;> exact bad h
      | cons k1 ks =>
        have h0 : (chkP T.shp nm ps (k1 :: ks) vs && decide ((k1 :: ks).length ≤ 15)) = true := by cases ps <;> exact h
        obtain ⟨h1, h2⟩ := an h0
        obtain ⟨p1, p2, p3⟩ := sP ps nm X (k1 :: ks) vs p G h1
        exact s_dic p1 p2 p3 (by simp) (dc h2)
    | _ => cases ps <;> exact bad h
  | .idx a i, nm, X, x, G, h => by
    cases x with
    | Subscript v s p =>
      have h0 : (chkE T.shp nm a v && (chkE T.shp nm i s && notSlice s)) = true := h
      obtain ⟨h1, h2⟩ := an h0
      obtain ⟨h2, h3⟩ := an h2
      exact s_idx (u1 G.good) (sE a nm X v G h1) (sE i nm X s G h2) (by
        intro o j
        cases s <;> first | rfl | exact bad h3)
    | _ => exact bad h
  | .slc a lo hi c, nm, X, x, G, h => by
    cases x with
    | Subscript v s p =>
      cases s with
      | Slice l u st p2 =>
        cases st with
        | none =>
          obtain ⟨h1, h2⟩ := an (show (chkE T.shp nm a v && (chkO T.shp nm lo l && chkO T.shp nm hi u)) = true from h)
          obtain ⟨h2, h3⟩ := an h2
          exact s_slc (sE a nm X v G h1) (sO lo nm X l G h2) (sO hi nm X u G h3)
        | some _ => exact bad h
      | _ => exact bad h
    | _ => exact bad h
  | .rgv t c ea, nm, X, x, G, h => by
    cases x with
    | Call f args kws p =>
      cases f with
      | Name x p1 =>
        cases args with
        | nil => exact bad h
        | cons b bs =>
          cases bs with
          | cons _ _ => exact absurd h (by simp [chkE])
          | nil =>
            cases kws with
            | cons _ _ => exact absurd h (by simp [chkE])
            | nil =>
              cases b with
              | Call f2 args2 kws2 p3 =>
                cases f2 with
                | Name y p2 =>
                  cases args2 with
                  | nil => exact bad h
                  | cons a as =>
                    cases as with
                    | cons _ _ => exact bad h
                    | nil =>
                      cases kws2 with
                      | cons _ _ => exact bad h
                      | nil =>
                        obtain ⟨h1, h⟩ := an (show (decide (x = Str.ofString (nstOut t)) && (isGl nm x && (decide (x ∈ nm.blt) && (decide (y = Str.ofString (nstIn t)) && (isGl nm y && (decide (y ∈ nm.blt) && (notStar a && chkE T.shp nm ea a))))))) = true from h)
                        obtain ⟨h2, h⟩ := an h
                        obtain ⟨h3, h⟩ := an h
                        obtain ⟨h4, h⟩ := an h
                        obtain ⟨h5, h⟩ := an h
                        obtain ⟨h6, h⟩ := an h
                        obtain ⟨h7, h8⟩ := an h
                        exact s_rgv G.good.calm (gl_of G.good h2).1 (G.good.blt x (dc h3)) (dc h1) (gl_of G.good h5).1 (G.good.blt y (dc h6)) (dc h4) h7 (sE ea nm X a G h8)
                | _ => exact bad h
              | _ => exact bad h
      | _ => exact bad h
    | _ => exact bad h
  | .rev a c, nm, X, x, G, h => by
    cases x with
    | Subscript v s p =>
      cases s with
      | Slice l u st p2 =>
        cases l with
        | some _ => exact bad h
        | none =>
        cases u with
        | some _ => exact bad h
        | none =>
        cases st with
        | none => exact bad h
        | some st =>
          cases st with
          | UnaryOp op z p3 =>
            cases op with
            | USub =>
              cases z with
              | Constant cc n p4 =>
                cases cc with
                | int k1 =>
                  obtain ⟨h1, h2⟩ := an (show (decide (k1 = 1) && chkE T.shp nm a v) = true from h)
                  have e := dc h1
                  subst e
                  exact s_rev (sE a nm X v G h2)
                | _ => exact bad h
              | _ => exact bad h
            | _ => exact bad h
          | _ => exact bad h
      | _ => exact bad h
    | _ => exact bad h
  | .call sh es kl, nm, X, x, G, h => by
    cases x with
    | Call f args kws p =>
      cases f with
      | Name y p2 =>
        have h0 : (match T.shp[sh]? with
          | some p => decide (nm.defs[p.f]? = some y) && (isGl nm y && (args.all notStar && (decide (kwNames kws = some (p.ks.map str_)) && (chkL T.shp nm es args && chkK T.shp nm kl kws))))
          | none => false) = true := h
        split at h0
        · rename_i p hp
          obtain ⟨h1, h2⟩ := an h0
          obtain ⟨h2, h3⟩ := an h2
          obtain ⟨h3, h4⟩ := an h3
          obtain ⟨h4, h5⟩ := an h4
          obtain ⟨h5, h6⟩ := an h5
          obtain ⟨g1, g2⟩ := gl_of G.good h2
          exact s_call (G.call sh p y hp (dc h1)) G.room G.good.gd g1 g2 hp h3 (dc h4) (fun e => by
            subst e
            cases es <;> first | rfl | exact bad h5) (sL es nm X args G h5) (sK kl nm X kws G h6)
        · exact bad h0
      | _ => exact bad h
    | _ => exact bad h
  | .blt bl es c, nm, X, x, G, h => by
    cases x with
    | Call f args kws p =>
      cases f with
      | Name y p2 =>
        cases args with
        | nil => exact bad h
        | cons a args =>
        cases kws with
        | cons _ _ => exact bad h
        | nil =>
          obtain ⟨h1, h2⟩ := an (show (decide (y = Str.ofString (bltName bl)) && (isGl nm y && (decide (y ∈ nm.blt) && ((a :: args).all notStar && chkL T.shp nm es (a :: args))))) = true from h)
          obtain ⟨h2, h3⟩ := an h2
          obtain ⟨h3, h4⟩ := an h3
          obtain ⟨h4, h5⟩ := an h4
          exact s_blt G.good.calm G.good.gd (u65 G.good) (gl_of G.good h2).1 (G.good.blt y (dc h3)) (dc h1) h4 (sL es nm X (a :: args) G h5)
      | _ => exact bad h
    | _ => exact bad h
  | .isi a t, nm, X, x, G, h => by
    cases x with
    | Call f args kws p =>
      cases f with
      | Name y p2 =>
        cases args with
        | nil => exact bad h
        | cons v args =>
        cases args with
        | nil => exact bad h
        | cons w args =>
        cases args with
        | cons _ _ => cases w <;> exact bad h
        | nil =>
        cases w with
        | Name z p3 =>
          cases kws with
          | cons _ _ => exact bad h
          | nil =>
            obtain ⟨h1, h2⟩ := an (show (decide (y = "isinstance") && (isGl nm y && (decide (y ∈ nm.blt) && (decide (z = Str.ofString (tyName t)) && (isGl nm z && (decide (z ∈ nm.blt) && (decide (t ≠ .nonT) && (notStar v && chkE T.shp nm a v)))))))) = true from h)
            obtain ⟨h2, h3⟩ := an h2
            obtain ⟨h3, h4⟩ := an h3
            obtain ⟨h4, h5⟩ := an h4
            obtain ⟨h5, h6⟩ := an h5
            obtain ⟨h6, h7⟩ := an h6
            obtain ⟨h7, h8⟩ := an h7
            obtain ⟨h8, h9⟩ := an h8
            exact s_isi (dc h7) (gl_of G.good h2).1 (G.good.blt y (dc h3)) (dc h1) (gl_of G.good h5).1 (G.good.blt z (dc h6)) (dc h4) h8 (sE a nm X v G h9)
        | _ => exact bad h
      | _ => exact bad h
    | _ => exact bad h
  | .met m o es, nm, X, x, G, h => by
    cases x with
    | Call f args kws p =>
      cases f with
      | Attribute ov y apos =>
        cases kws with
        | cons _ _ => exact bad h
        | nil =>
          obtain ⟨h1, h2⟩ := an (show (decide (y = Str.ofString (metNm m)) && (decide (m ≠ .update) && (plainRcv ov && ((apos.endLine == p.line) && (args.all notStar && (decide (args.length < 30) && (chkE T.shp nm o ov && chkL T.shp nm es args))))))) = true from h)
          obtain ⟨k2, k3⟩ := an h2
          obtain ⟨k4, k5⟩ := an k3
          obtain ⟨k6, k7⟩ := an k5
          obtain ⟨k8, k9⟩ := an k7
          obtain ⟨m1, m2⟩ := an k9
          obtain ⟨m3, m4⟩ := an m2
          have hm : m ≠ .update := dc k2
          have po := sE o nm X ov G m3
          have pl := sL es nm X args G m4
          have hy : y = Str.ofString (metNm m) := dc h1
          have hz : args.length < 30 := dc m1
          cases args with
          | nil =>
            have e : es = .nil := by cases es <;> first | rfl | exact bad m4
            subst e
            exact s_met0 (u65 G.good) hm po hy k4 k6
          | cons a args => exact s_met (u65 G.good) hm po pl k8 hz hy k4 k6
      | _ => exact bad h
    | _ => exact bad h
  | .lc t it fs e own c, nm, X, x, G, h => by
    cases x with
    | ListComp elt gs scope p =>
      cases gs with
      | nil => exact bad h
      | cons g1 gs =>
      obtain ⟨tg, iter, ifs, ac⟩ := g1
      cases gs with
      | cons _ _ => exact bad h
      | nil =>
        obtain ⟨h1, h2⟩ := an (show (decide (ac = 0) && (chkI T.shp nm it tg iter && (notSet iter && (blkC nm.N nm.sc scope (ownP nm own) && ((slotsT t).all (fun j => own.contains j) && (chkG T.shp (nm.blk scope) t tg && (chkF T.shp (nm.blk scope) fs ifs && chkE T.shp (nm.blk scope) e elt))))))) = true from h)
        obtain ⟨h2, h3⟩ := an h2
        obtain ⟨h3, h4⟩ := an h3
        obtain ⟨h4, h5⟩ := an h4
        obtain ⟨h5, h6⟩ := an h5
        obtain ⟨h6, h7⟩ := an h6
        obtain ⟨h7, h8⟩ := an h7
        have e0 := dc h1
        subst e0
        have ok : BlkOk X.N X.env.scope scope (ownP nm own) := by rw [G.good.N, G.good.sc]; exact blkOk_by h4
        exact s_lc (own := ownP nm own) G.good.calm (by rw [G.good.N]; exact G.good.nd) (sI it nm X tg iter G h2) ok
          (fun s H C cl fp => sG t (nm.blk scope) _ tg (G.blk ok.kind) h6)
          (fun s H C cl fp => sF fs (nm.blk scope) _ ifs (G.blk ok.kind) h7)
          (fun s H C cl fp => sE e (nm.blk scope) _ elt (G.blk ok.kind) h8)
          (fun a b c z => by rw [z] at h3; exact bad h3) (own_ix G.good own) (fun j hj => by
            have := List.all_eq_true.mp h5 j hj
            simpa using this)
    | _ => exact bad h
  | .dc t it fs ek ev own c, nm, X, x, G, h => by
    cases x with
    | DictComp kx vx gs scope p =>
      cases gs with
      | nil => exact bad h
      | cons g1 gs =>
      obtain ⟨tg, iter, ifs, ac⟩ := g1
      cases gs with
      | cons _ _ => exact bad h
      | nil =>
        obtain ⟨h1, h2⟩ := an (show (decide (ac = 0) && (chkI T.shp nm it tg iter && (notSet iter && (blkC nm.N nm.sc scope (ownP nm own) && ((slotsT t).all (fun j => own.contains j) && (chkG T.shp (nm.blk scope) t tg && (chkF T.shp (nm.blk scope) fs ifs && (chkE T.shp (nm.blk scope) ek kx && chkE T.shp (nm.blk scope) ev vx)))))))) = true from h)
        obtain ⟨h2, h3⟩ := an h2
        obtain ⟨h3, h4⟩ := an h3
        obtain ⟨h4, h5⟩ := an h4
        obtain ⟨h5, h6⟩ := an h5
        obtain ⟨h6, h7⟩ := an h6
        obtain ⟨h7, h8⟩ := an h7
        obtain ⟨h8, h9⟩ := an h8
        have e0 := dc h1
        subst e0
        have ok : BlkOk X.N X.env.scope scope (ownP nm own) := by rw [G.good.N, G.good.sc]; exact blkOk_by h4
        exact s_dc (own := ownP nm own) G.good.calm (by rw [G.good.N]; exact G.good.nd) (sI it nm X tg iter G h2) ok
          (fun s H C cl fp => sG t (nm.blk scope) _ tg (G.blk ok.kind) h6)
          (fun s H C cl fp => sF fs (nm.blk scope) _ ifs (G.blk ok.kind) h7)
          (fun s H C cl fp => sE ek (nm.blk scope) _ kx (G.blk ok.kind) h8)
          (fun s H C cl fp => sE ev (nm.blk scope) _ vx (G.blk ok.kind) h9)
          (fun a b c z => by rw [z] at h3; exact bad h3) (own_ix G.good own) (fun j hj => by
            have := List.all_eq_true.mp h5 j hj
            simpa using this)
    | _ => exact bad h
theorem sT : ∀ (t : Te) (nm : Nm) (X : Cx) (x : Expr), Env1 T nm k X → chkT T.shp nm t x = true → PT X x (rdT X (cfg T k b) t)
  | .ex e, nm, X, x, G, h => by
    obtain ⟨h1, h2⟩ := an (show (truArm x && chkE T.shp nm e x) = true from h)
    refine t_ex (sE e nm X x G h2) (fun whole => ?_)
    cases x with
    | UnaryOp op _ _ => cases op <;> first | rfl | exact bad h1
    | BoolOp _ _ _ => exact bad h1
    | IfExp _ _ _ _ => exact bad h1
    | Compare _ _ _ _ => exact bad h1
    | _ => rfl
  | .nt t, nm, X, x, G, h => by
    cases x with
    | UnaryOp op y p =>
      cases op with
      | Not => exact t_not (sT t nm X y G (show chkT T.shp nm t y = true from h))
      | _ => exact bad h
    | _ => exact bad h
  | .and a b, nm, X, x, G, h => by
    cases x with
    | BoolOp op vs p =>
      cases op with
      | And =>
        cases vs with
        | nil => exact bad h
        | cons y vs =>
          cases vs with
          | nil => exact bad h
          | cons z r =>
            cases r with
            | nil =>
              obtain ⟨h1, h2⟩ := an (show (chkT T.shp nm a y && chkT T.shp nm b z) = true from h)
              exact (t_and (sT a nm X y G h1) (pw_and1 (sT b nm X z G h2))).pt
            | cons w r =>
              obtain ⟨h1, h2⟩ := an (show (chkT T.shp nm a y && chkT T.shp nm b (.BoolOp .And (z :: w :: r) p)) = true from h)
              exact (t_and (sT a nm X y G h1) (pt_pw (sT b nm X _ G h2))).pt
      | _ => exact bad h
    | _ => exact bad h
  | .or a b, nm, X, x, G, h => by
    cases x with
    | BoolOp op vs p =>
      cases op with
      | Or =>
        cases vs with
        | nil => exact bad h
        | cons y vs =>
          cases vs with
          | nil => exact bad h
          | cons z r =>
            cases r with
            | nil =>
              obtain ⟨h1, h2⟩ := an (show (chkT T.shp nm a y && chkT T.shp nm b z) = true from h)
              exact (t_or (sT a nm X y G h1) (pw_or1 (sT b nm X z G h2))).pt
            | cons w r =>
              obtain ⟨h1, h2⟩ := an (show (chkT T.shp nm a y && chkT T.shp nm b (.BoolOp .Or (z :: w :: r) p)) = true from h)
              exact (t_or (sT a nm X y G h1) (pt_pw (sT b nm X _ G h2))).pt
      | _ => exact bad h
    | _ => exact bad h
  | .cmp a l, nm, X, x, G, h => by
    cases x with
    | Compare y ops cs p =>
      obtain ⟨h1, h2⟩ := an (show (chkE T.shp nm a y && chkC T.shp nm l ops cs) = true from h)
      exact t_cmp (sE a nm X y G h1) (sC l nm X ops cs G h2)
    | _ => exact bad h
  | .ife t a b, nm, X, x, G, h => by
    cases x with
    | IfExp c y z p =>
      obtain ⟨h1, h2⟩ := an (show (chkT T.shp nm t c && (chkT T.shp nm a y && chkT T.shp nm b z)) = true from h)
      obtain ⟨h2, h3⟩ := an h2
      exact t_ife (sT t nm X c G h1) (sT a nm X y G h2) (sT b nm X z G h3)
    | _ => exact bad h
theorem sC : ∀ (l : CL) (nm : Nm) (X : Cx) (ops : List CmpOp) (cs : List Expr), Env1 T nm k X → chkC T.shp nm l ops cs = true → PCh X ops cs (rdC X (cfg T k b) l)
  | .one o e, nm, X, ops, cs, G, h => by
    cases ops with
    | nil => exact bad h
    | cons op ops =>
    cases ops with
    | cons _ _ => exact bad h
    | nil =>
    cases cs with
    | nil => exact bad h
    | cons x cs =>
    cases cs with
    | cons _ _ => exact bad h
    | nil =>
      obtain ⟨h1, h2⟩ := an (show (decide (op = copOf o) && (!behindInMarks op x && chkE T.shp nm e x)) = true from h)
      obtain ⟨h2, h3⟩ := an h2
      have e := dc h1
      subst e
      exact c_one (u65 G.good) (sE _ nm X x G h3) (by simpa using h2)
  | .cons o e r, nm, X, ops, cs, G, h => by
    cases ops with
    | nil => exact bad h
    | cons op ops =>
    cases cs with
    | nil => exact bad h
    | cons x cs =>
      obtain ⟨h1, h2⟩ := an (show (decide (op = copOf o) && (chkE T.shp nm e x && chkC T.shp nm r ops cs)) = true from h)
      obtain ⟨h2, h3⟩ := an h2
      have e := dc h1
      subst e
      exact c_cons (u65 G.good) (sE _ nm X x G h2) (sC r nm X ops cs G h3)
theorem sO : ∀ (o : OE) (nm : Nm) (X : Cx) (x : Option Expr), Env1 T nm k X → chkO T.shp nm o x = true → PO X x (rdO X (cfg T k b) o)
  | .no, nm, X, x, G, h => by
    cases x with
    | none => exact o_no
    | some _ => exact bad h
  | .yes e, nm, X, x, G, h => by
    cases x with
    | none => exact bad h
    | some x => exact o_yes (sE e nm X x G (show chkE T.shp nm e x = true from h))
theorem sL : ∀ (l : EL) (nm : Nm) (X : Cx) (xs : List Expr), Env1 T nm k X → chkL T.shp nm l xs = true → PA X xs (rdL X (cfg T k b) l)
  | .nil, nm, X, xs, G, h => by
    cases xs with
    | nil => exact l_nil
    | cons _ _ => exact bad h
  | .cons e r, nm, X, xs, G, h => by
    cases xs with
    | nil => exact bad h
    | cons x xs =>
      obtain ⟨h1, h2⟩ := an (show (notStar x && (chkE T.shp nm e x && chkL T.shp nm r xs)) = true from h)
      obtain ⟨h2, h3⟩ := an h2
      exact l_cons h1 (sE e nm X x G h2) (sL r nm X xs G h3)
  | .star e r, nm, X, xs, G, h => by
    cases xs with
    | nil => exact bad h
    | cons x xs =>
      cases x with
      | Starred x p =>
        obtain ⟨h1, h2⟩ := an (show (chkE T.shp nm e x && chkL T.shp nm r xs) = true from h)
        exact l_star (sE e nm X x G h1) (sL r nm X xs G h2)
      | _ => exact bad h
theorem sK : ∀ (l : EL) (nm : Nm) (X : Cx) (xs : List Keyword), Env1 T nm k X → chkK T.shp nm l xs = true → PK X xs (rdL X (cfg T k b) l)
  | .nil, nm, X, xs, G, h => by
    cases xs with
    | nil => exact k_nil
    | cons _ _ => exact bad h
  | .cons e r, nm, X, xs, G, h => by
    cases xs with
    | nil => exact bad h
    | cons x xs =>
      obtain ⟨n, x, p⟩ := x
      obtain ⟨h1, h2⟩ := an (show (chkE T.shp nm e x && chkK T.shp nm r xs) = true from h)
      exact k_cons (sE e nm X x G h1) (sK r nm X xs G h2)
  | .star _ _, nm, X, xs, G, h => by cases xs <;> exact bad h
theorem sP : ∀ (l : PL) (nm : Nm) (X : Cx) (ks : List (Option Expr)) (vs : List Expr) (pos : Pos), Env1 T nm k X → chkP T.shp nm l ks vs = true → PPs X pos ks vs (trsOf X (cfg T k b) l) ∧ ks.all (·.isSome) = true ∧ ks.length = vs.length
  | .nil, nm, X, ks, vs, pos, G, h => by
    cases ks with
    | nil =>
      cases vs with
      | nil => exact ⟨pps_nil, rfl, rfl⟩
      | cons _ _ => exact bad h
    | cons _ _ => exact bad h
  | .cons k v r, nm, X, ks, vs, pos, G, h => by
    cases ks with
    | nil => exact bad h
    | cons k1 ks =>
    cases k1 with
    | none => exact bad h
    | some x =>
    cases vs with
    | nil => exact bad h
    | cons y ys =>
      obtain ⟨h1, h2⟩ := an (show (chkE T.shp nm k x && (chkE T.shp nm v y && chkP T.shp nm r ks ys)) = true from h)
      obtain ⟨h2, h3⟩ := an h2
      obtain ⟨p1, p2, p3⟩ := sP r nm X ks ys pos G h3
      exact ⟨pps_cons (sE k nm X x G h1) (sE v nm X y G h2) p1, by simpa using p2, by simpa using p3⟩
theorem sF : ∀ (l : FL) (nm : Nm) (X : Cx) (cs : List Expr), Env1 T nm k X → chkF T.shp nm l cs = true → PTs X cs (rdF X (cfg T k b) l)
  | .nil, nm, X, cs, G, h => by
    cases cs with
    | nil => exact f_nil (env := X.env)
    | cons _ _ => exact bad h
  | .cons t r, nm, X, cs, G, h => by
    cases cs with
    | nil => exact bad h
    | cons c cs =>
    cases cs with
    | cons _ _ => exact bad h
    | nil =>
      obtain ⟨h1, h2⟩ := an (show (r.isNil && chkT T.shp nm t c) = true from h)
      cases r with
      | nil => exact f_one (sT t nm X c G h2)
      | cons _ _ => exact bad h1
theorem sI : ∀ (it : Mc.It) (nm : Nm) (X : Cx) (tg x : Expr), Env1 T nm k X → chkI T.shp nm it tg x = true → PI X tg x (rdI X (cfg T k b) it)
  | .ex e, nm, X, tg, x, G, h => i_ex (sE e nm X x G (show chkE T.shp nm e x = true from h))
  | .rng .nil, nm, X, tg, x, G, h => by cases x <;> exact bad h
  | .rng (.star _ _), nm, X, tg, x, G, h => by cases x <;> exact bad h
  | .rng (.cons a .nil), nm, X, tg, x, G, h => by
    cases x with
    | Call f args kws p =>
      cases f with
      | Name y p2 =>
        cases args with
        | nil => exact bad h
        | cons v args =>
        cases args with
        | cons _ _ => exact bad h
        | nil =>
        cases kws with
        | cons _ _ => exact bad h
        | nil =>
          obtain ⟨h1, h2⟩ := an (show (decide (y = "range") && (isGl nm y && (decide (y ∈ nm.blt) && (notStar v && chkE T.shp nm a v)))) = true from h)
          obtain ⟨h2, h3⟩ := an h2
          obtain ⟨h3, h4⟩ := an h3
          obtain ⟨h4, h5⟩ := an h4
          exact i_rng1 (dc h1) (gl_of G.good h2).1 (G.good.blt y (dc h3)) (sE a nm X v G h5) h4
      | _ => exact bad h
    | _ => exact bad h
  | .rng (.cons a (.cons b .nil)), nm, X, tg, x, G, h => by
    cases x with
    | Call f args kws p =>
      cases f with
      | Name y p2 =>
        cases args with
        | nil => exact bad h
        | cons v args =>
        cases args with
        | nil => exact bad h
        | cons u args =>
        cases args with
        | cons _ _ => exact bad h
        | nil =>
        cases kws with
        | cons _ _ => exact bad h
        | nil =>
          obtain ⟨h1, h2⟩ := an (show (decide (y = "range") && (isGl nm y && (decide (y ∈ nm.blt) && (notStar v && (notStar u && (chkE T.shp nm a v && chkE T.shp nm b u)))))) = true from h)
          obtain ⟨h2, h3⟩ := an h2
          obtain ⟨h3, h4⟩ := an h3
          obtain ⟨h4, h5⟩ := an h4
          obtain ⟨h5, h6⟩ := an h5
          obtain ⟨h6, h7⟩ := an h6
          exact i_rng2 (dc h1) (gl_of G.good h2).1 (G.good.blt y (dc h3)) (sE a nm X v G h6) (sE b nm X u G h7) h4 h5
      | _ => exact bad h
    | _ => exact bad h
  | .rng (.cons a (.cons b (.cons c .nil))), nm, X, tg, x, G, h => by
    cases x with
    | Call f args kws p =>
      cases f with
      | Name y p2 =>
        cases args with
        | nil => exact bad h
        | cons v args =>
        cases args with
        | nil => exact bad h
        | cons u args =>
        cases args with
        | nil => exact bad h
        | cons w args =>
        cases args with
        | cons _ _ => exact bad h
        | nil =>
        cases kws with
        | cons _ _ => exact bad h
        | nil =>
          obtain ⟨h1, h2⟩ := an (show (decide (y = "range") && (isGl nm y && (decide (y ∈ nm.blt) && (notStar v && (notStar u && (notStar w && (chkE T.shp nm a v && (chkE T.shp nm b u && chkE T.shp nm c w)))))))) = true from h)
          obtain ⟨h2, h3⟩ := an h2
          obtain ⟨h3, h4⟩ := an h3
          obtain ⟨h4, h5⟩ := an h4
          obtain ⟨h5, h6⟩ := an h5
          obtain ⟨h6, h7⟩ := an h6
          obtain ⟨h7, h8⟩ := an h7
          obtain ⟨h8, h9⟩ := an h8
          exact i_rng3 (dc h1) (gl_of G.good h2).1 (G.good.blt y (dc h3)) (sE a nm X v G h7) (sE b nm X u G h8) (sE c nm X w G h9) h4 h5 h6
      | _ => exact bad h
    | _ => exact bad h
  | .rng (.cons a (.cons b (.cons c (.cons _ _)))), nm, X, tg, x, G, h => by cases x <;> exact bad h
  | .rng (.cons a (.cons b (.cons c (.star _ _)))), nm, X, tg, x, G, h => by cases x <;> exact bad h
  | .rng (.cons a (.cons b (.star _ _))), nm, X, tg, x, G, h => by cases x <;> exact bad h
  | .rng (.cons a (.star _ _)), nm, X, tg, x, G, h => by cases x <;> exact bad h
  | .enu a, nm, X, tg, x, G, h => by
    cases tg with
    | Tuple elts kk tpos =>
      cases x with
      | Call f args kws p =>
        cases f with
        | Name y p2 =>
          cases args with
          | nil => exact bad h
          | cons v args =>
          cases args with
          | cons _ _ => exact bad h
          | nil =>
          cases kws with
          | cons _ _ => exact bad h
          | nil =>
            obtain ⟨h1, h2⟩ := an (show (decide (y = "enumerate") && (isGl nm y && (decide (y ∈ nm.blt) && (notStar v && chkE T.shp nm a v)))) = true from h)
            obtain ⟨h2, h3⟩ := an h2
            obtain ⟨h3, h4⟩ := an h3
            obtain ⟨h4, h5⟩ := an h4
            exact i_enu (dc h1) (gl_of G.good h2).1 (G.good.blt y (dc h3)) (sE a nm X v G h5) h4
        | _ => exact bad h
      | _ => exact bad h
    | _ => exact bad h
  | .zip a b, nm, X, tg, x, G, h => by
    cases tg with
    | Tuple elts kk tpos =>
      cases x with
      | Call f args kws p =>
        cases f with
        | Name y p2 =>
          cases args with
          | nil => exact bad h
          | cons v args =>
          cases args with
          | nil => exact bad h
          | cons u args =>
          cases args with
          | cons _ _ => exact bad h
          | nil =>
          cases kws with
          | cons _ _ => exact bad h
          | nil =>
            obtain ⟨h1, h2⟩ := an (show (decide (y = "zip") && (isGl nm y && (decide (y ∈ nm.blt) && (notStar v && (notStar u && (chkE T.shp nm a v && chkE T.shp nm b u)))))) = true from h)
            obtain ⟨h2, h3⟩ := an h2
            obtain ⟨h3, h4⟩ := an h3
            obtain ⟨h4, h5⟩ := an h4
            obtain ⟨h5, h6⟩ := an h5
            obtain ⟨h6, h7⟩ := an h6
            exact i_zip (dc h1) (gl_of G.good h2).1 (G.good.blt y (dc h3)) (sE a nm X v G h6) (sE b nm X u G h7) h4 h5
        | _ => exact bad h
      | _ => exact bad h
    | _ => exact bad h
  | .rev a, nm, X, tg, x, G, h => by
    cases x with
    | Call f args kws p =>
      cases f with
      | Name y p2 =>
        cases args with
        | nil => exact bad h
        | cons v args =>
        cases args with
        | cons _ _ => exact bad h
        | nil =>
        cases kws with
        | cons _ _ => exact bad h
        | nil =>
          obtain ⟨h1, h2⟩ := an (show (decide (y = "reversed") && (isGl nm y && (decide (y ∈ nm.blt) && (notStar v && chkE T.shp nm a v)))) = true from h)
          obtain ⟨h2, h3⟩ := an h2
          obtain ⟨h3, h4⟩ := an h3
          obtain ⟨h4, h5⟩ := an h4
          exact i_rev (dc h1) (gl_of G.good h2).1 (G.good.blt y (dc h3)) (sE a nm X v G h5) h4
      | _ => exact bad h
    | _ => exact bad h
theorem sG : ∀ (t : Tg) (nm : Nm) (X : Cx) (x : Expr), Env1 T nm k X → chkG T.shp nm t x = true → PG X x (rdG X (cfg T k b) t)
  | .name i, nm, X, x, G, h => by
    cases x with
    | Name y p =>
      obtain ⟨h1, h2⟩ := an (show isStv nm i y = true from h)
      obtain ⟨s1, s2⟩ := st_of G.good h2
      exact g_name (by rw [G.good.N]; exact G.good.nd) (by rw [G.good.N]; exact dc h1) s1 s2
    | _ => exact bad h
  | .tup ts, nm, X, x, G, h => by
    cases x with
    | Tuple es n p =>
      have h' : chkTL T.shp nm ts es = true := h
      obtain ⟨p1, p2, p3⟩ := sTL ts nm X es G h'
      cases hs : ts.starAt with
      | none =>
        rw [unstar_none ts hs] at p1
        exact g_tup G.good.calm p1 p2 (by rw [p3, hs]) hs
      | some j => exact g_tupS G.good.calm p1 (by rw [p2, star_len ts j hs]) (by rw [p3, hs]) hs
    | _ => exact bad h
  | .sub o i, nm, X, x, G, h => by
    cases x with
    | Subscript v s p =>
      obtain ⟨h1, h2⟩ := an (show (chkE T.shp nm o v && (chkE T.shp nm i s && notSlice s)) = true from h)
      obtain ⟨h2, h3⟩ := an h2
      exact g_sub (u1 G.good) (sE o nm X v G h1) (sE i nm X s G h2) h3
    | _ => exact bad h
theorem sTL : ∀ (t : TL) (nm : Nm) (X : Cx) (xs : List Expr), Env1 T nm k X → chkTL T.shp nm t xs = true → PGs X xs (rdGs X (cfg T k b) (unstar t)) ∧ (assignEach xs X.env).length = t.len ∧ (assignEach xs X.env).findIdx? (·.1) = t.starAt
  | .nil, nm, X, xs, G, h => by
    cases xs with
    | nil => exact ⟨gs_nil, rfl, rfl⟩
    | cons _ _ => exact bad h
  | .cons t r, nm, X, xs, G, h => by
    cases xs with
    | nil => exact bad h
    | cons x xs =>
      obtain ⟨h1, h2⟩ := an (show (notStar x && (chkG T.shp nm t x && chkTL T.shp nm r xs)) = true from h)
      obtain ⟨h2, h3⟩ := an h2
      obtain ⟨p1, p2, p3⟩ := sTL r nm X xs G h3
      refine ⟨gs_cons h1 (sG t nm X x G h2) p1, ?_, ?_⟩
      · rw [each_cons h1, List.length_cons, p2]; rfl
      · rw [each_cons h1, List.findIdx?_cons, if_neg Bool.false_ne_true, p3]; rfl
  | .star t, nm, X, xs, G, h => by
    cases xs with
    | nil => exact bad h
    | cons x xs =>
    cases x with
    | Starred x p =>
      cases xs with
      | nil => exact ⟨gs_star (sG t nm X x G (show chkG T.shp nm t x = true from h)), rfl, rfl⟩
      | cons _ _ => exact bad h
    | _ => exact bad h
theorem star_len : ∀ (t : TL) (j : Nat), t.starAt = some j → t.len = j + 1
  | .nil, j, h => by simp [TL.starAt] at h
  | .cons t r, j, h => by
    obtain ⟨j', h1, h2⟩ := mpd (show r.starAt.map (· + 1) = some j from h)
    subst h2
    simp only [TL.len, star_len r j' h1]
  | .star t, j, h => by
    have : j = 0 := by simpa [TL.starAt] using h.symm
    subst this
    rfl
end
end
end Mc

set_option linter.all false
set_option maxRecDepth 100000
set_option Elab.async false
set_option maxHeartbeats 4000000
namespace Mc
open PySem PySem.Spec PyProof.Rows L2

def namesP (sc : Scope) (line : Nat) (ts : List Expr) : List Str := ts.filterMap fun
  | .Name id pos => if (sc.names.lookup id == some .local && pos.line == line) = true then some id else none
  | _ => none
/-- a, b = x, y: none: not told; some none: the plain road; some names: another road -/
def swP (sc : Scope) (ts vs : List Expr) : Option (Option (List Str)) :=
  if (!(ts.length == 2 || ts.length == 3) || vs.length != ts.length) = true then some none else
  if (vs.any fun | .Starred .. => true | _ => false) = true then some none else
  if ((namesP sc ((ts.head?.map (·.pos.line)).getD 0) ts).length != ts.length || (namesP sc ((ts.head?.map (·.pos.line)).getD 0) ts).eraseDups.length != (namesP sc ((ts.head?.map (·.pos.line)).getD 0) ts).length) = true then some none else
  if vs.all (foldedForSure 8) = true then some none else
  if vs.all (constantsAlone 8) = true then none else some (some (namesP sc ((ts.head?.map (·.pos.line)).getD 0) ts))
theorem swP_ok {env : PySem.Env} {ts vs : List Expr} {a c : Nat} {b d : Pos} {r : Option (List Str)} (hk : env.blockKind = .function) (h : swP env.scope ts vs = some r) : swappedStores [.Tuple ts a b] (.Tuple vs c d) env = pure r := by
  have hb : (env.blockKind != ScopeKind.function) = false := by rw [hk]; rfl
  unfold swP at h
  show (if (!(ts.length == 2 || ts.length == 3) || vs.length != ts.length || env.blockKind != .function) = true then pure none else
    if (vs.any fun | .Starred .. => true | _ => false) = true then pure none else
    if ((namesP env.scope ((ts.head?.map (·.pos.line)).getD 0) ts).length != ts.length || (namesP env.scope ((ts.head?.map (·.pos.line)).getD 0) ts).eraseDups.length != (namesP env.scope ((ts.head?.map (·.pos.line)).getD 0) ts).length) = true then pure none else
    if vs.all (foldedForSure 8) = true then pure none else _) = _
  rw [hb, Bool.or_false]
  split at h
  · rename_i h1
    cases h
    rw [if_pos h1]
  · rename_i h1
    rw [if_neg h1]
    split at h
    · rename_i h2
      cases h
      rw [if_pos h2]
    · rename_i h2
      rw [if_neg h2]
      split at h
      · rename_i h3
        cases h
        rw [if_pos h3]
      · rename_i h3
        rw [if_neg h3]
        split at h
        · rename_i h4
          cases h
          rw [if_pos h4]
        · rename_i h4
          rw [if_neg h4]
          split at h
          · cases h
          · rename_i h5
            cases h
            show (if vs.all (constantsAlone 8) = true then _ else _) = _
            rw [if_neg h5]
            rfl
def isTup : Expr → Bool
  | .Tuple _ _ _ => true
  | _ => false
def isTupL : Expr → Bool
  | .Tuple _ _ _ => true
  | .List _ _ => true
  | _ => false
theorem sw_none {tg v : Expr} {env : PySem.Env} (h : isTupL tg = false ∨ isTup v = false) : swappedStores [tg] v env = pure none := by
  rcases h with h | h
  · cases tg <;> first | (simp [isTupL] at h; done) | skip
    all_goals (cases v <;> rfl)
  · cases v <;> first | (simp [isTup] at h; done) | skip
    all_goals (cases tg <;> rfl)
def swapsB (sc : Scope) (v tg : Expr) : Bool :=
  match v, tg with
  | .ListComp _ _ s p, .Name t tp => sc.names.lookup t == some .local && tp.line == p.line && !(s.names.any fun (n, k) => n == t && (k == .local || k == .cell))
  | .DictComp _ _ _ s p, .Name t tp => sc.names.lookup t == some .local && tp.line == p.line && !(s.names.any fun (n, k) => n == t && (k == .local || k == .cell))
  | _, _ => false
def lcOnly : Expr → Bool
  | .SetComp _ _ _ _ => false
  | _ => true
theorem swapsB_ok {env : PySem.Env} {v tg : Expr} {n : Nat} (hk : env.blockKind = .function) (hv : lcOnly v = true) : swapsWithSole [tg] v n env = pure (swapsB env.scope v tg) := by
  show swapsWith v (some tg) n env = _
  cases v <;> first | (simp [lcOnly] at hv; done) | skip
  case ListComp elt gs s p =>
    cases tg <;> first | rfl | skip
    rename_i t tp
    show (do return env.blockKind == .function && env.kindOf t == some .local && tp.line == p.line && !(s.names.any fun (n, k) => n == t && (k == .local || k == .cell)) : Sem Bool) = _
    rw [hk]
    rfl
  case DictComp kx vx gs s p =>
    cases tg <;> first | rfl | skip
    rename_i t tp
    show (do return env.blockKind == .function && env.kindOf t == some .local && tp.line == p.line && !(s.names.any fun (n, k) => n == t && (k == .local || k == .cell)) : Sem Bool) = _
    rw [hk]
    rfl
  all_goals (cases tg <;> rfl)

def isLoc (nm : Nm) (i : Nat) (x : Str) : Bool := decide (nm.N[i]? = some x) && decide (nm.sc.names.lookup x = some .local)
def chkPar (sp : List Shp) (nm : Nm) (t : Tg) (e : E) (tg v : Expr) : Bool :=
  match t, e, tg, v with
  | .tup (.cons (.name i) (.cons (.name j) .nil)), .tup (.cons a (.cons b .nil)), .Tuple [.Name x p, .Name y q] _ _, .Tuple [u, w] _ _ =>
    decide (swP nm.sc [.Name x p, .Name y q] [u, w] = some (some [x, y])) && (isLoc nm i x && (isLoc nm j y && (decide (i ≠ j) && (notStar u && (notStar w && (chkE sp nm a u && chkE sp nm b w))))))
  | .tup (.cons (.name i) (.cons (.name j) (.cons (.name l) .nil))), .tup (.cons a (.cons b (.cons c .nil))), .Tuple [.Name x p, .Name y q, .Name z r] _ _, .Tuple [u, w, o] _ _ =>
    decide (swP nm.sc [.Name x p, .Name y q, .Name z r] [u, w, o] = some (some [x, y, z])) && (isLoc nm i x && (isLoc nm j y && (isLoc nm l z && (decide (i ≠ j) && (decide (i ≠ l) && (decide (j ≠ l) && (notStar u && (notStar w && (notStar o && (chkE sp nm a u && (chkE sp nm b w && chkE sp nm c o)))))))))))
  | _, _, _, _ => false
def plainSw (nm : Nm) (tg v : Expr) : Bool :=
  match tg, v with
  | .Tuple ts _ _, .Tuple vs _ _ => decide (swP nm.sc ts vs = some none)
  | tg, v => !isTupL tg || !isTup v
def chkAsg (sp : List Shp) (nm : Nm) (t : Tg) (e : E) (tg v : Expr) : Bool :=
  chkPar sp nm t e tg v || (lcOnly v && (notStar tg && (chkG sp nm t tg && (chkE sp nm e v && (plainSw nm tg v && (match swapsB nm.sc v tg with
    | true => match t with
      | .name _ => true
      | _ => false
    | false => true))))))
mutual
def chkS (sp : List Shp) (nm : Nm) : S → Stmt → Bool
  | .asg t e, .Assign [tg] v _ => chkAsg sp nm t e tg v
  | .augS a i o e, .AugAssign (.Subscript oa (.Name y p1) _) op v _ => decide (op = bopOf o) && ((decide (o = .add) || decide (o = .sub)) && (chkE sp nm a oa && (chkE sp nm i (.Name y p1) && chkE sp nm e v)))
  | .aug i o e, .AugAssign (.Name x _) op v _ => isStv nm i x && (decide (op = bopOf o) && ((decide (o = .add) || decide (o = .sub)) && chkE sp nm e v))
  | .ex e, .Expr v _ => noComp v && chkE sp nm e v
  | .ret e, .Return (some v) _ => chkE sp nm e v
  | .retN, .Return none _ => true
  | .iff t a b, .If c x y _ => chkT sp nm t c && (chkB sp nm a x && chkB sp nm b y)
  | .for_ t it b, .For tg iter body [] _ => chkI sp nm it tg iter && (notSet iter && (chkG sp nm t tg && chkB sp nm b body))
  | .whl t b, .While c body [] _ => chkT sp nm t c && chkB sp nm b body
  | .mat e cs, .Match v ms _ => chkE sp nm e v && chkM sp nm cs ms
  | .pass, .Pass _ => true
  | .brk, .Break _ => true
  | .cnt, .Continue _ => true
  | _, _ => false
def chkB (sp : List Shp) (nm : Nm) : SL → List Stmt → Bool
  | .nil, [] => true
  | .cons s r, x :: xs => chkS sp nm s x && chkB sp nm r xs
  | _, _ => false
def chkM (sp : List Shp) (nm : Nm) : ML → List MatchCase → Bool
  | .nil, [] => true
  | .val zs b r, ⟨p, none, body⟩ :: cs => decide (patS p = some zs) && (chkB sp nm b body && chkM sp nm r cs)
  | .any b _, ⟨p, none, body⟩ :: _ => isWild p && chkB sp nm b body
  | _, _ => false
end
section
variable {T : Tab} {k b : Nat}
theorem bk_of {nm : Nm} {X : Cx} (G : Good nm X) : X.env.blockKind = .function := by
  unfold Env.blockKind
  rw [G.sc, G.kind]
  rfl
theorem loc_of {nm : Nm} {X : Cx} (G : Good nm X) {i : Nat} {x : Str} (h : isLoc nm i x = true) : X.N[i]? = some x ∧ X.env.scope.names.lookup x = some .local := by
  obtain ⟨h1, h2⟩ := an h
  exact ⟨by rw [G.N]; exact dc h1, by rw [G.sc]; exact dc h2⟩
theorem sAsg (t : Tg) (e : E) (nm : Nm) (X : Cx) (tg v : Expr) (pos : Pos) (G : Env1 T nm k X) (h : chkAsg T.shp nm t e tg v = true) : PS X (.Assign [tg] v pos) (rdS X (cfg T k b) (.asg t e)) := by
  have hnd : X.N.Nodup := by rw [G.good.N]; exact G.good.nd
  have hk := bk_of G.good
  unfold chkAsg at h
  rw [Bool.or_eq_true] at h
  rcases h with h | h
  · unfold chkPar at h
    split at h
    · rename_i i j a bb x p q y q2 r u w r2 r3
      obtain ⟨h1, h2⟩ := an h
      obtain ⟨h2, h3⟩ := an h2
      obtain ⟨h3, h4⟩ := an h3
      obtain ⟨h4, h5⟩ := an h4
      obtain ⟨h5, h6⟩ := an h5
      obtain ⟨h6, h7⟩ := an h6
      obtain ⟨h7, h8⟩ := an h7
      obtain ⟨a1, a2⟩ := loc_of G.good h2
      obtain ⟨b1, b2⟩ := loc_of G.good h3
      have hsw := dc h1
      rw [← G.good.sc] at hsw
      exact s_par G.good.calm hnd a1 b1 (dc h4) a2 b2 (sE _ nm X _ G h7) (sE _ nm X _ G h8) h5 h6 (swP_ok hk hsw)
    · obtain ⟨h1, h2⟩ := an h
      obtain ⟨h2, h3⟩ := an h2
      obtain ⟨h3, h4⟩ := an h3
      obtain ⟨h4, h5⟩ := an h4
      obtain ⟨h5, h6⟩ := an h5
      obtain ⟨h6, h7⟩ := an h6
      obtain ⟨h7, h8⟩ := an h7
      obtain ⟨h8, h9⟩ := an h8
      obtain ⟨h9, h10⟩ := an h9
      obtain ⟨h10, h11⟩ := an h10
      obtain ⟨h11, h12⟩ := an h11
      obtain ⟨h12, h13⟩ := an h12
      obtain ⟨a1, a2⟩ := loc_of G.good h2
      obtain ⟨b1, b2⟩ := loc_of G.good h3
      obtain ⟨c1, c2⟩ := loc_of G.good h4
      have hsw := dc h1
      rw [← G.good.sc] at hsw
      exact s_par3 G.good.calm hnd a1 b1 c1 (dc h5) (dc h6) (dc h7) a2 b2 c2 (sE _ nm X _ G h11) (sE _ nm X _ G h12) (sE _ nm X _ G h13) h8 h9 h10 (swP_ok hk hsw)
    · exact bad h
  · obtain ⟨h1, j2⟩ := an h
    obtain ⟨h2, j3⟩ := an j2
    obtain ⟨h3, j4⟩ := an j3
    obtain ⟨h4, j5⟩ := an j4
    obtain ⟨h5, h6⟩ := an j5
    clear h j2 j3 j4 j5
    have hsw : swappedStores [tg] v X.env = pure none := by
      unfold plainSw at h5
      split at h5
      · have := dc h5
        rw [← G.good.sc] at this
        exact swP_ok hk this
      · rw [Bool.or_eq_true] at h5
        exact sw_none (h5.imp (by simp) (by simp))
    have hs := swapsB_ok (n := pos.line) (tg := tg) hk h1
    rw [G.good.sc] at hs
    cases hb : swapsB nm.sc v tg with
    | false =>
      rw [hb] at hs
      exact s_asg (sE e nm X v G h4) (sG t nm X tg G h3) hs hsw h2
    | true =>
      rw [hb] at hs h6
      cases t with
      | name i =>
        cases v with
        | ListComp elt gs scope p =>
          cases tg with
          | Name y py =>
            have hl : X.env.scope.names.lookup y = some .local := by
              have h7 : (nm.sc.names.lookup y == some .local && py.line == p.line && !(scope.names.any fun (n, k) => n == y && (k == .local || k == .cell))) = true := hb
              rw [G.good.sc]
              exact eq_of_beq (an (an h7).1).1
            have hi := (an (show isStv nm i y = true from h3)).1
            cases e with
            | lc t it fs e own c =>
              cases gs with
              | nil => exact bad h4
              | cons g1 gs =>
              obtain ⟨tg, iter, ifs, ac⟩ := g1
              cases gs with
              | cons _ _ => exact bad h4
              | nil =>
                obtain ⟨m1, m2'⟩ := an (show (decide (ac = 0) && (chkI T.shp nm it tg iter && (notSet iter && (blkC nm.N nm.sc scope (ownP nm own) && ((slotsT t).all (fun j => own.contains j) && (chkG T.shp (nm.blk scope) t tg && (chkF T.shp (nm.blk scope) fs ifs && chkE T.shp (nm.blk scope) e elt))))))) = true from h4)
                obtain ⟨m2, n3⟩ := an m2'
                obtain ⟨m3, n4⟩ := an n3
                obtain ⟨m4, n5⟩ := an n4
                obtain ⟨m5, n6⟩ := an n5
                obtain ⟨m6, n7⟩ := an n6
                obtain ⟨m7, m8⟩ := an n7
                have e0 := dc m1
                subst e0
                have ok : BlkOk X.N X.env.scope scope (ownP nm own) := by rw [G.good.N, G.good.sc]; exact blkOk_by m4
                exact s_asgLc (own := ownP nm own) G.good.calm hnd (by rw [G.good.N]; exact dc hi) hl hs (sI it nm X tg iter G m2) ok
                  (fun s H C cl fp => sG t (nm.blk scope) _ tg (G.blk ok.kind) m6)
                  (fun s H C cl fp => sF fs (nm.blk scope) _ ifs (G.blk ok.kind) m7)
                  (fun s H C cl fp => sE e (nm.blk scope) _ elt (G.blk ok.kind) m8)
                  (fun a b c z => by rw [z] at m3; exact bad m3) (own_ix G.good own) (fun j hj => by
                    have := List.all_eq_true.mp m5 j hj
                    simpa using this)
            | dic ps _ => cases ps <;> exact bad h4
            | _ => exact bad h4
          | _ => exact bad hb
        | DictComp kx vx gs scope p =>
          cases tg with
          | Name y py =>
            have hl : X.env.scope.names.lookup y = some .local := by
              have h7 : (nm.sc.names.lookup y == some .local && py.line == p.line && !(scope.names.any fun (n, k) => n == y && (k == .local || k == .cell))) = true := hb
              rw [G.good.sc]
              exact eq_of_beq (an (an h7).1).1
            have hi := (an (show isStv nm i y = true from h3)).1
            cases e with
            | dc t it fs ek ev own c =>
              cases gs with
              | nil => exact bad h4
              | cons g1 gs =>
              obtain ⟨tg, iter, ifs, ac⟩ := g1
              cases gs with
              | cons _ _ => exact bad h4
              | nil =>
                obtain ⟨m1, m2'⟩ := an (show (decide (ac = 0) && (chkI T.shp nm it tg iter && (notSet iter && (blkC nm.N nm.sc scope (ownP nm own) && ((slotsT t).all (fun j => own.contains j) && (chkG T.shp (nm.blk scope) t tg && (chkF T.shp (nm.blk scope) fs ifs && (chkE T.shp (nm.blk scope) ek kx && chkE T.shp (nm.blk scope) ev vx)))))))) = true from h4)
                obtain ⟨m2, n3⟩ := an m2'
                obtain ⟨m3, n4⟩ := an n3
                obtain ⟨m4, n5⟩ := an n4
                obtain ⟨m5, n6⟩ := an n5
                obtain ⟨m6, n7⟩ := an n6
                obtain ⟨m7, n8⟩ := an n7
                obtain ⟨m8, m9⟩ := an n8
                have e0 := dc m1
                subst e0
                have ok : BlkOk X.N X.env.scope scope (ownP nm own) := by rw [G.good.N, G.good.sc]; exact blkOk_by m4
                exact s_asgDc (own := ownP nm own) G.good.calm hnd (by rw [G.good.N]; exact dc hi) hl hs (sI it nm X tg iter G m2) ok
                  (fun s H C cl fp => sG t (nm.blk scope) _ tg (G.blk ok.kind) m6)
                  (fun s H C cl fp => sF fs (nm.blk scope) _ ifs (G.blk ok.kind) m7)
                  (fun s H C cl fp => sE ek (nm.blk scope) _ kx (G.blk ok.kind) m8)
                  (fun s H C cl fp => sE ev (nm.blk scope) _ vx (G.blk ok.kind) m9)
                  (fun a b c z => by rw [z] at m3; exact bad m3) (own_ix G.good own) (fun j hj => by
                    have := List.all_eq_true.mp m5 j hj
                    simpa using this)
            | dic ps _ => cases ps <;> exact bad h4
            | _ => exact bad h4
          | _ => exact bad hb
        | _ => cases tg <;> exact bad hb
      | _ => exact bad h6
mutual
theorem sS : ∀ (s : S) (nm : Nm) (X : Cx) (x : Stmt), Env1 T nm k X → chkS T.shp nm s x = true → PS X x (rdS X (cfg T k b) s)
  | .asg t e, nm, X, x, G, h => by
    cases x with
    | Assign tgs v p =>
      cases tgs with
      | nil => exact bad h
      | cons tg tgs =>
      cases tgs with
      | cons _ _ => exact bad h
      | nil => exact sAsg t e nm X tg v p G h
    | _ => exact bad h
  | .aug i o e, nm, X, x, G, h => by
    cases x with
    | AugAssign tg op v p =>
      cases tg with
      | Name y p2 =>
        obtain ⟨h1, h2⟩ := an (show (isStv nm i y && (decide (op = bopOf o) && ((decide (o = .add) || decide (o = .sub)) && chkE T.shp nm e v))) = true from h)
        obtain ⟨h2, h3⟩ := an h2
        obtain ⟨h3, h4⟩ := an h3
        obtain ⟨k1, k2⟩ := an h1
        obtain ⟨s1, s2⟩ := st_of G.good k2
        have eo := dc h2
        subst eo
        refine s_aug ?_ (by rw [G.good.N]; exact G.good.nd) (by rw [G.good.N]; exact dc k1) s1 (sE e nm X v G h4) s2
        rw [Bool.or_eq_true] at h3
        exact h3.imp dc dc
      | _ => exact bad h
    | _ => exact bad h
  | .augS ea ei o e, nm, X, x, G, h => by
    cases x with
    | AugAssign tg op v p =>
      cases tg with
      | Subscript oa ix p2 =>
        cases ix with
        | Name y p1 =>
          obtain ⟨h1, h⟩ := an (show (decide (op = bopOf o) && ((decide (o = .add) || decide (o = .sub)) && (chkE T.shp nm ea oa && (chkE T.shp nm ei (.Name y p1) && chkE T.shp nm e v)))) = true from h)
          obtain ⟨h2, h⟩ := an h
          obtain ⟨h3, h⟩ := an h
          obtain ⟨h4, h5⟩ := an h
          have eo := dc h1
          subst eo
          refine s_augS (u1 G.good) ?_ (sE ea nm X oa G h3) (sE ei nm X (.Name y p1) G h4) (sE e nm X v G h5)
          rw [Bool.or_eq_true] at h2
          exact h2.imp dc dc
        | _ => exact bad h
      | _ => exact bad h
    | _ => exact bad h
  | .ex e, nm, X, x, G, h => by
    cases x with
    | Expr v p =>
      obtain ⟨h1, h2⟩ := an (show (noComp v && chkE T.shp nm e v) = true from h)
      exact s_ex (sE e nm X v G h2) h1
    | _ => exact bad h
  | .ret e, nm, X, x, G, h => by
    cases x with
    | Return v p =>
      cases v with
      | none => exact bad h
      | some v => exact s_ret (sE e nm X v G h)
    | _ => exact bad h
  | .retN, nm, X, x, G, h => by
    cases x with
    | Return v p =>
      cases v with
      | none => exact s_retN
      | some v => exact bad h
    | _ => exact bad h
  | .iff t a b, nm, X, x, G, h => by
    cases x with
    | If c y z p =>
      obtain ⟨h1, h2⟩ := an (show (chkT T.shp nm t c && (chkB T.shp nm a y && chkB T.shp nm b z)) = true from h)
      obtain ⟨h2, h3⟩ := an h2
      exact s_iff (sT t nm X c G h1) (sB a nm X y G h2) (sB b nm X z G h3)
    | _ => exact bad h
  | .for_ t it b, nm, X, x, G, h => by
    cases x with
    | For tg iter body els p =>
      cases els with
      | cons _ _ => exact bad h
      | nil =>
        obtain ⟨h1, h2⟩ := an (show (chkI T.shp nm it tg iter && (notSet iter && (chkG T.shp nm t tg && chkB T.shp nm b body))) = true from h)
        obtain ⟨h2, h3⟩ := an h2
        obtain ⟨h3, h4⟩ := an h3
        exact s_for G.good.xe G.good.calm (sI it nm X tg iter G h1) (sG t nm X tg G h3) (sB b nm X body G h4) (fun a b c z => by rw [z] at h2; exact bad h2)
    | _ => exact bad h
  | .whl t b, nm, X, x, G, h => by
    cases x with
    | While c body els p =>
      cases els with
      | cons _ _ => exact bad h
      | nil =>
        obtain ⟨h1, h2⟩ := an (show (chkT T.shp nm t c && chkB T.shp nm b body) = true from h)
        exact s_whl G.good.xe (sT t nm X c G h1) (sB b nm X body G h2)
    | _ => exact bad h
  | .mat e cs, nm, X, x, G, h => by
    cases x with
    | Match v ms p =>
      obtain ⟨h1, h2⟩ := an (show (chkE T.shp nm e v && chkM T.shp nm cs ms) = true from h)
      exact s_mat (sE e nm X v G h1) (sM cs nm X ms G h2)
    | _ => exact bad h
  | .pass, nm, X, x, G, h => by
    cases x with
    | Pass p => exact s_pass
    | _ => exact bad h
  | .brk, nm, X, x, G, h => by
    cases x with
    | Break p => exact s_brk
    | _ => exact bad h
  | .cnt, nm, X, x, G, h => by
    cases x with
    | Continue p => exact s_cnt
    | _ => exact bad h
theorem sB : ∀ (s : SL) (nm : Nm) (X : Cx) (xs : List Stmt), Env1 T nm k X → chkB T.shp nm s xs = true → PSs X xs (rdB X (cfg T k b) s)
  | .nil, nm, X, xs, G, h => by
    cases xs with
    | nil => exact b_nil
    | cons _ _ => exact bad h
  | .cons s r, nm, X, xs, G, h => by
    cases xs with
    | nil => exact bad h
    | cons x xs =>
      obtain ⟨h1, h2⟩ := an (show (chkS T.shp nm s x && chkB T.shp nm r xs) = true from h)
      exact b_cons (sS s nm X x G h1) (sB r nm X xs G h2)
theorem sM : ∀ (m : ML) (nm : Nm) (X : Cx) (cs : List MatchCase), Env1 T nm k X → chkM T.shp nm m cs = true → PMs X cs (rdM X (cfg T k b) m)
  | .nil, nm, X, cs, G, h => by
    cases cs with
    | nil => exact m_nil
    | cons _ _ => exact bad h
  | .val zs b r, nm, X, cs, G, h => by
    cases cs with
    | nil => exact bad h
    | cons c cs =>
      obtain ⟨p, gd, body⟩ := c
      cases gd with
      | some _ => exact bad h
      | none =>
        obtain ⟨h1, h2⟩ := an (show (decide (patS p = some zs) && (chkB T.shp nm b body && chkM T.shp nm r cs)) = true from h)
        obtain ⟨h2, h3⟩ := an h2
        exact m_val (dc h1) (sB b nm X body G h2) (sM r nm X cs G h3)
  | .any b r, nm, X, cs, G, h => by
    cases cs with
    | nil => exact bad h
    | cons c cs =>
      obtain ⟨p, gd, body⟩ := c
      cases gd with
      | some _ => exact bad h
      | none =>
        obtain ⟨h1, h2⟩ := an (show (isWild p && chkB T.shp nm b body) = true from h)
        exact m_any h1 (sB b nm X body G h2)
end
end
end Mc

set_option linter.all false
set_option maxRecDepth 100000
set_option Elab.async false
set_option maxHeartbeats 4000000
namespace Mc
open PySem PySem.Spec PyProof.Rows L2

/-- a def as the row has it -/
structure DI where
  name : Str
  N : List Str
  ps : List Str
  params : Arguments
  body : List Stmt
  scope : Scope
  dvs : List V
  kws : List (Str × V)
def DI.nm (d : DI) (glb defs blt : List Str) : Nm := ⟨d.scope, d.N, none, glb, defs, blt⟩
def IsDef (K : PySem.W.Frag) (mg : Str → Option Value) (d : DI) (f : Addr) (fd : FuncData) : Prop :=
  mg d.name = some (.ref f) ∧ ∃ o, FunD K o o d.params d.body d.scope d.dvs d.kws f fd
structure Prog (T : Tab) (ds : List DI) (glb blt : List Str) (P : Program) (w : World) (K : PySem.W.Frag) (mg : Str → Option Value) : Prop where
  len : T.defs.length = ds.length
  sc : ∀ (i : Nat) (d : DI), ds[i]? = some d → FnScope d.N d.ps d.scope
  chk : ∀ (i : Nat) (d : DI) (e : Def), ds[i]? = some d → T.defs[i]? = some e → e.np = d.ps.length ∧ e.ns = d.N.length ∧ chkB T.shp (d.nm glb (ds.map (·.name)) blt) e.body d.body = true
  ex : ∀ (i : Nat) (d : DI), ds[i]? = some d → ∃ f fd, IsDef K mg d f fd
  shp : ∀ (sh : Nat) (p : Shp) (d : DI) (f : Addr) (fd : FuncData), T.shp[sh]? = some p → ds[p.f]? = some d → IsDef K mg d f fd → ShpOk ⟨K, w⟩ fd d.ps p
  glb : ∀ (j : Nat) (x : Str), glb[j]? = some x → ∃ (d : D) (v : V) (u : Value), T.glb[j]? = some d ∧ mg x = some u ∧ RelV v u ∧ ∀ g H, Rep ⟨K, w⟩ g H d v
  blt : ∀ x ∈ blt, mg x = none
theorem start_get {N : List Str} {vs : List V} {i : Nat} {v : V} (h : vs[i]? = some v) : (L2.start N vs)[i]? = some (some v) := by
  unfold L2.start
  have hi := (List.getElem?_eq_some_iff.mp h).1
  rw [List.getElem?_append_left (by rw [List.length_map]; exact hi), List.getElem?_map, h]
  rfl
theorem env_start {κ : Kw} {g : Gh} {H : Hp} {N : List Str} {ds : List D} {vs : List V} (r : Reps κ g H ds vs) (hl : vs.length ≤ N.length) {np ns : Nat} (h1 : np = vs.length) (h2 : ns = N.length) : EnvR κ g H (ds.map some ++ List.replicate (ns - np) none) (L2.start N vs) := by
  subst h1 h2
  have e := r.length
  refine ⟨by unfold L2.start; simp [e], fun i d hd => ?_⟩
  by_cases hi : i < ds.length
  · rw [List.getElem?_append_left (by rw [List.length_map]; exact hi), List.getElem?_map] at hd
    cases q : ds[i]? with
    | none => rw [q] at hd; cases hd
    | some d' =>
      rw [q] at hd
      cases hd
      obtain ⟨v, h1, h2⟩ := r.get q
      exact ⟨v, start_get h1, h2⟩
  · rw [List.getElem?_append_right (by rw [List.length_map]; omega), List.getElem?_replicate] at hd
    split at hd <;> cases hd
section
variable {T : Tab} {ds : List DI} {glb blt : List Str} {P : Program} {w : World} {K : PySem.W.Frag} {mg : Str → Option Value} {base : Heap}
theorem level (G : Prog T ds glb blt P w K mg) : ∀ (k i : Nat) (d : DI) (f : Addr) (fd : FuncData), ds[i]? = some d → IsDef K mg d f fd → FnG P w K mg base k f fd d.ps (spD ⟨K, w⟩ T k i)
  | 0, i, d, f, fd, _, _ => ⟨fun A outer s H args us vs Q _ _ _ _ _ _ h => by
    obtain ⟨g, Bs, b, st, es, d, st', L, r, e, q⟩ := h
    cases e⟩
  | k + 1, i, d, f, fd, hd, hf => by
    obtain ⟨hm, o, F⟩ := hf
    obtain ⟨oc, od, dV, kV, doc, pm, an, cdv, ct, osl, rfl, lk, hcd, _, _⟩ := F.ex
    have S := G.sc i d hd
    refine fng_of lk hcd S fun A outer s H vs Q hr hgd hl h => ?_
    obtain ⟨g, Bs, b, st, es, dd, st', L, r, e, q⟩ := h
    have e' : (T.defs[i]?).bind (fun d => if es.length = d.np then
      (evB ⟨callD T k, T.glb, T.shp, if d.raw = true then b else st.length, T.fuel⟩ d.body (es.map some ++ List.replicate (d.ns - d.np) none) st).bind fun x => match x.1 with
        | .rt v => if d.raw = true then some (v, x.2.2) else popD st.length v x.2.2
        | .nx => if d.raw = true then some (.non, x.2.2) else popD st.length .non x.2.2
        | _ => none
      else none) = some (dd, st') := e
    obtain ⟨df, e1, e2⟩ := bnd e'
    clear e e'
    split at e2 <;> first | (cases e2; done) | skip
    rename_i hnp
    obtain ⟨⟨fl, env', st1⟩, e3, e4⟩ := bnd e2
    obtain ⟨c1, c2, c3⟩ := G.chk i d df hd e1
    have hpl : d.ps.length ≤ d.N.length := by have := congrArg List.length S.pre; rw [List.length_take] at this; omega
    have En : EnvR ⟨K, w⟩ g H (es.map some ++ List.replicate (df.ns - df.np) none) (L2.start d.N vs) := env_start r (by omega) (by omega) c2
    have E1 : Env1 T (d.nm glb (ds.map (·.name)) blt) k (cxD P w K mg base d.N o d.scope f cdv A outer s H) := {
      good := {
        N := rfl
        nd := S.nd
        sc := rfl
        kind := S.kind
        fn := fun _ => rfl
        calm := rfl
        xe := rfl
        gd := hgd
        room := hr.mono (Nat.zero_le _)
        blt := G.blt }
      room := hr
      call := fun sh p x h1 h2 => by
        have h2' : (ds.map (·.name))[p.f]? = some x := h2
        rw [List.getElem?_map] at h2'
        obtain ⟨d2, h3, h4⟩ := mpd h2'
        subst h4
        obtain ⟨f2, fd2, h5⟩ := G.ex p.f d2 h3
        obtain ⟨o2, F2⟩ := h5.2
        exact ⟨f2, fd2, d2.ps, h5.1, F2.kp, level G k p.f d2 f2 fd2 h3 h5, G.shp sh p d2 f2 fd2 h1 h3 h5⟩
      glb := G.glb }
    cases hraw : df.raw with
    | true =>
      rw [hraw] at e3
      refine ⟨rdB _ (cfg T k b) df.body, sB df.body _ _ d.body E1 c3, g, Bs, _, st, fl, env', st1, L, En, e3, fun g' H' L' x' => ?_⟩
      cases fl with
      | rt v =>
        have e5 : (if df.raw = true then some (v, st1) else popD st.length v st1) = some (dd, st') := e4
        rw [hraw, if_pos rfl] at e5
        cases e5
        exact fun u ru => q u g' H' L' x' ru
      | nx =>
        have e5 : (if df.raw = true then some (Mc.D.non, st1) else popD st.length .non st1) = some (dd, st') := e4
        rw [hraw, if_pos rfl] at e5
        cases e5
        exact fun σ' _ => q .non g' H' L' x' (.sca .non)
      | bk => cases e4
      | ct => cases e4
    | false =>
      rw [hraw] at e3
      refine ⟨rdB _ (cfg T k st.length) df.body, sB df.body _ _ d.body E1 c3, g, _, _, st, fl, env', st1, live_in L, En, e3, fun g' H' L' x' => ?_⟩
      cases fl with
      | rt v =>
        have e5 : (if df.raw = true then some (v, st1) else popD st.length v st1) = some (dd, st') := e4
        rw [hraw, if_neg Bool.false_ne_true] at e5
        exact fun u ru => by
          obtain ⟨g2, L2, x2, r2⟩ := pop_ok L L' x' ru e5
          exact q u g2 H' L2 x2 r2
      | nx =>
        have e5 : (if df.raw = true then some (Mc.D.non, st1) else popD st.length .non st1) = some (dd, st') := e4
        rw [hraw, if_neg Bool.false_ne_true] at e5
        exact fun σ' _ => by
          obtain ⟨g2, L2, x2, r2⟩ := pop_ok L L' x' (.sca .non) e5
          exact q .non g2 H' L2 x2 r2
      | bk => cases e4
      | ct => cases e4
end
def agA {α : Type} (es ks : List α) : List Ag → Option (List α)
  | [] => some []
  | .pos i :: r => (es[i]?).bind fun d => (agA es ks r).map (d :: ·)
  | .kw i :: r => (ks[i]?).bind fun d => (agA es ks r).map (d :: ·)
  | .dfl _ :: _ => none
theorem ag_both {κ : Kw} {g : Gh} {H : Hp} {es ks : List D} {vs zs : List V} {us ws : List Value} (r : Reps κ g H es vs) (rk : Reps κ g H ks zs) (v : Vals vs us) (z : Vals zs ws) : ∀ (ag : List Ag) {ds : List D} {as : List Value}, agD es ks ag = some ds → agA us ws ag = some as → ∃ avs, Vals avs as ∧ Reps κ g H ds avs
  | [], _, _, e1, e2 => by cases e1; cases e2; exact ⟨[], .nil, .nil⟩
  | .pos i :: ag, _, _, e1, e2 => by
    obtain ⟨d, h1, e1⟩ := bnd (show (es[i]?).bind _ = _ from e1)
    obtain ⟨ds, h2, e1⟩ := mpd e1
    obtain ⟨u, k1, e2⟩ := bnd (show (us[i]?).bind _ = _ from e2)
    obtain ⟨as, k2, e2⟩ := mpd e2
    subst e1 e2
    obtain ⟨avs, p1, p2⟩ := ag_both r rk v z ag h2 k2
    obtain ⟨y, q1, q2⟩ := r.get h1
    obtain ⟨u', q3, q4⟩ := v.get q1
    rw [k1] at q3
    cases q3
    exact ⟨y :: avs, .cons q4 p1, .cons q2 p2⟩
  | .kw i :: ag, _, _, e1, e2 => by
    obtain ⟨d, h1, e1⟩ := bnd (show (ks[i]?).bind _ = _ from e1)
    obtain ⟨ds, h2, e1⟩ := mpd e1
    obtain ⟨u, k1, e2⟩ := bnd (show (ws[i]?).bind _ = _ from e2)
    obtain ⟨as, k2, e2⟩ := mpd e2
    subst e1 e2
    obtain ⟨avs, p1, p2⟩ := ag_both r rk v z ag h2 k2
    obtain ⟨y, q1, q2⟩ := rk.get h1
    obtain ⟨u', q3, q4⟩ := z.get q1
    rw [k1] at q3
    cases q3
    exact ⟨y :: avs, .cons q4 p1, .cons q2 p2⟩
  | .dfl _ :: _, _, _, _, e2 => by cases e2
theorem shp0 {K : PySem.W.Frag} {w : World} {x qual : Str} {params : Arguments} {body : List Stmt} {scope : Scope} {kws : List (Str × V)} {f : Addr} {fd : FuncData} {ps : List Str} {p : Shp} (F : FunD K x qual params body scope [] kws f fd)
    (h : ∀ (kV doc pm : Value) (an : Option Addr) (cdv ct : Value) (us ws : List Value), us.length = p.np → ws.length = p.ks.length → ∃ as, agA us ws p.ag = some as ∧ as.length = ps.length ∧ bindArgs (PySem.W.fnOf x qual params body scope .none kV doc pm an cdv ct) ⟨us, (p.ks.map str_).zip ws⟩ = pure (ps.zip as)) : ShpOk ⟨K, w⟩ fd ps p := by
  intro s us ws vs zs es ks ds g H X v z r rk hn hk ha
  obtain ⟨oc, od, dV, kV, doc, pm, an, cdv, ct, osl, rfl, lk, hcd, hD, hK⟩ := F.ex
  rcases hD with ⟨_, rfl⟩ | ⟨e, _⟩
  · obtain ⟨as, h1, h2, h3⟩ := h kV doc pm an cdv ct us ws (by rw [← v.length, ← r.length]; exact hn) (by rw [← z.length, ← rk.length]; exact hk)
    obtain ⟨avs, p1, p2⟩ := ag_both r rk v z p.ag ha h1
    exact ⟨as, avs, .of_eq h3, by rw [p1.length]; exact h2, p1, p2⟩
  · exact absurd rfl e
def agB {α : Type} (es ks : List α) : List Ag → List α → Option (List α)
  | [], _ => some []
  | .pos i :: r, ms => (es[i]?).bind fun d => (agB es ks r ms).map (d :: ·)
  | .kw i :: r, ms => (ks[i]?).bind fun d => (agB es ks r ms).map (d :: ·)
  | .dfl _ :: r, m :: ms => (agB es ks r ms).map (m :: ·)
  | .dfl _ :: _, [] => none
def dfls : List Ag → List D
  | [] => []
  | .dfl d :: r => d :: dfls r
  | _ :: r => dfls r
theorem ag_bothB {κ : Kw} {g : Gh} {H : Hp} {es ks : List D} {vs zs : List V} {us ws : List Value} (r : Reps κ g H es vs) (rk : Reps κ g H ks zs) (v : Vals vs us) (z : Vals zs ws) : ∀ (ag : List Ag) {ds : List D} {as : List Value} {mz : List V} {mv : List Value}, Reps κ g H (dfls ag) mz → Vals mz mv → agD es ks ag = some ds → agB us ws ag mv = some as → ∃ avs, Vals avs as ∧ Reps κ g H ds avs
  | [], _, _, _, _, _, _, e1, e2 => by cases e1; cases e2; exact ⟨[], .nil, .nil⟩
  | .pos i :: ag, _, _, _, _, rm, vm, e1, e2 => by
    obtain ⟨d, h1, e1⟩ := bnd (show (es[i]?).bind _ = _ from e1)
    obtain ⟨ds, h2, e1⟩ := mpd e1
    obtain ⟨u, k1, e2⟩ := bnd (show (us[i]?).bind _ = _ from e2)
    obtain ⟨as, k2, e2⟩ := mpd e2
    subst e1 e2
    obtain ⟨avs, p1, p2⟩ := ag_bothB r rk v z ag (show Reps κ g H (dfls ag) _ from rm) vm h2 k2
    obtain ⟨y, q1, q2⟩ := r.get h1
    obtain ⟨u', q3, q4⟩ := v.get q1
    rw [k1] at q3
    cases q3
    exact ⟨y :: avs, .cons q4 p1, .cons q2 p2⟩
  | .kw i :: ag, _, _, _, _, rm, vm, e1, e2 => by
    obtain ⟨d, h1, e1⟩ := bnd (show (ks[i]?).bind _ = _ from e1)
    obtain ⟨ds, h2, e1⟩ := mpd e1
    obtain ⟨u, k1, e2⟩ := bnd (show (ws[i]?).bind _ = _ from e2)
    obtain ⟨as, k2, e2⟩ := mpd e2
    subst e1 e2
    obtain ⟨avs, p1, p2⟩ := ag_bothB r rk v z ag (show Reps κ g H (dfls ag) _ from rm) vm h2 k2
    obtain ⟨y, q1, q2⟩ := rk.get h1
    obtain ⟨u', q3, q4⟩ := z.get q1
    rw [k1] at q3
    cases q3
    exact ⟨y :: avs, .cons q4 p1, .cons q2 p2⟩
  | .dfl d :: ag, _, _, _, mv, rm, vm, e1, e2 => by
    obtain ⟨ds, h1, e1⟩ := mpd (show (agD es ks ag).map (d :: ·) = _ from e1)
    cases mv with
    | nil => cases e2
    | cons m mv =>
      obtain ⟨as, h2, e2⟩ := mpd (show (agB us ws ag mv).map (m :: ·) = _ from e2)
      subst e1 e2
      cases rm with
      | cons r1 r2 =>
        cases vm with
        | cons v1 v2 =>
          obtain ⟨avs, p1, p2⟩ := ag_bothB r rk v z ag r2 v2 h1 h2
          exact ⟨_ :: avs, .cons v1 p1, .cons r1 p2⟩
theorem shpK {K : PySem.W.Frag} {w : World} {x qual : Str} {params : Arguments} {body : List Stmt} {scope : Scope} {kws : List (Str × V)} {f : Addr} {fd : FuncData} {ps : List Str} {p : Shp} (F : FunD K x qual params body scope [] kws f fd)
    (ms : List (Str × V)) (hk : kws ≠ []) (hms : ∀ q ∈ ms, q ∈ kws) (hd : ∀ g H, Reps ⟨K, w⟩ g H (dfls p.ag) (ms.map (·.2)))
    (h : ∀ (D : Addr) (doc pm : Value) (an : Option Addr) (cdv ct : Value) (us ws mv : List Value), us.length = p.np → ws.length = p.ks.length → mv.length = ms.length →
      ∃ as, agB us ws p.ag mv = some as ∧ as.length = ps.length ∧ KwChain D ((ms.map (·.1)).zip mv) (bindArgs (PySem.W.fnOf x qual params body scope .none (.ref D) doc pm an cdv ct) ⟨us, (p.ks.map str_).zip ws⟩) (ps.zip as)) : ShpOk ⟨K, w⟩ fd ps p := by
  intro s us ws vs zs es ks ds g H X v z r rk hn hk2 ha
  obtain ⟨oc, od, dV, kV, doc, pm, an, cdv, ct, osl, rfl, lk, hcd, hD, hK⟩ := F.ex
  rcases hD with ⟨_, rfl⟩ | ⟨e, _⟩
  · rcases hK with e | ⟨D, rfl, hq⟩
    · exact absurd e hk
    · obtain ⟨mv, hl, rm, hks⟩ := kwd_vals (ms := ms) fun q hm => hq q (hms q hm)
      obtain ⟨as, h1, h2, h3⟩ := h D doc pm an cdv ct us ws mv (by rw [← v.length, ← r.length]; exact hn) (by rw [← z.length, ← rk.length]; exact hk2) hl
      obtain ⟨avs, p1, p2⟩ := ag_bothB r rk v z p.ag (hd g H) rm ha h1
      exact ⟨as, avs, BindsTo.of_looks fun M => KwChain.looks X hks h3, by rw [p1.length]; exact h2, p1, p2⟩
  · exact absurd rfl e
end Mc

set_option linter.all false
set_option maxRecDepth 100000
set_option Elab.async false
set_option maxHeartbeats 4000000
namespace Mc
open PySem PySem.Spec PyProof.Rows L2

/-- the script's object, as the abstract heap tells it -/
def scrHp (a : Addr) (vs : List Value) (ns : List Int) : Hp := fun b => if b = a then some (.frz { cls := .type "list", data := .seq vs.toArray } (.lst (ns.map V.int))) else none
section
variable {P : Program} {w : World} {K : PySem.W.Frag} {mg mb : Str → Option Value} {k : Nat} {fa a : Addr} {fd : FuncData} {x : Str} {sp : List V → Hp → VK → Prop} {s : Shared} {vs : List Value} {ns : List Int}
/-- the call of the law's def, over an abstract heap that tells the script alone -/
theorem end_over (KX : K.In s.heap) (g0 : s.heap.Ns mainGlobals mg) (b0 : s.heap.Ns builtinsNs mb) (b1 : ∀ y : Str, y ≠ "__name__" → mb y = bootBuiltins y) (l0 : s.heap.NoLimit) (gn : s.gens = #[])
    (ob : s.heap.get? a = some { cls := .type "list", data := .seq vs.toArray }) (hr : Room k callerA) (F : ∀ base : Heap, K.In base → base.Ns mainGlobals mg → FnG P w K mg base k fa fd [x] sp)
    (bi : ∀ (t : Shared) (u : Value), BindsTo t fd ⟨[u], []⟩ [(x, u)]) (H : Hp) (only : Only H) (q : sp [.ref a] H (fun v _ => v = .bl true)) (ok : HOk P w H s.heap) (at_ : ∀ b, H b ≠ none → b = a) (off : H a ≠ none → K.lookup a = none) :
    codeAny (model P w) callerA (.call (.ref fa) ⟨[.ref a], []⟩) (fun r t => r = .ok (.ret (.bool true)) ∧ OldK s.heap t.heap ∧ t.os = s.os ∧ AllBare t.gens) s := by
  have out : ∀ b, b ≠ a → H b = none := fun b n => by
    cases e : H b with
    | none => rfl
    | some u => exact absurd (at_ b (by rw [e]; exact fun z => nomatch z)) n
  have noDict : ∀ {b : Addr} {o : Obj} {es : Array DictEntry} {ep : Nat}, s.heap.get? b = some o → o.data = .dict es ep → H b = none := fun {b o es ep} e d => out b fun z => by
    subst z
    rw [ob] at e
    cases e
    exact (nomatch d)
  have keepNs : ∀ {b : Addr} {m : Str → Option Value}, s.heap.Ns b m → (hidT s.heap H).Ns b m := fun {b m} ⟨o, es, ep, e, d, r⟩ => ⟨o, es, ep, hidT_get e (noDict e d), d, r⟩
  have kin : K.In (hidT s.heap H) := fun b o e => hidT_get (KX b o e) (Classical.byContradiction fun z => by
    have z2 := at_ b z
    subst z2
    rw [off z] at e
    cases e)
  obtain ⟨mc, c1, c2⟩ := l0
  have env : Env0 P w K mg (hidT s.heap H) callerA [] s H :=
    { frames := rfl
      mod := ⟨kin, keepNs g0, ⟨mb, keepNs b0, b1⟩, ⟨mc, keepNs c1, c2⟩⟩
      bs := fun _ _ e => of_hidT e
      bsz := Nat.le_of_eq (hidT_size _ _)
      funs := trivial
      frf := fun _ z => nomatch z
      hok := ok
      bare := .of_eq gn }
  refine codeAny_mono ((F _ kin (keepNs g0)).run callerA [] s H ⟨[.ref a], []⟩ [.ref a] [.ref a] _ hr rfl env (bi s (.ref a)) (.cons rfl .nil) rfl q) fun r t z => ?_
  cases r with
  | error _ => exact z.elim
  | ok fl =>
  cases fl with
  | next => exact z.elim
  | brk => exact z.elim
  | cont => exact z.elim
  | ret u =>
  obtain ⟨v, H2, os, bare, un, ok2, rv, ev⟩ := z
  have ev' : v = V.bl true := ev
  subst ev'
  cases (show u = Value.bool true from rv)
  refine ⟨rfl, .of_keep fun b o e => ?_, os, bare⟩
  rcases only b with n | ⟨o2, xs, n⟩
  · exact un.keep b o e n (fun z => nomatch z) (fun z => nomatch z)
  · have e1 := (ok b _ n).1
    have e2 := (ok2 b _ (un.frzs b o2 _ n)).1
    rw [e] at e1
    cases e1
    exact e2
theorem end_law (KX : K.In s.heap) (g0 : s.heap.Ns mainGlobals mg) (b0 : s.heap.Ns builtinsNs mb) (b1 : ∀ y : Str, y ≠ "__name__" → mb y = bootBuiltins y) (l0 : s.heap.NoLimit) (gn : s.gens = #[])
    (ob : s.heap.get? a = some { cls := .type "list", data := .seq vs.toArray }) (hi : IntsAre vs ns) (hl : ns.length ≤ sizeLine) (hr : Room k callerA) (F : ∀ base : Heap, K.In base → base.Ns mainGlobals mg → FnG P w K mg base k fa fd [x] sp)
    (bi : ∀ (t : Shared) (u : Value), BindsTo t fd ⟨[u], []⟩ [(x, u)]) (q : ∀ H : Hp, Only H → SqL K H a (ns.map V.int) → sp [.ref a] H (fun v _ => v = .bl true)) :
    codeAny (model P w) callerA (.call (.ref fa) ⟨[.ref a], []⟩) (fun r t => r = .ok (.ret (.bool true)) ∧ OldK s.heap t.heap ∧ t.os = s.os ∧ AllBare t.gens) s := by
  have rv := vals_ints hi
  have lv := hi.length
  cases hk : K.lookup a with
  | some o =>
    have e := KX a o hk
    rw [ob] at e
    cases e
    have on : Only emp := fun _ => .inl rfl
    have sq : SqL K emp a (ns.map V.int) := .inr ⟨_, vs.toArray, _, hk, rfl, rfl, rfl, by rw [List.size_toArray, lv]; exact hl, by simpa using rv⟩
    exact end_over KX g0 b0 b1 l0 gn ob hr F bi emp on (q emp on sq) (fun _ _ z => nomatch z) (fun _ z => absurd rfl z) (fun z => absurd rfl z)
  | none =>
    have on : Only (scrHp a vs ns) := fun b => by
      by_cases hb : b = a
      · exact .inr ⟨_, _, if_pos hb⟩
      · exact .inl (if_neg hb)
    have sq : SqL K (scrHp a vs ns) a (ns.map V.int) := .inl (.inr ⟨_, if_pos rfl⟩)
    refine end_over KX g0 b0 b1 l0 gn ob hr F bi _ on (q _ on sq) (fun b u z => ?_) (fun b z => ?_) fun _ => hk
    · unfold scrHp at z
      split at z
      · rename_i hb
        cases z
        subst hb
        exact ⟨ob, by rw [List.length_map]; exact hl, vs, _, rv, ob⟩
      · cases z
    · unfold scrHp at z
      split at z
      · assumption
      · exact absurd rfl z
end
/-- the promise of the law's def at a script -/
theorem sp_law {T : Tab} {k li : Nat} {K : PySem.W.Frag} {w : World} {H : Hp} {a : Addr} {ns : List Int} {st : Sto} (on : Only H) (sq : SqL K H a (ns.map V.int)) (ev : callD T k 0 li [.scr ns] [] = some (.bl true, st)) : spD ⟨K, w⟩ T k li [.ref a] H (fun v _ => v = .bl true) := by
  refine ⟨⟨[], fun b => H b ≠ none⟩, fun _ => False, 0, [], [.scr ns], .bl true, st, ?_, ?_, ev, fun v g' H' L' x' r' => r'.bl_⟩
  · exact
      { len := rfl
        nd := List.nodup_nil
        nf := fun _ z => nomatch z
        dF := fun _ z => z
        cell := fun i c e => by simp at e
        cl := fun _ _ _ z => z.elim
        le := fun _ z => z.elim
        bs := Nat.le_refl _ }
  · refine .cons (.scr ?_) .nil
    rcases sq with h | ⟨o, its, n, h⟩
    · exact .inl ⟨by show H a ≠ none; rcases h with h | ⟨o, h⟩ <;> (rw [h]; exact fun z => nomatch z), h⟩
    · exact .inr (.inr ⟨o, its, n, h⟩)
theorem walk_mc {l : PySem.W.OpenLaw} {n k li : Nat} {q : Program} {loose : List Str} {XP : (Str → Option Value) → Heap → Prop} {YP : World → Heap → Prop} {d : DefRec} {x : Str} {T : Tab}
    (hn : l.most = some n) (hn2 : n ≤ sizeLine) (hdf : d.params.defaults = []) (hr : Room k callerA)
    (F : ∀ (w : World) (mg : Str → Option Value) (fa : Addr) (h : Heap), YP w h → h.Ns mainGlobals mg → mg d.name = some (.ref fa) →
      ∃ (K : PySem.W.Frag) (ds : List DI) (glb blt : List Str) (di : DI), K.In h ∧ Prog T ds glb blt l.prog w K mg ∧ ds[li]? = some di ∧ di.name = d.name ∧ di.ps = [x] ∧ ∀ f fd, IsDef K mg di f fd → ∀ (s : Shared) (u : Value), BindsTo s fd ⟨[u], []⟩ [(x, u)])
    (ev : ∀ ns : List Int, ns.length ≤ n → ∃ st, callD T k 0 li [.scr ns] [] = some (.bl true, st)) :
    PySem.W.WalkO q loose XP YP l.row.toRowW d [] (fun f vs => PySem.call f vs) := by
  refine Att.attach_call hn hdf fun w s₀ s₁ mg mb fa o pm cd doc a vs ns G Y ho hd hcd hmg hobj hints hlen hg => ?_
  obtain ⟨K, ds, glb, blt, di, KX, pr, hdi, hnm, hps, hb⟩ := F w mg fa _ Y G.T.g hmg
  obtain ⟨f, fd, hf⟩ := pr.ex li di hdi
  have ef : f = fa := by
    have h1 := hf.1
    rw [hnm, hmg] at h1
    cases h1; rfl
  subst ef
  obtain ⟨st, hev⟩ := ev ns hlen
  refine end_law (x := x) (sp := spD ⟨K, w⟩ T k li) KX G.T.g G.T.b G.T.builtins G.T.nolimit hg hobj hints (Nat.le_trans hlen hn2) hr (fun base _ _ => ?_) (hb f fd hf) fun H on sq => sp_law on sq hev
  have := level (base := base) pr k li di f fd hdi hf
  rw [hps] at this
  exact this
end Mc

set_option linter.all false
set_option maxRecDepth 100000
set_option Elab.async false
set_option maxHeartbeats 4000000
namespace Mc
open PySem PySem.Spec PyProof.Rows L2

def dvOf : D → He.Dv
  | .non => .non
  | .bl b => .bl b
  | .int i => .int i
  | .str s => .str (str_ s)
  | _ => .non
def isSca : D → Bool
  | .non => true
  | .bl _ => true
  | .int _ => true
  | .str _ => true
  | _ => false
section
variable {K : PySem.W.Frag} {w : World} {mg : Str → Option Value} {h : Heap}
theorem sca_of {d : D} (hd : isSca d = true) : Sca d ((dvOf d).v K) := by
  cases d <;> first | (cases hd; done) | constructor
theorem reps_of {g : Gh} {H : Hp} : ∀ {l : List D}, l.all isSca = true → Reps ⟨K, w⟩ g H l ((l.map dvOf).map (He.Dv.v K))
  | [], _ => .nil
  | d :: l, hl => by
    rw [List.all_cons, Bool.and_eq_true] at hl
    exact .cons (.sca (sca_of hl.1)) (reps_of hl.2)
def GlbOk (K : PySem.W.Frag) (w : World) (mg : Str → Option Value) (x : Str) (d : D) : Prop := ∃ (v : V) (u : Value), mg x = some u ∧ RelV v u ∧ ∀ g H, Rep ⟨K, w⟩ g H d v
theorem glb_str {x : Str} {z : Tx} (X : K.In h) (G : h.Ns mainGlobals mg) (c : (He.Fa.str x (str_ z)).ok K = true) : GlbOk K w mg x (.str z) := by
  obtain ⟨t, ht⟩ := He.str_ok X G c
  exact ⟨.str (str_ z), _, ht, ⟨t, rfl⟩, fun _ _ => .sca (.str z)⟩
theorem glb_int {x : Str} {z : Int} (X : K.In h) (G : h.Ns mainGlobals mg) (c : (He.Fa.int x z).ok K = true) : GlbOk K w mg x (.int z) := by
  obtain ⟨t, ht⟩ := He.int_ok X G c
  exact ⟨.int z, _, ht, ⟨t, rfl⟩, fun _ _ => .sca (.int z)⟩
theorem glb_tup {x : Str} {l : List D} (X : K.In h) (G : h.Ns mainGlobals mg) (c : (He.Fa.glo x).ok K = true) (hl : l.all isSca = true) (c2 : He.tupB K x (l.map dvOf) = true) : GlbOk K w mg x (.tup l) :=
  ⟨.ref (He.ga K x), _, He.glo_ok X G c, rfl, fun g H => .tup (.inr (He.tupB_ok c2 emp)) (reps_of hl)⟩
theorem keys_all {P : Params} : ∀ {l : List DictEntry} {ks : List Str}, l.map He.keyOf = He.keysIn P ks → ∀ e ∈ l, ∃ k t, k ∈ ks ∧ e.key = .str k t
  | [], _, _, e, he => nomatch he
  | e1 :: r, [], hh, _, _ => by cases hh
  | e1 :: r, k :: ks, hh, e, he => by
    have h1 : He.keyOf e1 :: r.map He.keyOf = some (k, PyData.keyHash P k) :: He.keysIn P ks := hh
    injection h1 with h2 h3
    rcases List.mem_cons.mp he with rfl | he
    · unfold He.keyOf at h2
      split at h2
      · rename_i x t q
        have h4 := Option.some.inj h2
        obtain ⟨h5, h6⟩ := Prod.mk.inj h4
        exact ⟨k, t, List.mem_cons_self, by rw [q, h5]⟩
      · cases h2
    · obtain ⟨k', t, a, b⟩ := keys_all h3 e he
      exact ⟨k', t, List.mem_cons_of_mem _ a, b⟩
theorem ns_none {a : Addr} {ks : List Str} {z : Str} (hd : He.dicW K a = some (He.keysIn w.params ks)) (hz : z ∉ ks) : PySem.W.nsIn K a z = some none := by
  unfold He.dicW at hd
  unfold PySem.W.nsIn
  split at hd <;> first | (cases hd; done) | skip
  rename_i c es n sl q
  split at hd <;> first | (cases hd; done) | skip
  rw [q]
  have hk := keys_all (Option.some.inj hd)
  have h1 : es.toList.find? (·.key.isStr z) = none := by
    rw [List.find?_eq_none]
    intro e he
    obtain ⟨k, t, k1, k2⟩ := hk e he
    rw [k2]
    intro hh
    have : k = z := by simpa [Value.isStr] using hh
    exact hz (this ▸ k1)
  have h2 : es.toList.any (·.refKey) = false := by
    rw [List.any_eq_false]
    intro e he
    obtain ⟨k, t, k1, k2⟩ := hk e he
    simp [DictEntry.refKey, k2]
  simp only [h1, h2]
  rfl
def dicL (l : List (Tx × D)) : List (D × D) := l.map fun p => (.str p.1, p.2)
theorem look_dic {z : Tx} : ∀ {l : List (Tx × D)}, (Mc.look (.str z) (dicL l) = none → ∀ p ∈ l, p.1 ≠ z) ∧ ∀ d, Mc.look (.str z) (dicL l) = some d → (z, d) ∈ l
  | [] => by
    refine ⟨fun _ p hp => ?_, fun d e => ?_⟩
    · cases hp
    · cases e
  | (y, v) :: r => by
    have ih := look_dic (z := z) (l := r)
    have e0 : Mc.look (.str z) (dicL ((y, v) :: r)) = if decide (y = z) = true then some v else Mc.look (.str z) (dicL r) := rfl
    rw [e0]
    by_cases hy : y = z
    · rw [if_pos (by simpa using hy)]
      refine ⟨(fun e => nomatch e), fun d e => ?_⟩
      cases e
      subst hy
      exact List.mem_cons_self
    · rw [if_neg (by simpa using hy)]
      refine ⟨fun e p hp => ?_, fun d e => List.mem_cons_of_mem _ (ih.2 d e)⟩
      rcases List.mem_cons.mp hp with rfl | hp
      · exact hy
      · exact ih.1 e p hp
theorem str_inj {a b : Tx} (e : str_ a = str_ b) : a = b := by
  have := congrArg (fun s : Str => s.cps.toList) e
  simpa [str_] using this
theorem glb_dic {x : Str} {l : List (Tx × D)} (hz2 : 2 ≤ l.length) (X : K.In h) (G : h.Ns mainGlobals mg) (c : (He.Fa.glo x).ok K = true) (hl : l.all (fun p => isSca p.2) = true) (hd : He.dicW K (He.ga K x) = some (He.keysIn w.params (l.map fun p => str_ p.1)))
    (c2 : He.valsB K (He.ga K x) (l.map fun p => (str_ p.1, dvOf p.2)) = true) : GlbOk K w mg x (.dic (dicL l)) := by
  refine ⟨.ref (He.ga K x), _, He.glo_ok X G c, rfl, fun g H => .wdic (by show 2 ≤ (l.map _).length; rw [List.length_map]; exact hz2) ⟨He.dicW_ok hd, ⟨?_, ?_⟩, fun z => ⟨fun e => ?_, fun d e => ?_⟩⟩⟩
  · rw [belowK_iff]
    intro p hp
    obtain ⟨q, hq, rfl⟩ := List.mem_map.mp hp
    refine ⟨rfl, ?_⟩
    have := List.all_eq_true.mp hl q hq
    revert this
    cases q.2 <;> first | (intro _; rfl) | (intro z; cases z)
  · rw [List.any_eq_false]
    intro p hp
    obtain ⟨q, hq, rfl⟩ := List.mem_map.mp hp
    exact fun z => by cases z
  · refine ns_none hd fun hz => ?_
    obtain ⟨p, hp, e2⟩ := List.mem_map.mp hz
    exact look_dic.1 e p hp (str_inj e2)
  · have hm := look_dic.2 d e
    have hm' : (str_ z, dvOf d) ∈ l.map fun p => (str_ p.1, dvOf p.2) := List.mem_map.mpr ⟨_, hm, rfl⟩
    obtain ⟨u, h1, h2⟩ := He.valsB_ok c2 hm'
    exact ⟨u, _, h1, h2, sca_of (List.all_eq_true.mp hl _ hm)⟩
theorem tab_eq {fa : List He.Fa} {fn : List He.DefD} {ts : List He.Tab} (c : He.SaysT fa fn ts w K) (i : Nat) {t : He.Tab} (hh : ts[i]? = some t) : He.dicW K (t.1 K) = some (He.keysIn w.params t.2) := by
  have e : ts.map (fun t => He.dicW K (t.1 K)) = ts.map fun t => some (He.keysIn w.params t.2) := congrArg (fun z : He.AlT => z.2) c
  have e2 : (ts.map fun t => He.dicW K (t.1 K))[i]? = (ts.map fun t => some (He.keysIn w.params t.2))[i]? := by rw [e]
  rw [List.getElem?_map, List.getElem?_map, hh] at e2
  exact Option.some.inj e2
end
end Mc

set_option linter.all false
set_option maxRecDepth 100000
set_option Elab.async false
set_option maxHeartbeats 4000000
namespace Mc
universe u
open PySem
/-- what stands behind is not looked at -/
class Tok {α : Type} {β : Sort u} (f : α → β) where
  n : Nat
instance {α : Type} {β : Sort u} (f : α → β) : Tok f := ⟨0⟩
def bindL {α β : Type} (a : Option α) (f : α → Option β) [Tok f] : Option β := a.bind f
theorem bind_lz {α β : Type} {a : Option α} {f : α → Option β} : a.bind f = bindL a f := rfl
theorem bindL_some {α β : Type} {a : α} {f : α → Option β} [Tok f] : bindL (some a) f = f a := rfl
theorem bindL_none {α β : Type} {f : α → Option β} [Tok f] : bindL none f = none := rfl
def iteL {α : Sort u} (c : Prop) [Decidable c] (a b : Unit → α) [Tok a] [Tok b] : α := if c then a () else b ()
theorem ite_lz {α : Sort u} {c : Prop} [Decidable c] {a b : α} : (if c then a else b) = iteL c (fun _ => a) (fun _ => b) := rfl
theorem iteL_t {α : Sort u} {a b : Unit → α} [Tok a] [Tok b] : iteL True a b = a () := rfl
theorem iteL_f {α : Sort u} {a b : Unit → α} [Tok a] [Tok b] : iteL False a b = b () := rfl
theorem iteL_pos {α : Sort u} {c : Prop} [Decidable c] {a b : Unit → α} [Tok a] [Tok b] (h : c) : iteL c a b = a () := if_pos h
theorem iteL_neg {α : Sort u} {c : Prop} [Decidable c] {a b : Unit → α} [Tok a] [Tok b] (h : ¬ c) : iteL c a b = b () := if_neg h
/-- a call that hands back what its body says -/
theorem call_ret {T : Tab} {k b f np ns : Nat} {body : SL} {vs : List D} {st st' : Sto} {env' : Env} {v : D} (hf : T.defs[f]? = some ⟨np, ns, body, false⟩) (hn : vs.length = np)
    (h : evB ⟨callD T k, T.glb, T.shp, st.length, T.fuel⟩ body (vs.map some ++ List.replicate (ns - np) none) st = some (.rt v, env', st')) (hl : st'.length = st.length) : callD T (k + 1) b f vs st = some (v, st') := by
  simp only [callD, hf, Option.bind_some, hn, if_true, Bool.false_eq_true, if_false, h, popD, hl]
/-- the surroundings of a call's body -/
abbrev Tab.at_ (T : Tab) (k n : Nat) : Cfg := ⟨callD T k, T.glb, T.shp, n, T.fuel⟩
theorem add_int {c : Bool} {i j : Int} {st : Sto} : binE .add c (.int i) (.int j) st = some (.int (i + j), st) := rfl
theorem add_tup {c : Bool} {x y : List D} {st : Sto} (h : x.length + y.length ≤ line) : binE .add c (.tup x) (.tup y) st = some (.tup (x ++ y), st) := if_pos h
theorem add_str {c : Bool} {x y : Tx} {st : Sto} (h : x.length + y.length ≤ line) : binE .add c (.str x) (.str y) st = some (.str (x ++ y), st) := if_pos h
theorem sub_int {c : Bool} {i j : Int} {st : Sto} : binE .sub c (.int i) (.int j) st = some (.int (i - j), st) := rfl
theorem mul_int {c : Bool} {i j : Int} {st : Sto} (h : small64 i = true ∨ small64 j = true) : binE .mul c (.int i) (.int j) st = some (.int (i * j), st) := if_pos (by simpa using h)
theorem mod_int {c : Bool} {i j : Int} {st : Sto} (h : 0 < j) : binE .mod c (.int i) (.int j) st = some (.int (i % j), st) := if_pos h
theorem fdv_int {c : Bool} {i j : Int} {st : Sto} (h : 0 < j ∧ j < 1073741824) : binE .fdv c (.int i) (.int j) st = some (.int (i / j), st) := if_pos h
theorem pow_int {c : Bool} {i j : Int} {st : Sto} (h : 0 ≤ j ∧ j ≤ 100 ∧ small64 i = true) : binE .pow c (.int i) (.int j) st = some (.int (i ^ j.toNat), st) := if_pos h
theorem idx_own {n : Nat} {l : List (D × D)} {x : Tx} {st : Sto} (h : st[n]? = some (.dic l)) : idxE (.own n) (.str x) st = look (.str x) l := by
  simp [idxE, seqOf, lstOf, dicOf, h, keyOk]
theorem idx_ownI {n : Nat} {l : List D} {x : Int} {st : Sto} (h : st[n]? = some (.lst l)) : idxE (.own n) (.int x) st = Mc.at_ l x := by
  simp [idxE, seqOf, lstOf, h]
theorem idx_tup {l : List D} {x : Int} {st : Sto} : idxE (.tup l) (.int x) st = Mc.at_ l x := rfl
theorem idx_lst {l : List D} {x : Int} {st : Sto} : idxE (.lst l) (.int x) st = Mc.at_ l x := rfl
theorem look_hit {k a v : D} {r : List (D × D)} (h : kEq a k = true) : look k ((a, v) :: r) = some v := if_pos h
theorem look_miss {k a v : D} {r : List (D × D)} (h : kEq a k = false) : look k ((a, v) :: r) = look k r := by simp [look, h]
theorem kEq_str {a b : Tx} : kEq (.str a) (.str b) = decide (a = b) := rfl
theorem kEq_int {a b : Int} : kEq (.int a) (.int b) = decide (a = b) := rfl
theorem put_def {k v : D} {l : List (D × D)} : put k v l = if (l.any fun p => kEq p.1 k) = true then l.map (fun p => if kEq p.1 k = true then (p.1, v) else p) else l ++ [(k, v)] := rfl
theorem set_own {base n : Nat} {k d : D} {l : List (D × D)} {st : Sto} (h : st[n]? = some (.dic l)) (h2 : wr base n d = true ∧ isKey k = true ∧ l.length < line) : setE base (.own n) k d st = some (st.set n (.dic (put k d l))) := by
  simp [setE, h, h2]
theorem setI_own {base n : Nat} {i : Int} {d : D} {l : List D} {st : Sto} (h : st[n]? = some (.lst l)) (h2 : wr base n d = true) : setE base (.own n) (.int i) d st = (ixn l.length i).map fun j => st.set n (.lst (l.set j d)) := by
  simp [setE, h, h2]
theorem cmp_lt {i j : Int} {st : Sto} : cmpE .lt (.int i) (.int j) st = some (decide (i < j)) := rfl
theorem cmp_le {i j : Int} {st : Sto} : cmpE .le (.int i) (.int j) st = some (decide (i ≤ j)) := rfl
theorem cmp_gt {i j : Int} {st : Sto} : cmpE .gt (.int i) (.int j) st = some (decide (j < i)) := rfl
theorem cmp_ge {i j : Int} {st : Sto} : cmpE .ge (.int i) (.int j) st = some (decide (j ≤ i)) := rfl
theorem seq_tup {l : List D} {st : Sto} : seqOf st (.tup l) = some l := rfl
theorem seq_lst {l : List D} {st : Sto} : seqOf st (.lst l) = some l := rfl
theorem lst_lst {l : List D} {st : Sto} : lstOf st (.lst l) = some l := rfl
theorem lst_own {n : Nat} {l : List D} {st : Sto} (h : st[n]? = some (.lst l)) : lstOf st (.own n) = some l := by simp [lstOf, h]
theorem seq_own {n : Nat} {l : List D} {st : Sto} (h : st[n]? = some (.lst l)) : seqOf st (.own n) = some l := by simp [seqOf, lstOf, h]
theorem tru_bl {b : Bool} {st : Sto} : tru st (.bl b) = some b := rfl
theorem tru_int {b : Int} {st : Sto} : tru st (.int b) = some (b != 0) := rfl
theorem wr_int {b n : Nat} {i : Int} : wr b n (.int i) = true := by simp [wr, below]
theorem wr_str {b n : Nat} {i : Tx} : wr b n (.str i) = true := by simp [wr, below]
theorem met_ok {m : Met} {n : Nat} {l : List D} {st : Sto} (h : st[n]? = some (.lst l)) (hm : m = .append ∨ m = .extend ∨ m = .insert ∨ m = .pop0 ∨ m = .popI ∨ m = .index) : metOk m (.own n) st = true := by
  rcases hm with rfl | rfl | rfl | rfl | rfl | rfl <;> simp [metOk, lstOf, h]
theorem app_own {b n : Nat} {d : D} {l : List D} {st : Sto} (h : st[n]? = some (.lst l)) (h2 : l.length < line ∧ wr b n d = true) : metE b .append (.own n) [d] st = some (.non, st.set n (.lst (l ++ [d]))) := by
  simp [metE, h, h2]
theorem pop_own {b n : Nat} {d : D} {l : List D} {st : Sto} (h : st[n]? = some (.lst (l ++ [d]))) : metE b .pop0 (.own n) [] st = some (d, st.set n (.lst l)) := by
  simp [metE, h]
theorem small_pos {i : Int} (h : 0 ≤ i) (h2 : i < 2 ^ 64) : small64 i = true := by simp [small64]; omega
theorem ints_plainL : ∀ (n : Nat) (l : List Int), plainL n (l.map .int) = true
  | _, [] => by simp [plainL]
  | n, i :: l => by rw [List.map_cons, plainL, ints_plainL n l]; cases n <;> rfl
theorem plainL_nil {n : Nat} : plainL n [] = true := by simp [plainL]
theorem small_lit {n : Nat} (h : n < 18446744073709551616) : small64 (no_index (OfNat.ofNat n)) = true := small_pos (Int.natCast_nonneg n) (by show (n : Int) < 2 ^ 64; omega)
theorem popl_own {b n : Nat} {l : List D} {st : Sto} (h : st[n]? = some (.lst l)) : metE b .pop0 (.own n) [] st = (l.getLast?).map fun d => (d, st.set n (.lst l.dropLast)) := by
  simp [metE, h, List.getLast?_eq_getElem?]
theorem call_raw {T : Tab} {k b f np ns : Nat} {body : SL} {vs : List D} {st st' : Sto} {env' : Env} {v : D} (hf : T.defs[f]? = some ⟨np, ns, body, true⟩) (hn : vs.length = np)
    (h : evB ⟨callD T k, T.glb, T.shp, b, T.fuel⟩ body (vs.map some ++ List.replicate (ns - np) none) st = some (.rt v, env', st')) : callD T (k + 1) b f vs st = some (v, st') := by
  simp only [callD, hf, Option.bind_some, hn, if_true, h]
theorem slc_scr {l : List Int} {lo hi : Option Int} {c : Bool} {st : Sto} : slcE (.scr l) lo hi c st = some (mkL c ((cut l lo hi).map .int) st) := rfl
theorem blt_listO {n : Nat} {l : List D} {c : Bool} {st : Sto} (h : st[n]? = some (.lst l)) : bltE .list c [.own n] st = some (mkL c l st) := by simp [bltE, seqOf, lstOf, h]
theorem blt_lenO {n : Nat} {l : List D} {c : Bool} {st : Sto} (h : st[n]? = some (.lst l)) : bltE .len c [.own n] st = some (.int l.length, st) := by simp [bltE, seqOf, lstOf, h]
theorem blt_lenL {l : List D} {c : Bool} {st : Sto} : bltE .len c [.lst l] st = some (.int l.length, st) := rfl
theorem blt_lenT {l : List D} {c : Bool} {st : Sto} : bltE .len c [.tup l] st = some (.int l.length, st) := rfl
theorem rev_own {n : Nat} {l : List D} {c : Bool} {st : Sto} (h : st[n]? = some (.lst l)) : revE (.own n) c st = some (mkL c l.reverse st) := by simp [revE, lstOf, h]
theorem sameL_ints : ∀ l : List Int, sameL (l.map .int) (l.map .int) = true
  | [] => by simp [sameL]
  | i :: l => by simp [sameL, same, sameL_ints l]
theorem still_own {n : Nat} {l m : List D} {st : Sto} (h : st[n]? = some (.lst m)) : still (.own n) l st = sameL m l := by simp [still, h]
theorem still_scr {l : List Int} {m : List D} {st : Sto} : still (.scr l) m st = true := rfl
theorem still_zip {a b : D} {x y : List D} {st : Sto} : still (.dic [(a, b)]) [.lst x, .lst y] st = (stillO a x st && stillO b y st) := rfl
theorem stillO_own {n : Nat} {l m : List D} {st : Sto} (h : st[n]? = some (.lst m)) : stillO (.own n) l st = sameL m l := by simp [stillO, h]
theorem stillO_tup {l m : List D} {st : Sto} : stillO (.tup l) m st = true := rfl
theorem stillO_lst {l m : List D} {st : Sto} : stillO (.lst l) m st = true := rfl
theorem sameL_map {α : Type} {f : α → D} (h : ∀ a, same (f a) (f a) = true) : ∀ l : List α, sameL (l.map f) (l.map f) = true
  | [] => by simp [sameL]
  | a :: l => by simp [sameL, h a, sameL_map h l]
theorem isl_tup {l : List D} {st : Sto} : isLst st (.tup l) = false := rfl
theorem isl_lst {l : List D} {st : Sto} : isLst st (.lst l) = true := rfl
theorem isl_own {n : Nat} {l : List D} {st : Sto} (h : st[n]? = some (.lst l)) : isLst st (.own n) = true := by simp [isLst, lstOf, h]
theorem loopF_inv {step : D → Env → Sto → Option (Fl × Env × Sto)} (I : List D → Env → Sto → Prop) (hs : ∀ d r env st, I (d :: r) env st → ∃ env' st', step d env st = some (.nx, env', st') ∧ I r env' st') :
    ∀ (l : List D) (env : Env) (st : Sto), I l env st → ∃ env' st', loopF step l env st = some (.nx, env', st') ∧ I [] env' st'
  | [], env, st, h => ⟨env, st, rfl, h⟩
  | d :: r, env, st, h => by
    obtain ⟨env', st', e, h'⟩ := hs d r env st h
    obtain ⟨env2, st2, e2, h2⟩ := loopF_inv I hs r env' st' h'
    exact ⟨env2, st2, by simp only [loopF, e, Option.bind_some, e2], h2⟩
theorem loopC_map {step : D → Sto → Option (Option D × Sto)} (f : D → D) (st : Sto) : ∀ (l : List D), (∀ d ∈ l, step d st = some (some (f d), st)) → loopC step l st = some (l.map f, st)
  | [], _ => rfl
  | d :: r, h => by
    simp only [loopC, h d List.mem_cons_self, Option.bind_some, loopC_map f st r fun d hd => h d (List.mem_cons_of_mem _ hd), Option.map_some, List.map_cons]
theorem loopC_fil {step : D → Sto → Option (Option D × Sto)} (f : D → Option D) (st : Sto) : ∀ (l : List D), (∀ d ∈ l, step d st = some (f d, st)) → loopC step l st = some (l.filterMap f, st)
  | [], _ => rfl
  | d :: r, h => by
    simp only [loopC, h d List.mem_cons_self, Option.bind_some, loopC_fil f st r fun d hd => h d (List.mem_cons_of_mem _ hd), Option.map_some, List.filterMap_cons]
    cases f d <;> rfl
theorem loopC_inv {step : D → Sto → Option (Option D × Sto)} (I : List D → Sto → Prop) (P : D → Prop) (hs : ∀ d r st, I (d :: r) st → ∃ v st', step d st = some (some v, st') ∧ P v ∧ I r st') :
    ∀ (l : List D) (st : Sto), I l st → ∃ vs st', loopC step l st = some (vs, st') ∧ vs.length = l.length ∧ (∀ v ∈ vs, P v) ∧ I [] st'
  | [], st, h => ⟨[], st, rfl, rfl, (fun x hx => absurd hx List.not_mem_nil), h⟩
  | d :: r, st, h => by
    obtain ⟨v, st', e, p, h'⟩ := hs d r st h
    obtain ⟨vs, st2, e2, el, p2, h2⟩ := loopC_inv I P hs r st' h'
    exact ⟨v :: vs, st2, by simp only [loopC, e, Option.bind_some, e2, Option.map_some], by simp [el], fun x hx => (List.mem_cons.mp hx).elim (fun z => z ▸ p) (p2 x), h2⟩
theorem B_nx {Γ : Cfg} {s : S} {r : SL} {env env1 : Env} {st st1 : Sto} (h : evS Γ s env st = some (.nx, env1, st1)) : evB Γ (.cons s r) env st = evB Γ r env1 st1 := by
  simp only [evB, h, Option.bind_some]
theorem B_rt {Γ : Cfg} {s : S} {r : SL} {env env1 : Env} {st st1 : Sto} {v : D} (h : evS Γ s env st = some (.rt v, env1, st1)) : evB Γ (.cons s r) env st = some (.rt v, env1, st1) := by
  simp only [evB, h, Option.bind_some]
theorem S_for {Γ : Cfg} {t : Tg} {it : It} {b : SL} {env : Env} {st st1 : Sto} {src : D} {cont items : List D} (hi : evI Γ it env st = some ((src, cont, items), st1)) (I : List D → Env → Sto → Prop)
    (hs : ∀ d r env st, I (d :: r) env st → ∃ env1 st1 env' st', asT Γ t d env st = some (env1, st1) ∧ evB Γ b env1 st1 = some (.nx, env', st') ∧ still src cont st' = true ∧ I r env' st') (h0 : I items env st1) :
    ∃ env' st', evS Γ (.for_ t it b) env st = some (.nx, env', st') ∧ I [] env' st' := by
  obtain ⟨env', st', e, h⟩ := loopF_inv (step := fun d env st => (asT Γ t d env st).bind fun y => (evB Γ b y.1 y.2).bind fun z => if still src cont z.2.2 then some z else none) I (fun d r env st hI => by
    obtain ⟨env1, st1, env', st', e1, e2, e3, e4⟩ := hs d r env st hI
    exact ⟨env', st', by simp only [e1, e2, Option.bind_some, e3, if_true], e4⟩) items env st1 h0
  exact ⟨env', st', by simp only [evS, hi, Option.bind_some]; exact e, h⟩
/-- a list made item by item -/
theorem E_lc {Γ : Cfg} {t : Tg} {it : It} {fs : FL} {e : E} {own : List Nat} {env : Env} {st st1 : Sto} {src : D} {cont items : List D} (hi : evI Γ it env st = some ((src, cont, items), st1)) (I : List D → Sto → Prop) (P : D → Prop)
    (hs : ∀ d r st, I (d :: r) st → ∃ env1 st1 st2 v st', asT Γ t d (wipe env own) st = some (env1, st1) ∧ evF Γ fs env1 st1 = some (true, st2) ∧ evE Γ e env1 st2 = some (v, st') ∧ still src cont st' = true ∧ P v ∧ I r st') (h0 : I items st1) (hl : items.length ≤ line) :
    ∃ vs st', evE Γ (.lc t it fs e own false) env st = some (.lst vs, st') ∧ vs.length = items.length ∧ (∀ v ∈ vs, P v) ∧ I [] st' := by
  obtain ⟨vs, st', e1, e2, e3, e4⟩ := loopC_inv (step := fun d st => (asT Γ t d (wipe env own) st).bind fun y => (evF Γ fs y.1 y.2).bind fun z =>
      if z.1 = true then (evE Γ e y.1 z.2).bind fun v => if still src cont v.2 then some (some v.1, v.2) else none else if still src cont z.2 then some (none, z.2) else none) I P (fun d r st hI => by
    obtain ⟨env1, st1, st2, v, st', e1, e2, e3, e4, e5, e6⟩ := hs d r st hI
    exact ⟨v, st', by simp only [e1, e2, e3, Option.bind_some, e4, if_true], e5, e6⟩) items st1 h0
  refine ⟨vs, st', ?_, e2, e3, e4⟩
  simp only [evE, hi, Option.bind_some]
  rw [e1]
  simp only [Option.bind_some, e2, hl, if_true]
  rfl
/-- a list made item by item, nothing else -/
theorem E_lcP {Γ : Cfg} {t : Tg} {it : It} {fs : FL} {e : E} {own : List Nat} {env : Env} {st st1 : Sto} {src : D} {cont items : List D} (f : D → D) (hi : evI Γ it env st = some ((src, cont, items), st1))
    (hs : ∀ d ∈ items, ∃ env1, asT Γ t d (wipe env own) st1 = some (env1, st1) ∧ evF Γ fs env1 st1 = some (true, st1) ∧ evE Γ e env1 st1 = some (f d, st1)) (hst : still src cont st1 = true) (hl : items.length ≤ line) :
    evE Γ (.lc t it fs e own false) env st = some (.lst (items.map f), st1) := by
  have := loopC_map (step := fun d st => (asT Γ t d (wipe env own) st).bind fun y => (evF Γ fs y.1 y.2).bind fun z =>
      if z.1 = true then (evE Γ e y.1 z.2).bind fun v => if still src cont v.2 then some (some v.1, v.2) else none else if still src cont z.2 then some (none, z.2) else none) f st1 items (fun d hd => by
    obtain ⟨env1, e1, e2, e3⟩ := hs d hd
    simp only [e1, e2, e3, Option.bind_some, hst, if_true])
  simp only [evE, hi, Option.bind_some]
  rw [this]
  simp only [Option.bind_some, List.length_map, hl, if_true]
  rfl
/-- with a test -/
theorem E_lcF {Γ : Cfg} {t : Tg} {it : It} {fs : FL} {e : E} {own : List Nat} {env : Env} {st st1 : Sto} {src : D} {cont items : List D} (p : D → Bool) (f : D → D) (hi : evI Γ it env st = some ((src, cont, items), st1))
    (hs : ∀ d ∈ items, ∃ env1, asT Γ t d (wipe env own) st1 = some (env1, st1) ∧ evF Γ fs env1 st1 = some (p d, st1) ∧ (p d = true → evE Γ e env1 st1 = some (f d, st1))) (hst : still src cont st1 = true) (hl : items.length ≤ line) :
    evE Γ (.lc t it fs e own false) env st = some (.lst ((items.filter p).map f), st1) := by
  have := loopC_fil (step := fun d st => (asT Γ t d (wipe env own) st).bind fun y => (evF Γ fs y.1 y.2).bind fun z =>
      if z.1 = true then (evE Γ e y.1 z.2).bind fun v => if still src cont v.2 then some (some v.1, v.2) else none else if still src cont z.2 then some (none, z.2) else none) (fun d => if p d = true then some (f d) else none) st1 items (fun d hd => by
    obtain ⟨env1, e1, e2, e3⟩ := hs d hd
    cases hp : p d with
    | true => simp only [e1, e2, e3 hp, hp, Option.bind_some, hst, if_true]
    | false => simp only [e1, e2, hp, Option.bind_some, hst, Bool.false_eq_true, if_false, if_true])
  have e4 : ∀ l : List D, l.filterMap (fun d => if p d = true then some (f d) else none) = (l.filter p).map f := by
    intro l
    induction l with
    | nil => rfl
    | cons d l ih => by_cases hp : p d = true <;> simp [List.filter_cons, List.filterMap_cons, hp, ih]
  simp only [evE, hi, Option.bind_some]
  rw [this, e4]
  simp only [Option.bind_some, List.length_map, if_true, show (items.filter p).length ≤ line from Nat.le_trans (List.length_filter_le _ _) hl]
  rfl
theorem at_in {α : Type} {l : List α} {i : Int} (h : 0 ≤ i) (h2 : i < l.length) : ∃ d, d ∈ l ∧ Mc.at_ l i = some d := by
  have h3 : i.toNat < l.length := by omega
  refine ⟨l[i.toNat], List.getElem_mem h3, ?_⟩
  simp [Mc.at_, ixn, h, h2, h3]
theorem E_lcQ {Γ : Cfg} {t : Tg} {it : It} {fs : FL} {e : E} {own : List Nat} {env : Env} {st st1 : Sto} {src : D} {cont items : List D} (f : D → D) (hi : evI Γ it env st = some ((src, cont, items), st1))
    (hs : ∀ d ∈ items, ((asT Γ t d (wipe env own) st1).bind fun y => (evF Γ fs y.1 y.2).bind fun z => if z.1 = true then evE Γ e y.1 z.2 else none) = some (f d, st1)) (hst : still src cont st1 = true) (hl : items.length ≤ line) :
    evE Γ (.lc t it fs e own false) env st = some (.lst (items.map f), st1) := by
  have := loopC_map (step := fun d st => (asT Γ t d (wipe env own) st).bind fun y => (evF Γ fs y.1 y.2).bind fun z =>
      if z.1 = true then (evE Γ e y.1 z.2).bind fun v => if still src cont v.2 then some (some v.1, v.2) else none else if still src cont z.2 then some (none, z.2) else none) f st1 items (fun d hd => by
    have h := hs d hd
    obtain ⟨y, hy, h⟩ := Option.bind_eq_some_iff.mp h
    obtain ⟨z, hz, h⟩ := Option.bind_eq_some_iff.mp h
    split at h
    · rename_i hz1
      simp only [hy, hz, Option.bind_some, hz1, if_true, h, hst]
    · cases h)
  simp only [evE, hi, Option.bind_some]
  rw [this]
  simp only [Option.bind_some, List.length_map, hl, if_true]
  rfl
theorem map_eq {α β : Type} {f g : α → β} {l : List α} (h : l.map f = l.map g) : ∀ a ∈ l, f a = g a := List.map_inj_left.mp h
theorem call_ret' {T : Tab} {k b f np ns : Nat} {body : SL} {vs : List D} {st st' : Sto} {v : D} (hf : T.defs[f]? = some ⟨np, ns, body, false⟩) (hn : vs.length = np)
    (h : (evB ⟨callD T k, T.glb, T.shp, st.length, T.fuel⟩ body (vs.map some ++ List.replicate (ns - np) none) st).map (fun x => (x.1, x.2.2)) = some (.rt v, st')) (hl : st'.length = st.length) : callD T (k + 1) b f vs st = some (v, st') := by
  obtain ⟨⟨f1, e1, s1⟩, h1, h2⟩ := Option.map_eq_some_iff.mp h
  cases h2
  exact call_ret hf hn h1 hl
theorem trus_bl : ∀ l : List D, (∀ d ∈ l, d = .bl true) → trus l = some (l.map fun _ => true)
  | [], _ => rfl
  | d :: l, h => by
    have := h d List.mem_cons_self
    subst this
    simp only [trus, trus_bl l fun d hd => h d (List.mem_cons_of_mem _ hd), Option.map_some, List.map_cons]
theorem plainL_all {n : Nat} : ∀ l : List D, (∀ d ∈ l, plain n d = true) → plainL n l = true
  | [], _ => by simp [plainL]
  | d :: l, h => by rw [plainL, h d List.mem_cons_self, plainL_all l fun d hd => h d (List.mem_cons_of_mem _ hd)]; rfl
theorem wtL_all {m : Nat} : ∀ l : List D, (∀ d ∈ l, wt d ≤ m) → wtL l ≤ (m + 2) * l.length
  | [], _ => by simp [wtL]
  | d :: l, h => by
    have h1 := h d List.mem_cons_self
    have h2 := wtL_all l fun d hd => h d (List.mem_cons_of_mem _ hd)
    have h3 : wtL (d :: l) = wt d + 2 + wtL l := by simp only [wtL]
    rw [h3, List.length_cons, Nat.mul_add]; omega
theorem showL_all : ∀ l : List D, (∀ d ∈ l, (toPy d).showable = true) → PyData.showableAll (toPyL l) = true
  | [], _ => by simp [toPyL, PyData.showableAll]
  | d :: l, h => by
    have h1 := h d List.mem_cons_self
    have h2 := showL_all l fun d hd => h d (List.mem_cons_of_mem _ hd)
    simp only [toPyL, PyData.showableAll, h1, h2, Bool.and_self]
theorem repr_tup {l : List D} {c : Bool} {st : Sto} (h : plain 60 (.tup l) = true) (h2 : showOk (.tup l) = true) : bltE .repr c [.tup l] st = some (.str (shown (.tup l)), st) := by
  have e : bltE .repr c [.tup l] st = if plain 60 (.tup l) && showOk (.tup l) then some (.str (shown (.tup l)), st) else if plainZ 60 (.tup l) && showOk (.tup l) then some (.str (shown (.tup l)), st) else none := rfl
  rw [e, h, h2]; rfl
theorem repr_lst {l : List D} {c : Bool} {st : Sto} (h : plain 60 (.lst l) = true) (h2 : showOk (.lst l) = true) : bltE .repr c [.lst l] st = some (.str (shown (.lst l)), st) := by
  have e : bltE .repr c [.lst l] st = if plain 60 (.lst l) && showOk (.lst l) then some (.str (shown (.lst l)), st) else if plainZ 60 (.lst l) && showOk (.lst l) then some (.str (shown (.lst l)), st) else none := rfl
  rw [e, h, h2]; rfl
theorem eq_str {a b : Tx} {st : Sto} : cmpE .eq (.str a) (.str b) st = some (decide (a = b)) := rfl
theorem ne_str {a b : Tx} {st : Sto} : cmpE .ne (.str a) (.str b) st = some (!decide (a = b)) := rfl
theorem slc_tup {l : List D} {lo hi : Option Int} {c : Bool} {st : Sto} : slcE (.tup l) lo hi c st = some (.tup (cut l lo hi), st) := rfl
theorem add_lst {c : Bool} {x y : List D} {st : Sto} (h : x.length + y.length ≤ line) : binE .add c (.lst x) (.lst y) st = some (mkL c (x ++ y) st) := if_pos h
theorem isn_bl {x y : Bool} {st : Sto} : cmpE .isn (.bl x) (.bl y) st = some (!(x == y)) := rfl
theorem is_bl {x y : Bool} {st : Sto} : cmpE .is (.bl x) (.bl y) st = some (x == y) := rfl
theorem blt_tupL {l : List D} {c : Bool} {st : Sto} : bltE .tuple c [.lst l] st = some (.tup l, st) := rfl
theorem blt_all {l : List D} {c : Bool} {st : Sto} : bltE .all c [.lst l] st = (trus l).map fun l => (.bl (l.all id), st) := rfl
theorem cut_mem {α : Type} {l : List α} {lo hi : Option Int} {a : α} (h : a ∈ cut l lo hi) : a ∈ l := List.mem_of_mem_drop (List.mem_of_mem_take h)
theorem cut_len {α : Type} {l : List α} {lo hi : Option Int} : (cut l lo hi).length ≤ l.length := by simp [cut]; omega
theorem still_tup {l m : List D} {st : Sto} : still (.tup l) m st = true := rfl
theorem still_lst {l m : List D} {st : Sto} : still (.lst l) m st = true := rfl
theorem still_non {m : List D} {st : Sto} : still .non m st = true := rfl
theorem still_str {l : Tx} {m : List D} {st : Sto} : still (.str l) m st = true := rfl
theorem ty_tup {l : List D} {st : Sto} : tyOf st (.tup l) = some .tuple := rfl
theorem ty_str {l : Tx} {st : Sto} : tyOf st (.str l) = some .str := rfl
theorem E_and {Γ : Cfg} {a b : E} {env : Env} {st st1 : Sto} {d : D} (h : evE Γ a env st = some (d, st1)) (h2 : tru st1 d = some true) : evE Γ (.and a b) env st = evE Γ b env st1 := by
  rw [evE]; simp only [h, Option.bind_some, h2, if_true]
theorem E_andF {Γ : Cfg} {a b : E} {env : Env} {st st1 : Sto} {d : D} (h : evE Γ a env st = some (d, st1)) (h2 : tru st1 d = some false) : evE Γ (.and a b) env st = some (d, st1) := by
  rw [evE]; simp only [h, Option.bind_some, h2, Bool.false_eq_true, if_false]
theorem S_ret {Γ : Cfg} {a : E} {env : Env} {st st1 : Sto} {d : D} (h : evE Γ a env st = some (d, st1)) : evS Γ (.ret a) env st = some (.rt d, env, st1) := by
  simp only [evS, h, Option.map_some]
theorem S_iffF {Γ : Cfg} {t : Te} {a b : SL} {env : Env} {st st1 : Sto} (h : evT Γ t env st = some (false, st1)) : evS Γ (.iff t a b) env st = evB Γ b env st1 := by
  simp only [evS, h, Option.bind_some, Bool.false_eq_true, if_false]
theorem S_iffT {Γ : Cfg} {t : Te} {a b : SL} {env : Env} {st st1 : Sto} (h : evT Γ t env st = some (true, st1)) : evS Γ (.iff t a b) env st = evB Γ a env st1 := by
  simp only [evS, h, Option.bind_some, if_true]
theorem call_bl {T : Tab} {k b f np ns : Nat} {body : SL} {vs : List D} {st st' : Sto} {env' : Env} {v : Bool} (hf : T.defs[f]? = some ⟨np, ns, body, false⟩) (hn : vs.length = np)
    (h : evB ⟨callD T k, T.glb, T.shp, st.length, T.fuel⟩ body (vs.map some ++ List.replicate (ns - np) none) st = some (.rt (.bl v), env', st')) : ∃ st2, callD T (k + 1) b f vs st = some (.bl v, st2) := by
  simp only [callD, hf, Option.bind_some, hn, if_true, Bool.false_eq_true, if_false, h, popD]
  split
  · exact ⟨_, rfl⟩
  · refine ⟨st'.take st.length, ?_⟩
    simp only [frz, Option.map_some]
theorem line_val : line = 16777216 := by decide
theorem filt_no {l : List D} : l.filter (fun _ => false) = [] := by simp [List.filter_eq_nil_iff]
theorem small_mod {i m : Int} (h : 0 < m) (h2 : m < 18446744073709551616) : small64 (i % m) = true := small_pos (Int.emod_nonneg _ (by omega)) (by have := Int.emod_lt_of_pos i h; omega)
theorem ne_nil {n : Nat} {l : List D} {st : Sto} (h : st[n]? = some (.lst l)) (hp : plainL 59 l = true) : cmpE .ne (.own n) (.lst []) st = some (!l.isEmpty) := by
  have e : eqE (.own n) (.lst []) st = some l.isEmpty := by
    have e1 : res st (.own n) = .lst l := by simp [res, h]
    show (if plain 60 (res st (.own n)) && plain 60 (res st (.lst [])) then some (eqv (res st (.own n)) (res st (.lst []))) else eqE.eqN (.own n) (.lst []) st) = _
    rw [e1, if_pos (by simp [plain, hp, res, plainL])]
    cases l <;> rfl
  show (eqE _ _ _).map _ = _
  rw [e]; rfl
theorem eq_nil {n : Nat} {l : List D} {st : Sto} (h : st[n]? = some (.lst l)) (hp : plainL 59 l = true) : cmpE .eq (.own n) (.lst []) st = some l.isEmpty := by
  have e1 : res st (.own n) = .lst l := by simp [res, h]
  show (if plain 60 (res st (.own n)) && plain 60 (res st (.lst [])) then some (eqv (res st (.own n)) (res st (.lst []))) else eqE.eqN (.own n) (.lst []) st) = _
  rw [e1, if_pos (by simp [plain, hp, res, plainL])]
  cases l <;> rfl
/-- the name of a place in a dict -/
abbrev tItems : Tx := [105,116,101,109,115]
abbrev tSeed : Tx := [115,101,101,100]
abbrev tDraws : Tx := [100,114,97,119,115]
structure Dk where
  a : List D
  b : List D
  its : List Int
  seed : Int
  draws : Int
/-- the deck's cells, the first four -/
def Dk.st (q : Dk) (r : Sto) : Sto := .lst q.a :: .lst q.b :: .lst (q.its.map .int) :: .dic [(.str tItems, .own 2), (.str tSeed, .int q.seed), (.str tDraws, .int q.draws)] :: r
/-- few cards, few draws -/
def Dk.ok (q : Dk) (n : Int) : Prop := q.its.length ≤ 64 ∧ 0 ≤ q.draws ∧ q.draws ≤ n
theorem Dk.ok.mono {q : Dk} {n m : Int} (h : q.ok n) (hm : n ≤ m) : q.ok m := ⟨h.1, h.2.1, Int.le_trans h.2.2 hm⟩
def W {α : Type} (r : Option α) (Q : α → Prop) [Tok Q] : Prop := ∃ a, r = some a ∧ Q a
section
variable {α β : Type}
theorem W_some {Q : α → Prop} {a : α} : W (some a) Q ↔ Q a := ⟨fun ⟨_, h, q⟩ => by cases h; exact q, fun q => ⟨a, rfl, q⟩⟩
theorem W_of {r : Option α} {Q : α → Prop} {a : α} (h : r = some a) (q : Q a) : W r Q := ⟨a, h, q⟩
theorem W_eq {r : Option α} {a : α} (h : W r fun x => x = a) : r = some a := by obtain ⟨_, e, rfl⟩ := h; exact e
theorem W.mono {r : Option α} {P Q : α → Prop} (h : W r P) (i : ∀ a, P a → Q a) : W r Q := by obtain ⟨a, e, p⟩ := h; exact ⟨a, e, i a p⟩
theorem W_bind {r : Option α} {f : α → Option β} {Q : β → Prop} : W (bindL r f) Q ↔ W r fun a => W (f a) Q := by
  constructor
  · rintro ⟨b, h, q⟩
    obtain ⟨a, h1, h2⟩ := Option.bind_eq_some_iff.mp h
    exact ⟨a, h1, b, h2, q⟩
  · rintro ⟨a, h1, b, h2, q⟩
    exact ⟨b, by rw [h1]; exact h2, q⟩
theorem W_map {r : Option α} {f : α → β} {Q : β → Prop} : W (r.map f) Q ↔ W r fun a => Q (f a) := by
  constructor
  · rintro ⟨b, h, q⟩
    obtain ⟨a, h1, rfl⟩ := Option.map_eq_some_iff.mp h
    exact ⟨a, h1, q⟩
  · rintro ⟨a, h1, q⟩
    exact ⟨f a, by rw [h1]; rfl, q⟩
theorem W_ite {c : Prop} [Decidable c] {a b : Unit → Option α} {Q : α → Prop} : W (iteL c a b) Q ↔ iteL c (fun _ => W (a ()) Q) (fun _ => W (b ()) Q) := by unfold iteL; split <;> exact Iff.rfl
theorem bind_ite {c : Prop} [Decidable c] {a b : Unit → Option α} {f : α → Option β} : bindL (iteL c a b) f = iteL c (fun _ => bindL (a ()) f) (fun _ => bindL (b ()) f) := by unfold iteL; split <;> rfl
theorem map_ite {c : Prop} [Decidable c] {a b : Unit → Option α} {f : α → β} : Option.map f (iteL c a b) = iteL c (fun _ => Option.map f (a ())) (fun _ => Option.map f (b ())) := by unfold iteL; split <;> rfl
def loopFL (step : D → Env → Sto → Option (Fl × Env × Sto)) [Tok step] (l : List D) (env : Env) (st : Sto) : Option (Fl × Env × Sto) := loopF step l env st
def loopCL (step : D → Sto → Option (Option D × Sto)) [Tok step] (l : List D) (st : Sto) : Option (List D × Sto) := loopC step l st
def loopKL (step : D → Sto → Option (Option (D × D) × Sto)) [Tok step] (l : List D) (a : List (D × D)) (st : Sto) : Option (List (D × D) × Sto) := loopK step l a st
def loopWL (test : Env → Sto → Option (Bool × Sto)) (body : Env → Sto → Option (Fl × Env × Sto)) [Tok test] [Tok body] (n : Nat) (env : Env) (st : Sto) : Option (Fl × Env × Sto) := loopW test body n env st
theorem loopF_lz {step : D → Env → Sto → Option (Fl × Env × Sto)} {l : List D} {env : Env} {st : Sto} : loopF step l env st = loopFL step l env st := rfl
theorem loopC_lz {step : D → Sto → Option (Option D × Sto)} {l : List D} {st : Sto} : loopC step l st = loopCL step l st := rfl
theorem loopK_lz {step : D → Sto → Option (Option (D × D) × Sto)} {l : List D} {a : List (D × D)} {st : Sto} : loopK step l a st = loopKL step l a st := rfl
theorem loopW_lz {test : Env → Sto → Option (Bool × Sto)} {body : Env → Sto → Option (Fl × Env × Sto)} {n : Nat} {env : Env} {st : Sto} : loopW test body n env st = loopWL test body n env st := rfl
end
/-- a for: nothing breaks it -/
theorem W_for {α : Type} (enc : α → D) (l : List α) (I : List α → Env → Sto → Prop) {step : D → Env → Sto → Option (Fl × Env × Sto)} {items : List D} {env : Env} {st : Sto} {Q : Fl × Env × Sto → Prop}
    (hi : items = l.map enc) (h0 : I l env st) (hs : ∀ a r env st, I (a :: r) env st → W (step (enc a) env st) fun x => x.1 = .nx ∧ I r x.2.1 x.2.2) (hn : ∀ env st, I [] env st → Q (.nx, env, st)) : W (loopFL step items env st) Q := by
  subst hi
  unfold loopFL
  induction l generalizing env st with
  | nil => exact ⟨_, rfl, hn _ _ h0⟩
  | cons a r ih =>
    obtain ⟨⟨f, env', st'⟩, e, rfl, h⟩ := hs a r env st h0
    simp only [List.map_cons, loopF, e, Option.bind_some]
    exact ih h
/-- a for that may end early -/
theorem W_forR {α : Type} (enc : α → D) (l : List α) (I : List α → Env → Sto → Prop) {step : D → Env → Sto → Option (Fl × Env × Sto)} {items : List D} {env : Env} {st : Sto} {Q : Fl × Env × Sto → Prop}
    (hi : items = l.map enc) (h0 : I l env st) (hs : ∀ a r env st, I (a :: r) env st → W (step (enc a) env st) fun x => match x.1 with
      | .nx => I r x.2.1 x.2.2
      | .ct => I r x.2.1 x.2.2
      | .bk => Q (.nx, x.2.1, x.2.2)
      | .rt v => Q (.rt v, x.2.1, x.2.2)) (hn : ∀ env st, I [] env st → Q (.nx, env, st)) : W (loopFL step items env st) Q := by
  subst hi
  unfold loopFL
  induction l generalizing env st with
  | nil => exact ⟨_, rfl, hn _ _ h0⟩
  | cons a r ih =>
    obtain ⟨⟨f, env', st'⟩, e, h⟩ := hs a r env st h0
    simp only [List.map_cons, loopF, e, Option.bind_some]
    cases f with
    | nx => exact ih h
    | ct => exact ih h
    | bk => exact ⟨_, rfl, h⟩
    | rt v => exact ⟨_, rfl, h⟩
/-- a while -/
theorem W_whl {test : Env → Sto → Option (Bool × Sto)} {body : Env → Sto → Option (Fl × Env × Sto)} {Q : Fl × Env × Sto → Prop} (I : Nat → Env → Sto → Prop) (m : Nat) {n : Nat} {env : Env} {st : Sto} (hm : m < n) (h0 : I m env st)
    (hs : ∀ m env st, I m env st → W (test env st) fun b => if b.1 = true then W (body env b.2) fun x => match x.1 with
      | .nx => ∃ m', m' < m ∧ I m' x.2.1 x.2.2
      | .ct => ∃ m', m' < m ∧ I m' x.2.1 x.2.2
      | .bk => Q (.nx, x.2.1, x.2.2)
      | .rt v => Q (.rt v, x.2.1, x.2.2) else Q (.nx, env, b.2)) : W (loopWL test body n env st) Q := by
  unfold loopWL
  induction n generalizing m env st with
  | zero => omega
  | succ n ih =>
    obtain ⟨⟨b, st1⟩, e, h⟩ := hs m env st h0
    simp only [loopW, e, Option.bind_some]
    split
    · rename_i hb
      rw [if_pos hb] at h
      obtain ⟨⟨f, env', st'⟩, e2, h⟩ := h
      simp only [e2, Option.bind_some]
      cases f with
      | nx => obtain ⟨m', h1, h2⟩ := h; exact ih m' (by omega) h2
      | ct => obtain ⟨m', h1, h2⟩ := h; exact ih m' (by omega) h2
      | bk => exact ⟨_, rfl, h⟩
      | rt v => exact ⟨_, rfl, h⟩
    · rename_i hb
      rw [if_neg hb] at h
      exact ⟨_, rfl, h⟩
/-- a list made item by item, with a state -/
theorem W_lc {α : Type} (enc : α → D) (l : List α) (I : List α → List D → Sto → Prop) {step : D → Sto → Option (Option D × Sto)} {items : List D} {st : Sto} {Q : List D × Sto → Prop}
    (hi : items = l.map enc) (h0 : I l [] st) (hs : ∀ a r vs st, I (a :: r) vs st → W (step (enc a) st) fun x => match x.1 with
      | some v => I r (vs ++ [v]) x.2
      | none => I r vs x.2) (hn : ∀ vs st, I [] vs st → Q (vs, st)) : W (loopCL step items st) Q := by
  subst hi
  unfold loopCL
  have key : ∀ (l : List α) (vs : List D) (st : Sto), I l vs st → W (loopC step (l.map enc) st) fun x => I [] (vs ++ x.1) x.2 := by
    intro l
    induction l with
    | nil => intro vs st h; exact ⟨([], st), rfl, by simpa using h⟩
    | cons a r ih =>
      intro vs st h
      obtain ⟨⟨o, st'⟩, e, h⟩ := hs a r vs st h
      simp only [List.map_cons, loopC, e, Option.bind_some, W_map]
      cases o with
      | none => exact ih vs st' h
      | some v => exact (ih _ st' h).mono fun x hx => by simpa using hx
  exact (key l [] st h0).mono fun x hx => hn x.1 x.2 (by simpa using hx)
/-- a list made item by item: each by itself -/
theorem W_lcM {α : Type} (enc : α → D) (l : List α) (f : α → D) {step : D → Sto → Option (Option D × Sto)} {items : List D} {st : Sto} {Q : List D × Sto → Prop}
    (hi : items = l.map enc) (hs : ∀ a ∈ l, W (step (enc a) st) fun x => x = (some (f a), st)) (hn : Q (l.map f, st)) : W (loopCL step items st) Q := by
  subst hi
  unfold loopCL
  refine W_of (a := (l.map f, st)) ?_ hn
  clear hn
  induction l with
  | nil => rfl
  | cons a r ih =>
    simp only [List.map_cons, loopC, W_eq (hs a List.mem_cons_self), Option.bind_some, ih fun b hb => hs b (List.mem_cons_of_mem _ hb), Option.map_some]
/-- with a test -/
theorem W_lcF {α : Type} (enc : α → D) (l : List α) (f : α → Option D) {step : D → Sto → Option (Option D × Sto)} {items : List D} {st : Sto} {Q : List D × Sto → Prop}
    (hi : items = l.map enc) (hs : ∀ a ∈ l, W (step (enc a) st) fun x => x = (f a, st)) (hn : Q (l.filterMap f, st)) : W (loopCL step items st) Q := by
  subst hi
  unfold loopCL
  refine W_of (a := (l.filterMap f, st)) ?_ hn
  clear hn
  induction l with
  | nil => rfl
  | cons a r ih =>
    simp only [List.map_cons, loopC, W_eq (hs a List.mem_cons_self), Option.bind_some, ih fun b hb => hs b (List.mem_cons_of_mem _ hb), Option.map_some, List.filterMap_cons]
    cases f a <;> rfl
/-- a dict made item by item -/
theorem W_dc {α : Type} (enc : α → D) (l : List α) (I : List α → List (D × D) → Sto → Prop) {step : D → Sto → Option (Option (D × D) × Sto)} {items : List D} {acc : List (D × D)} {st : Sto} {Q : List (D × D) × Sto → Prop}
    (hi : items = l.map enc) (h0 : I l acc st) (hs : ∀ a r vs st, I (a :: r) vs st → W (step (enc a) st) fun x => match x.1 with
      | some p => I r (put p.1 p.2 vs) x.2
      | none => I r vs x.2) (hn : ∀ vs st, I [] vs st → Q (vs, st)) : W (loopKL step items acc st) Q := by
  subst hi
  unfold loopKL
  induction l generalizing acc st with
  | nil => exact ⟨(acc, st), rfl, hn _ _ h0⟩
  | cons a r ih =>
    obtain ⟨⟨o, st'⟩, e, h⟩ := hs a r acc st h0
    simp only [List.map_cons, loopK, e, Option.bind_some]
    cases o with
    | none => exact ih h
    | some p => exact ih h
/-- a call -/
theorem W_call {T : Tab} {k b f np ns : Nat} {body : SL} {vs : List D} {st : Sto} {Q : D × Sto → Prop} (hf : T.defs[f]? = some ⟨np, ns, body, false⟩) (hn : vs.length = np)
    (h : W (evB ⟨callD T k, T.glb, T.shp, st.length, T.fuel⟩ body (vs.map some ++ List.replicate (ns - np) none) st) fun x => match x.1 with
      | .rt v => W (popD st.length v x.2.2) Q
      | .nx => W (popD st.length .non x.2.2) Q
      | _ => False) : W (callD T (k + 1) b f vs st) Q := by
  obtain ⟨⟨fl, env', st'⟩, e, h⟩ := h
  simp only [callD, hf, Option.bind_some, hn, if_true, Bool.false_eq_true, if_false, e]
  cases fl with
  | rt v => exact h
  | nx => exact h
  | bk => exact h.elim
  | ct => exact h.elim
theorem W_raw {T : Tab} {k b f np ns : Nat} {body : SL} {vs : List D} {st : Sto} {Q : D × Sto → Prop} (hf : T.defs[f]? = some ⟨np, ns, body, true⟩) (hn : vs.length = np)
    (h : W (evB ⟨callD T k, T.glb, T.shp, b, T.fuel⟩ body (vs.map some ++ List.replicate (ns - np) none) st) fun x => match x.1 with
      | .rt v => Q (v, x.2.2)
      | .nx => Q (.non, x.2.2)
      | _ => False) : W (callD T (k + 1) b f vs st) Q := by
  obtain ⟨⟨fl, env', st'⟩, e, h⟩ := h
  simp only [callD, hf, Option.bind_some, hn, if_true, e]
  cases fl with
  | rt v => exact ⟨_, rfl, h⟩
  | nx => exact ⟨_, rfl, h⟩
  | bk => exact h.elim
  | ct => exact h.elim
mutual
/-- no handle, no dict, at most so deep -/
def sol : Nat → D → Bool
  | _, .non => true
  | _, .bl _ => true
  | _, .int _ => true
  | _, .str _ => true
  | n + 1, .tup l => solL n l
  | n + 1, .lst l => solL n l
  | _, _ => false
def solL : Nat → List D → Bool
  | _, [] => true
  | n, d :: r => sol n d && solL n r
end
mutual
theorem frz_sol {st : Sto} {n : Nat} : ∀ {k : Nat} {d : D}, sol k d = true → frz st n k d = some d
  | _, .non, _ => by simp only [frz]
  | _, .bl _, _ => by simp only [frz]
  | _, .int _, _ => by simp only [frz]
  | _, .str _, _ => by simp only [frz]
  | k + 1, .tup l, h => by rw [sol] at h; simp only [frz, frzL_sol h, Option.map_some]
  | k + 1, .lst l, h => by rw [sol] at h; simp only [frz, frzL_sol h, Option.map_some]
  | 0, .tup l, h => by simp [sol] at h
  | 0, .lst l, h => by simp [sol] at h
  | _, .dic l, h => by simp [sol] at h
  | _, .own l, h => by simp [sol] at h
  | _, .rng _ _, h => by simp [sol] at h
  | _, .scr _, h => by simp [sol] at h
theorem frzL_sol {st : Sto} {n : Nat} : ∀ {k : Nat} {l : List D}, solL k l = true → frzL st n k l = some l
  | _, [], _ => by simp only [frzL]
  | k, d :: r, h => by
    rw [solL, Bool.and_eq_true] at h
    simp only [frzL, frz_sol h.1, frzL_sol h.2, Option.bind_some, Option.map_some]
end
theorem solL_map {α : Type} {f : α → D} {k : Nat} (h : ∀ a, sol k (f a) = true) : ∀ l : List α, solL k (l.map f) = true
  | [] => by simp only [List.map_nil, solL]
  | a :: l => by simp only [List.map_cons, solL, h a, solL_map h l, Bool.and_self]
theorem pop_same {n : Nat} {v : D} {st : Sto} (h : st.length = n) : popD n v st = some (v, st) := by simp only [popD, h, if_true]
theorem pop_sol {st cs : Sto} {v : D} (h : sol 60 v = true) : popD st.length v (st ++ cs) = some (v, st) := by
  simp only [popD, frz_sol h, Option.map_some]
  split
  · rename_i h
    have : cs = [] := by simpa using h
    simp [this]
  · simp
theorem pop_frz {st cs : Sto} {c : Cell} {v v' : D} (h : frz (st ++ c :: cs) st.length 60 v = some v') : popD st.length v (st ++ c :: cs) = some (v', st) := by
  have h2 : ¬ (st ++ c :: cs).length = st.length := by simp
  simp only [popD, h2, if_false, h, Option.map_some]
  simp
/-- cells of its own -/
theorem get0 {st r : Sto} {a : Cell} : (st ++ a :: r)[st.length]? = some a := by simp
theorem get1 {st r : Sto} {a b : Cell} : (st ++ a :: b :: r)[st.length + 1]? = some b := by simp [List.getElem?_append_right]
theorem get2 {st r : Sto} {a b c : Cell} : (st ++ a :: b :: c :: r)[st.length + 2]? = some c := by simp [List.getElem?_append_right]
theorem get3 {st r : Sto} {a b c d : Cell} : (st ++ a :: b :: c :: d :: r)[st.length + 3]? = some d := by simp [List.getElem?_append_right]
theorem get4 {st r : Sto} {a b c d e : Cell} : (st ++ a :: b :: c :: d :: e :: r)[st.length + 4]? = some e := by simp [List.getElem?_append_right]
theorem get5 {st r : Sto} {a b c d e f : Cell} : (st ++ a :: b :: c :: d :: e :: f :: r)[st.length + 5]? = some f := by simp [List.getElem?_append_right]
theorem set0 {st r : Sto} {a x : Cell} : (st ++ a :: r).set st.length x = st ++ x :: r := by simp
theorem set1 {st r : Sto} {a b x : Cell} : (st ++ a :: b :: r).set (st.length + 1) x = st ++ a :: x :: r := by simp [List.set_append_right]
theorem set2 {st r : Sto} {a b c x : Cell} : (st ++ a :: b :: c :: r).set (st.length + 2) x = st ++ a :: b :: x :: r := by simp [List.set_append_right]
theorem set3 {st r : Sto} {a b c d x : Cell} : (st ++ a :: b :: c :: d :: r).set (st.length + 3) x = st ++ a :: b :: c :: x :: r := by simp [List.set_append_right]
theorem set4 {st r : Sto} {a b c d e x : Cell} : (st ++ a :: b :: c :: d :: e :: r).set (st.length + 4) x = st ++ a :: b :: c :: d :: x :: r := by simp [List.set_append_right]
theorem set5 {st r : Sto} {a b c d e f x : Cell} : (st ++ a :: b :: c :: d :: e :: f :: r).set (st.length + 5) x = st ++ a :: b :: c :: d :: e :: x :: r := by simp [List.set_append_right]
theorem leA {n m : Nat} : n ≤ n + m := Nat.le_add_right n m
theorem idx_strN {s : Tx} {i : Int} {st : Sto} (h : s.length ≤ line) : idxE (.str s) (.int i) st = (Mc.at_ s i).map fun c => .str [c] := if_pos h
theorem slc_str {s : Tx} {lo hi : Option Int} {c : Bool} {st : Sto} (h : s.length ≤ line) : slcE (.str s) lo hi c st = some (.str (cut s lo hi), st) := if_pos h
theorem slc_lst {l : List D} {lo hi : Option Int} {c : Bool} {st : Sto} : slcE (.lst l) lo hi c st = some (mkL c (cut l lo hi) st) := rfl
theorem blt_tupO {n : Nat} {l : List D} {c : Bool} {st : Sto} (h : st[n]? = some (.lst l)) : bltE .tuple c [.own n] st = some (.tup l, st) := by simp [bltE, seqOf, lstOf, h]
theorem blt_tupT {l : List D} {c : Bool} {st : Sto} : bltE .tuple c [.tup l] st = some (.tup l, st) := rfl
theorem blt_lenS {s : Tx} {c : Bool} {st : Sto} (h : s.length ≤ line) : bltE .len c [.str s] st = some (.int s.length, st) := if_pos h
theorem tru_str {s : Tx} {st : Sto} (h : s.length ≤ line) : tru st (.str s) = some (!s.isEmpty) := if_pos h
theorem tru_tup {l : List D} {st : Sto} : tru st (.tup l) = some (!l.isEmpty) := rfl
theorem tru_lst {l : List D} {st : Sto} : tru st (.lst l) = some (!l.isEmpty) := rfl
theorem min_int {i j : Int} {c : Bool} {st : Sto} : bltE .min c [.int i, .int j] st = some (.int (if j < i then j else i), st) := rfl
theorem max_int {i j : Int} {c : Bool} {st : Sto} : bltE .max c [.int i, .int j] st = some (.int (if j > i then j else i), st) := rfl
theorem joinE {b : Nat} {s : Tx} {l : List D} {d : D} {m : List Tx} {st : Sto} (h : seqOf st d = some l) (h2 : strsOf l = some m) (h3 : lensT m + m.length * s.length ≤ line) : metE b .join (.str s) [d] st = some (.str (joinT s m), st) := by
  simp only [metE, h, h2, h3, Option.bind_some, if_true]
theorem metok_join {s : Tx} {st : Sto} : metOk .join (.str s) st = true := rfl
theorem isn_non {st : Sto} : cmpE .isn .non .non st = some false := rfl
theorem is_non {st : Sto} : cmpE .is .non .non st = some true := rfl
theorem isn_str {s : Tx} {st : Sto} : cmpE .isn (.str s) .non st = some true := rfl
theorem is_str {s : Tx} {st : Sto} : cmpE .is (.str s) .non st = some false := rfl
theorem ext_own {b n : Nat} {d : D} {l r : List D} {st : Sto} (h : st[n]? = some (.lst l)) (h1 : lstOf st d = some r) (h2 : l.length + r.length ≤ line ∧ wrL b n r = true) : metE b .extend (.own n) [d] st = some (.non, st.set n (.lst (l ++ r))) := by
  simp [metE, h, h1, h2]
theorem wr_ge {b n : Nat} {d : D} (h : b ≤ n) : wr b n d = true := by simp [wr, h]
theorem wrL_ge {b n : Nat} {d : List D} (h : b ≤ n) : wrL b n d = true := by simp [wrL, h]
theorem joinT_nil : ∀ l : List Tx, joinT [] l = l.flatten
  | [] => rfl
  | [x] => by simp [joinT]
  | x :: y :: r => by rw [joinT, joinT_nil (y :: r)]; simp; simp
theorem strs_map {α : Type} (f : α → Tx) : ∀ l : List α, strsOf (l.map fun a => .str (f a)) = some (l.map f)
  | [] => rfl
  | a :: l => by simp only [List.map_cons, strsOf, strs_map f l, Option.map_some]
theorem lensT_eq : ∀ l : List Tx, lensT l = l.flatten.length
  | [] => rfl
  | x :: r => by simp only [lensT, lensT_eq r, List.flatten_cons, List.length_append]
theorem enu_str {α : Type} (f : α → D) (l : List α) : (l.map f).mapIdx (fun (i : Nat) d => D.tup [.int (i : Int), d]) = l.zipIdx.map fun x => .tup [.int (x.2 : Int), f x.1] := by
  apply List.ext_getElem?
  intro i
  simp only [List.getElem?_mapIdx, List.getElem?_map, List.getElem?_zipIdx]
  cases l[i]? <;> simp
/-- places by their numbers -/
theorem g_0 {α : Type} {a0 : α} {r : List α} : (a0 :: r)[0]? = some a0 := rfl
theorem s_0 {α : Type} {a0 x : α} {r : List α} : (a0 :: r).set 0 x = x :: r := rfl
theorem g_1 {α : Type} {a0 a1 : α} {r : List α} : (a0 :: a1 :: r)[1]? = some a1 := rfl
theorem s_1 {α : Type} {a0 a1 x : α} {r : List α} : (a0 :: a1 :: r).set 1 x = a0 :: x :: r := rfl
theorem g_2 {α : Type} {a0 a1 a2 : α} {r : List α} : (a0 :: a1 :: a2 :: r)[2]? = some a2 := rfl
theorem s_2 {α : Type} {a0 a1 a2 x : α} {r : List α} : (a0 :: a1 :: a2 :: r).set 2 x = a0 :: a1 :: x :: r := rfl
theorem g_3 {α : Type} {a0 a1 a2 a3 : α} {r : List α} : (a0 :: a1 :: a2 :: a3 :: r)[3]? = some a3 := rfl
theorem s_3 {α : Type} {a0 a1 a2 a3 x : α} {r : List α} : (a0 :: a1 :: a2 :: a3 :: r).set 3 x = a0 :: a1 :: a2 :: x :: r := rfl
theorem g_4 {α : Type} {a0 a1 a2 a3 a4 : α} {r : List α} : (a0 :: a1 :: a2 :: a3 :: a4 :: r)[4]? = some a4 := rfl
theorem s_4 {α : Type} {a0 a1 a2 a3 a4 x : α} {r : List α} : (a0 :: a1 :: a2 :: a3 :: a4 :: r).set 4 x = a0 :: a1 :: a2 :: a3 :: x :: r := rfl
theorem g_5 {α : Type} {a0 a1 a2 a3 a4 a5 : α} {r : List α} : (a0 :: a1 :: a2 :: a3 :: a4 :: a5 :: r)[5]? = some a5 := rfl
theorem s_5 {α : Type} {a0 a1 a2 a3 a4 a5 x : α} {r : List α} : (a0 :: a1 :: a2 :: a3 :: a4 :: a5 :: r).set 5 x = a0 :: a1 :: a2 :: a3 :: a4 :: x :: r := rfl
theorem g_6 {α : Type} {a0 a1 a2 a3 a4 a5 a6 : α} {r : List α} : (a0 :: a1 :: a2 :: a3 :: a4 :: a5 :: a6 :: r)[6]? = some a6 := rfl
theorem s_6 {α : Type} {a0 a1 a2 a3 a4 a5 a6 x : α} {r : List α} : (a0 :: a1 :: a2 :: a3 :: a4 :: a5 :: a6 :: r).set 6 x = a0 :: a1 :: a2 :: a3 :: a4 :: a5 :: x :: r := rfl
theorem g_7 {α : Type} {a0 a1 a2 a3 a4 a5 a6 a7 : α} {r : List α} : (a0 :: a1 :: a2 :: a3 :: a4 :: a5 :: a6 :: a7 :: r)[7]? = some a7 := rfl
theorem s_7 {α : Type} {a0 a1 a2 a3 a4 a5 a6 a7 x : α} {r : List α} : (a0 :: a1 :: a2 :: a3 :: a4 :: a5 :: a6 :: a7 :: r).set 7 x = a0 :: a1 :: a2 :: a3 :: a4 :: a5 :: a6 :: x :: r := rfl
theorem g_8 {α : Type} {a0 a1 a2 a3 a4 a5 a6 a7 a8 : α} {r : List α} : (a0 :: a1 :: a2 :: a3 :: a4 :: a5 :: a6 :: a7 :: a8 :: r)[8]? = some a8 := rfl
theorem s_8 {α : Type} {a0 a1 a2 a3 a4 a5 a6 a7 a8 x : α} {r : List α} : (a0 :: a1 :: a2 :: a3 :: a4 :: a5 :: a6 :: a7 :: a8 :: r).set 8 x = a0 :: a1 :: a2 :: a3 :: a4 :: a5 :: a6 :: a7 :: x :: r := rfl
theorem g_9 {α : Type} {a0 a1 a2 a3 a4 a5 a6 a7 a8 a9 : α} {r : List α} : (a0 :: a1 :: a2 :: a3 :: a4 :: a5 :: a6 :: a7 :: a8 :: a9 :: r)[9]? = some a9 := rfl
theorem s_9 {α : Type} {a0 a1 a2 a3 a4 a5 a6 a7 a8 a9 x : α} {r : List α} : (a0 :: a1 :: a2 :: a3 :: a4 :: a5 :: a6 :: a7 :: a8 :: a9 :: r).set 9 x = a0 :: a1 :: a2 :: a3 :: a4 :: a5 :: a6 :: a7 :: a8 :: x :: r := rfl
theorem g_10 {α : Type} {a0 a1 a2 a3 a4 a5 a6 a7 a8 a9 a10 : α} {r : List α} : (a0 :: a1 :: a2 :: a3 :: a4 :: a5 :: a6 :: a7 :: a8 :: a9 :: a10 :: r)[10]? = some a10 := rfl
theorem s_10 {α : Type} {a0 a1 a2 a3 a4 a5 a6 a7 a8 a9 a10 x : α} {r : List α} : (a0 :: a1 :: a2 :: a3 :: a4 :: a5 :: a6 :: a7 :: a8 :: a9 :: a10 :: r).set 10 x = a0 :: a1 :: a2 :: a3 :: a4 :: a5 :: a6 :: a7 :: a8 :: a9 :: x :: r := rfl
theorem g_11 {α : Type} {a0 a1 a2 a3 a4 a5 a6 a7 a8 a9 a10 a11 : α} {r : List α} : (a0 :: a1 :: a2 :: a3 :: a4 :: a5 :: a6 :: a7 :: a8 :: a9 :: a10 :: a11 :: r)[11]? = some a11 := rfl
theorem s_11 {α : Type} {a0 a1 a2 a3 a4 a5 a6 a7 a8 a9 a10 a11 x : α} {r : List α} : (a0 :: a1 :: a2 :: a3 :: a4 :: a5 :: a6 :: a7 :: a8 :: a9 :: a10 :: a11 :: r).set 11 x = a0 :: a1 :: a2 :: a3 :: a4 :: a5 :: a6 :: a7 :: a8 :: a9 :: a10 :: x :: r := rfl
theorem g_12 {α : Type} {a0 a1 a2 a3 a4 a5 a6 a7 a8 a9 a10 a11 a12 : α} {r : List α} : (a0 :: a1 :: a2 :: a3 :: a4 :: a5 :: a6 :: a7 :: a8 :: a9 :: a10 :: a11 :: a12 :: r)[12]? = some a12 := rfl
theorem s_12 {α : Type} {a0 a1 a2 a3 a4 a5 a6 a7 a8 a9 a10 a11 a12 x : α} {r : List α} : (a0 :: a1 :: a2 :: a3 :: a4 :: a5 :: a6 :: a7 :: a8 :: a9 :: a10 :: a11 :: a12 :: r).set 12 x = a0 :: a1 :: a2 :: a3 :: a4 :: a5 :: a6 :: a7 :: a8 :: a9 :: a10 :: a11 :: x :: r := rfl
theorem g_13 {α : Type} {a0 a1 a2 a3 a4 a5 a6 a7 a8 a9 a10 a11 a12 a13 : α} {r : List α} : (a0 :: a1 :: a2 :: a3 :: a4 :: a5 :: a6 :: a7 :: a8 :: a9 :: a10 :: a11 :: a12 :: a13 :: r)[13]? = some a13 := rfl
theorem s_13 {α : Type} {a0 a1 a2 a3 a4 a5 a6 a7 a8 a9 a10 a11 a12 a13 x : α} {r : List α} : (a0 :: a1 :: a2 :: a3 :: a4 :: a5 :: a6 :: a7 :: a8 :: a9 :: a10 :: a11 :: a12 :: a13 :: r).set 13 x = a0 :: a1 :: a2 :: a3 :: a4 :: a5 :: a6 :: a7 :: a8 :: a9 :: a10 :: a11 :: a12 :: x :: r := rfl
theorem g_14 {α : Type} {a0 a1 a2 a3 a4 a5 a6 a7 a8 a9 a10 a11 a12 a13 a14 : α} {r : List α} : (a0 :: a1 :: a2 :: a3 :: a4 :: a5 :: a6 :: a7 :: a8 :: a9 :: a10 :: a11 :: a12 :: a13 :: a14 :: r)[14]? = some a14 := rfl
theorem s_14 {α : Type} {a0 a1 a2 a3 a4 a5 a6 a7 a8 a9 a10 a11 a12 a13 a14 x : α} {r : List α} : (a0 :: a1 :: a2 :: a3 :: a4 :: a5 :: a6 :: a7 :: a8 :: a9 :: a10 :: a11 :: a12 :: a13 :: a14 :: r).set 14 x = a0 :: a1 :: a2 :: a3 :: a4 :: a5 :: a6 :: a7 :: a8 :: a9 :: a10 :: a11 :: a12 :: a13 :: x :: r := rfl
theorem g_15 {α : Type} {a0 a1 a2 a3 a4 a5 a6 a7 a8 a9 a10 a11 a12 a13 a14 a15 : α} {r : List α} : (a0 :: a1 :: a2 :: a3 :: a4 :: a5 :: a6 :: a7 :: a8 :: a9 :: a10 :: a11 :: a12 :: a13 :: a14 :: a15 :: r)[15]? = some a15 := rfl
theorem s_15 {α : Type} {a0 a1 a2 a3 a4 a5 a6 a7 a8 a9 a10 a11 a12 a13 a14 a15 x : α} {r : List α} : (a0 :: a1 :: a2 :: a3 :: a4 :: a5 :: a6 :: a7 :: a8 :: a9 :: a10 :: a11 :: a12 :: a13 :: a14 :: a15 :: r).set 15 x = a0 :: a1 :: a2 :: a3 :: a4 :: a5 :: a6 :: a7 :: a8 :: a9 :: a10 :: a11 :: a12 :: a13 :: a14 :: x :: r := rfl
theorem g_16 {α : Type} {a0 a1 a2 a3 a4 a5 a6 a7 a8 a9 a10 a11 a12 a13 a14 a15 a16 : α} {r : List α} : (a0 :: a1 :: a2 :: a3 :: a4 :: a5 :: a6 :: a7 :: a8 :: a9 :: a10 :: a11 :: a12 :: a13 :: a14 :: a15 :: a16 :: r)[16]? = some a16 := rfl
theorem s_16 {α : Type} {a0 a1 a2 a3 a4 a5 a6 a7 a8 a9 a10 a11 a12 a13 a14 a15 a16 x : α} {r : List α} : (a0 :: a1 :: a2 :: a3 :: a4 :: a5 :: a6 :: a7 :: a8 :: a9 :: a10 :: a11 :: a12 :: a13 :: a14 :: a15 :: a16 :: r).set 16 x = a0 :: a1 :: a2 :: a3 :: a4 :: a5 :: a6 :: a7 :: a8 :: a9 :: a10 :: a11 :: a12 :: a13 :: a14 :: a15 :: x :: r := rfl
theorem g_17 {α : Type} {a0 a1 a2 a3 a4 a5 a6 a7 a8 a9 a10 a11 a12 a13 a14 a15 a16 a17 : α} {r : List α} : (a0 :: a1 :: a2 :: a3 :: a4 :: a5 :: a6 :: a7 :: a8 :: a9 :: a10 :: a11 :: a12 :: a13 :: a14 :: a15 :: a16 :: a17 :: r)[17]? = some a17 := rfl
theorem s_17 {α : Type} {a0 a1 a2 a3 a4 a5 a6 a7 a8 a9 a10 a11 a12 a13 a14 a15 a16 a17 x : α} {r : List α} : (a0 :: a1 :: a2 :: a3 :: a4 :: a5 :: a6 :: a7 :: a8 :: a9 :: a10 :: a11 :: a12 :: a13 :: a14 :: a15 :: a16 :: a17 :: r).set 17 x = a0 :: a1 :: a2 :: a3 :: a4 :: a5 :: a6 :: a7 :: a8 :: a9 :: a10 :: a11 :: a12 :: a13 :: a14 :: a15 :: a16 :: x :: r := rfl
theorem g_18 {α : Type} {a0 a1 a2 a3 a4 a5 a6 a7 a8 a9 a10 a11 a12 a13 a14 a15 a16 a17 a18 : α} {r : List α} : (a0 :: a1 :: a2 :: a3 :: a4 :: a5 :: a6 :: a7 :: a8 :: a9 :: a10 :: a11 :: a12 :: a13 :: a14 :: a15 :: a16 :: a17 :: a18 :: r)[18]? = some a18 := rfl
theorem s_18 {α : Type} {a0 a1 a2 a3 a4 a5 a6 a7 a8 a9 a10 a11 a12 a13 a14 a15 a16 a17 a18 x : α} {r : List α} : (a0 :: a1 :: a2 :: a3 :: a4 :: a5 :: a6 :: a7 :: a8 :: a9 :: a10 :: a11 :: a12 :: a13 :: a14 :: a15 :: a16 :: a17 :: a18 :: r).set 18 x = a0 :: a1 :: a2 :: a3 :: a4 :: a5 :: a6 :: a7 :: a8 :: a9 :: a10 :: a11 :: a12 :: a13 :: a14 :: a15 :: a16 :: a17 :: x :: r := rfl
theorem g_19 {α : Type} {a0 a1 a2 a3 a4 a5 a6 a7 a8 a9 a10 a11 a12 a13 a14 a15 a16 a17 a18 a19 : α} {r : List α} : (a0 :: a1 :: a2 :: a3 :: a4 :: a5 :: a6 :: a7 :: a8 :: a9 :: a10 :: a11 :: a12 :: a13 :: a14 :: a15 :: a16 :: a17 :: a18 :: a19 :: r)[19]? = some a19 := rfl
theorem s_19 {α : Type} {a0 a1 a2 a3 a4 a5 a6 a7 a8 a9 a10 a11 a12 a13 a14 a15 a16 a17 a18 a19 x : α} {r : List α} : (a0 :: a1 :: a2 :: a3 :: a4 :: a5 :: a6 :: a7 :: a8 :: a9 :: a10 :: a11 :: a12 :: a13 :: a14 :: a15 :: a16 :: a17 :: a18 :: a19 :: r).set 19 x = a0 :: a1 :: a2 :: a3 :: a4 :: a5 :: a6 :: a7 :: a8 :: a9 :: a10 :: a11 :: a12 :: a13 :: a14 :: a15 :: a16 :: a17 :: a18 :: x :: r := rfl
theorem g_20 {α : Type} {a0 a1 a2 a3 a4 a5 a6 a7 a8 a9 a10 a11 a12 a13 a14 a15 a16 a17 a18 a19 a20 : α} {r : List α} : (a0 :: a1 :: a2 :: a3 :: a4 :: a5 :: a6 :: a7 :: a8 :: a9 :: a10 :: a11 :: a12 :: a13 :: a14 :: a15 :: a16 :: a17 :: a18 :: a19 :: a20 :: r)[20]? = some a20 := rfl
theorem s_20 {α : Type} {a0 a1 a2 a3 a4 a5 a6 a7 a8 a9 a10 a11 a12 a13 a14 a15 a16 a17 a18 a19 a20 x : α} {r : List α} : (a0 :: a1 :: a2 :: a3 :: a4 :: a5 :: a6 :: a7 :: a8 :: a9 :: a10 :: a11 :: a12 :: a13 :: a14 :: a15 :: a16 :: a17 :: a18 :: a19 :: a20 :: r).set 20 x = a0 :: a1 :: a2 :: a3 :: a4 :: a5 :: a6 :: a7 :: a8 :: a9 :: a10 :: a11 :: a12 :: a13 :: a14 :: a15 :: a16 :: a17 :: a18 :: a19 :: x :: r := rfl
theorem g_21 {α : Type} {a0 a1 a2 a3 a4 a5 a6 a7 a8 a9 a10 a11 a12 a13 a14 a15 a16 a17 a18 a19 a20 a21 : α} {r : List α} : (a0 :: a1 :: a2 :: a3 :: a4 :: a5 :: a6 :: a7 :: a8 :: a9 :: a10 :: a11 :: a12 :: a13 :: a14 :: a15 :: a16 :: a17 :: a18 :: a19 :: a20 :: a21 :: r)[21]? = some a21 := rfl
theorem s_21 {α : Type} {a0 a1 a2 a3 a4 a5 a6 a7 a8 a9 a10 a11 a12 a13 a14 a15 a16 a17 a18 a19 a20 a21 x : α} {r : List α} : (a0 :: a1 :: a2 :: a3 :: a4 :: a5 :: a6 :: a7 :: a8 :: a9 :: a10 :: a11 :: a12 :: a13 :: a14 :: a15 :: a16 :: a17 :: a18 :: a19 :: a20 :: a21 :: r).set 21 x = a0 :: a1 :: a2 :: a3 :: a4 :: a5 :: a6 :: a7 :: a8 :: a9 :: a10 :: a11 :: a12 :: a13 :: a14 :: a15 :: a16 :: a17 :: a18 :: a19 :: a20 :: x :: r := rfl
theorem g_22 {α : Type} {a0 a1 a2 a3 a4 a5 a6 a7 a8 a9 a10 a11 a12 a13 a14 a15 a16 a17 a18 a19 a20 a21 a22 : α} {r : List α} : (a0 :: a1 :: a2 :: a3 :: a4 :: a5 :: a6 :: a7 :: a8 :: a9 :: a10 :: a11 :: a12 :: a13 :: a14 :: a15 :: a16 :: a17 :: a18 :: a19 :: a20 :: a21 :: a22 :: r)[22]? = some a22 := rfl
theorem s_22 {α : Type} {a0 a1 a2 a3 a4 a5 a6 a7 a8 a9 a10 a11 a12 a13 a14 a15 a16 a17 a18 a19 a20 a21 a22 x : α} {r : List α} : (a0 :: a1 :: a2 :: a3 :: a4 :: a5 :: a6 :: a7 :: a8 :: a9 :: a10 :: a11 :: a12 :: a13 :: a14 :: a15 :: a16 :: a17 :: a18 :: a19 :: a20 :: a21 :: a22 :: r).set 22 x = a0 :: a1 :: a2 :: a3 :: a4 :: a5 :: a6 :: a7 :: a8 :: a9 :: a10 :: a11 :: a12 :: a13 :: a14 :: a15 :: a16 :: a17 :: a18 :: a19 :: a20 :: a21 :: x :: r := rfl
theorem g_23 {α : Type} {a0 a1 a2 a3 a4 a5 a6 a7 a8 a9 a10 a11 a12 a13 a14 a15 a16 a17 a18 a19 a20 a21 a22 a23 : α} {r : List α} : (a0 :: a1 :: a2 :: a3 :: a4 :: a5 :: a6 :: a7 :: a8 :: a9 :: a10 :: a11 :: a12 :: a13 :: a14 :: a15 :: a16 :: a17 :: a18 :: a19 :: a20 :: a21 :: a22 :: a23 :: r)[23]? = some a23 := rfl
theorem s_23 {α : Type} {a0 a1 a2 a3 a4 a5 a6 a7 a8 a9 a10 a11 a12 a13 a14 a15 a16 a17 a18 a19 a20 a21 a22 a23 x : α} {r : List α} : (a0 :: a1 :: a2 :: a3 :: a4 :: a5 :: a6 :: a7 :: a8 :: a9 :: a10 :: a11 :: a12 :: a13 :: a14 :: a15 :: a16 :: a17 :: a18 :: a19 :: a20 :: a21 :: a22 :: a23 :: r).set 23 x = a0 :: a1 :: a2 :: a3 :: a4 :: a5 :: a6 :: a7 :: a8 :: a9 :: a10 :: a11 :: a12 :: a13 :: a14 :: a15 :: a16 :: a17 :: a18 :: a19 :: a20 :: a21 :: a22 :: x :: r := rfl
theorem g_24 {α : Type} {a0 a1 a2 a3 a4 a5 a6 a7 a8 a9 a10 a11 a12 a13 a14 a15 a16 a17 a18 a19 a20 a21 a22 a23 a24 : α} {r : List α} : (a0 :: a1 :: a2 :: a3 :: a4 :: a5 :: a6 :: a7 :: a8 :: a9 :: a10 :: a11 :: a12 :: a13 :: a14 :: a15 :: a16 :: a17 :: a18 :: a19 :: a20 :: a21 :: a22 :: a23 :: a24 :: r)[24]? = some a24 := rfl
theorem s_24 {α : Type} {a0 a1 a2 a3 a4 a5 a6 a7 a8 a9 a10 a11 a12 a13 a14 a15 a16 a17 a18 a19 a20 a21 a22 a23 a24 x : α} {r : List α} : (a0 :: a1 :: a2 :: a3 :: a4 :: a5 :: a6 :: a7 :: a8 :: a9 :: a10 :: a11 :: a12 :: a13 :: a14 :: a15 :: a16 :: a17 :: a18 :: a19 :: a20 :: a21 :: a22 :: a23 :: a24 :: r).set 24 x = a0 :: a1 :: a2 :: a3 :: a4 :: a5 :: a6 :: a7 :: a8 :: a9 :: a10 :: a11 :: a12 :: a13 :: a14 :: a15 :: a16 :: a17 :: a18 :: a19 :: a20 :: a21 :: a22 :: a23 :: x :: r := rfl
theorem g_25 {α : Type} {a0 a1 a2 a3 a4 a5 a6 a7 a8 a9 a10 a11 a12 a13 a14 a15 a16 a17 a18 a19 a20 a21 a22 a23 a24 a25 : α} {r : List α} : (a0 :: a1 :: a2 :: a3 :: a4 :: a5 :: a6 :: a7 :: a8 :: a9 :: a10 :: a11 :: a12 :: a13 :: a14 :: a15 :: a16 :: a17 :: a18 :: a19 :: a20 :: a21 :: a22 :: a23 :: a24 :: a25 :: r)[25]? = some a25 := rfl
theorem s_25 {α : Type} {a0 a1 a2 a3 a4 a5 a6 a7 a8 a9 a10 a11 a12 a13 a14 a15 a16 a17 a18 a19 a20 a21 a22 a23 a24 a25 x : α} {r : List α} : (a0 :: a1 :: a2 :: a3 :: a4 :: a5 :: a6 :: a7 :: a8 :: a9 :: a10 :: a11 :: a12 :: a13 :: a14 :: a15 :: a16 :: a17 :: a18 :: a19 :: a20 :: a21 :: a22 :: a23 :: a24 :: a25 :: r).set 25 x = a0 :: a1 :: a2 :: a3 :: a4 :: a5 :: a6 :: a7 :: a8 :: a9 :: a10 :: a11 :: a12 :: a13 :: a14 :: a15 :: a16 :: a17 :: a18 :: a19 :: a20 :: a21 :: a22 :: a23 :: a24 :: x :: r := rfl
theorem isEmpty_snoc {α : Type} {l : List α} {a : α} : (l ++ [a]).isEmpty = false := by cases l <;> rfl
theorem pop_st {st : Sto} {d : D} : popD st.length d st = some (d, st) := pop_same rfl
theorem inn_tup {a : D} {l : List D} {st : Sto} (h : flat a = true) (h2 : l.all flat = true) : cmpE .inn a (.tup l) st = some (l.any fun d => eqv d a) := by
  show cmpE.inE a (.tup l) st = _
  simp only [cmpE.inE, seqOf, h, h2, Bool.and_self, Bool.true_or, if_true]
theorem nin_tup {a : D} {l : List D} {st : Sto} (h : flat a = true) (h2 : l.all flat = true) : cmpE .nin a (.tup l) st = some (!l.any fun d => eqv d a) := by
  show (cmpE.inE a (.tup l) st).map _ = _
  simp only [cmpE.inE, seqOf, h, h2, Bool.and_self, Bool.true_or, if_true, Option.map_some]
theorem inn_own {n : Nat} {a : D} {l : List (D × D)} {st : Sto} (h : st[n]? = some (.dic l)) (h2 : isKey a = true) : cmpE .inn a (.own n) st = some (look a l).isSome := by
  show cmpE.inE a (.own n) st = _
  cases a <;> first | (cases h2; done) | simp [cmpE.inE, seqOf, lstOf, dicOf, h, keyOk]
theorem nin_own {n : Nat} {a : D} {l : List (D × D)} {st : Sto} (h : st[n]? = some (.dic l)) (h2 : isKey a = true) : cmpE .nin a (.own n) st = some (!(look a l).isSome) := by
  show (cmpE.inE a (.own n) st).map _ = _
  cases a <;> first | (cases h2; done) | simp [cmpE.inE, seqOf, lstOf, dicOf, h, keyOk]
theorem flat_str {s : Tx} : flat (.str s) = true := rfl
theorem flat_int {s : Int} : flat (.int s) = true := rfl
theorem flat_non : flat .non = true := rfl
theorem flat_bl {b : Bool} : flat (.bl b) = true := rfl
theorem eqv_str {a b : Tx} : eqv (.str a) (.str b) = decide (a = b) := by
  rw [eqv]; exact Bool.eq_iff_iff.mpr (by simp)
theorem eqv_int {a b : Int} : eqv (.int a) (.int b) = decide (a = b) := by
  rw [eqv]; exact Bool.eq_iff_iff.mpr (by simp)
theorem eq_int {a b : Int} {st : Sto} : cmpE .eq (.int a) (.int b) st = some (decide (a = b)) := by
  show (if plain 60 (res st (.int a)) && plain 60 (res st (.int b)) then some (eqv (res st (.int a)) (res st (.int b))) else eqE.eqN (.int a) (.int b) st) = _
  rw [if_pos (by simp [res, plain])]; simp only [res, eqv_int]
theorem ne_int {a b : Int} {st : Sto} : cmpE .ne (.int a) (.int b) st = some (!decide (a = b)) := by
  have h : eqE (.int a) (.int b) st = some (decide (a = b)) := eq_int
  show Option.map (! ·) (eqE (.int a) (.int b) st) = _
  rw [h]; rfl
theorem int_int {i : Int} {c : Bool} {st : Sto} : bltE .int c [.int i] st = some (.int i, st) := rfl
theorem int_bl {i : Bool} {c : Bool} {st : Sto} : bltE .int c [.bl i] st = some (.int (if i then 1 else 0), st) := rfl
theorem pop_fz {st cs : Sto} {c : Cell} {v : D} : popD st.length v (st ++ c :: cs) = (frz (st ++ c :: cs) st.length 60 v).map fun d => (d, st) := by
  have h2 : ¬ (st ++ c :: cs).length = st.length := by simp
  simp only [popD, h2, if_false]
  simp
theorem frz_tup {st : Sto} {n k : Nat} {l : List D} : frz st n (k + 1) (.tup l) = (frzL st n k l).map .tup := by simp only [frz]
theorem frz_lst {st : Sto} {n k : Nat} {l : List D} : frz st n (k + 1) (.lst l) = (frzL st n k l).map .lst := by simp only [frz]
theorem frz_ownL {st : Sto} {n k m : Nat} {l : List D} (h : n ≤ m) (h2 : st[m]? = some (.lst l)) : frz st n (k + 1) (.own m) = (frzL st n k l).map .lst := by simp only [frz, h2, if_neg (Nat.not_lt.mpr h)]
theorem frz_ownD {st : Sto} {n k m : Nat} {l : List (D × D)} (h : n ≤ m) (h2 : st[m]? = some (.dic l)) : frz st n (k + 1) (.own m) = (frzK st n k l).map .dic := by simp only [frz, h2, if_neg (Nat.not_lt.mpr h)]
theorem frz_non {st : Sto} {n k : Nat} : frz st n k .non = some .non := by cases k <;> simp only [frz]
theorem frz_bl {st : Sto} {n k : Nat} {b : Bool} : frz st n k (.bl b) = some (.bl b) := by cases k <;> simp only [frz]
theorem frz_int {st : Sto} {n k : Nat} {b : Int} : frz st n k (.int b) = some (.int b) := by cases k <;> simp only [frz]
theorem frz_str {st : Sto} {n k : Nat} {b : Tx} : frz st n k (.str b) = some (.str b) := by cases k <;> simp only [frz]
theorem frzL_nil {st : Sto} {n k : Nat} : frzL st n k [] = some [] := by simp only [frzL]
theorem frzL_cons {st : Sto} {n k : Nat} {d : D} {r : List D} : frzL st n k (d :: r) = (frz st n k d).bind fun d' => (frzL st n k r).map fun r' => d' :: r' := by simp only [frzL]
theorem strs_snoc {α : Type} (f : α → Tx) (x : Tx) : ∀ l : List α, strsOf (l.map (fun a => .str (f a)) ++ [.str x]) = some (l.map f ++ [x])
  | [] => rfl
  | a :: l => by simp only [List.map_cons, List.cons_append, strsOf, strs_snoc f x l, Option.map_some]
theorem strs_snoc' (x : Tx) (l : List Tx) : strsOf (l.map .str ++ [.str x]) = some (l ++ [x]) := by
  have := strs_snoc (fun t => t) x l
  simpa using this
theorem strs_id (l : List Tx) : strsOf (l.map .str) = some l := by
  have := strs_map (fun t => t) l
  simpa using this
theorem items_tup {l : List D} {st : Sto} : itemsE st (.tup l) = some l := rfl
theorem items_lst {l : List D} {st : Sto} : itemsE st (.lst l) = some l := rfl
theorem items_own {n : Nat} {l : List D} {st : Sto} (h : st[n]? = some (.lst l)) : itemsE st (.own n) = some l := seq_own h
theorem items_str {s : Tx} {st : Sto} (h : s.length ≤ line) : itemsE st (.str s) = some (s.map fun c => .str [c]) := if_pos h
/-- a list or a tuple, as it stands -/
structure Walk (C : D) (l : List D) : Prop where
  it : ∀ st, itemsE st C = some l
  st : ∀ st, still C l st = true
  sq : ∀ st, seqOf st C = some l
theorem walk_tup (l : List D) : Walk (.tup l) l := ⟨fun _ => rfl, fun _ => rfl, fun _ => rfl⟩
theorem walk_lst (l : List D) : Walk (.lst l) l := ⟨fun _ => rfl, fun _ => rfl, fun _ => rfl⟩
theorem Walk.len {C : D} {l : List D} (h : Walk C l) (c : Bool) (st : Sto) : bltE .len c [C] st = some (.int l.length, st) := by
  have := h.sq st
  cases C <;> first | (cases this; done) | (cases this; rfl) | (show Option.map (fun l => (D.int l.length, st)) (seqOf st _) = _; rw [this]; rfl)
theorem isKey_int {i : Int} : isKey (.int i) = true := by simp [isKey]
theorem isKey_str {i : Tx} : isKey (.str i) = true := by simp [isKey]
end Mc

set_option linter.all false
set_option maxRecDepth 100000
set_option Elab.async false
set_option maxHeartbeats 4000000
namespace Mc
theorem six_nat {n d : Nat} {a : Nat} : six n d (some (a : Int)) = min a n := by
  simp only [six, if_neg (show ¬ (a : Int) < 0 by omega), Int.toNat_natCast]
theorem cut_all {α : Type} {l : List α} {a b : Nat} : cut l (some (a : Int)) (some (b : Int)) = (l.take b).drop a := by
  simp only [cut, six_nat]
  rw [List.drop_take]
  rcases Nat.le_total a l.length with h | h
  · rw [Nat.min_eq_left h]
    rcases Nat.le_total b l.length with h2 | h2
    · rw [Nat.min_eq_left h2]
    · rw [Nat.min_eq_right h2, List.take_of_length_le (by simp), List.take_of_length_le (by simp; omega)]
  · rw [Nat.min_eq_right h, List.drop_eq_nil_of_le (Nat.le_refl _), List.drop_eq_nil_of_le h]; simp
theorem cut_to {α : Type} {l : List α} {b : Nat} : cut l none (some (b : Int)) = l.take b := by
  have := cut_all (l := l) (a := 0) (b := b)
  simpa [cut, six] using this
theorem cut_from {α : Type} {l : List α} {a : Nat} : cut l (some (a : Int)) none = l.drop a := by
  have h : cut l (some (a : Int)) none = cut l (some (a : Int)) (some (l.length : Int)) := by
    simp only [cut, six_nat, Nat.min_self]; rfl
  rw [h, cut_all, List.take_length]
theorem cut_m1 {α : Type} {l : List α} : cut l none (some (-1)) = l.dropLast := by
  simp only [cut, six]
  rw [List.dropLast_eq_take]
  simp only [List.drop_zero]
  congr 1
  simp; omega
theorem cut_l1 {α : Type} {l : List α} : cut l (some (-1)) none = l.drop (l.length - 1) := by
  simp only [cut, six]
  have : ((-1 : Int) + (l.length : Int)).toNat = l.length - 1 := by omega
  simp only [this, show ((-1 : Int) < 0) = True by simp, if_true]
  rw [List.take_of_length_le (by simp)]
theorem cut_one {α : Type} {l : List α} {a : Nat} : cut l (some (a : Int)) (some ((a : Int) + 1)) = l[a]?.toList := by
  have := cut_all (l := l) (a := a) (b := a + 1)
  rw [show ((a + 1 : Nat) : Int) = (a : Int) + 1 by omega] at this
  rw [this, List.drop_take, Nat.add_sub_cancel_left]
  rcases Nat.lt_or_ge a l.length with h | h
  · rw [List.drop_eq_getElem_cons h, List.getElem?_eq_getElem h]; rfl
  · rw [List.drop_eq_nil_of_le h]; simp [h]
theorem cut_1 {α : Type} {l : List α} : cut l none (some 1) = l.take 1 := cut_to (b := 1)
theorem cut_d1 {α : Type} {l : List α} : cut l (some 1) none = l.drop 1 := cut_from (a := 1)
theorem cut_d1p {α : Type} {l : List α} {a : Nat} : cut l (some ((a : Int) + 1)) none = l.drop (a + 1) := by
  rw [← cut_from]; congr
theorem cut_nn {α : Type} {l : List α} : cut l none none = l := by simp [cut, six]
theorem at_nat {α : Type} {l : List α} {a : Nat} : Mc.at_ l (a : Int) = l[a]? := by
  simp only [Mc.at_, ixn]
  split
  · split
    · simp
    · rename_i h; simp; omega
  · omega
theorem at_0 {α : Type} {a : α} {l : List α} : Mc.at_ (a :: l) 0 = some a := at_nat (a := 0)
theorem at_1 {α : Type} {a b : α} {l : List α} : Mc.at_ (a :: b :: l) 1 = some b := at_nat (a := 1)
theorem at_2 {α : Type} {a b c : α} {l : List α} : Mc.at_ (a :: b :: c :: l) 2 = some c := at_nat (a := 2)
theorem at_3 {α : Type} {a b c d : α} {l : List α} : Mc.at_ (a :: b :: c :: d :: l) 3 = some d := at_nat (a := 3)
theorem at_m1 {α : Type} {l : List α} {a : α} : Mc.at_ (l ++ [a]) (-1) = some a := by
  simp only [Mc.at_, ixn]
  have h : ((-1 : Int) + ((l ++ [a]).length : Int)).toNat = l.length := by simp; omega
  have h2 : -(((l ++ [a]).length : Nat) : Int) ≤ -1 := by simp; omega
  rw [if_neg (by omega), if_pos h2]
  simp only [Option.bind_some, h]
  simp
structure Nice (h m : Nat) (d : D) : Prop where
  pl : ∀ n, h ≤ n → plain n d = true
  sh : (toPy d).showable = true
  wt : wt d ≤ m
structure NiceL (h m : Nat) (l : List D) : Prop where
  pl : ∀ n, h ≤ n → plainL n l = true
  sh : PySem.PyData.showableAll (toPyL l) = true
  wt : wtL l ≤ m
theorem Nice.mono {h h' m m' : Nat} {d : D} (x : Nice h m d) (i : h ≤ h') (j : m ≤ m') : Nice h' m' d := ⟨fun n hn => x.pl n (by omega), x.sh, Nat.le_trans x.wt j⟩
theorem NiceL.mono {h h' m m' : Nat} {d : List D} (x : NiceL h m d) (i : h ≤ h') (j : m ≤ m') : NiceL h' m' d := ⟨fun n hn => x.pl n (by omega), x.sh, Nat.le_trans x.wt j⟩
theorem nice_non : Nice 0 4 .non := ⟨fun n _ => by cases n <;> rfl, rfl, by simp [Mc.wt]⟩
theorem nice_bl {b : Bool} : Nice 0 5 (.bl b) := ⟨fun n _ => by cases n <;> rfl, rfl, by simp [Mc.wt]⟩
theorem nice_int {i : Int} (h : i.natAbs < 1048576) : Nice 0 22 (.int i) := by
  have : i.natAbs.log2 < 20 := by
    rcases Nat.eq_zero_or_pos i.natAbs with h0 | h0
    · rw [h0]; decide
    · exact (Nat.log2_lt (by omega)).mpr h
  refine ⟨fun n _ => by cases n <;> rfl, ?_, by simp only [Mc.wt]; omega⟩
  simp only [toPy, PySem.PyData.showable, decide_eq_true_eq]; omega
theorem nice_str {t : Tx} {m : Nat} (h : ∀ c ∈ t, c < 1114112) (hl : t.length ≤ m) : Nice 0 (12 * m + 2) (.str t) := by
  refine ⟨fun n _ => ?_, rfl, by simp only [Mc.wt]; omega⟩
  have : (t.all fun c => decide (c < 1114112)) = true := List.all_eq_true.mpr fun c hc => decide_eq_true (h c hc)
  cases n <;> simpa [plain] using this
theorem niceL_nil : NiceL 0 0 [] := ⟨fun n _ => by simp [plainL], rfl, by simp [wtL]⟩
theorem niceL_cons {h m m' : Nat} {d : D} {l : List D} (x : Nice h m d) (y : NiceL h m' l) : NiceL h (m + 2 + m') (d :: l) :=
  ⟨fun n hn => by rw [plainL, x.pl n hn, y.pl n hn]; rfl, by simp only [toPyL, PySem.PyData.showableAll, x.sh, y.sh, Bool.and_self], by have := x.wt; have := y.wt; simp only [wtL]; omega⟩
theorem niceL_all {h m : Nat} : ∀ l : List D, (∀ d ∈ l, Nice h m d) → NiceL h ((m + 2) * l.length) l
  | [], _ => niceL_nil.mono (Nat.zero_le _) (Nat.zero_le _)
  | d :: l, x => (niceL_cons (x d List.mem_cons_self) (niceL_all l fun e he => x e (List.mem_cons_of_mem _ he))).mono (Nat.le_refl _) (by rw [List.length_cons, Nat.mul_succ]; omega)
theorem nice_tup {h m : Nat} {l : List D} (x : NiceL h m l) : Nice (h + 1) (m + 3) (.tup l) :=
  ⟨fun n hn => by cases n with
    | zero => omega
    | succ n => rw [plain]; exact x.pl n (by omega), by simpa only [toPy, PySem.PyData.showable] using x.sh, by have := x.wt; simp only [Mc.wt]; omega⟩
theorem nice_lst {h m : Nat} {l : List D} (x : NiceL h m l) : Nice (h + 1) (m + 3) (.lst l) :=
  ⟨fun n hn => by cases n with
    | zero => omega
    | succ n => rw [plain]; exact x.pl n (by omega), by simpa only [toPy, PySem.PyData.showable] using x.sh, by have := x.wt; simp only [Mc.wt]; omega⟩
theorem nice_tupA {h m n : Nat} {l : List D} (x : ∀ d ∈ l, Nice h m d) (hl : l.length ≤ n) : Nice (h + 1) ((m + 2) * n + 3) (.tup l) :=
  (nice_tup (niceL_all l x)).mono (Nat.le_refl _) (Nat.add_le_add_right (Nat.mul_le_mul_left _ hl) 3)
theorem nice_lstA {h m n : Nat} {l : List D} (x : ∀ d ∈ l, Nice h m d) (hl : l.length ≤ n) : Nice (h + 1) ((m + 2) * n + 3) (.lst l) :=
  (nice_lst (niceL_all l x)).mono (Nat.le_refl _) (Nat.add_le_add_right (Nat.mul_le_mul_left _ hl) 3)
theorem Nice.rtup {h m : Nat} {l : List D} (x : Nice h m (.tup l)) (hh : h ≤ 60) (hm : m ≤ 1000000) (c : Bool) (st : Sto) : bltE .repr c [.tup l] st = some (.str (shown (.tup l)), st) := by
  have h1 := x.pl 60 hh
  have h2 : showOk (.tup l) = true := by simp only [showOk, x.sh, Bool.true_and, decide_eq_true_eq]; exact Nat.le_trans x.wt hm
  show (if plain 60 (.tup l) && showOk (.tup l) then _ else _) = _
  rw [h1, h2]; rfl
theorem Nice.rlst {h m : Nat} {l : List D} (x : Nice h m (.lst l)) (hh : h ≤ 60) (hm : m ≤ 1000000) (c : Bool) (st : Sto) : bltE .repr c [.lst l] st = some (.str (shown (.lst l)), st) := by
  have h1 := x.pl 60 hh
  have h2 : showOk (.lst l) = true := by simp only [showOk, x.sh, Bool.true_and, decide_eq_true_eq]; exact Nat.le_trans x.wt hm
  show (if plain 60 (.lst l) && showOk (.lst l) then _ else _) = _
  rw [h1, h2]; rfl
theorem Nice.rstr {h m : Nat} {l : Tx} (x : Nice h m (.str l)) (hh : h ≤ 60) (hm : m ≤ 1000000) (c : Bool) (st : Sto) : bltE .repr c [.str l] st = some (.str (shown (.str l)), st) := by
  have h1 := x.pl 60 hh
  have h2 : showOk (.str l) = true := by simp only [showOk, x.sh, Bool.true_and, decide_eq_true_eq]; exact Nat.le_trans x.wt hm
  show (if plain 60 (.str l) && showOk (.str l) then _ else _) = _
  rw [h1, h2]; rfl
theorem Nice.rown {h m n : Nat} {l : List D} (x : Nice h m (.lst l)) (hh : h ≤ 60) (hm : m ≤ 1000000) (c : Bool) (st : Sto) (hs : st[n]? = some (.lst l)) : bltE .repr c [.own n] st = some (.str (shown (.lst l)), st) := by
  have h1 := x.pl 60 hh
  have h2 : showOk (.lst l) = true := by simp only [showOk, x.sh, Bool.true_and, decide_eq_true_eq]; exact Nat.le_trans x.wt hm
  have h3 : res st (.own n) = .lst l := by simp [res, hs]
  simp only [bltE, h3, h1, h2, Bool.and_self, if_true]
theorem Nice.rint {h m : Nat} {i : Int} (x : Nice h m (.int i)) (hm : m ≤ 1000000) (c : Bool) (st : Sto) : bltE .repr c [.int i] st = some (.str (shown (.int i)), st) := by
  have h2 : showOk (.int i) = true := by simp only [showOk, x.sh, Bool.true_and, decide_eq_true_eq]; exact Nat.le_trans x.wt hm
  have h3 : res st (.int i) = .int i := rfl
  simp only [bltE, h3, h2, if_true]
inductive Key where
  | left | right | back | del | take | grab | put | leave
  | write (c : Nat) | lay (c : Nat)
  deriving DecidableEq
def kW : Key → Tx
  | .left => [108,101,102,116]
  | .right => [114,105,103,104,116]
  | .back => [98,97,99,107]
  | .del => [100,101,108]
  | .take => [116,97,107,101]
  | .grab => [103,114,97,98]
  | .put => [112,117,116]
  | .leave => [108,101,97,118,101]
  | .write _ => [119,114,105,116,101]
  | .lay _ => [108,97,121]
/-- what stands behind the word -/
def kS : Key → List D
  | .write c => [.str [c]]
  | .lay c => [.str [c]]
  | _ => []
def kD (k : Key) : D := .tup (.str (kW k) :: kS k)
def hD : Option Nat → D
  | none => .non
  | some c => .str [c]
abbrev Caret := Nat × Option Nat
def cD (c : Caret) : D := .tup [.int (c.1 : Nat), hD c.2]
/-- the sign that a key inserts -/
def ins : Key → Option Nat → Option Nat
  | .write c, _ => some c
  | .lay c, _ => some c
  | _, h => h
/-- is it inserted in front -/
def fr : Key → Bool
  | .write _ => true
  | .put => true
  | _ => false
def isIns : Key → Bool
  | .write _ => true
  | .lay _ => true
  | .put => true
  | .leave => true
  | _ => false
/-- the text from gap d on, with the carets' signs -/
def insT (k : Key) (t : Tx) : Nat → List Caret → Tx
  | d, [] => t.drop d
  | d, c :: r => (t.take c.1).drop d ++ (ins k c.2).toList ++ insT k t c.1 r
/-- the carets, s signs inserted so far -/
def insC (k : Key) : Nat → List Caret → List Caret
  | _, [] => []
  | s, c :: r => (if fr k then c.1 + s + (ins k c.2).toList.length else c.1 + s, c.2) :: insC k (s + (ins k c.2).toList.length) r
/-- is the sign i deleted -/
def doomed (s n : Nat) (cs : List Caret) (i : Nat) : Bool := decide (i < n) && cs.any fun c => decide (c.1 = i + s)
def delT (p : Nat → Bool) (t : Tx) : Tx := (t.zipIdx.filter fun x => !p x.2).map (·.1)
def fewer (p : Nat → Bool) (n : Nat) : Nat := (List.range n).countP p
def afterKey (t : Tx) (cs : List Caret) : Key → Tx × List Caret
  | .left => (t, cs.map fun c => (c.1 - 1, c.2))
  | .right => (t, cs.map fun c => (min (c.1 + 1) t.length, c.2))
  | .take => (t, cs.map fun c => (c.1, (t[c.1]?).or c.2))
  | .grab => (t, cs.map fun c => (c.1, if c.1 = 0 then c.2 else (t[c.1 - 1]?).or c.2))
  | .back => (delT (doomed 1 t.length cs) t, cs.map fun c => (c.1 - fewer (doomed 1 t.length cs) c.1, c.2))
  | .del => (delT (doomed 0 t.length cs) t, cs.map fun c => (c.1 - fewer (doomed 0 t.length cs) c.1, c.2))
  | k => (insT k t 0 cs, insC k 0 cs)
/-- the carets' gaps do not descend, and lie in the text -/
def asc (n : Nat) : Nat → List Caret → Prop
  | _, [] => True
  | d, c :: r => d ≤ c.1 ∧ c.1 ≤ n ∧ asc n c.1 r
theorem front_b (key : Key) : (decide ([119,114,105,116,101] = kW key) || decide ([112,117,116] = kW key)) = fr key := by cases key <;> rfl
theorem ins_len (key : Key) (h : Option Nat) : (ins key h).toList.length ≤ 1 := by cases ins key h <;> simp
theorem sol_hD (k : Nat) (h : Option Nat) : sol k (hD h) = true := by cases h <;> cases k <;> rfl
theorem sol_cD (k : Nat) (c : Caret) : sol (k + 1) (cD c) = true := by
  rw [cD, sol, solL, solL, solL, sol_hD]
  cases k <;> rfl
theorem solL_cD (k : Nat) (l : List Caret) : solL (k + 1) (l.map cD) = true := solL_map (sol_cD k) l
theorem frzL_cD {st : Sto} {n k : Nat} (l : List Caret) : frzL st n (k + 1) (l.map cD) = some (l.map cD) := frzL_sol (solL_cD k l)
theorem idx_k0 {key : Key} {st : Sto} : idxE (kD key) (.int 0) st = some (.str (kW key)) := at_0
theorem flat_snoc (P : List Tx) (x : Tx) : (P ++ [x]).flatten.length = P.flatten.length + x.length := by
  rw [List.flatten_append, List.length_append, List.flatten_cons, List.flatten_nil, List.append_nil]
theorem look_map (i : Int) (v : D) : ∀ l : List (D × D), (look (.int i) (l.map fun p => if kEq p.1 (.int i) = true then (p.1, v) else p)).isSome = (l.any fun p => kEq p.1 (.int i))
  | [] => rfl
  | (a, x) :: l => by
    simp only [List.map_cons, List.any_cons]
    cases h : kEq a (.int i) with
    | true => simp [look, h]
    | false => simp [look, h, look_map i v l]
theorem look_any (i : Int) : ∀ l : List (D × D), (look (.int i) l).isSome = (l.any fun p => kEq p.1 (.int i))
  | [] => rfl
  | (a, x) :: l => by
    simp only [List.any_cons]
    cases h : kEq a (.int i) with
    | true => simp [look, h]
    | false => simp [look, h, look_any i l]
theorem look_put (i j : Int) (v : D) (l : List (D × D)) : (look (.int i) (put (.int j) v l)).isSome = (decide (j = i) || (look (.int i) l).isSome) := by
  rw [look_any, look_any]
  unfold put
  split
  · rename_i h
    rw [List.any_map]
    have : ∀ p : D × D, kEq (if kEq p.1 (.int j) = true then (p.1, v) else p).1 (.int i) = kEq p.1 (.int i) := by intro p; split <;> rfl
    have h2 : ((fun p : D × D => kEq p.1 (.int i)) ∘ fun p => if kEq p.1 (.int j) = true then (p.1, v) else p) = fun p => kEq p.1 (.int i) := by funext p; exact this p
    rw [h2]
    by_cases e : j = i
    · subst e; rw [h]; simp
    · simp [e]
  · rw [List.any_append, List.any_cons, List.any_nil, kEq_int, Bool.or_false, Bool.or_comm]
theorem put_le (k v : D) (l : List (D × D)) : (put k v l).length ≤ l.length + 1 := by
  unfold put; split <;> simp
theorem fewer_le (p : Nat → Bool) (n : Nat) : fewer p n ≤ n := by
  have := List.countP_le_length (p := p) (l := List.range n)
  simpa [fewer] using this
theorem fewer_succ (p : Nat → Bool) (n : Nat) : fewer p (n + 1) = fewer p n + (if p n = true then 1 else 0) := by
  simp [fewer, List.range_succ, List.countP_append, List.countP_cons]
theorem delT_map (p : Nat → Bool) (t : Tx) (k : Nat) : ((t.zipIdx k).filterMap fun x => if p x.2 = true then none else some (D.str [x.1])) = (((t.zipIdx k).filter fun x => !p x.2).map (·.1)).map fun c => .str [c] := by
  induction t generalizing k with
  | nil => rfl
  | cons c t ih =>
    simp only [List.zipIdx_cons, List.filterMap_cons, List.filter_cons]
    cases h : p k <;> simp [ih]
theorem flat_one (l : Tx) : (l.map fun c => [c]).flatten = l := by induction l <;> simp_all
theorem delT_len (p : Nat → Bool) (t : Tx) : (delT p t).length ≤ t.length := by
  have := List.length_filter_le (fun x : Nat × Nat => !p x.2) t.zipIdx
  simpa [delT] using this
theorem range_map_get {α : Type} (f : Nat → α) {n i : Nat} (h : i < n) : ((List.range n).map f)[i]? = some (f i) := by simp [h]
theorem doomed_eq (s n : Nat) (cs : List Caret) : doomed s n cs = fun i => decide (i < n) && cs.any fun c => decide (c.1 = i + s) := rfl
theorem max0 (g : Nat) : (if (0 : Int) > (g : Int) - 1 then (0 : Int) else (g : Int) - 1) = ((g - 1 : Nat) : Int) := by split <;> omega
theorem min1 (g n : Nat) : (if (n : Int) < (g : Int) + 1 then (n : Int) else (g : Int) + 1) = ((min (g + 1) n : Nat) : Int) := by split <;> omega
theorem tk_or (o : Option Nat) (h : Option Nat) : (if o.toList.isEmpty then hD h else D.str o.toList) = hD (o.or h) := by cases o <;> rfl
/-- carets without two in the same gap -/
def joinStep (x : List Caret × List Nat) (c : Caret) : List Caret × List Nat :=
  match x.1.getLast? with
  | some l => if l.1 = c.1 then (x.1.dropLast ++ [(c.1, none)], x.2 ++ [x.1.length - 1]) else (x.1 ++ [c], x.2 ++ [x.1.length])
  | none => (x.1 ++ [c], x.2 ++ [x.1.length])
def joined (cs : List Caret) : List Caret × List Nat := cs.foldl joinStep ([], [])
def press (x : Tx × List Caret) (k : Key) : Tx × List Caret := ((afterKey x.1 x.2 k).1, (joined (afterKey x.1 x.2 k).2).1)
def together (x : Tx × List Caret) (row : List Key) : Tx × List Caret := row.foldl press x
def alone (x : Tx × List Caret) (row : List Key) : Tx × List Caret := row.foldl (fun x k => afterKey x.1 x.2 k) x
theorem asc_le {n : Nat} : ∀ {d : Nat} {cs : List Caret}, asc n d cs → ∀ c ∈ cs, c.1 ≤ n
  | _, [], _, c, hc => by cases hc
  | d, x :: r, h, c, hc => by
    rcases List.mem_cons.mp hc with rfl | hc
    · exact h.2.1
    · exact asc_le h.2.2 c hc
theorem max0L (g : Nat) : iteL ((0 : Int) > (g : Int) - 1) (fun _ => (0 : Int)) (fun _ => (g : Int) - 1) = ((g - 1 : Nat) : Int) := max0 g
theorem min1L (g n : Nat) : iteL ((n : Int) < (g : Int) + 1) (fun _ => (n : Int)) (fun _ => (g : Int) + 1) = ((min (g + 1) n : Nat) : Int) := min1 g n
theorem hD_some (c : Nat) : hD (some c) = .str [c] := rfl
end Mc

set_option linter.all false
set_option maxRecDepth 100000
set_option Elab.async false
set_option maxHeartbeats 4000000
namespace Mc
theorem afterKey_len (t : Tx) (cs : List Caret) (k : Key) : (afterKey t cs k).2.length = cs.length := by
  have h : ∀ (cs : List Caret) (s : Nat), (insC k s cs).length = cs.length := by
    intro cs
    induction cs with
    | nil => intro s; rfl
    | cons c r ih => intro s; simp only [insC, List.length_cons, ih]
  cases k <;> simp only [afterKey, List.length_map, h]
theorem insT_len (k : Key) (t : Tx) : ∀ (cs : List Caret) (d : Nat), asc t.length d cs → d ≤ t.length → (insT k t d cs).length = t.length - d + (cs.map fun c => (ins k c.2).toList.length).sum
  | [], d, _, _ => by simp [insT]
  | c :: r, d, h, hd => by
    obtain ⟨h1, h2, h3⟩ := h
    have ih := insT_len k t r c.1 h3 h2
    simp only [insT, List.length_append, List.length_drop, List.length_take, ih, List.map_cons, List.sum_cons]
    omega
theorem sum_le (k : Key) : ∀ cs : List Caret, (cs.map fun c => (ins k c.2).toList.length).sum ≤ cs.length
  | [] => by simp
  | c :: r => by have := sum_le k r; have := ins_len k c.2; simp only [List.map_cons, List.sum_cons, List.length_cons]; omega
theorem insC_asc (k : Key) (n : Nat) : ∀ (cs : List Caret) (d s e : Nat), asc n d cs → e ≤ d + s → d ≤ n → asc (n + s + (cs.map fun c => (ins k c.2).toList.length).sum) e (insC k s cs)
  | [], _, _, _, _, _, _ => trivial
  | c :: r, d, s, e, h, he, hd => by
    obtain ⟨h1, h2, h3⟩ := h
    simp only [insC, List.map_cons, List.sum_cons]
    have ih := insC_asc k n r c.1 (s + (ins k c.2).toList.length) (if fr k = true then c.1 + s + (ins k c.2).toList.length else c.1 + s) h3 (by split <;> omega) h2
    refine ⟨by show e ≤ if fr k = true then _ else _; split <;> omega, by show (if fr k = true then _ else _) ≤ _; split <;> omega, ?_⟩
    have e1 : n + s + ((ins k c.2).toList.length + (r.map fun c => (ins k c.2).toList.length).sum) = n + (s + (ins k c.2).toList.length) + (r.map fun c => (ins k c.2).toList.length).sum := by omega
    rw [e1]
    exact ih
theorem fewer_mono (p : Nat → Bool) {a b : Nat} (h : a ≤ b) : fewer p a ≤ fewer p b ∧ fewer p b ≤ fewer p a + (b - a) := by
  induction b with
  | zero => have : a = 0 := by omega
            subst this; simp
  | succ b ih =>
    by_cases e : a = b + 1
    · subst e; simp
    · have := ih (by omega)
      rw [fewer_succ]
      split <;> omega
theorem delT_append (p : Nat → Bool) (t u : Tx) : delT p (t ++ u) = delT p t ++ delT (fun i => p (i + t.length)) u := by
  unfold delT
  rw [List.zipIdx_append, List.filter_append, List.map_append]
  congr 1
  have : ∀ (u : Tx) (k m : Nat) , ((u.zipIdx (k + m)).filter fun x => !p x.2).map (·.1) = ((u.zipIdx m).filter fun x => !p (x.2 + k)).map (·.1) := by
    intro u k
    induction u with
    | nil => intro m; rfl
    | cons c u ih =>
      intro m
      simp only [List.zipIdx_cons, List.filter_cons]
      have := ih (m + 1)
      rw [show k + (m + 1) = k + m + 1 by omega] at this
      rw [show m + k = k + m by omega]
      split <;> simp [this]
  simpa using this u t.length 0
theorem delT_nil (p : Nat → Bool) : delT p [] = [] := rfl
theorem delT_one (p : Nat → Bool) (c : Nat) : delT p [c] = if p 0 = true then [] else [c] := by
  cases h : p 0 <;> simp [delT, h]
theorem delT_cons (p : Nat → Bool) (c : Nat) (t : Tx) : delT p (c :: t) = (if p 0 = true then [] else [c]) ++ delT (fun i => p (i + 1)) t := by
  have := delT_append p [c] t
  rw [delT_one] at this
  exact this
theorem delT_length (p : Nat → Bool) (t : Tx) : (delT p t).length + fewer p t.length = t.length := by
  have : ∀ r : Tx, (delT p r.reverse).length + fewer p r.reverse.length = r.reverse.length := by
    intro r
    induction r with
    | nil => rfl
    | cons c r ih =>
      rw [List.reverse_cons, delT_append, delT_one, List.length_append, List.length_append, List.length_cons, List.length_nil]
      simp only [Nat.zero_add]
      rw [fewer_succ]
      cases h : p r.reverse.length
      · rw [if_neg (by simp), if_neg (by simp), List.length_cons, List.length_nil]; omega
      · rw [if_pos rfl, if_pos rfl, List.length_nil]; omega
  have h := this t.reverse
  rwa [List.reverse_reverse] at h
theorem asc_map {f : Nat → Nat} {n m : Nat} {hf : Caret → Option Nat} (mono : ∀ a b, a ≤ b → f a ≤ f b) (top : ∀ a, a ≤ n → f a ≤ m) : ∀ {cs : List Caret} {d e : Nat}, asc n d cs → e ≤ f d → asc m e (cs.map fun c => (f c.1, hf c))
  | [], _, _, _, _ => trivial
  | c :: r, d, e, h, he => ⟨Nat.le_trans he (mono _ _ h.1), top _ h.2.1, asc_map mono top h.2.2 (Nat.le_refl _)⟩
theorem afterKey_asc {t : Tx} {cs : List Caret} (k : Key) (h : asc t.length 0 cs) : asc (afterKey t cs k).1.length 0 (afterKey t cs k).2 := by
  have hd : ∀ p : Nat → Bool, asc (delT p t).length 0 (cs.map fun c => (c.1 - fewer p c.1, c.2)) := fun p => asc_map (f := fun g => g - fewer p g) (hf := fun c => c.2) (fun a b hab => by have := fewer_mono p hab; have := fewer_le p a; omega) (fun a ha => by have := delT_length p t; have := fewer_mono p ha; have := fewer_le p t.length; omega) h (Nat.zero_le _)
  have hi : ∀ k, asc (insT k t 0 cs).length 0 (insC k 0 cs) := fun k => by
    rw [insT_len k t cs 0 h (Nat.zero_le _)]
    have := insC_asc k t.length cs 0 0 0 h (Nat.le_refl _) (Nat.zero_le _)
    simpa using this
  cases k
  case left => exact asc_map (f := fun g => g - 1) (hf := fun c => c.2) (m := t.length) (fun a b hab => by omega) (fun a ha => by omega) h (Nat.zero_le _)
  case right => exact asc_map (f := fun g => min (g + 1) t.length) (hf := fun c => c.2) (m := t.length) (fun a b hab => by omega) (fun a ha => by omega) h (Nat.zero_le _)
  case take => exact asc_map (f := fun g => g) (hf := fun c => (t[c.1]?).or c.2) (fun a b hab => hab) (fun a ha => ha) h (Nat.zero_le _)
  case grab => exact asc_map (f := fun g => g) (hf := fun c => if c.1 = 0 then c.2 else (t[c.1 - 1]?).or c.2) (fun a b hab => hab) (fun a ha => ha) h (Nat.zero_le _)
  case back => exact hd _
  case del => exact hd _
  all_goals exact hi _
theorem afterKey_tlen {t : Tx} {cs : List Caret} (k : Key) (h : asc t.length 0 cs) : (afterKey t cs k).1.length ≤ t.length + cs.length := by
  have hi : ∀ k, (insT k t 0 cs).length ≤ t.length + cs.length := fun k => by
    rw [insT_len k t cs 0 h (Nat.zero_le _)]; have := sum_le k cs; omega
  have hd : ∀ p, (delT p t).length ≤ t.length + cs.length := fun p => by have := delT_len p t; omega
  cases k <;> first | exact hi _ | exact hd _ | exact Nat.le_add_right _ _
/-- a sign's code -/
def sgn (c : Nat) : Prop := 32 ≤ c ∧ c ≤ 126
theorem sgn.lt {c : Nat} (h : sgn c) : c < 1114112 := by unfold sgn at h; omega
/-- codes of texts, hands, keys -/
def okT (t : Tx) : Prop := ∀ c ∈ t, sgn c
def okH (h : Option Nat) : Prop := ∀ c, h = some c → sgn c
def okK (k : Key) : Prop := ∀ c, (k = .write c ∨ k = .lay c) → sgn c
def okC (cs : List Caret) : Prop := ∀ c ∈ cs, okH c.2
theorem ins_ok {k : Key} {h : Option Nat} (a : okK k) (b : okH h) : ∀ c ∈ (ins k h).toList, sgn c := by
  intro c hc
  have : ins k h = some c := by simpa using hc
  cases k <;> simp only [ins] at this <;> first | exact b c this | (cases this; first | exact a _ (.inl rfl) | exact a _ (.inr rfl))
theorem insT_ok {k : Key} {t : Tx} (a : okK k) (ht : okT t) : ∀ (cs : List Caret) (d : Nat), okC cs → okT (insT k t d cs)
  | [], d, _ => fun c hc => ht c (List.mem_of_mem_drop hc)
  | x :: r, d, h => fun c hc => by
    simp only [insT, List.mem_append] at hc
    rcases hc with (hc | hc) | hc
    · exact ht c (List.mem_of_mem_take (List.mem_of_mem_drop hc))
    · exact ins_ok a (h x List.mem_cons_self) c hc
    · exact insT_ok a ht r _ (fun y hy => h y (List.mem_cons_of_mem _ hy)) c hc
theorem insC_hand (k : Key) : ∀ (cs : List Caret) (s : Nat), (insC k s cs).map (·.2) = cs.map (·.2)
  | [], _ => rfl
  | c :: r, s => by simp only [insC, List.map_cons, insC_hand k r]
theorem delT_mem {p : Nat → Bool} {t : Tx} {c : Nat} (h : c ∈ delT p t) : c ∈ t := by
  unfold delT at h
  obtain ⟨x, hx, rfl⟩ := List.mem_map.mp h
  exact List.fst_mem_of_mem_zipIdx (List.mem_filter.mp hx).1
theorem afterKey_ok {t : Tx} {cs : List Caret} {k : Key} (a : okK k) (ht : okT t) (hc : okC cs) : okT (afterKey t cs k).1 ∧ okC (afterKey t cs k).2 := by
  have same : ∀ (f : Caret → Nat), okC (cs.map fun c => (f c, c.2)) := fun f x hx => by
    obtain ⟨y, hy, rfl⟩ := List.mem_map.mp hx
    exact hc y hy
  have hand : ∀ (f : Caret → Nat) (o : Caret → Option Nat), (∀ c, okH (o c)) → okC (cs.map fun c => (f c, (o c).or c.2)) := fun f o ho x hx => by
    obtain ⟨y, hy, rfl⟩ := List.mem_map.mp hx
    intro c e
    show sgn c
    have e' : (o y).or y.2 = some c := e
    cases h : o y with
    | none => rw [h] at e'; exact hc y hy c e'
    | some z => rw [h] at e'; cases e'; exact ho y c h
  have hi : ∀ k, okK k → okT (insT k t 0 cs) ∧ okC (insC k 0 cs) := fun k a => ⟨insT_ok a ht cs 0 hc, fun x hx => by
    have h1 : x.2 ∈ (insC k 0 cs).map (·.2) := List.mem_map.mpr ⟨x, hx, rfl⟩
    rw [insC_hand] at h1
    obtain ⟨y, hy, e⟩ := List.mem_map.mp h1
    rw [← e]; exact hc y hy⟩
  have get : ∀ g, okH t[g]? := fun g c e => ht c (List.mem_of_getElem? e)
  cases k
  case left => exact ⟨ht, same _⟩
  case right => exact ⟨ht, same _⟩
  case take => exact ⟨ht, hand _ (fun c => t[c.1]?) fun c => get _⟩
  case grab =>
    refine ⟨ht, fun x hx => ?_⟩
    obtain ⟨y, hy, rfl⟩ := List.mem_map.mp hx
    show okH (if y.1 = 0 then y.2 else (t[y.1 - 1]?).or y.2)
    split
    · exact hc y hy
    · intro c e
      cases h : t[y.1 - 1]? with
      | none => rw [h] at e; exact hc y hy c e
      | some z => rw [h] at e; cases e; exact get _ c h
  case back => exact ⟨fun c hc => ht c (delT_mem hc), same _⟩
  case del => exact ⟨fun c hc => ht c (delT_mem hc), same _⟩
  all_goals exact hi _ a
abbrev Zip := Tx × Tx × Option Nat
def zipK (k : Key) (z : Zip) : Zip :=
  match k with
  | .left => (z.1.dropLast, z.1.drop (z.1.length - 1) ++ z.2.1, z.2.2)
  | .right => (z.1 ++ z.2.1.take 1, z.2.1.drop 1, z.2.2)
  | .back => (z.1.dropLast, z.2.1, z.2.2)
  | .del => (z.1, z.2.1.drop 1, z.2.2)
  | .take => (z.1, z.2.1, (z.2.1.head?).or z.2.2)
  | .grab => (z.1, z.2.1, (z.1.getLast?).or z.2.2)
  | k => if fr k = true then (z.1 ++ (ins k z.2.2).toList, z.2.1, z.2.2) else (z.1, (ins k z.2.2).toList ++ z.2.1, z.2.2)
def unz (z : Zip) : Tx × List Caret := (z.1 ++ z.2.1, [(z.1.length, z.2.2)])
theorem delT_none {p : Nat → Bool} : ∀ {t : Tx}, (∀ i, i < t.length → p i = false) → delT p t = t := by
  intro t h
  unfold delT
  rw [List.filter_eq_self.mpr]
  · exact List.zipIdx_map_fst 0 t
  · rintro ⟨c, i⟩ hm
    have := List.snd_lt_of_mem_zipIdx hm
    simp [h i (by simpa using this)]
theorem fewer_none {p : Nat → Bool} {n : Nat} (h : ∀ i, i < n → p i = false) : fewer p n = 0 := by
  unfold fewer
  rw [List.countP_eq_zero]
  intro i hi
  simp [h i (List.mem_range.mp hi)]
theorem afterKey_one (k : Key) (z : Zip) : afterKey (unz z).1 (unz z).2 k = unz (zipK k z) := by
  obtain ⟨f, b, h⟩ := z
  have insC1 : ∀ k, isIns k = true → (insT k (f ++ b) 0 [(f.length, h)], insC k 0 [(f.length, h)]) = unz (if fr k = true then (f ++ (ins k h).toList, b, h) else (f, (ins k h).toList ++ b, h)) := by
    intro k _
    cases hf : fr k <;> simp [insT, insC, unz, hf]
  cases k
  case left =>
    simp only [afterKey, unz, zipK, List.map_cons, List.map_nil, List.length_dropLast, ← List.append_assoc, List.dropLast_eq_take, List.take_append_drop]
    simp
  case right =>
    simp only [afterKey, unz, zipK, List.map_cons, List.map_nil, List.append_assoc, List.take_append_drop, List.length_append, List.length_take]
    congr 3
    omega
  case take =>
    simp only [afterKey, unz, zipK, List.map_cons, List.map_nil]
    rw [List.getElem?_append_right (Nat.le_refl _), Nat.sub_self, List.head?_eq_getElem?]
  case grab =>
    simp only [afterKey, unz, zipK, List.map_cons, List.map_nil]
    congr 3
    cases hl : f.length with
    | zero => have : f = [] := List.length_eq_zero_iff.mp hl
              subst this; rfl
    | succ n =>
      rw [if_neg (by omega), List.getElem?_append_left (by omega), List.getLast?_eq_getElem?, hl]
  case back =>
    simp only [afterKey, unz, zipK, List.map_cons, List.map_nil]
    generalize hp : doomed 1 (f ++ b).length [(f.length, h)] = p
    have pe : ∀ i, p i = (decide (i < (f ++ b).length) && decide (f.length = i + 1)) := by intro i; rw [← hp]; simp [doomed]
    rcases List.eq_nil_or_concat f with rfl | ⟨g, c, rfl⟩
    · have : ∀ i n, i < n → p i = false := by intro i n _; rw [pe]; simp
      rw [delT_none (fun i hi => this i _ hi), fewer_none (fun i hi => this i _ hi)]
      rfl
    · rw [List.concat_eq_append] at *
      have p1 : ∀ i, i < g.length → p i = false := by intro i hi; rw [pe]; simp; omega
      have p2 : p g.length = true := by rw [pe]; simp
      have p3 : ∀ i, i < b.length → p (i + (g ++ [c]).length) = false := by intro i hi; rw [pe]; simp; omega
      rw [delT_append, delT_append, delT_none p1, delT_one, delT_none p3, Nat.zero_add, p2, if_pos rfl]
      have : fewer p (g ++ [c]).length = 1 := by
        rw [List.length_append, List.length_cons, List.length_nil, Nat.zero_add, fewer_succ, fewer_none p1, p2]; rfl
      rw [this]
      simp
  case del =>
    simp only [afterKey, unz, zipK, List.map_cons, List.map_nil]
    generalize hp : doomed 0 (f ++ b).length [(f.length, h)] = p
    have pe : ∀ i, p i = (decide (i < (f ++ b).length) && decide (f.length = i)) := by intro i; rw [← hp]; simp [doomed]
    have p1 : ∀ i, i < f.length → p i = false := by intro i hi; rw [pe]; simp; omega
    rw [delT_append, delT_none p1, fewer_none p1]
    cases b with
    | nil => rfl
    | cons c b =>
      have p2 : p f.length = true := by rw [pe]; simp
      have p3 : ∀ i, i < b.length → p (i + 1 + f.length) = false := by intro i hi; rw [pe]; simp
      rw [delT_cons, Nat.zero_add, p2, if_pos rfl, delT_none p3]
      rfl
  case put => exact insC1 _ rfl
  case leave => exact insC1 _ rfl
  case write c => exact insC1 _ rfl
  case lay c => exact insC1 _ rfl
def zipR (row : List Key) (z : Zip) : Zip := row.foldl (fun z k => zipK k z) z
theorem alone_zip : ∀ (row : List Key) (z : Zip), alone (unz z) row = unz (zipR row z)
  | [], z => rfl
  | k :: r, z => by
    show alone (afterKey (unz z).1 (unz z).2 k) r = unz (zipR r (zipK k z))
    rw [afterKey_one]
    exact alone_zip r (zipK k z)
theorem unz_of (t : Tx) (g : Nat) (h : Option Nat) (hg : g ≤ t.length) : (t, [(g, h)]) = unz (t.take g, t.drop g, h) := by
  simp [unz, hg]
theorem zipR_append (a b : List Key) (z : Zip) : zipR (a ++ b) z = zipR b (zipR a z) := List.foldl_append
theorem nice_txt {t : Tx} {m : Nat} (h : okT t) (hl : t.length ≤ m) : Nice 0 (12 * m + 2) (.str t) := nice_str (fun c hc => (h c hc).lt) hl
theorem nice_hand {h : Option Nat} (hh : okH h) : Nice 0 14 (hD h) := by
  cases h with
  | none => exact nice_non.mono (Nat.le_refl _) (by omega)
  | some c => exact nice_str (m := 1) (fun x hx => by simp at hx; subst hx; exact (hh _ rfl).lt) (by simp)
theorem nice_key {k : Key} (hk : okK k) : Nice 1 83 (kD k) := by
  have one : ∀ {c : Nat}, sgn c → Nice 0 14 (.str [c]) := fun hc => nice_str (m := 1) (fun x hx => by simp at hx; subst hx; exact hc.lt) (by simp)
  have w : Nice 0 62 (.str (kW k)) := nice_str (m := 5) (fun c hc => by
    have : ∀ k : Key, ∀ c ∈ kW k, c < 1114112 := by
      intro k
      cases k <;> simp [kW]
    exact this k c hc) (by cases k <;> simp [kW])
  have s : NiceL 0 16 (kS k) := by
    cases k <;> first | exact (niceL_nil.mono (Nat.le_refl _) (Nat.zero_le _)) | (exact niceL_cons (one (hk _ (.inl rfl))) niceL_nil) | (exact niceL_cons (one (hk _ (.inr rfl))) niceL_nil)
  exact (nice_tup (niceL_cons w s)).mono (Nat.le_refl _) (by omega)
theorem nice_row {row : List Key} {n : Nat} (h : ∀ k ∈ row, okK k) (hl : row.length ≤ n) : Nice 2 (85 * n + 3) (.tup (row.map kD)) :=
  nice_tupA (fun d hd => by obtain ⟨k, hk, rfl⟩ := List.mem_map.mp hd; exact nice_key (h k hk)) (by simpa using hl)
theorem nice_nat {n : Nat} (h : n < 1048576) : Nice 0 22 (.int (n : Nat)) := nice_int (by simpa using h)
theorem nice_caret {c : Caret} (h : c.1 < 1048576) (hh : okH c.2) : Nice 1 43 (cD c) :=
  (nice_tup (niceL_cons (nice_nat h) (niceL_cons (nice_hand hh) niceL_nil))).mono (Nat.le_refl _) (by omega)
theorem repS_len (j : Int) (l : Tx) : (repS j l).length = j.toNat * l.length := by simp [repS, List.length_flatten]
theorem repS_mem {j : Int} {l : Tx} {c : Nat} (h : c ∈ repS j l) : c ∈ l := by
  unfold repS at h
  obtain ⟨x, hx, hc⟩ := List.mem_flatten.mp h
  rw [List.eq_of_mem_replicate hx] at hc
  exact hc
theorem mul_str {c : Bool} {x : Tx} {j : Int} {st : Sto} (h : 0 ≤ j ∧ j ≤ 1000 ∧ x.length * j.toNat ≤ 16777216) : binE .mul c (.str x) (.int j) st = some (.str (repS j x), st) := if_pos h
theorem at_nats (l : List Nat) (i : Int) (h0 : 0 ≤ i) (h1 : i < l.length) : ∃ m ∈ l, Mc.at_ (l.map fun m => D.int (m : Nat)) i = some (.int (m : Nat)) := by
  obtain ⟨d, hd, e⟩ := at_in (l := l.map fun m => D.int (m : Nat)) h0 (by simpa using h1)
  obtain ⟨m, hm, rfl⟩ := List.mem_map.mp hd
  exact ⟨m, hm, e⟩
theorem mul_lst {l : List D} {j : Int} {st : Sto} (h : 0 ≤ j ∧ j ≤ 1000000 ∧ l.length * j.toNat ≤ 16777216) : binE .mul false (.lst l) (.int j) st = some (.lst (rep j l), st) := if_pos h
theorem zipK_len (k : Key) (z : Zip) : (zipK k z).1.length + (zipK k z).2.1.length ≤ z.1.length + z.2.1.length + 1 := by
  have h : ∀ k : Key, (ins k z.2.2).toList.length ≤ 1 := fun k => ins_len k z.2.2
  cases k <;> simp only [zipK, List.length_dropLast, List.length_drop, List.length_append, List.length_take] <;> first | omega | skip
  all_goals
    split <;> simp only [List.length_append] <;> have := h .put <;> have := h .leave <;> first | omega | skip
  all_goals (simp only [ins, Option.toList, List.length_cons, List.length_nil] at *; omega)
theorem zipR_len : ∀ (row : List Key) (z : Zip), (zipR row z).1.length + (zipR row z).2.1.length ≤ z.1.length + z.2.1.length + row.length
  | [], z => by simp [zipR]
  | k :: r, z => by
    have h1 := zipR_len r (zipK k z)
    have h2 := zipK_len k z
    show (zipR r (zipK k z)).1.length + (zipR r (zipK k z)).2.1.length ≤ _
    rw [List.length_cons]; omega
def okZ (z : Zip) : Prop := okT z.1 ∧ okT z.2.1 ∧ okH z.2.2
theorem zipK_ok {k : Key} {z : Zip} (a : okK k) (h : okZ z) : okZ (zipK k z) := by
  have e := afterKey_one k z
  have hu : okT (unz z).1 ∧ okC (unz z).2 := ⟨fun c hc => by rcases List.mem_append.mp hc with hc | hc; exact h.1 c hc; exact h.2.1 c hc, fun x hx => by
    have : x = (z.1.length, z.2.2) := by simpa [unz] using hx
    subst this; exact h.2.2⟩
  have := afterKey_ok a hu.1 hu.2
  rw [e] at this
  exact ⟨fun c hc => this.1 c (List.mem_append_left _ hc), fun c hc => this.1 c (List.mem_append_right _ hc), this.2 ((zipK k z).1.length, (zipK k z).2.2) (by simp [unz])⟩
theorem zipR_ok : ∀ {row : List Key} {z : Zip}, (∀ k ∈ row, okK k) → okZ z → okZ (zipR row z)
  | [], z, _, h => h
  | k :: r, z, a, h => zipR_ok (row := r) (fun k' hk => a k' (List.mem_cons_of_mem _ hk)) (zipK_ok (a k List.mem_cons_self) h)
theorem niceL_nh {h : Nat} : NiceL h 0 [] := niceL_nil.mono (Nat.zero_le _) (Nat.le_refl _)
theorem Nice.up {h' h m : Nat} {d : D} (x : Nice h' m d) (i : h' ≤ h) : Nice h m d := x.mono i (Nat.le_refl _)
/-- (text, gap, hand) -/
def outD (z : Zip) : D := .tup [.str (z.1 ++ z.2.1), .int (z.1.length : Nat), hD z.2.2]
theorem out0 {z : Zip} {st : Sto} : idxE (outD z) (.int 0) st = some (.str (z.1 ++ z.2.1)) := at_0
theorem out1 {z : Zip} {st : Sto} : idxE (outD z) (.int 1) st = some (.int (z.1.length : Nat)) := at_1
theorem out2 {z : Zip} {st : Sto} : idxE (outD z) (.int 2) st = some (hD z.2.2) := at_2
theorem is_hn {st : Sto} : cmpE .is (hD none) .non st = some true := rfl
theorem is_hs {c : Nat} {st : Sto} : cmpE .is (hD (some c)) .non st = some false := rfl
theorem isn_hn {st : Sto} : cmpE .isn (hD none) .non st = some false := rfl
theorem isn_hs {c : Nat} {st : Sto} : cmpE .isn (hD (some c)) .non st = some true := rfl
theorem frz_out {st : Sto} {n k : Nat} {z : Zip} : frz st n (k + 1) (outD z) = some (outD z) := frz_sol (by
  rw [outD, sol, solL, solL, solL, solL, sol_hD]; cases k <;> rfl)
theorem nice_out {z : Zip} {n : Nat} (h : okZ z) (hl : z.1.length + z.2.1.length ≤ n) (hn : n ≤ 10000) : Nice 1 (12 * n + 47) (outD z) :=
  (nice_tup (niceL_cons (nice_txt (m := n) (fun c hc => by rcases List.mem_append.mp hc with hc | hc; exact h.1 c hc; exact h.2.1 c hc) (by simpa using hl)) (niceL_cons (nice_nat (by omega)) (niceL_cons (nice_hand h.2.2) niceL_nil)))).mono (Nat.le_refl _) (by omega)
theorem pop_bl {n : Nat} {b : Bool} {st : Sto} : W (popD n (.bl b) st) fun x => x.1 = .bl b := by
  simp only [popD, frz_bl, Option.map_some]
  split <;> exact ⟨_, rfl, rfl⟩
structure Tn where
  t : Tx
  ns : List Int
  hs : List (Option Nat)
def encT (s : Tn) : D := .tup [.str s.t, .tup (s.ns.map .int), .tup (s.hs.map hD)]
def clampN (n : Int) (L : Nat) : Nat := min n.toNat L
theorem clamp_le (n : Int) (L : Nat) : clampN n L ≤ L := by unfold clampN; omega
theorem clampA {n : Int} {L : Nat} : iteL ((L : Int) < iteL ((0 : Int) > n) (fun _ => (0 : Int)) (fun _ => n)) (fun _ => (L : Int)) (fun _ => iteL ((0 : Int) > n) (fun _ => (0 : Int)) (fun _ => n)) = ((clampN n L : Nat) : Int) := by
  unfold iteL clampN
  by_cases h : (0 : Int) > n
  · simp only [if_pos h]
    split <;> omega
  · simp only [if_neg h]
    split <;> omega
theorem clampB {n : Int} {L : Nat} : iteL ((L : Int) < iteL (n > (0 : Int)) (fun _ => n) (fun _ => (0 : Int))) (fun _ => (L : Int)) (fun _ => iteL (n > (0 : Int)) (fun _ => n) (fun _ => (0 : Int))) = ((clampN n L : Nat) : Int) := by
  unfold iteL clampN
  by_cases h : n > (0 : Int)
  · simp only [if_pos h]
    split <;> omega
  · simp only [if_neg h]
    split <;> omega
/-- what one caret's key does to the text around it -/
def zipAt (s : Tn) (i : Nat) (k : Key) : Zip := zipK k (s.t.take (clampN (s.ns.getD i 0) s.t.length), s.t.drop (clampN (s.ns.getD i 0) s.t.length), s.hs.getD i none)
def stepT (s : Tn) (i : Nat) (k : Key) : Tn :=
  ⟨(zipAt s i k).1 ++ (zipAt s i k).2.1,
   s.ns.take i ++ (((zipAt s i k).1.length : Nat) : Int) :: (s.ns.drop (i + 1)).map fun n => n + ((((zipAt s i k).1 ++ (zipAt s i k).2.1).length : Int) - s.t.length),
   s.hs.take i ++ (zipAt s i k).2.2 :: s.hs.drop (i + 1)⟩
theorem stepT_ns (s : Tn) (i : Nat) (k : Key) (h : i < s.ns.length) : (stepT s i k).ns.length = s.ns.length := by simp [stepT]; omega
theorem stepT_hs (s : Tn) (i : Nat) (k : Key) (h : i < s.hs.length) : (stepT s i k).hs.length = s.hs.length := by simp [stepT]; omega
theorem stepT_t (s : Tn) (i : Nat) (k : Key) : (stepT s i k).t.length ≤ s.t.length + 1 := by
  have := zipK_len k (s.t.take (clampN (s.ns.getD i 0) s.t.length), s.t.drop (clampN (s.ns.getD i 0) s.t.length), s.hs.getD i none)
  simp only [List.length_take, List.length_drop] at this
  show ((zipAt s i k).1 ++ (zipAt s i k).2.1).length ≤ _
  rw [List.length_append]
  unfold zipAt
  omega
def okS (s : Tn) : Prop := okT s.t ∧ ∀ h ∈ s.hs, okH h
theorem stepT_ok {s : Tn} {i : Nat} {k : Key} (a : okK k) (h : okS s) : okS (stepT s i k) := by
  have z : okZ (zipAt s i k) := zipK_ok a ⟨fun c hc => h.1 c (List.mem_of_mem_take hc), fun c hc => h.1 c (List.mem_of_mem_drop hc), by
    show okH (s.hs.getD i none)
    rw [List.getD_eq_getElem?_getD]
    cases e : s.hs[i]? with
    | none => exact fun c hc => by cases hc
    | some x => exact h.2 x (List.mem_of_getElem? e)⟩
  refine ⟨fun c hc => ?_, fun x hx => ?_⟩
  · rcases List.mem_append.mp hc with hc | hc
    · exact z.1 c hc
    · exact z.2.1 c hc
  · rcases List.mem_append.mp hx with hx | hx
    · exact h.2 x (List.mem_of_mem_take hx)
    · rcases List.mem_cons.mp hx with rfl | hx
      · exact z.2.2
      · exact h.2 x (List.mem_of_mem_drop hx)
def rowT (row : List Key) (s : Tn) (i : Nat) : Tn := row.foldl (fun s k => stepT s i k) s
def orderT (row : List Key) (s : Tn) (o : List Nat) : Tn := o.foldl (fun s i => rowT row s i) s
def firstT (t : Tx) (gs : List Nat) : Tn := ⟨t, gs.map fun (g : Nat) => (g : Int), gs.map fun _ => none⟩
structure GoodT (n L : Nat) (s : Tn) : Prop where
  ns : s.ns.length = n
  hs : s.hs.length = n
  tl : s.t.length ≤ L
  ok : okS s
theorem GoodT.step {n L : Nat} {s : Tn} (h : GoodT n L s) {i : Nat} (hi : i < n) {k : Key} (hk : okK k) : GoodT n (L + 1) (stepT s i k) :=
  ⟨(stepT_ns s i k (by rw [h.ns]; exact hi)).trans h.ns, (stepT_hs s i k (by rw [h.hs]; exact hi)).trans h.hs, by have := stepT_t s i k; have := h.tl; omega, stepT_ok hk h.ok⟩
theorem GoodT.mono {n L L' : Nat} {s : Tn} (h : GoodT n L s) (hl : L ≤ L') : GoodT n L' s := ⟨h.ns, h.hs, Nat.le_trans h.tl hl, h.ok⟩
theorem GoodT.row {n : Nat} {i : Nat} (hi : i < n) : ∀ {row : List Key} {L : Nat} {s : Tn}, GoodT n L s → (∀ k ∈ row, okK k) → GoodT n (L + row.length) (rowT row s i)
  | [], L, s, h, _ => h
  | k :: r, L, s, h, hk => by
    have := GoodT.row hi (h.step hi (hk k List.mem_cons_self)) (fun k' hk' => hk k' (List.mem_cons_of_mem _ hk'))
    exact this.mono (by rw [List.length_cons]; omega)
theorem firstT_good {t : Tx} {gs : List Nat} {L : Nat} (ht : okT t) (hl : t.length ≤ L) : GoodT gs.length L (firstT t gs) :=
  ⟨by simp [firstT], by simp [firstT], hl, ht, fun h hh => by
    obtain ⟨_, _, rfl⟩ := List.mem_map.mp hh
    exact fun c hc => by cases hc⟩
def natsD (l : List Nat) : List D := l.map fun (n : Nat) => D.int (n : Int)
theorem rgv_t {c : Bool} {n : Nat} {st : Sto} (h : n ≤ 16777216) : rgvE .tup c (.int (n : Nat)) st = some (.tup (natsD (List.range n)), st) := by
  show (if -(2 ^ 62) ≤ (n : Int) ∧ (n : Int).toNat ≤ 16777216 then some (D.tup (rgD n), st) else none) = _
  rw [if_pos ⟨by omega, by omega⟩]; rfl
theorem rgv_f {n : Nat} {st : Sto} (h : n ≤ 16777216) : rgvE .lst true (.int (n : Nat)) st = some (.own st.length, st ++ [.lst (natsD (List.range n))]) := by
  show (if -(2 ^ 62) ≤ (n : Int) ∧ (n : Int).toNat ≤ 16777216 then some (mkL true (rgD n) st) else none) = _
  rw [if_pos ⟨by omega, by omega⟩]; rfl
theorem rgv_f1 {n : Nat} {st : Sto} (h : n + 1 ≤ 16777216) : rgvE .lst true (.int ((n : Nat) + 1)) st = some (.own st.length, st ++ [.lst (natsD (List.range (n + 1)))]) := rgv_f (n := n + 1) h
theorem popI_nat {b n : Nat} {lf : List Nat} {v : Int} {st : Sto} (h : st[n]? = some (.lst (natsD lf))) (h0 : 0 ≤ v) (h1 : v < lf.length) :
    ∃ g ∈ lf, metE b .popI (.own n) [.int v] st = some (.int (g : Nat), st.set n (.lst (natsD (lf.eraseIdx v.toNat)))) := by
  have h2 : v.toNat < lf.length := by omega
  refine ⟨lf[v.toNat], List.getElem_mem h2, ?_⟩
  have e1 : ixn (natsD lf).length v = some v.toNat := by
    unfold ixn natsD
    rw [if_pos h0, if_pos (by simpa using h1)]
  have e2 : (natsD lf)[v.toNat]? = some (.int (lf[v.toNat] : Nat)) := by unfold natsD; simp [h2]
  have e3 : (natsD lf).eraseIdx v.toNat = natsD (lf.eraseIdx v.toNat) := by unfold natsD; rw [List.eraseIdx_eq_take_drop_succ, List.eraseIdx_eq_take_drop_succ, List.map_append, List.map_take, List.map_drop]
  simp only [metE, h, e1, Option.bind_some, e2, Option.map_some, e3]
theorem intsOf_map : ∀ l : List Int, intsOf (l.map .int) = some l
  | [] => rfl
  | a :: l => by simp only [List.map_cons, intsOf, intsOf_map l, Option.map_some]
def sortN (l : List Nat) : List Nat := (sortI (l.map fun (n : Nat) => (n : Int))).map Int.toNat
theorem mem_sortN {l : List Nat} {g : Nat} (h : g ∈ sortN l) : g ∈ l := by
  unfold sortN sortI at h
  obtain ⟨x, hx, rfl⟩ := List.mem_map.mp h
  rw [List.mem_mergeSort] at hx
  obtain ⟨n, hn, rfl⟩ := List.mem_map.mp hx
  exact hn
theorem sortN_len {l : List Nat} : (sortN l).length = l.length := by unfold sortN sortI; simp
theorem ints_sortN (l : List Nat) : natsD (sortN l) = (sortI (l.map fun (n : Nat) => (n : Int))).map .int := by
  unfold natsD sortN
  rw [List.map_map]
  refine List.map_congr_left fun x hx => ?_
  unfold sortI at hx
  rw [List.mem_mergeSort] at hx
  obtain ⟨n, hn, rfl⟩ := List.mem_map.mp hx
  rfl
theorem ints_eq (l : List Nat) : natsD l = (l.map fun (n : Nat) => (n : Int)).map .int := by unfold natsD; rw [List.map_map]; rfl
theorem srt_own {n : Nat} {l : List Nat} {st : Sto} (h : st[n]? = some (.lst (natsD l))) : bltE .sorted false [.own n] st = some (.lst (natsD (sortN l)), st) := by
  rw [ints_eq] at h
  have e : lstOf st (.own n) = some ((l.map fun (n : Nat) => (n : Int)).map .int) := by simp only [lstOf, h]
  simp only [bltE, e, Option.bind_some, intsOf_map, Option.map_some, ints_sortN]
  rfl
theorem ints_len {l : List Nat} : (natsD l).length = l.length := by unfold natsD; simp
theorem ints_snoc {l : List Nat} {g : Nat} : natsD l ++ [.int (g : Nat)] = natsD (l ++ [g]) := by unfold natsD; simp
theorem sol_ints (k : Nat) (l : List Nat) : sol (k + 1) (.tup (natsD l)) = true := by
  rw [sol]; exact solL_map (fun a => by cases k <;> rfl) l
theorem up_ok {b : Nat} {s : Tx} {st : Sto} (h : s.length ≤ 5592405) : metE b .upper (.str s) [] st = some (.str (upT s), st) := if_pos h
theorem metok_up {s : Tx} {st : Sto} : metOk .upper (.str s) st = true := rfl
theorem abc_up : upT [97,98,99,100,101,102,103,104,105,106,107,108,109,110,111,112,113,114,115,116,117,118,119,120,121,122] = [65,66,67,68,69,70,71,72,73,74,75,76,77,78,79,80,81,82,83,84,85,86,87,88,89,90] := by
  with_unfolding_all rfl
theorem rev_tup {c : Bool} {l : List D} {st : Sto} : revE (.tup l) c st = some (.tup l.reverse, st) := rfl
theorem ints_rev {l : List Nat} : (natsD l).reverse = natsD l.reverse := by unfold natsD; rw [List.map_reverse]
theorem ge_0 {α : Type} {a : List α} {x : α} {r : List α} : (a ++ x :: r)[a.length]? = some x := by simp
theorem ge_1 {α : Type} {a : List α} {x y : α} {r : List α} : (a ++ x :: y :: r)[a.length + 1]? = some y := by
  rw [List.getElem?_append_right (by omega)]; simp
theorem ge_2 {α : Type} {a : List α} {x y z : α} {r : List α} : (a ++ x :: y :: z :: r)[a.length + 2]? = some z := by
  rw [List.getElem?_append_right (by omega)]; simp
theorem se_0 {α : Type} {a : List α} {x x' : α} {r : List α} : (a ++ x :: r).set a.length x' = a ++ x' :: r := by simp
theorem se_1 {α : Type} {a : List α} {x y x' : α} {r : List α} : (a ++ x :: y :: r).set (a.length + 1) x' = a ++ x :: x' :: r := by
  rw [List.set_append_right _ _ (by omega)]; simp
theorem se_2 {α : Type} {a : List α} {x y z x' : α} {r : List α} : (a ++ x :: y :: z :: r).set (a.length + 2) x' = a ++ x :: y :: x' :: r := by
  rw [List.set_append_right _ _ (by omega)]; simp
end Mc

set_option linter.all false
set_option maxRecDepth 100000
set_option Elab.async false
set_option maxHeartbeats 4000000
namespace Mc
def mirK : Key → Key
  | .left => .right
  | .right => .left
  | .write c => .lay c
  | .lay c => .write c
  | .back => .del
  | .del => .back
  | .take => .grab
  | .grab => .take
  | .put => .leave
  | .leave => .put
theorem mirK_ok {k : Key} (h : okK k) : okK (mirK k) := by
  cases k <;> intro c hc <;> simp only [mirK, reduceCtorEq, or_self, Key.write.injEq, Key.lay.injEq, or_false, false_or] at hc
  all_goals exact h _ (by simp [hc])
/-- carets from the other end -/
def mirC (n : Nat) (cs : List Caret) : List Caret := cs.reverse.map fun c => (n - c.1, c.2)
def mirP (x : Tx × List Caret) : Tx × List Caret := (x.1.reverse, mirC x.1.length x.2)
theorem mirC_len {n : Nat} {cs : List Caret} : (mirC n cs).length = cs.length := by unfold mirC; simp
theorem mirC_nil {n : Nat} : mirC n [] = [] := rfl
theorem mirC_cons {n : Nat} {c : Caret} {cs : List Caret} : mirC n (c :: cs) = mirC n cs ++ [(n - c.1, c.2)] := by simp [mirC]
theorem mirC_snoc {n : Nat} {c : Caret} {cs : List Caret} : mirC n (cs ++ [c]) = (n - c.1, c.2) :: mirC n cs := by simp [mirC]
theorem mirC_map {n m : Nat} {cs : List Caret} (f g : Caret → Caret) (h : ∀ c ∈ cs, (n - (f c).1, (f c).2) = g (m - c.1, c.2)) : mirC n (cs.map f) = (mirC m cs).map g := by
  unfold mirC
  rw [← List.map_reverse, List.map_map, List.map_map]
  apply List.map_congr_left
  intro c hc
  exact h c (List.mem_reverse.mp hc)
theorem delT_snoc' {p : Nat → Bool} {t : Tx} {c : Nat} : delT p (t ++ [c]) = delT p t ++ (if p t.length = true then [] else [c]) := by
  rw [delT_append]
  congr 1
  unfold delT
  simp only [List.zipIdx_cons, List.zipIdx_nil, List.filter_cons, List.filter_nil, Nat.zero_add]
  cases p t.length <;> rfl
theorem delT_congr {p q : Nat → Bool} {t : Tx} (h : ∀ i, i < t.length → p i = q i) : delT p t = delT q t := by
  unfold delT
  congr 1
  apply List.filter_congr
  rintro ⟨c, i⟩ hm
  have := List.snd_lt_of_mem_zipIdx hm
  simp [h i (by simpa using this)]
theorem delT_cons' {p : Nat → Bool} {t : Tx} {c : Nat} : delT p (c :: t) = (if p 0 = true then [] else [c]) ++ delT (fun i => p (i + 1)) t := by
  have := delT_append (p := p) (t := [c]) (u := t)
  rw [show c :: t = [c] ++ t from rfl, this]
  congr 1
  unfold delT
  simp only [List.zipIdx_cons, List.zipIdx_nil, List.filter_cons, List.filter_nil]
  cases p 0 <;> rfl
theorem delT_mir (p : Nat → Bool) : ∀ (n : Nat) (t : Tx), t.length = n → delT (fun i => p (n - 1 - i)) t.reverse = (delT p t).reverse := by
  intro n t
  induction t generalizing p n with
  | nil => intro _; rfl
  | cons c t ih =>
    intro h
    simp only [List.length_cons] at h
    rw [List.reverse_cons, delT_snoc', delT_cons', List.reverse_append]
    have h1 := ih (fun i => p (i + 1)) t.length rfl
    congr 1
    · rw [← h1]
      apply delT_congr
      intro i hi
      simp only [List.length_reverse] at hi
      congr 1
      omega
    · rw [List.length_reverse]
      have : n - 1 - t.length = 0 := by omega
      rw [this]
      cases p 0 <;> rfl
theorem fewer_split (p : Nat → Bool) (g : Nat) : ∀ m, fewer p (g + m) = fewer p g + fewer (fun i => p (g + i)) m
  | 0 => by simp [fewer]
  | m + 1 => by rw [← Nat.add_assoc, fewer_succ, fewer_succ, fewer_split p g m]; omega
theorem fewer_congr {p q : Nat → Bool} {n : Nat} (h : ∀ i, i < n → p i = q i) : fewer p n = fewer q n := by
  unfold fewer
  apply List.countP_congr
  intro i hi
  rw [h i (List.mem_range.mp hi)]
theorem fewer_mir (p : Nat → Bool) : ∀ n, fewer (fun i => p (n - 1 - i)) n = fewer p n
  | 0 => rfl
  | n + 1 => by
    have e : n + 1 = 1 + n := by omega
    rw [fewer_succ p n, e, fewer_split]
    have h1 : fewer (fun i => p (1 + n - 1 - i)) 1 = if p n = true then 1 else 0 := by
      rw [show (1 : Nat) = 0 + 1 from rfl, fewer_succ]
      have : fewer (fun i => p (0 + 1 + n - 1 - i)) 0 = 0 := rfl
      rw [this, Nat.zero_add]
      have : 0 + 1 + n - 1 - 0 = n := by omega
      rw [this]
    rw [h1]
    have h2 : fewer (fun i => p (1 + n - 1 - (1 + i))) n = fewer (fun i => p (n - 1 - i)) n := fewer_congr fun i hi => by congr 1; omega
    rw [h2, fewer_mir p n]; omega
theorem fewer_delT (p : Nat → Bool) : ∀ t : Tx, (delT p t).length + fewer p t.length = t.length := by
  intro t
  generalize hn : t.length = n
  induction n generalizing t with
  | zero => have := List.length_eq_zero_iff.mp hn; subst this; rfl
  | succ n ih =>
    rcases List.eq_nil_or_concat t with rfl | ⟨s, c, rfl⟩
    · cases hn
    · rw [List.concat_eq_append] at *
      simp only [List.length_append, List.length_cons, List.length_nil] at hn
      have := ih s (by omega)
      have e : s.length = n := by omega
      rw [delT_snoc', List.length_append, fewer_succ, e]
      cases p n <;> simp <;> omega
theorem doomed_mir {n : Nat} {cs : List Caret} {s s' : Nat} (hs : s + s' = 1) (h : ∀ c ∈ cs, c.1 ≤ n) : ∀ i, i < n → doomed s' n (mirC n cs) i = doomed s n cs (n - 1 - i) := by
  intro i hi
  unfold doomed mirC
  rw [List.any_map, List.any_reverse, decide_eq_true hi, decide_eq_true (show n - 1 - i < n by omega), Bool.true_and, Bool.true_and]
  rw [Bool.eq_iff_iff, List.any_eq_true, List.any_eq_true]
  constructor
  · rintro ⟨c, hc, e⟩
    refine ⟨c, hc, ?_⟩
    have := h c hc
    simp only [Function.comp, decide_eq_true_eq] at e ⊢
    omega
  · rintro ⟨c, hc, e⟩
    refine ⟨c, hc, ?_⟩
    have := h c hc
    simp only [Function.comp, decide_eq_true_eq] at e ⊢
    omega
theorem del_mir {t : Tx} {cs : List Caret} {s s' : Nat} (hs : s + s' = 1) (h : ∀ c ∈ cs, c.1 ≤ t.length) :
    (delT (doomed s' t.reverse.length (mirC t.length cs)) t.reverse, (mirC t.length cs).map fun c => (c.1 - fewer (doomed s' t.reverse.length (mirC t.length cs)) c.1, c.2))
      = mirP (delT (doomed s t.length cs) t, cs.map fun c => (c.1 - fewer (doomed s t.length cs) c.1, c.2)) := by
  rw [List.length_reverse]
  have hd := doomed_mir hs h
  have h1 : delT (doomed s' t.length (mirC t.length cs)) t.reverse = (delT (doomed s t.length cs) t).reverse := by
    rw [← delT_mir _ _ _ rfl]
    apply delT_congr
    intro i hi
    rw [hd i (by simpa using hi)]
  unfold mirP
  rw [h1]
  congr 1
  symm
  apply mirC_map
  rintro ⟨g, hh⟩ hc
  have hg : g ≤ t.length := h _ hc
  simp only
  congr 1
  have e1 : fewer (doomed s' t.length (mirC t.length cs)) (t.length - g) = fewer (fun i => doomed s t.length cs (g + i)) (t.length - g) := by
    rw [← fewer_mir (fun i => doomed s t.length cs (g + i))]
    apply fewer_congr
    intro i hi
    rw [hd i (by omega)]
    congr 1
    omega
  have e2 := fewer_split (doomed s t.length cs) g (t.length - g)
  have e3 := fewer_delT (doomed s t.length cs) t
  have e4 := fewer_le (doomed s t.length cs) g
  rw [show g + (t.length - g) = t.length by omega] at e2
  rw [e1]
  have e5 := fewer_le (fun i => doomed s t.length cs (g + i)) (t.length - g)
  omega
theorem insT_shift (k : Key) (t : Tx) : ∀ (cs : List Caret) (d n : Nat), asc n d cs → n ≤ t.length → ∀ e, e ≤ d → insT k t d cs = insT k (t.drop e) (d - e) (cs.map fun c => (c.1 - e, c.2))
  | [], d, n, _, _, e, he => by simp only [insT, List.map_nil, List.drop_drop]; congr 1; omega
  | c :: cs, d, n, h, hn, e, he => by
    have h1 := h.1
    have h2 := h.2.1
    simp only [insT, List.map_cons]
    rw [insT_shift k t cs c.1 n h.2.2 hn e (by omega)]
    congr 2
    rw [← List.drop_take, List.drop_drop]
    congr 1
    omega
theorem asc_take {n : Nat} {c : Caret} : ∀ {cs : List Caret} {d : Nat}, asc n d (cs ++ [c]) → asc c.1 d cs ∧ d ≤ c.1 ∧ c.1 ≤ n
  | [], d, h => ⟨trivial, h.1, h.2.1⟩
  | x :: cs, d, h => by
    obtain ⟨a, b, e⟩ := asc_take h.2.2
    exact ⟨⟨h.1, b, a⟩, Nat.le_trans h.1 b, e⟩
theorem insT_snoc (k : Key) (t : Tx) (c : Caret) : ∀ (cs : List Caret) (d n : Nat), asc n d (cs ++ [c]) → n ≤ t.length →
    insT k t d (cs ++ [c]) = insT k (t.take c.1) d cs ++ ((ins k c.2).toList ++ t.drop c.1)
  | [], d, n, _, _ => by simp [insT]
  | x :: cs, d, n, h, hn => by
    have h3 := asc_take h.2.2
    simp only [List.cons_append, insT]
    rw [insT_snoc k t c cs x.1 n h.2.2 hn]
    have : ((t.take c.1).take x.1) = t.take x.1 := by rw [List.take_take, Nat.min_eq_left h3.2.1]
    rw [this]
    simp
theorem asc_up {n m : Nat} (hm : n ≤ m) : ∀ {cs : List Caret} {d : Nat}, asc n d cs → asc m d cs
  | [], _, _ => trivial
  | c :: cs, _, h => ⟨h.1, Nat.le_trans h.2.1 hm, asc_up hm h.2.2⟩
theorem asc_down {n : Nat} : ∀ {cs : List Caret} {d e : Nat}, e ≤ d → asc n d cs → asc n e cs
  | [], _, _, _, _ => trivial
  | c :: cs, _, _, h, a => ⟨Nat.le_trans h a.1, a.2⟩
theorem asc_snoc' {n m : Nat} {c : Caret} (hc : c.1 ≤ m) : ∀ {F : List Caret} {d : Nat}, asc n d F → n ≤ c.1 → d ≤ c.1 → asc m d (F ++ [c])
  | [], d, _, _, h => ⟨h, hc, trivial⟩
  | f :: F, d, h, hn, _ => ⟨h.1, Nat.le_trans h.2.1 (Nat.le_trans hn hc), asc_snoc' hc h.2.2 hn (Nat.le_trans h.2.1 hn)⟩
theorem asc_mirC {n : Nat} : ∀ {cs : List Caret} {d : Nat}, d ≤ n → asc n d cs → asc (n - d) 0 (mirC n cs)
  | [], _, _, _ => trivial
  | c :: cs, d, hd, h => by
    rw [mirC_cons]
    have := asc_mirC h.2.1 h.2.2
    exact asc_snoc' (by show n - c.1 ≤ n - d; have := h.1; omega) this (Nat.le_refl _) (Nat.zero_le _)
theorem insT_mir {k k' : Key} (hk : ∀ h, ins k' h = ins k h) : ∀ (cs : List Caret) (t : Tx), asc t.length 0 cs → insT k' t.reverse 0 (mirC t.length cs) = (insT k t 0 cs).reverse := by
  intro cs
  generalize hn : cs.length = m
  induction m generalizing cs with
  | zero =>
    intro t _
    have := List.length_eq_zero_iff.mp hn
    subst this
    simp [insT, mirC]
  | succ m ih =>
    intro t h
    rcases List.eq_nil_or_concat cs with rfl | ⟨cs, c, rfl⟩
    · cases hn
    · rw [List.concat_eq_append] at *
      simp only [List.length_append, List.length_cons, List.length_nil] at hn
      obtain ⟨a1, a2, a3⟩ := asc_take h
      have tl : (t.take c.1).length = c.1 := by simp; omega
      rw [insT_snoc k t c cs 0 _ h (Nat.le_refl _), mirC_snoc]
      simp only [insT, List.drop_zero]
      have m1 : asc (t.length - 0) 0 (mirC t.length (cs ++ [c])) := asc_mirC (Nat.zero_le _) h
      rw [mirC_snoc] at m1
      have m2 : asc (t.length - 0) (t.length - c.1) (mirC t.length cs) := m1.2.2
      rw [insT_shift k' t.reverse _ _ _ m2 (by simp) (t.length - c.1) (Nat.le_refl _), Nat.sub_self]
      have e1 : (mirC t.length cs).map (fun x => (x.1 - (t.length - c.1), x.2)) = mirC c.1 cs := by
        unfold mirC
        rw [List.map_map]
        apply List.map_congr_left
        intro x hx
        have := asc_le a1 x (List.mem_reverse.mp hx)
        simp only [Function.comp]
        congr 1
        omega
      have e2 : t.reverse.drop (t.length - c.1) = (t.take c.1).reverse := by
        rw [List.drop_reverse]
        congr 2
        omega
      have e3 : t.reverse.take (t.length - c.1) = (t.drop c.1).reverse := by
        rw [List.take_reverse]
        congr 2
        omega
      rw [e1, e2, e3, hk]
      have := ih cs (by omega) (t.take c.1) (by rw [tl]; exact a1)
      rw [tl] at this
      rw [this]
      have e4 : (ins k c.2).toList.reverse = (ins k c.2).toList := by cases ins k c.2 <;> rfl
      rw [List.reverse_append, List.reverse_append, e4]
/-- how many signs are inserted -/
def insN (k : Key) (cs : List Caret) : Nat := (cs.map fun c => (ins k c.2).toList.length).sum
theorem insC_snoc (k : Key) (c : Caret) : ∀ (cs : List Caret) (s : Nat), insC k s (cs ++ [c]) = insC k s cs ++ [(if fr k then c.1 + (s + insN k cs) + (ins k c.2).toList.length else c.1 + (s + insN k cs), c.2)]
  | [], s => by simp [insC, insN]
  | x :: cs, s => by
    simp only [List.cons_append, insC, insC_snoc k c cs]
    have : s + (ins k x.2).toList.length + insN k cs = s + insN k (x :: cs) := by simp [insN]; omega
    rw [this]
theorem insN_snoc {k : Key} {c : Caret} {cs : List Caret} : insN k (cs ++ [c]) = insN k cs + (ins k c.2).toList.length := by simp [insN]
theorem insC_mir {k k' : Key} (hk : ∀ h, ins k' h = ins k h) (hf : fr k' = !fr k) (n : Nat) : ∀ (cs : List Caret) (s : Nat), (∀ c ∈ cs, c.1 ≤ n) → insC k' s (mirC n cs) = mirC (n + insN k cs + s) (insC k 0 cs) := by
  intro cs
  generalize hn : cs.length = m
  induction m generalizing cs with
  | zero =>
    intro s _
    have := List.length_eq_zero_iff.mp hn
    subst this
    rfl
  | succ m ih =>
    intro s h
    rcases List.eq_nil_or_concat cs with rfl | ⟨cs, c, rfl⟩
    · cases hn
    · rw [List.concat_eq_append] at *
      simp only [List.length_append, List.length_cons, List.length_nil] at hn
      have hc : c.1 ≤ n := h c (List.mem_append_right _ List.mem_cons_self)
      rw [insC_snoc, mirC_snoc, mirC_snoc, insC, ih cs (by omega) _ (fun x hx => h x (List.mem_append_left _ hx)), insN_snoc, hk, hf]
      congr 1
      · congr 1
        show _ = n + (insN k cs + (ins k c.2).toList.length) + s - _
        have e : (ins k ((n - c.1, c.2) : Caret).2).toList.length = (ins k c.2).toList.length := rfl
        rw [e]
        cases fr k <;> simp only [Bool.not_true, Bool.not_false, if_true, if_false, Bool.false_eq_true] <;> omega
      · congr 1; show n + insN k cs + (s + (ins k c.2).toList.length) = _; omega
theorem insT_lenN (k : Key) (t : Tx) : ∀ (cs : List Caret) (d : Nat), asc t.length d cs → (insT k t d cs).length + d = t.length + insN k cs + (d - t.length)
  | [], d, _ => by simp [insT, insN]; omega
  | c :: cs, d, h => by
    have := insT_lenN k t cs c.1 h.2.2
    have h1 := h.1
    have h2 := h.2.1
    have e : insN k (c :: cs) = (ins k c.2).toList.length + insN k cs := by simp [insN]
    simp only [insT, List.length_append, List.length_drop, List.length_take, e]
    omega
theorem afterKey_mir (k : Key) {x : Tx × List Caret} (h : asc x.1.length 0 x.2) : afterKey (mirP x).1 (mirP x).2 (mirK k) = mirP (afterKey x.1 x.2 k) := by
  obtain ⟨t, cs⟩ := x
  have hle : ∀ c ∈ cs, c.1 ≤ t.length := asc_le h
  have hins : ∀ k k' : Key, (∀ h, ins k' h = ins k h) → fr k' = !fr k → (insT k' t.reverse 0 (mirC t.length cs), insC k' 0 (mirC t.length cs)) = mirP (insT k t 0 cs, insC k 0 cs) := by
    intro k k' hk hf
    unfold mirP
    have := insT_lenN k t cs 0 h
    have e : (insT k t 0 cs).length = t.length + insN k cs := by omega
    rw [insT_mir hk cs t h, insC_mir hk hf t.length cs 0 hle, e]
    rfl
  simp only [mirP]
  cases k
  case left =>
    simp only [mirK, afterKey, mirP, List.length_reverse]
    congr 1
    symm
    apply mirC_map
    rintro ⟨g, hh⟩ hc
    have : g ≤ t.length := hle _ hc
    simp only
    congr 1; omega
  case right =>
    simp only [mirK, afterKey, mirP, List.length_reverse]
    congr 1
    symm
    apply mirC_map
    rintro ⟨g, hh⟩ hc
    have : g ≤ t.length := hle _ hc
    simp only
    congr 1; omega
  case take =>
    simp only [mirK, afterKey, mirP]
    congr 1
    symm
    apply mirC_map
    rintro ⟨g, hh⟩ hc
    have hg : g ≤ t.length := hle _ hc
    simp only
    congr 1
    split
    · rename_i h0
      rw [List.getElem?_eq_none (by omega)]; rfl
    · rw [List.getElem?_reverse (by omega)]
      congr 2; omega
  case grab =>
    simp only [mirK, afterKey, mirP]
    congr 1
    symm
    apply mirC_map
    rintro ⟨g, hh⟩ hc
    have hg : g ≤ t.length := hle _ hc
    simp only
    congr 1
    split
    · rename_i h0
      rw [List.getElem?_eq_none (by simp; omega)]; rfl
    · rw [List.getElem?_reverse (by omega)]
      congr 2; omega
  case back => exact del_mir (s := 1) (s' := 0) rfl hle
  case del => exact del_mir (s := 0) (s' := 1) rfl hle
  case put => exact hins _ _ (fun h => rfl) rfl
  case leave => exact hins _ _ (fun h => rfl) rfl
  case write c => exact hins _ _ (fun h => rfl) rfl
  case lay c => exact hins _ _ (fun h => rfl) rfl
def joinCons (c : Caret) (x : List Caret × List Nat) : List Caret × List Nat :=
  match x.1 with
  | f :: F => if f.1 = c.1 then ((c.1, none) :: F, 0 :: x.2) else (c :: f :: F, 0 :: x.2.map (· + 1))
  | [] => ([c], 0 :: x.2.map (· + 1))
theorem joinStep_snoc {F : List Caret} {P : List Nat} {l c : Caret} : joinStep (F ++ [l], P) c = if l.1 = c.1 then (F ++ [(c.1, none)], P ++ [F.length]) else (F ++ [l, c], P ++ [F.length + 1]) := by
  unfold joinStep
  simp
theorem join_comm (F : List Caret) (P : List Nat) (c d : Caret) : joinStep (joinCons c (F, P)) d = joinCons c (joinStep (F, P) d) ∨ F = [] := by
  rcases List.eq_nil_or_concat F with rfl | ⟨G, l, rfl⟩
  · exact .inr rfl
  left
  rw [List.concat_eq_append, joinStep_snoc]
  cases G with
  | nil =>
    by_cases h1 : l.1 = c.1
    · by_cases h2 : l.1 = d.1
      · have h3 : c.1 = d.1 := by omega
        simp [joinCons, joinStep, h1, h2, h3]
      · have h3 : ¬ c.1 = d.1 := by omega
        simp [joinCons, joinStep, h1, h2, h3]
    · by_cases h2 : l.1 = d.1
      · have h3 : ¬ d.1 = c.1 := by omega
        simp [joinCons, joinStep, h1, h2, h3]
      · simp [joinCons, joinStep, h1, h2]
  | cons g G =>
    have e1 : ∀ x : Caret, (x :: (G ++ [l])).getLast? = some l := fun x => by
      rw [← List.cons_append, List.getLast?_append]; simp
    have e2 : ∀ x : Caret, (x :: (G ++ [l])).dropLast = x :: G := fun x => by
      rw [← List.cons_append, List.dropLast_concat]
    have e3 : ∀ x y : Caret, (x :: y :: (G ++ [l])).getLast? = some l := fun x y => by
      rw [← List.cons_append, ← List.cons_append, List.getLast?_append]; simp
    have e4 : ∀ x y : Caret, (x :: y :: (G ++ [l])).dropLast = x :: y :: G := fun x y => by
      rw [← List.cons_append, ← List.cons_append, List.dropLast_concat]
    by_cases h1 : g.1 = c.1
    · by_cases h2 : l.1 = d.1
      · simp [joinCons, joinStep, h1, h2, e1, e2]
      · simp [joinCons, joinStep, h1, h2, e1, e2]
    · by_cases h2 : l.1 = d.1
      · simp [joinCons, joinStep, h1, h2, e3, e4]
      · simp [joinCons, joinStep, h1, h2, e3, e4]
theorem joined_snoc {cs : List Caret} {c : Caret} : joined (cs ++ [c]) = joinStep (joined cs) c := by unfold joined; rw [List.foldl_append]; rfl
theorem joinStep_ne {x : List Caret × List Nat} {c : Caret} : (joinStep x c).1 ≠ [] := by
  unfold joinStep
  split
  · split <;> simp
  · simp
theorem joined_ne {cs : List Caret} (h : cs ≠ []) : (joined cs).1 ≠ [] := by
  rcases List.eq_nil_or_concat cs with rfl | ⟨G, l, rfl⟩
  · exact absurd rfl h
  · rw [List.concat_eq_append, joined_snoc]; exact joinStep_ne
theorem joined_cons (c : Caret) (cs : List Caret) : joined (c :: cs) = joinCons c (joined cs) := by
  generalize hn : cs.length = m
  induction m generalizing cs with
  | zero =>
    have := List.length_eq_zero_iff.mp hn
    subst this
    rfl
  | succ m ih =>
    rcases List.eq_nil_or_concat cs with rfl | ⟨cs, d, rfl⟩
    · cases hn
    · rw [List.concat_eq_append] at *
      simp only [List.length_append, List.length_cons, List.length_nil] at hn
      rw [← List.cons_append, joined_snoc, joined_snoc, ih cs (by omega)]
      rcases join_comm (joined cs).1 (joined cs).2 c d with h | h
      · exact h
      · have : cs = [] := by
          rcases Decidable.em (cs = []) with e | e
          · exact e
          · exact absurd h (joined_ne e)
        subst this
        by_cases h1 : c.1 = d.1
        · have h2 : d.1 = c.1 := h1.symm
          simp [joined, joinCons, joinStep, h1]
        · have h2 : ¬ d.1 = c.1 := fun e => h1 e.symm
          simp [joined, joinCons, joinStep, h1, h2]
def mirJ (n : Nat) (x : List Caret × List Nat) : List Caret × List Nat := (mirC n x.1, (x.2.map fun p => x.1.length - 1 - p).reverse)
theorem mirJ_cons {n : Nat} {c : Caret} {F : List Caret} {P : List Nat} (hc : c.1 ≤ n) (hF : ∀ f ∈ F, f.1 ≤ n) (hP : ∀ p ∈ P, p < F.length) : joinStep (mirJ n (F, P)) (n - c.1, c.2) = mirJ n (joinCons c (F, P)) := by
  cases F with
  | nil =>
    have : P = [] := by
      cases P with
      | nil => rfl
      | cons p P => exact absurd (hP p List.mem_cons_self) (by simp)
    subst this
    simp [mirJ, mirC, joinStep, joinCons]
  | cons f F =>
    have hf : f.1 ≤ n := hF f List.mem_cons_self
    unfold mirJ
    rw [mirC_cons, joinStep_snoc, mirC_len]
    by_cases h : f.1 = c.1
    · have h' : n - f.1 = n - c.1 := by omega
      simp only [h', if_true, joinCons, h, mirC_cons, List.map_cons, List.reverse_cons, List.length_cons]
      congr 2
    · have h' : ¬ n - f.1 = n - c.1 := by omega
      simp only [h', if_false, joinCons, h, mirC_cons, List.map_cons, List.reverse_cons, List.length_cons, List.map_map, List.append_assoc, List.cons_append, List.nil_append]
      congr 2
      congr 1
      apply List.map_congr_left
      intro p hp
      simp only [Function.comp]
      omega
theorem joinCons_facts {n : Nat} {c : Caret} {x : List Caret × List Nat} (hc : c.1 ≤ n) (hF : ∀ f ∈ x.1, f.1 ≤ n) (hP : ∀ p ∈ x.2, p < x.1.length) : (∀ f ∈ (joinCons c x).1, f.1 ≤ n) ∧ ∀ p ∈ (joinCons c x).2, p < (joinCons c x).1.length := by
  obtain ⟨F, P⟩ := x
  cases F with
  | nil =>
    refine ⟨fun f hf => ?_, fun p hp => ?_⟩
    · simp only [joinCons, List.mem_singleton] at hf; subst hf; exact hc
    · simp only [joinCons, List.mem_cons, List.mem_map] at hp ⊢
      rcases hp with rfl | ⟨q, hq, rfl⟩
      · simp
      · have := hP q hq; simp at this
  | cons f F =>
    unfold joinCons
    simp only
    split
    · refine ⟨fun g hg => ?_, fun p hp => ?_⟩
      · rcases List.mem_cons.mp hg with rfl | hg
        · exact hc
        · exact hF g (List.mem_cons_of_mem _ hg)
      · rcases List.mem_cons.mp hp with rfl | hp
        · simp
        · have := hP p hp; simpa using this
    · refine ⟨fun g hg => ?_, fun p hp => ?_⟩
      · rcases List.mem_cons.mp hg with rfl | hg
        · exact hc
        · exact hF g hg
      · simp only [List.mem_cons, List.mem_map] at hp
        rcases hp with rfl | ⟨q, hq, rfl⟩
        · simp
        · have := hP q hq; simp at this ⊢; omega
theorem joined_mir {n : Nat} : ∀ (cs : List Caret), (∀ c ∈ cs, c.1 ≤ n) → joined (mirC n cs) = mirJ n (joined cs) ∧ (∀ f ∈ (joined cs).1, f.1 ≤ n) ∧ ∀ p ∈ (joined cs).2, p < (joined cs).1.length
  | [], _ => ⟨rfl, fun f hf => (by cases hf), fun p hp => (by cases hp)⟩
  | c :: cs, h => by
    obtain ⟨a, b, e⟩ := joined_mir cs fun x hx => h x (List.mem_cons_of_mem _ hx)
    have hc := h c List.mem_cons_self
    rw [mirC_cons, joined_snoc, joined_cons, a]
    exact ⟨mirJ_cons hc b e, joinCons_facts hc b e⟩
theorem press_mir (k : Key) {x : Tx × List Caret} (h : asc x.1.length 0 x.2) : press (mirP x) (mirK k) = mirP (press x k) := by
  unfold press
  rw [afterKey_mir k h]
  have h2 := afterKey_asc k h
  generalize afterKey x.1 x.2 k = y at h2
  have h3 := (joined_mir (n := y.1.length) y.2 (asc_le h2)).1
  simp only [mirP]
  rw [h3]; rfl
/-- a caret alone, from the other end -/
def mirZ (z : Zip) : Zip := (z.2.1.reverse, z.1.reverse, z.2.2)
theorem zipK_mir (k : Key) (z : Zip) : zipK (mirK k) (mirZ z) = mirZ (zipK k z) := by
  obtain ⟨a, b, h⟩ := z
  have e : ∀ o : Option Nat, o.toList.reverse = o.toList := fun o => by cases o <;> rfl
  have d1 : ∀ l : Tx, l.reverse.dropLast = (l.drop 1).reverse := fun l => by cases l <;> simp
  have d2 : ∀ l : Tx, l.dropLast.reverse = l.reverse.drop 1 := fun l => by simp
  have d3 : ∀ l : Tx, l.reverse.drop (l.length - 1) = (l.take 1).reverse := fun l => by
    cases l with
    | nil => rfl
    | cons c l => simp
  have d4 : ∀ l : Tx, l.reverse.take 1 = (l.drop (l.length - 1)).reverse := fun l => by rw [List.take_reverse]
  cases k
  case left => simp only [mirK, zipK, mirZ, List.reverse_append, d2, d4]
  case right => simp only [mirK, zipK, mirZ, List.reverse_append, List.length_reverse, d1, d3]
  case back => simp only [mirK, zipK, mirZ, d2]
  case del => simp only [mirK, zipK, mirZ, d1]
  case take => simp only [mirK, zipK, mirZ, List.getLast?_reverse]
  case grab => simp only [mirK, zipK, mirZ, List.head?_reverse]
  case put => simp [mirK, zipK, mirZ, fr, ins, e]
  case leave => simp [mirK, zipK, mirZ, fr, ins, e]
  case write c => simp [mirK, zipK, mirZ, fr, ins]
  case lay c => simp [mirK, zipK, mirZ, fr, ins]
theorem zipR_mir : ∀ (row : List Key) (z : Zip), zipR (row.map mirK) (mirZ z) = mirZ (zipR row z)
  | [], _ => rfl
  | k :: row, z => by
    show zipR (row.map mirK) (zipK (mirK k) (mirZ z)) = mirZ (zipR row (zipK k z))
    rw [zipK_mir, zipR_mir row]
theorem joined_asc {n : Nat} : ∀ {cs : List Caret} {d : Nat}, asc n d cs → asc n d (joined cs).1
  | [], _, _ => trivial
  | c :: cs, d, h => by
    have ih := joined_asc h.2.2
    rw [joined_cons]
    generalize joined cs = x at ih
    obtain ⟨F, P⟩ := x
    cases F with
    | nil => exact ⟨h.1, h.2.1, trivial⟩
    | cons f F =>
      unfold joinCons
      simp only
      split
      · rename_i e
        exact ⟨h.1, h.2.1, e ▸ ih.2.2⟩
      · exact ⟨h.1, h.2.1, ih⟩
theorem press_asc (k : Key) {x : Tx × List Caret} (h : asc x.1.length 0 x.2) : asc (press x k).1.length 0 (press x k).2 := joined_asc (afterKey_asc k h)
theorem together_asc : ∀ (row : List Key) {x : Tx × List Caret}, asc x.1.length 0 x.2 → asc (together x row).1.length 0 (together x row).2
  | [], _, h => h
  | k :: row, _, h => together_asc row (press_asc k h)
theorem together_mir : ∀ (row : List Key) {x : Tx × List Caret}, asc x.1.length 0 x.2 → together (mirP x) (row.map mirK) = mirP (together x row)
  | [], _, _ => rfl
  | k :: row, x, h => by
    show together (press (mirP x) (mirK k)) (row.map mirK) = mirP (together (press x k) row)
    rw [press_mir k h]
    exact together_mir row (press_asc k h)
end Mc

set_option linter.all false
set_option maxRecDepth 100000
set_option Elab.async false
set_option maxHeartbeats 4000000
namespace Mc
def shC (n : Nat) (cs : List Caret) : List Caret := cs.map fun c => (c.1 + n, c.2)
theorem shC_len {n : Nat} {cs : List Caret} : (shC n cs).length = cs.length := by unfold shC; simp
theorem shC_add {n m : Nat} {cs : List Caret} : shC n (shC m cs) = shC (m + n) cs := by
  unfold shC
  rw [List.map_map]
  apply List.map_congr_left
  intro c _
  simp only [Function.comp]
  congr 1; omega
theorem shC_zero {cs : List Caret} : shC 0 cs = cs := by unfold shC; simp
theorem shC_app {n : Nat} {a b : List Caret} : shC n (a ++ b) = shC n a ++ shC n b := by unfold shC; simp
/-- does the key ask for the sign in front, for the one behind -/
def askL : Key → Bool
  | .left => true
  | .back => true
  | .grab => true
  | _ => false
def askR : Key → Bool
  | .right => true
  | .del => true
  | .take => true
  | _ => false
theorem asc_sh {n m : Nat} : ∀ {cs : List Caret} {d : Nat}, asc n d cs → asc (n + m) (d + m) (shC m cs)
  | [], _, _ => trivial
  | c :: cs, _, h => ⟨Nat.add_le_add_right h.1 _, Nat.add_le_add_right h.2.1 _, asc_sh h.2.2⟩
theorem asc_app {n m : Nat} : ∀ {cs ds : List Caret} {d : Nat}, d ≤ n → asc n d cs → asc m 0 ds → asc (n + m) d (cs ++ shC n ds)
  | [], ds, d, hd, _, h => by
    have := asc_sh (m := n) h
    rw [Nat.add_comm m n] at this
    exact asc_down (by omega) this
  | c :: cs, ds, d, _, h, h2 => ⟨h.1, Nat.le_trans h.2.1 (Nat.le_add_right _ _), asc_app h.2.1 h.2.2 h2⟩
theorem insT_app (k : Key) (t u : Tx) (ds : List Caret) (hd : asc u.length 0 ds) : ∀ (cs : List Caret) (e : Nat), asc t.length e cs → e ≤ t.length →
    insT k (t ++ u) e (cs ++ shC t.length ds) = insT k t e cs ++ insT k u 0 ds
  | [], e, _, he => by
    cases ds with
    | nil => simp [insT, shC, List.drop_append_of_le_length he]
    | cons d r =>
      have h1 := hd.2.1
      simp only [List.nil_append, shC, List.map_cons, insT, List.drop_zero]
      have a1 : asc (u.length + t.length) (d.1 + t.length) (shC t.length r) := asc_sh hd.2.2
      have e1 := insT_shift k (t ++ u) (shC t.length r) (d.1 + t.length) _ a1 (by simp; omega) t.length (by omega)
      unfold shC at e1
      rw [e1]
      have e2 : (r.map fun c : Caret => (c.1 + t.length, c.2)).map (fun c => (c.1 - t.length, c.2)) = r := by
        rw [List.map_map]
        conv => rhs; rw [← List.map_id r]
        apply List.map_congr_left
        intro c _
        simp
      rw [e2, List.drop_left, Nat.add_sub_cancel]
      have e3 : ((t ++ u).take (d.1 + t.length)).drop e = t.drop e ++ u.take d.1 := by
        rw [show d.1 + t.length = t.length + d.1 by omega, List.take_length_add_append, List.drop_append_of_le_length he]
      rw [e3]
      simp
  | c :: cs, e, h, he => by
    simp only [List.cons_append, insT]
    rw [insT_app k t u ds hd cs c.1 h.2.2 h.2.1, List.take_append_of_le_length h.2.1]
    simp
theorem insC_app (k : Key) (ds : List Caret) : ∀ (cs : List Caret) (s : Nat), insC k s (cs ++ ds) = insC k s cs ++ insC k (s + insN k cs) ds
  | [], s => by simp [insC, insN]
  | c :: cs, s => by
    simp only [List.cons_append, insC]
    rw [insC_app k ds cs]
    congr 3
    simp [insN]; omega
theorem insC_sh (k : Key) (n : Nat) : ∀ (ds : List Caret) (s e : Nat), insC k (s + e) (shC n ds) = shC (n + s) (insC k e ds)
  | [], _, _ => rfl
  | d :: ds, s, e => by
    have ih := insC_sh k n ds s (e + (ins k d.2).toList.length)
    unfold shC at ih ⊢
    simp only [List.map_cons, insC]
    rw [show s + e + (ins k d.2).toList.length = s + (e + (ins k d.2).toList.length) by omega, ih]
    congr 2
    cases fr k <;> simp only [if_true, if_false, Bool.false_eq_true] <;> omega
theorem doomed_lo {s n m : Nat} {cs ds : List Caret} (hd : s = 1 → ∀ d ∈ ds, 1 ≤ d.1) (hs : s ≤ 1) {i : Nat} (hi : i < n) : doomed s (n + m) (cs ++ shC n ds) i = doomed s n cs i := by
  unfold doomed
  rw [decide_eq_true hi, decide_eq_true (show i < n + m by omega), List.any_append]
  have : ((shC n ds).any fun c => decide (c.1 = i + s)) = false := by
    rw [List.any_eq_false]
    intro c hc
    obtain ⟨d, hd2, rfl⟩ := List.mem_map.mp hc
    simp only [decide_eq_true_eq]
    intro e
    rcases Nat.eq_zero_or_pos s with h0 | h0
    · omega
    · have := hd (by omega) d hd2; omega
  rw [this, Bool.or_false]
theorem doomed_hi {s n m : Nat} {cs ds : List Caret} (hc : s = 0 → ∀ c ∈ cs, c.1 < n) (hn : ∀ c ∈ cs, c.1 ≤ n) (i : Nat) : doomed s (n + m) (cs ++ shC n ds) (n + i) = doomed s m ds i := by
  unfold doomed
  rw [List.any_append]
  have h1 : (cs.any fun c => decide (c.1 = n + i + s)) = false := by
    rw [List.any_eq_false]
    intro c hm
    simp only [decide_eq_true_eq]
    intro e
    have := hn c hm
    have h0 : s = 0 := by omega
    have := hc h0 c hm
    omega
  have h2 : (shC n ds).any (fun c => decide (c.1 = n + i + s)) = ds.any fun c => decide (c.1 = i + s) := by
    unfold shC
    rw [List.any_map]
    congr 1
    funext c
    simp only [Function.comp, decide_eq_decide]
    omega
  rw [h1, h2, Bool.false_or]
  congr 1
  rw [decide_eq_decide]; omega
theorem del_app {t u : Tx} {cs ds : List Caret} {s : Nat} (hs : s ≤ 1) (hn : ∀ c ∈ cs, c.1 ≤ t.length) (hm : ∀ d ∈ ds, d.1 ≤ u.length) (h0 : s = 0 → ∀ c ∈ cs, c.1 < t.length) (h1 : s = 1 → ∀ d ∈ ds, 1 ≤ d.1) :
    (delT (doomed s (t ++ u).length (cs ++ shC t.length ds)) (t ++ u), (cs ++ shC t.length ds).map fun c => (c.1 - fewer (doomed s (t ++ u).length (cs ++ shC t.length ds)) c.1, c.2))
      = (delT (doomed s t.length cs) t ++ delT (doomed s u.length ds) u, (cs.map fun c => (c.1 - fewer (doomed s t.length cs) c.1, c.2)) ++ shC (delT (doomed s t.length cs) t).length (ds.map fun c => (c.1 - fewer (doomed s u.length ds) c.1, c.2))) := by
  rw [List.length_append]
  have lo : ∀ i, i < t.length → doomed s (t.length + u.length) (cs ++ shC t.length ds) i = doomed s t.length cs i := fun i hi => doomed_lo h1 hs hi
  have hi : ∀ i, doomed s (t.length + u.length) (cs ++ shC t.length ds) (t.length + i) = doomed s u.length ds i := fun i => doomed_hi h0 hn i
  generalize doomed s (t.length + u.length) (cs ++ shC t.length ds) = p at lo hi
  have f1 : ∀ g, g ≤ t.length → fewer p g = fewer (doomed s t.length cs) g := fun g hg => fewer_congr fun i h => lo i (by omega)
  have f2 : ∀ g, fewer p (t.length + g) = fewer (doomed s t.length cs) t.length + fewer (doomed s u.length ds) g := fun g => by
    rw [fewer_split, f1 _ (Nat.le_refl _)]
    congr 1
    exact fewer_congr fun i _ => hi i
  have e3 := fewer_delT (doomed s t.length cs) t
  congr 1
  · rw [delT_append]
    congr 1
    · exact delT_congr lo
    · exact delT_congr fun i _ => by rw [Nat.add_comm]; exact hi i
  · rw [List.map_append]
    congr 1
    · apply List.map_congr_left
      intro c hc
      rw [f1 _ (hn c hc)]
    · unfold shC
      rw [List.map_map, List.map_map]
      apply List.map_congr_left
      intro d hd
      simp only [Function.comp]
      rw [Nat.add_comm d.1, f2]
      have := fewer_le (doomed s u.length ds) d.1
      congr 1; omega
theorem afterKey_app (k : Key) {t u : Tx} {cs ds : List Caret} (hc : asc t.length 0 cs) (hd : asc u.length 0 ds) (hR : askR k = true → ∀ c ∈ cs, c.1 < t.length) (hL : askL k = true → ∀ d ∈ ds, 1 ≤ d.1) :
    afterKey (t ++ u) (cs ++ shC t.length ds) k = ((afterKey t cs k).1 ++ (afterKey u ds k).1, (afterKey t cs k).2 ++ shC (afterKey t cs k).1.length (afterKey u ds k).2) := by
  have hn : ∀ c ∈ cs, c.1 ≤ t.length := asc_le hc
  have hm : ∀ d ∈ ds, d.1 ≤ u.length := asc_le hd
  have hins : ∀ k, (insT k (t ++ u) 0 (cs ++ shC t.length ds), insC k 0 (cs ++ shC t.length ds)) = (insT k t 0 cs ++ insT k u 0 ds, insC k 0 cs ++ shC (insT k t 0 cs).length (insC k 0 ds)) := by
    intro k
    have e := insT_lenN k t cs 0 hc
    have e2 : (insT k t 0 cs).length = t.length + insN k cs := by omega
    rw [insT_app k t u ds hd cs 0 hc (Nat.zero_le _), insC_app, e2]
    have := insC_sh k t.length ds (0 + insN k cs) 0
    rw [Nat.add_zero] at this
    rw [this, Nat.zero_add]
  cases k
  case left =>
    simp only [afterKey, List.map_append]
    congr 2
    unfold shC
    rw [List.map_map, List.map_map]
    apply List.map_congr_left
    intro d h
    have := hL rfl d h
    simp only [Function.comp]
    congr 1; omega
  case right =>
    simp only [afterKey, List.map_append, List.length_append]
    congr 2
    · apply List.map_congr_left
      intro c h
      have := hR rfl c h
      congr 1; omega
    · unfold shC
      rw [List.map_map, List.map_map]
      apply List.map_congr_left
      intro d h
      simp only [Function.comp]
      congr 1; omega
  case take =>
    simp only [afterKey, List.map_append]
    congr 2
    · apply List.map_congr_left
      intro c h
      have := hR rfl c h
      rw [List.getElem?_append_left this]
    · unfold shC
      rw [List.map_map, List.map_map]
      apply List.map_congr_left
      intro d h
      simp only [Function.comp]
      rw [List.getElem?_append_right (by omega), Nat.add_sub_cancel]
  case grab =>
    simp only [afterKey, List.map_append]
    congr 2
    · apply List.map_congr_left
      intro c h
      have := hn c h
      congr 1
      split
      · rfl
      · rw [List.getElem?_append_left (by omega)]
    · unfold shC
      rw [List.map_map, List.map_map]
      apply List.map_congr_left
      intro d h
      have := hL rfl d h
      simp only [Function.comp]
      congr 1
      rw [if_neg (by omega), if_neg (by omega), List.getElem?_append_right (by omega)]
      congr 2; omega
  case back => exact del_app (by omega) hn hm (fun h => by cases h) (fun _ => hL rfl)
  case del => exact del_app (by omega) hn hm (fun _ => hR rfl) (fun h => by cases h)
  case put => exact hins _
  case leave => exact hins _
  case write c => exact hins _
  case lay c => exact hins _
/-- a text inside of a longer one -/
def ctxP (P S : Tx) (x : Tx × List Caret) : Tx × List Caret := (P ++ x.1 ++ S, shC P.length x.2)
theorem afterKey_nil (k : Key) (t : Tx) : afterKey t [] k = (t, []) := by
  have d : ∀ s, delT (doomed s t.length []) t = t := fun s => delT_none fun i _ => by simp [doomed]
  cases k <;> simp [afterKey, insT, insC, d]
theorem afterKey_ctx (k : Key) (P S : Tx) {x : Tx × List Caret} (h : asc x.1.length 0 x.2) (hr : ∀ c ∈ x.2, 1 ≤ c.1 ∧ c.1 < x.1.length) : afterKey (ctxP P S x).1 (ctxP P S x).2 k = ctxP P S (afterKey x.1 x.2 k) := by
  obtain ⟨t, cs⟩ := x
  have e1 := afterKey_app k (t := t) (u := S) (cs := cs) (ds := []) h trivial (fun _ c hc => (hr c hc).2) (fun _ d hd => by cases hd)
  have a1 : asc (t ++ S).length 0 cs := asc_up (by simp) h
  have e2 := afterKey_app k (t := P) (u := t ++ S) (cs := []) (ds := cs) trivial a1 (fun _ c hc => by cases hc) (fun _ d hd => (hr d hd).1)
  rw [afterKey_nil] at e1 e2
  simp only [shC, List.map_nil, List.append_nil, List.nil_append] at e1 e2
  simp only [ctxP, shC]
  rw [List.append_assoc, e2, e1]
  simp
/-- so many signs are in front of each caret, and behind it -/
def Room (m : Nat) (x : Tx × List Caret) : Prop := ∀ c ∈ x.2, m ≤ c.1 ∧ c.1 + m ≤ x.1.length
theorem shC_sub {n : Nat} {cs : List Caret} (h : ∀ c ∈ cs, n ≤ c.1) : shC n (cs.map fun c => (c.1 - n, c.2)) = cs := by
  unfold shC
  rw [List.map_map]
  conv => rhs; rw [← List.map_id cs]
  apply List.map_congr_left
  intro c hc
  have := h c hc
  simp only [Function.comp, id]
  rw [Nat.sub_add_cancel this]
theorem asc_sub {n : Nat} : ∀ {cs : List Caret} {m d : Nat}, (∀ c ∈ cs, n ≤ c.1) → asc m d cs → asc (m - n) (d - n) (cs.map fun c => (c.1 - n, c.2))
  | [], _, _, _, _ => trivial
  | c :: cs, m, d, h, a => ⟨by have := a.1; show d - n ≤ c.1 - n; omega, by have := a.2.1; show c.1 - n ≤ m - n; omega, asc_sub (fun x hx => h x (List.mem_cons_of_mem _ hx)) a.2.2⟩
theorem Room.key (k : Key) {m : Nat} {x : Tx × List Caret} (ha : asc x.1.length 0 x.2) (h : Room (m + 1) x) : Room m (afterKey x.1 x.2 k) := by
  obtain ⟨t, cs⟩ := x
  rcases Decidable.em (cs = []) with hcs | hcs
  · subst hcs
    rw [show afterKey ((t, ([] : List Caret)) : Tx × List Caret).1 ((t, []) : Tx × List Caret).2 k = (t, []) from afterKey_nil k t]
    intro c hc; cases hc
  have htl : m + 1 ≤ t.length := by
    cases cs with
    | nil => exact absurd rfl hcs
    | cons c cs => have := h c List.mem_cons_self; simp only at this; omega
  intro c hc
  constructor
  · -- in front
    have tl : (t.take m).length = m := by simp; omega
    have e := afterKey_app k (t := t.take m) (u := t.drop m) (cs := []) (ds := cs.map fun c => (c.1 - m, c.2)) trivial (by
      have := asc_sub (n := m) (fun c hc => by have := h c hc; simp only at this; omega) ha
      simpa using this) (fun _ c hc => by cases hc) (fun _ d hd => by
      obtain ⟨c, hc, rfl⟩ := List.mem_map.mp hd
      have := h c hc
      simp only at this ⊢
      omega)
    rw [afterKey_nil, tl, shC_sub (fun c hc => by have := h c hc; simp only at this; omega), List.take_append_drop] at e
    rw [show (t, cs).1 = t from rfl, show (t, cs).2 = cs from rfl] at hc
    simp only [List.nil_append] at e
    rw [e] at hc
    obtain ⟨d, hd, rfl⟩ := List.mem_map.mp hc
    simp only [tl]; omega
  · have tl : (t.drop (t.length - m)).length = m := by simp; omega
    have tl2 : (t.take (t.length - m)).length = t.length - m := by simp
    have a1 : asc (t.length - m) 0 cs := by
      have key : ∀ (cs : List Caret) (d : Nat), (∀ c ∈ cs, c.1 + (m + 1) ≤ t.length) → asc t.length d cs → asc (t.length - m) d cs := by
        intro cs
        induction cs with
        | nil => intros; trivial
        | cons c cs ih => intro d h a; exact ⟨a.1, by have := h c List.mem_cons_self; omega, ih _ (fun x hx => h x (List.mem_cons_of_mem _ hx)) a.2.2⟩
      exact key cs 0 (fun c hc => (h c hc).2) ha
    have e := afterKey_app k (t := t.take (t.length - m)) (u := t.drop (t.length - m)) (cs := cs) (ds := []) (by rw [tl2]; exact a1) trivial (fun _ c hc => by
      have := (h c hc).2
      simp only at this
      omega) (fun _ d hd => by cases hd)
    rw [afterKey_nil, List.take_append_drop] at e
    simp only [shC, List.map_nil, List.append_nil] at e
    rw [show (t, cs).1 = t from rfl, show (t, cs).2 = cs from rfl] at hc ⊢
    rw [e] at hc ⊢
    have := asc_le (afterKey_asc k (t := t.take (t.length - m)) (cs := cs) (by rw [tl2]; exact a1)) c hc
    simp only [List.length_append, tl]
    omega
theorem joined_gap : ∀ (cs : List Caret), ∀ f ∈ (joined cs).1, ∃ c ∈ cs, c.1 = f.1
  | [], f, hf => by cases hf
  | c :: cs, f, hf => by
    rw [joined_cons] at hf
    have ih := joined_gap cs
    generalize joined cs = x at hf ih
    obtain ⟨F, P⟩ := x
    cases F with
    | nil =>
      simp only [joinCons, List.mem_singleton] at hf
      subst hf
      exact ⟨_, List.mem_cons_self, rfl⟩
    | cons g F =>
      unfold joinCons at hf
      simp only at hf
      split at hf
      · rcases List.mem_cons.mp hf with rfl | hf
        · exact ⟨c, List.mem_cons_self, rfl⟩
        · obtain ⟨x, hx, e⟩ := ih f (List.mem_cons_of_mem _ hf)
          exact ⟨x, List.mem_cons_of_mem _ hx, e⟩
      · rcases List.mem_cons.mp hf with rfl | hf
        · exact ⟨_, List.mem_cons_self, rfl⟩
        · obtain ⟨x, hx, e⟩ := ih f hf
          exact ⟨x, List.mem_cons_of_mem _ hx, e⟩
theorem joined_sh (n : Nat) : ∀ cs : List Caret, joined (shC n cs) = (shC n (joined cs).1, (joined cs).2)
  | [] => rfl
  | c :: cs => by
    show joined ((c.1 + n, c.2) :: shC n cs) = _
    rw [joined_cons, joined_sh n cs, joined_cons]
    generalize joined cs = x
    obtain ⟨F, P⟩ := x
    cases F with
    | nil => rfl
    | cons g F =>
      unfold joinCons shC
      simp only [List.map_cons]
      by_cases h : g.1 = c.1
      · rw [if_pos h, if_pos (by omega)]; rfl
      · rw [if_neg h, if_neg (by omega)]; rfl
theorem Room.press (k : Key) {m : Nat} {x : Tx × List Caret} (ha : asc x.1.length 0 x.2) (h : Room (m + 1) x) : Room m (press x k) := fun f hf => by
  obtain ⟨c, hc, e⟩ := joined_gap _ f hf
  have := Room.key k ha h c hc
  rw [← e]; exact this
theorem Room.mono {m n : Nat} {x : Tx × List Caret} (h : Room m x) (hn : n ≤ m) : Room n x := fun c hc => by have := h c hc; omega
theorem press_ctx (k : Key) (P S : Tx) {x : Tx × List Caret} (h : asc x.1.length 0 x.2) (hr : Room 1 x) : press (ctxP P S x) k = ctxP P S (press x k) ∧ (joined (afterKey (ctxP P S x).1 (ctxP P S x).2 k).2).2 = (joined (afterKey x.1 x.2 k).2).2 := by
  unfold press
  rw [afterKey_ctx k P S h fun c hc => by have := hr c hc; omega]
  generalize afterKey x.1 x.2 k = y
  have e : (ctxP P S y).2 = shC P.length y.2 := rfl
  rw [e, joined_sh]
  exact ⟨rfl, rfl⟩
theorem together_ctx (P S : Tx) : ∀ (row : List Key) {x : Tx × List Caret}, asc x.1.length 0 x.2 → Room row.length x → together (ctxP P S x) row = ctxP P S (together x row)
  | [], _, _, _ => rfl
  | k :: row, x, h, hr => by
    show together (press (ctxP P S x) k) row = ctxP P S (together (press x k) row)
    rw [(press_ctx k P S h (hr.mono (by simp))).1]
    exact together_ctx P S row (press_asc k h) (Room.press k h hr)
theorem zipK_ctx (k : Key) (P S : Tx) {z : Zip} (h1 : askL k = true → P = [] ∨ z.1 ≠ []) (h2 : askR k = true → S = [] ∨ z.2.1 ≠ []) : zipK k (P ++ z.1, z.2.1 ++ S, z.2.2) = (P ++ (zipK k z).1, (zipK k z).2.1 ++ S, (zipK k z).2.2) := by
  obtain ⟨a, b, h⟩ := z
  simp only at h1 h2 ⊢
  have hL : askL k = true → ((P ++ a).dropLast = P ++ a.dropLast ∧ (P ++ a).drop ((P ++ a).length - 1) = a.drop (a.length - 1) ∧ (P ++ a).getLast? = a.getLast?) := fun e => by
    rcases h1 e with rfl | h1
    · simp
    · rcases List.eq_nil_or_concat a with rfl | ⟨g, c, rfl⟩
      · exact absurd rfl h1
      · rw [List.concat_eq_append, ← List.append_assoc]; simp
  have hR : askR k = true → ((b ++ S).take 1 = b.take 1 ∧ (b ++ S).drop 1 = b.drop 1 ++ S ∧ (b ++ S).head? = b.head?) := fun e => by
    rcases h2 e with rfl | h2
    · simp
    · cases b with
      | nil => exact absurd rfl h2
      | cons c b => simp
  cases k
  case left => simp only [zipK, (hL rfl).1, (hL rfl).2.1, List.append_assoc]
  case right => simp only [zipK, (hR rfl).1, (hR rfl).2.1, List.append_assoc]
  case back => simp only [zipK, (hL rfl).1]
  case del => simp only [zipK, (hR rfl).2.1]
  case take => simp only [zipK, (hR rfl).2.2]
  case grab => simp only [zipK, (hL rfl).2.2]
  all_goals simp [zipK, fr, ins]
def ctxT (P S : Tx) (s : Tn) : Tn := ⟨P ++ s.t ++ S, s.ns.map (· + (P.length : Int)), s.hs⟩
def RoomT (m : Nat) (s : Tn) : Prop := ∀ n ∈ s.ns, (m : Int) ≤ n ∧ n + m ≤ s.t.length
theorem RoomT.mono {m n : Nat} {s : Tn} (h : RoomT m s) (hn : n ≤ m) : RoomT n s := fun x hx => by have := h x hx; omega
theorem zipK_lens (k : Key) (z : Zip) : z.1.length ≤ (zipK k z).1.length + 1 ∧ z.2.1.length ≤ (zipK k z).2.1.length + 1 ∧ z.1.length + z.2.1.length ≤ (zipK k z).1.length + (zipK k z).2.1.length + 1 := by
  obtain ⟨a, b, h⟩ := z
  cases k <;> simp only [zipK, List.length_append, List.length_dropLast, List.length_drop, List.length_take] <;> first | omega | skip
  all_goals simp only [fr, ins, if_true, if_false, Bool.false_eq_true, List.length_append]; omega
theorem getD_mem {l : List Int} {i : Nat} (h : i < l.length) : l.getD i 0 ∈ l := by
  rw [List.getD_eq_getElem?_getD, List.getElem?_eq_getElem h]; exact List.getElem_mem h
theorem zipAt_ctx (P S : Tx) {s : Tn} {i : Nat} (k : Key) (hi : i < s.ns.length) (hr : RoomT 1 s) : zipAt (ctxT P S s) i k = (P ++ (zipAt s i k).1, (zipAt s i k).2.1 ++ S, (zipAt s i k).2.2) := by
  have h := hr _ (getD_mem hi)
  generalize hn : s.ns.getD i 0 = n at h
  have e1 : (ctxT P S s).ns.getD i 0 = n + P.length := by
    simp only [ctxT]
    rw [List.getD_eq_getElem?_getD, List.getElem?_map, List.getElem?_eq_getElem hi, ← hn, List.getD_eq_getElem?_getD, List.getElem?_eq_getElem hi]; rfl
  have e2 : clampN n s.t.length = n.toNat := by unfold clampN; omega
  have e3 : clampN (n + P.length) (P ++ s.t ++ S).length = P.length + n.toNat := by
    unfold clampN; simp only [List.length_append]; omega
  unfold zipAt
  rw [e1, hn, e2]
  show zipK k ((P ++ s.t ++ S).take (clampN (n + P.length) (P ++ s.t ++ S).length), (P ++ s.t ++ S).drop (clampN (n + P.length) (P ++ s.t ++ S).length), s.hs.getD i none) = _
  have e4 : (P ++ s.t ++ S).take (P.length + n.toNat) = P ++ s.t.take n.toNat := by
    rw [List.append_assoc, List.take_length_add_append, List.take_append_of_le_length (by omega)]
  have e5 : (P ++ s.t ++ S).drop (P.length + n.toNat) = s.t.drop n.toNat ++ S := by
    rw [List.append_assoc, ← List.drop_drop, List.drop_left, List.drop_append_of_le_length (by omega)]
  rw [e3, e4, e5]
  have l1 : (s.t.take n.toNat).length = n.toNat := by rw [List.length_take]; omega
  have l2 : (s.t.drop n.toNat).length = s.t.length - n.toNat := List.length_drop
  exact zipK_ctx k P S (z := (s.t.take n.toNat, s.t.drop n.toNat, s.hs.getD i none)) (fun _ => .inr fun e => by
    have e : s.t.take n.toNat = [] := e
    rw [e] at l1; simp only [List.length_nil] at l1; omega) (fun _ => .inr fun e => by
    have e : s.t.drop n.toNat = [] := e
    rw [e] at l2; simp only [List.length_nil] at l2; omega)
theorem stepT_ctx (P S : Tx) {s : Tn} {i : Nat} (k : Key) (hi : i < s.ns.length) (hr : RoomT 1 s) : stepT (ctxT P S s) i k = ctxT P S (stepT s i k) := by
  have e := zipAt_ctx P S k hi hr
  unfold stepT
  rw [e]
  simp only [ctxT, List.map_append, List.map_cons, List.map_take, List.map_drop, List.map_map, Tn.mk.injEq, List.append_assoc, true_and, and_true]
  congr 2
  · simp only [List.length_append]; omega
  · congr 1
    apply List.map_congr_left
    intro n _
    simp only [Function.comp, List.length_append]
    omega
theorem RoomT.step {m : Nat} {s : Tn} {i : Nat} (k : Key) (hi : i < s.ns.length) (h : RoomT (m + 1) s) : RoomT m (stepT s i k) := by
  have hz := h _ (getD_mem hi)
  have hl := zipK_lens k (s.t.take (clampN (s.ns.getD i 0) s.t.length), s.t.drop (clampN (s.ns.getD i 0) s.t.length), s.hs.getD i none)
  have e2 : clampN (s.ns.getD i 0) s.t.length = (s.ns.getD i 0).toNat := by unfold clampN; omega
  have ez : zipAt s i k = zipK k (s.t.take (clampN (s.ns.getD i 0) s.t.length), s.t.drop (clampN (s.ns.getD i 0) s.t.length), s.hs.getD i none) := rfl
  rw [← ez, e2] at hl
  simp only [List.length_take, List.length_drop] at hl
  intro n hn
  simp only [stepT] at hn ⊢
  rw [List.length_append] at *
  rcases List.mem_append.mp hn with hn | hn
  · have := h n (List.mem_of_mem_take hn); omega
  · rcases List.mem_cons.mp hn with rfl | hn
    · omega
    · obtain ⟨x, hx, rfl⟩ := List.mem_map.mp hn
      have := h x (List.mem_of_mem_drop hx); omega
theorem rowT_ctx (P S : Tx) {i : Nat} : ∀ (row : List Key) {m : Nat} {s : Tn}, i < s.ns.length → RoomT (m + row.length) s → rowT row (ctxT P S s) i = ctxT P S (rowT row s i) ∧ RoomT m (rowT row s i) ∧ (rowT row s i).ns.length = s.ns.length
  | [], m, s, hi, h => ⟨rfl, h, rfl⟩
  | k :: row, m, s, hi, h => by
    have h1 := RoomT.step (m := m + row.length) k hi h
    have h2 := stepT_ns s i k hi
    obtain ⟨a, b, c⟩ := rowT_ctx P S row (m := m) (s := stepT s i k) (by rw [h2]; exact hi) h1
    refine ⟨?_, b, c.trans h2⟩
    show rowT row (stepT (ctxT P S s) i k) i = ctxT P S (rowT row (stepT s i k) i)
    rw [stepT_ctx P S k hi (h.mono (by rw [List.length_cons]; omega))]
    exact a
theorem orderT_ctx (P S : Tx) (row : List Key) : ∀ (o : List Nat) {s : Tn}, (∀ i ∈ o, i < s.ns.length) → RoomT (o.length * row.length) s → orderT row (ctxT P S s) o = ctxT P S (orderT row s o)
  | [], s, _, _ => rfl
  | i :: o, s, hi, h => by
    rw [List.length_cons, Nat.succ_mul] at h
    obtain ⟨a, b, c⟩ := rowT_ctx P S row (hi i List.mem_cons_self) h
    show orderT row (rowT row (ctxT P S s) i) o = ctxT P S (orderT row (rowT row s i) o)
    rw [a]
    exact orderT_ctx P S row o (fun j hj => by rw [c]; exact hi j (List.mem_cons_of_mem _ hj)) b
theorem firstT_ctx (P S t : Tx) (gs : List Nat) : firstT (P ++ t ++ S) (gs.map (· + P.length)) = ctxT P S (firstT t gs) := by
  simp only [firstT, ctxT, List.map_map, Tn.mk.injEq, true_and]
  refine ⟨?_, ?_⟩
  · apply List.map_congr_left
    intro g _
    simp only [Function.comp]; omega
  · apply List.map_congr_left
    intro g _
    rfl
mutual
theorem eqv_self : ∀ (n : Nat) (d : D), plain n d = true → eqv d d = true
  | n, .non, _ => by simp [eqv]
  | n, .bl b, _ => by cases b <;> simp [eqv]
  | n, .int i, _ => by simp [eqv]
  | n, .str s, _ => by simp [eqv]
  | 0, .tup l, h => by simp [plain] at h
  | 0, .lst l, h => by simp [plain] at h
  | n + 1, .tup l, h => by
    rw [plain] at h
    rw [eqv]
    exact eqvL_self n l h
  | n + 1, .lst l, h => by
    rw [plain] at h
    rw [eqv]
    exact eqvL_self n l h
  | n, .dic l, h => by cases n <;> simp [plain] at h
  | n, .rng a b, h => by cases n <;> simp [plain] at h
  | n, .own a, h => by cases n <;> simp [plain] at h
  | n, .scr a, h => by cases n <;> simp [plain] at h
theorem eqvL_self : ∀ (n : Nat) (l : List D), plainL n l = true → eqvL l l = true
  | n, [], _ => by simp [eqvL]
  | n, d :: l, h => by
    rw [plainL, Bool.and_eq_true] at h
    rw [eqvL, eqv_self n d h.1, eqvL_self n l h.2]; rfl
end
/-- a comparison with the same thing -/
theorem Nice.same {h m : Nat} {d : D} (x : Nice h m d) (hh : h ≤ 60) {st : Sto} : cmpE .eq d d st = some true ∧ cmpE .ne d d st = some false := by
  have h1 := x.pl 60 hh
  have hr : res st d = d := by
    cases d <;> first | rfl | (simp [plain] at h1)
  have e : eqE d d st = some true := by
    unfold eqE
    split
    · simp
    · rw [hr, h1, eqv_self 60 d h1]; rfl
  exact ⟨e, by show (eqE d d st).map _ = _; rw [e]; rfl⟩
theorem orderT_good {n : Nat} {row : List Key} (hr : ∀ key ∈ row, okK key) : ∀ {o : List Nat} {L : Nat} {s : Tn}, GoodT n L s → (∀ i ∈ o, i < n) → GoodT n (L + o.length * row.length) (orderT row s o)
  | [], L, s, h, _ => by simpa [orderT] using h
  | i :: o, L, s, h, ho => by
    have h1 := h.row (ho i List.mem_cons_self) hr
    have h2 := orderT_good hr h1 (fun j hj => ho j (List.mem_cons_of_mem _ hj))
    exact h2.mono (by rw [List.length_cons, Nat.succ_mul]; omega)
end Mc

set_option linter.all false
set_option maxRecDepth 100000
set_option Elab.async false
set_option maxHeartbeats 4000000
namespace Mc
def txtP : List Zip → Tx
  | [] => []
  | z :: r => (z.1 ++ z.2.1) ++ txtP r
def carP : List Zip → List Caret
  | [] => []
  | z :: r => [(z.1.length, z.2.2)] ++ shC (z.1 ++ z.2.1).length (carP r)
theorem carP_len : ∀ zs : List Zip, (carP zs).length = zs.length
  | [] => rfl
  | z :: r => by simp [carP, shC_len, carP_len r]
theorem carP_asc : ∀ zs : List Zip, asc (txtP zs).length 0 (carP zs)
  | [] => trivial
  | z :: r => by
    simp only [carP, txtP]
    rw [List.length_append]
    exact asc_app (Nat.zero_le _) ⟨Nat.zero_le _, by simp, trivial⟩ (carP_asc r)
theorem carP_ge : ∀ (z : Zip) (r : List Zip), ∀ c ∈ carP (z :: r), z.1.length ≤ c.1 := fun z r c hc => by
  simp only [carP, List.cons_append, List.nil_append] at hc
  rcases List.mem_cons.mp hc with rfl | hc
  · exact Nat.le_refl _
  · obtain ⟨d, _, rfl⟩ := List.mem_map.mp hc
    simp only [List.length_append]; omega
/-- is there what the key asks for, between two pieces -/
def Inner (k : Key) : List Zip → Prop
  | z :: w :: r => (askR k = true → z.2.1 ≠ []) ∧ (askL k = true → w.1 ≠ []) ∧ Inner k (w :: r)
  | _ => True
theorem pieces_key (k : Key) : ∀ zs : List Zip, Inner k zs → afterKey (txtP zs) (carP zs) k = (txtP (zs.map (zipK k)), carP (zs.map (zipK k)))
  | [], _ => afterKey_nil k []
  | [z], _ => by
    have := afterKey_one k z
    simp only [unz] at this
    simp only [txtP, carP, shC, List.map_nil, List.append_nil, List.map_cons]
    exact this
  | z :: w :: r, h => by
    have ih := pieces_key k (w :: r) h.2.2
    have e1 := afterKey_one k z
    simp only [unz] at e1
    have e := afterKey_app k (t := z.1 ++ z.2.1) (u := txtP (w :: r)) (cs := [(z.1.length, z.2.2)]) (ds := carP (w :: r)) ⟨Nat.zero_le _, by simp, trivial⟩ (carP_asc _) (fun q c hc => by
      simp only [List.mem_singleton] at hc
      subst hc
      have := List.length_pos_iff.mpr (h.1 q)
      simp; omega) (fun q d hd => by
      have h1 := carP_ge w r d hd
      have := List.length_pos_iff.mpr (h.2.1 q)
      omega)
    rw [e1, ih] at e
    exact e
theorem joined_id : ∀ cs : List Caret, cs.Pairwise (fun a b => a.1 < b.1) → (joined cs).1 = cs
  | [], _ => rfl
  | c :: cs, h => by
    have p := List.pairwise_cons.mp h
    have ih := joined_id cs p.2
    rw [joined_cons]
    generalize joined cs = x at ih
    obtain ⟨F, P⟩ := x
    simp only at ih
    subst ih
    cases F with
    | nil => rfl
    | cons f F =>
      unfold joinCons
      simp only
      rw [if_neg (by have := p.1 f List.mem_cons_self; omega)]
def cntL (row : List Key) : Nat := row.countP askL
def cntR (row : List Key) : Nat := row.countP askR
theorem cnt_len : ∀ row : List Key, cntL row + cntR row ≤ row.length
  | [] => by simp [cntL, cntR]
  | k :: row => by
    have := cnt_len row
    unfold cntL cntR at *
    rw [List.countP_cons, List.countP_cons, List.length_cons]
    cases k <;> simp [askL, askR] <;> omega
/-- enough signs between two pieces for the row -/
def Far (row : List Key) : List Zip → Prop
  | z :: w :: r => cntR row ≤ z.2.1.length ∧ cntL row ≤ w.1.length ∧ cntR row + cntL row + 1 ≤ z.2.1.length + w.1.length ∧ Far row (w :: r)
  | _ => True
theorem zipK_use (k : Key) (z : Zip) : z.1.length ≤ (zipK k z).1.length + (if askL k = true then 1 else 0) ∧ z.2.1.length ≤ (zipK k z).2.1.length + (if askR k = true then 1 else 0) := by
  obtain ⟨a, b, h⟩ := z
  cases k <;> simp only [zipK, askL, askR, if_true, if_false, Bool.false_eq_true, List.length_append, List.length_dropLast, List.length_drop, List.length_take] <;> first | omega | skip
  all_goals simp only [fr, ins, if_true, if_false, Bool.false_eq_true, List.length_append]; omega
theorem cntL_cons (k : Key) (row : List Key) : cntL (k :: row) = cntL row + (if askL k = true then 1 else 0) := by unfold cntL; rw [List.countP_cons]
theorem cntR_cons (k : Key) (row : List Key) : cntR (k :: row) = cntR row + (if askR k = true then 1 else 0) := by unfold cntR; rw [List.countP_cons]
theorem Far.inner {k : Key} {row : List Key} : ∀ {zs : List Zip}, Far (k :: row) zs → Inner k zs
  | [], _ => trivial
  | [_], _ => trivial
  | z :: w :: r, h => by
    obtain ⟨a, b, c, d⟩ := h
    rw [cntR_cons] at a c
    rw [cntL_cons] at b c
    refine ⟨fun q => ?_, fun q => ?_, Far.inner d⟩
    · rw [if_pos q] at a
      exact List.length_pos_iff.mp (by omega)
    · rw [if_pos q] at b
      exact List.length_pos_iff.mp (by omega)
theorem Far.key {k : Key} {row : List Key} : ∀ {zs : List Zip}, Far (k :: row) zs → Far row (zs.map (zipK k))
  | [], _ => trivial
  | [_], _ => trivial
  | z :: w :: r, h => by
    obtain ⟨a, b, c, d⟩ := h
    rw [cntR_cons] at a c
    rw [cntL_cons] at b c
    have h1 := (zipK_use k z).2
    have h2 := (zipK_use k w).1
    exact ⟨by omega, by omega, by omega, Far.key (zs := w :: r) d⟩
theorem carP_lt {row : List Key} : ∀ {zs : List Zip}, Far row zs → (carP zs).Pairwise (fun a b => a.1 < b.1)
  | [], _ => List.Pairwise.nil
  | [z], _ => by simp [carP, shC]
  | z :: w :: r, h => by
    have ih := carP_lt (zs := w :: r) h.2.2.2
    have e : carP (z :: w :: r) = (z.1.length, z.2.2) :: shC (z.1 ++ z.2.1).length (carP (w :: r)) := rfl
    rw [e, List.pairwise_cons]
    refine ⟨fun c hc => ?_, ?_⟩
    · obtain ⟨d, hd, rfl⟩ := List.mem_map.mp hc
      have h1 := carP_ge w r d hd
      have := h.2.2.1
      simp only [List.length_append]
      omega
    · unfold shC
      rw [List.pairwise_map]
      exact ih.imp fun h => by simp only; omega
theorem far_together : ∀ (row : List Key) {zs : List Zip}, Far row zs → together (txtP zs, carP zs) row = (txtP (zs.map (zipR row)), carP (zs.map (zipR row)))
  | [], zs, _ => by
    have : zs.map (zipR []) = zs := List.map_id' zs
    rw [this]; rfl
  | k :: row, zs, h => by
    have h1 := h.key
    show together (press (txtP zs, carP zs) k) row = _
    have e : press (txtP zs, carP zs) k = (txtP (zs.map (zipK k)), carP (zs.map (zipK k))) := by
      unfold press
      simp only
      rw [pieces_key k zs h.inner, joined_id _ (carP_lt h1)]
    rw [e, far_together row h1, List.map_map]
    rfl
def tnP (zs : List Zip) : Tn := ⟨txtP zs, (carP zs).map fun c => (c.1 : Int), (carP zs).map (·.2)⟩
theorem txtP_app : ∀ a b : List Zip, txtP (a ++ b) = txtP a ++ txtP b
  | [], _ => rfl
  | z :: a, b => by simp [txtP, txtP_app a b]
theorem carP_app : ∀ a b : List Zip, carP (a ++ b) = carP a ++ shC (txtP a).length (carP b)
  | [], b => by simp [carP, txtP, shC_zero]
  | z :: a, b => by
    simp only [List.cons_append, carP, txtP]
    rw [carP_app a b, shC_app, shC_add, List.append_assoc, List.length_append (as := z.1 ++ z.2.1), Nat.add_comm (txtP a).length]
theorem stepT_piece (A B : List Zip) (z : Zip) (k : Key) (h1 : askL k = true → txtP A = [] ∨ z.1 ≠ []) (h2 : askR k = true → txtP B = [] ∨ z.2.1 ≠ []) : stepT (tnP (A ++ z :: B)) A.length k = tnP (A ++ zipK k z :: B) := by
  have ec : carP (A ++ z :: B) = carP A ++ ((txtP A).length + z.1.length, z.2.2) :: shC ((txtP A).length + (z.1.length + z.2.1.length)) (carP B) := by
    rw [carP_app]
    simp only [carP, List.cons_append, List.nil_append]
    unfold shC
    simp only [List.map_cons, List.map_map, List.length_append]
    congr 2
    · congr 1; omega
    · apply List.map_congr_left
      intro c _
      simp only [Function.comp]
      congr 1; omega
  have ec2 : carP (A ++ zipK k z :: B) = carP A ++ ((txtP A).length + (zipK k z).1.length, (zipK k z).2.2) :: shC ((txtP A).length + ((zipK k z).1.length + (zipK k z).2.1.length)) (carP B) := by
    rw [carP_app]
    simp only [carP, List.cons_append, List.nil_append]
    unfold shC
    simp only [List.map_cons, List.map_map, List.length_append]
    congr 2
    · congr 1; omega
    · apply List.map_congr_left
      intro c _
      simp only [Function.comp]
      congr 1; omega
  have al : (carP A).length = A.length := carP_len A
  have et : txtP (A ++ z :: B) = (txtP A ++ z.1) ++ (z.2.1 ++ txtP B) := by rw [txtP_app]; simp [txtP]
  have en : (tnP (A ++ z :: B)).ns.getD A.length 0 = (((txtP A).length + z.1.length : Nat) : Int) := by
    simp only [tnP]
    rw [ec, List.map_append, List.map_cons, List.getD_eq_getElem?_getD, List.getElem?_append_right (by simp [al]), List.length_map, al, Nat.sub_self]
    rfl
  have eh : (tnP (A ++ z :: B)).hs.getD A.length none = z.2.2 := by
    simp only [tnP]
    rw [ec, List.map_append, List.map_cons, List.getD_eq_getElem?_getD, List.getElem?_append_right (by simp [al]), List.length_map, al, Nat.sub_self]
    rfl
  have ecl : clampN (((txtP A).length + z.1.length : Nat) : Int) (txtP (A ++ z :: B)).length = (txtP A ++ z.1).length := by
    unfold clampN
    rw [et]
    simp only [List.length_append]
    omega
  have ez : zipAt (tnP (A ++ z :: B)) A.length k = (txtP A ++ (zipK k z).1, (zipK k z).2.1 ++ txtP B, (zipK k z).2.2) := by
    unfold zipAt
    rw [en, eh]
    show zipK k ((txtP (A ++ z :: B)).take (clampN _ (txtP (A ++ z :: B)).length), (txtP (A ++ z :: B)).drop (clampN _ (txtP (A ++ z :: B)).length), z.2.2) = _
    rw [ecl, et, List.take_left, List.drop_left]
    exact zipK_ctx k (txtP A) (txtP B) h1 h2
  unfold stepT
  rw [ez]
  simp only [tnP, ec, ec2, txtP_app A, txtP, List.map_append, List.map_cons, Tn.mk.injEq]
  refine ⟨by simp, ?_, ?_⟩
  · rw [List.take_left' (by simp [al]), ← List.drop_drop, List.drop_left' (by simp [al])]
    simp only [List.drop_succ_cons, List.drop_zero]
    congr 2
    · simp only [List.length_append]
    · unfold shC
      rw [List.map_map, List.map_map, List.map_map]
      apply List.map_congr_left
      intro c _
      simp only [Function.comp, List.length_append]
      omega
  · rw [List.take_left' (by simp [al]), ← List.drop_drop, List.drop_left' (by simp [al])]
    simp only [List.drop_succ_cons, List.drop_zero]
    congr 2
    unfold shC
    rw [List.map_map, List.map_map]
    rfl
theorem rowT_piece (A B : List Zip) : ∀ (row : List Key) (z : Zip), (txtP A = [] ∨ cntL row ≤ z.1.length) → (txtP B = [] ∨ cntR row ≤ z.2.1.length) → rowT row (tnP (A ++ z :: B)) A.length = tnP (A ++ zipR row z :: B)
  | [], z, _, _ => rfl
  | k :: row, z, h1, h2 => by
    show rowT row (stepT (tnP (A ++ z :: B)) A.length k) A.length = tnP (A ++ zipR row (zipK k z) :: B)
    rw [cntL_cons] at h1
    rw [cntR_cons] at h2
    have u := zipK_use k z
    rw [stepT_piece A B z k (fun q => h1.imp id fun h => by
      rw [if_pos q] at h
      exact List.length_pos_iff.mp (by omega)) (fun q => h2.imp id fun h => by
      rw [if_pos q] at h
      exact List.length_pos_iff.mp (by omega))]
    exact rowT_piece A B row (zipK k z) (h1.imp id fun h => by omega) (h2.imp id fun h => by omega)
/-- what stands to the left is pressed already, one after another from the left -/
theorem left_far (row : List Key) : ∀ (B A : List Zip), (∀ z w r, B = z :: w :: r → True) → (txtP A = [] ∨ ∀ z r, B = z :: r → cntL row ≤ z.1.length) → Far row B →
    orderT row (tnP (A ++ B)) (List.range' A.length B.length) = tnP (A ++ B.map (zipR row))
  | [], A, _, _, _ => by simp [orderT]
  | z :: B, A, _, h1, h2 => by
    have hz : txtP B = [] ∨ cntR row ≤ z.2.1.length := by
      cases B with
      | nil => exact .inl rfl
      | cons w r => exact .inr h2.1
    have e : orderT row (tnP (A ++ z :: B)) (List.range' A.length (z :: B).length) = orderT row (rowT row (tnP (A ++ z :: B)) A.length) (List.range' (A.length + 1) B.length) := by
      rw [List.length_cons, List.range'_succ]; rfl
    rw [e, rowT_piece A B row z (h1.imp id fun h => h z B rfl) hz]
    have ih := left_far row B (A ++ [zipR row z]) (fun _ _ _ _ => trivial) (.inr fun w r hB => by subst hB; exact h2.2.1) (by
      cases B with
      | nil => trivial
      | cons w r => exact h2.2.2.2)
    rw [List.length_append, List.append_assoc, List.append_assoc] at ih
    simpa using ih
theorem Far.pre {row : List Key} : ∀ {A B : List Zip}, Far row (A ++ B) → Far row A
  | [], _, _ => trivial
  | [_], _, _ => trivial
  | z :: w :: r, B, h => ⟨h.1, h.2.1, h.2.2.1, Far.pre (A := w :: r) h.2.2.2⟩
theorem Far.last {row : List Key} {z : Zip} : ∀ {A : List Zip}, Far row (A ++ [z]) → A ≠ [] → cntL row ≤ z.1.length
  | [], _, h => absurd rfl h
  | [w], h, _ => h.2.1
  | _ :: w :: r, h, _ => Far.last (A := w :: r) h.2.2.2 (by simp)
theorem Far.end_ {row : List Key} {z w : Zip} : ∀ {A : List Zip}, Far row (A ++ [z, w]) → cntR row ≤ z.2.1.length
  | [], h => h.1
  | [_], h => h.2.2.2.1
  | _ :: w :: r, h => Far.end_ (A := w :: r) h.2.2.2
/-- from the right -/
theorem right_far (row : List Key) : ∀ (n : Nat) (A B : List Zip), A.length = n → (txtP B = [] ∨ ∀ z r, A = r ++ [z] → cntR row ≤ z.2.1.length) → Far row A →
    orderT row (tnP (A ++ B)) (List.range A.length).reverse = tnP (A.map (zipR row) ++ B) := by
  intro n
  induction n with
  | zero =>
    intro A B hn _ _
    have := List.length_eq_zero_iff.mp hn
    subst this
    rfl
  | succ n ih =>
    intro A B hn h1 h2
    rcases List.eq_nil_or_concat A with rfl | ⟨A, z, rfl⟩
    · cases hn
    · rw [List.concat_eq_append] at *
      simp only [List.length_append, List.length_cons, List.length_nil] at hn
      have hA : txtP A = [] ∨ cntL row ≤ z.1.length := by
        cases A with
        | nil => exact .inl rfl
        | cons w r => exact .inr (Far.last h2 (by simp))
      rw [List.length_append, List.length_cons, List.length_nil, List.range_succ, List.reverse_append, List.reverse_singleton]
      show orderT row (rowT row (tnP (A ++ [z] ++ B)) A.length) (List.range A.length).reverse = _
      rw [List.append_assoc, List.singleton_append, rowT_piece A B row z hA (h1.imp id fun h => h z A rfl), ih A (zipR row z :: B) (by omega) (.inr fun w r hr => by
        subst hr
        rw [List.append_assoc] at h2
        exact Far.end_ h2) (Far.pre h2)]
      simp
def cutP (l : Nat) (t : Tx) : Nat → List Nat → List Zip
  | _, [] => []
  | e, g :: gs => match gs with
    | [] => [((t.take g).drop e, t.drop g, none)]
    | g2 :: r => ((t.take g).drop e, (t.take (g2 - l)).drop g, none) :: cutP l t (g2 - l) (g2 :: r)
/-- gaps so far apart -/
def Apart (n m : Nat) : List Nat → Prop
  | [] => True
  | g :: gs => g ≤ m ∧ (match gs with
    | [] => True
    | g2 :: _ => g + n ≤ g2) ∧ Apart n m gs
theorem drop_take_app {t : Tx} {a b : Nat} (h : a ≤ b) (hb : b ≤ t.length) : (t.take b).drop a ++ t.drop b = t.drop a := by
  have h2 : a ≤ (t.take b).length := by simp; omega
  rw [← List.drop_append_of_le_length h2, List.take_append_drop]
theorem cut_txt (l n : Nat) (t : Tx) (hl : l ≤ n) : ∀ (gs : List Nat) (e : Nat), gs ≠ [] → Apart n t.length gs → (∀ g r, gs = g :: r → e ≤ g) → txtP (cutP l t e gs) = t.drop e
  | [], _, h, _, _ => absurd rfl h
  | [g], e, _, h, he => by
    have := he g [] rfl
    simp only [cutP, txtP, List.append_nil]
    exact drop_take_app this h.1
  | g :: g2 :: r, e, _, h, he => by
    have h1 := he g _ rfl
    have h2 : g + n ≤ g2 := h.2.1
    have h3 : g2 ≤ t.length := h.2.2.1
    have ih := cut_txt l n t hl (g2 :: r) (g2 - l) (by simp) h.2.2 (fun g r e => by injection e with e _; subst e; omega)
    simp only [cutP, txtP]
    rw [ih, List.append_assoc, drop_take_app (t := t) (a := g) (b := g2 - l) (by omega) (by omega), drop_take_app h1 (by omega)]
theorem cut_car (l n : Nat) (t : Tx) (hl : l ≤ n) : ∀ (gs : List Nat) (e : Nat), Apart n t.length gs → (∀ g r, gs = g :: r → e ≤ g) → carP (cutP l t e gs) = gs.map fun g => (g - e, none)
  | [], _, _, _ => rfl
  | [g], e, h, he => by
    have := he g [] rfl
    have hg := h.1
    simp only [cutP, carP, shC, List.map_nil, List.append_nil, List.map_cons, List.length_drop, List.length_take]
    congr 3; omega
  | g :: g2 :: r, e, h, he => by
    have h1 := he g _ rfl
    have h2 : g + n ≤ g2 := h.2.1
    have h3 : g2 ≤ t.length := h.2.2.1
    have ih := cut_car l n t hl (g2 :: r) (g2 - l) h.2.2 (fun g r e => by injection e with e _; subst e; omega)
    have e0 : cutP l t e (g :: g2 :: r) = ((t.take g).drop e, (t.take (g2 - l)).drop g, none) :: cutP l t (g2 - l) (g2 :: r) := rfl
    have e1 : ((t.take g).drop e).length = g - e := by simp; omega
    have e2 : ((t.take g).drop e ++ (t.take (g2 - l)).drop g).length = g2 - l - e := by simp; omega
    have asc2 : ∀ x ∈ g2 :: r, g2 ≤ x := by
      have key : ∀ (r : List Nat) (g : Nat), Apart n t.length (g :: r) → ∀ x ∈ g :: r, g ≤ x := by
        intro r
        induction r with
        | nil => intro g _ x hx; simp only [List.mem_singleton] at hx; omega
        | cons a r ih2 =>
          intro g h x hx
          rcases List.mem_cons.mp hx with rfl | hx
          · exact Nat.le_refl _
          · have := ih2 a h.2.2 x hx
            have : g + n ≤ a := h.2.1
            omega
      exact key r g2 h.2.2
    rw [e0]
    simp only [carP]
    rw [ih, e1, e2]
    unfold shC
    rw [List.map_map, List.map_cons (a := g)]
    simp only [List.cons_append, List.nil_append]
    congr 1
    apply List.map_congr_left
    intro x hx
    have := asc2 x hx
    simp only [Function.comp]
    congr 1; omega
theorem cut_far (row : List Key) (n : Nat) (t : Tx) (hn : row.length + 1 ≤ n) : ∀ (gs : List Nat) (e : Nat), Apart n t.length gs → (∀ g r, gs = g :: r → e ≤ g) → Far row (cutP (cntL row) t e gs)
  | [], _, _, _ => trivial
  | [g], _, _, _ => trivial
  | g :: g2 :: r, e, h, he => by
    have hc := cnt_len row
    have h2 : g + n ≤ g2 := h.2.1
    have h3 : g2 ≤ t.length := h.2.2.1
    have ih := cut_far row n t hn (g2 :: r) (g2 - cntL row) h.2.2 (fun g r e => by injection e with e _; subst e; omega)
    have e0 : cutP (cntL row) t e (g :: g2 :: r) = ((t.take g).drop e, (t.take (g2 - cntL row)).drop g, none) :: cutP (cntL row) t (g2 - cntL row) (g2 :: r) := rfl
    have l1 : ((t.take (g2 - cntL row)).drop g).length = g2 - cntL row - g := by simp; omega
    rw [e0]
    cases r with
    | nil =>
      have l2 : ((t.take g2).drop (g2 - cntL row)).length = cntL row := by simp; omega
      simp only [cutP, Far]
      refine ⟨by rw [l1]; omega, by rw [l2]; exact Nat.le_refl _, by rw [l1, l2]; omega, trivial⟩
    | cons g3 r =>
      have l2 : ((t.take g2).drop (g2 - cntL row)).length = cntL row := by simp; omega
      have e1 : cutP (cntL row) t (g2 - cntL row) (g2 :: g3 :: r) = ((t.take g2).drop (g2 - cntL row), (t.take (g3 - cntL row)).drop g2, none) :: cutP (cntL row) t (g3 - cntL row) (g3 :: r) := rfl
      rw [e1] at ih ⊢
      refine ⟨by rw [l1]; omega, by rw [l2]; exact Nat.le_refl _, by rw [l1, l2]; omega, ih⟩
/-- far carets: from both sides the text of pressing together -/
theorem far_same {row : List Key} {t : Tx} {gs : List Nat} {n : Nat} (hn : row.length + 1 ≤ n) (h : Apart n t.length gs) :
    (orderT row (firstT t gs) (List.range gs.length)).t = (together (t, gs.map fun g => (g, none)) row).1 ∧
    (orderT row (firstT t gs) (List.range gs.length).reverse).t = (together (t, gs.map fun g => (g, none)) row).1 := by
  rcases Decidable.em (gs = []) with rfl | hne
  · have : ∀ row : List Key, together (t, []) row = (t, []) := by
      intro row
      induction row with
      | nil => rfl
      | cons k row ih =>
        show together (press (t, []) k) row = _
        have e : press (t, []) k = (t, []) := by
          unfold press
          simp only
          rw [afterKey_nil]; rfl
        rw [e]; exact ih
    simp only [List.map_nil, this]
    exact ⟨rfl, rfl⟩
  · have hl : cntL row ≤ n := by have := cnt_len row; omega
    have e1 := cut_txt (cntL row) n t hl gs 0 hne h (fun _ _ _ => Nat.zero_le _)
    have e2 := cut_car (cntL row) n t hl gs 0 h (fun _ _ _ => Nat.zero_le _)
    have e3 := cut_far row n t hn gs 0 h (fun _ _ _ => Nat.zero_le _)
    generalize cutP (cntL row) t 0 gs = zs at *
    simp only [List.drop_zero, Nat.sub_zero] at e1 e2
    have zl : zs.length = gs.length := by have := carP_len zs; rw [e2, List.length_map] at this; exact this.symm
    have ef : firstT t gs = tnP zs := by
      unfold firstT tnP
      rw [e1, e2, List.map_map, List.map_map]
      rfl
    have et : together (t, gs.map fun g => (g, none)) row = (txtP (zs.map (zipR row)), carP (zs.map (zipR row))) := by
      rw [← far_together row e3, e1, e2]
    have l1 := left_far row zs [] (fun _ _ _ _ => trivial) (.inl rfl) e3
    have l2 := right_far row zs.length zs [] rfl (.inl rfl) e3
    rw [List.append_nil, List.append_nil] at l2
    simp only [List.nil_append, List.length_nil] at l1
    rw [← List.range_eq_range'] at l1
    rw [ef, et, ← zl, l1, l2]
    exact ⟨rfl, rfl⟩
def zipOf (s : Tn) (i : Nat) : Zip := (s.t.take (clampN (s.ns.getD i 0) s.t.length), s.t.drop (clampN (s.ns.getD i 0) s.t.length), s.hs.getD i none)
theorem getD_mid {α : Type} {a r : List α} {x d : α} {i : Nat} (h : a.length = i) : (a ++ x :: r).getD i d = x := by
  subst h
  rw [List.getD_eq_getElem?_getD, List.getElem?_append_right (Nat.le_refl _), Nat.sub_self]; rfl
theorem getD_lo {α : Type} {a r : List α} {d : α} {i : Nat} (h : i < a.length) : (a ++ r).getD i d = a.getD i d := by
  rw [List.getD_eq_getElem?_getD, List.getElem?_append_left h, List.getD_eq_getElem?_getD]
theorem zipOf_step {s : Tn} {i : Nat} (k : Key) (h1 : i < s.ns.length) (h2 : i < s.hs.length) : zipOf (stepT s i k) i = zipK k (zipOf s i) := by
  have e1 : (stepT s i k).ns.getD i 0 = (((zipAt s i k).1.length : Nat) : Int) := getD_mid (by simp; omega)
  have e2 : (stepT s i k).hs.getD i none = (zipAt s i k).2.2 := getD_mid (by simp; omega)
  have e3 : (stepT s i k).t = (zipAt s i k).1 ++ (zipAt s i k).2.1 := rfl
  have e4 : clampN (((zipAt s i k).1.length : Nat) : Int) ((zipAt s i k).1 ++ (zipAt s i k).2.1).length = (zipAt s i k).1.length := by
    unfold clampN; simp only [List.length_append]; omega
  unfold zipOf
  rw [e1, e2, e3, e4, List.take_left, List.drop_left]
  rfl
theorem step_other {s : Tn} {i j : Nat} (k : Key) (h1 : i < s.ns.length) (h2 : s.hs.length = s.ns.length) (hj : j < s.ns.length) (hne : j ≠ i) :
    (stepT s i k).ns.getD j 0 = s.ns.getD j 0 + (if i < j then ((stepT s i k).t.length : Int) - s.t.length else 0) ∧ (stepT s i k).hs.getD j none = s.hs.getD j none := by
  simp only [stepT]
  by_cases hij : i < j
  · rw [if_pos hij]
    constructor
    · rw [List.getD_eq_getElem?_getD, List.getElem?_append_right (by simp; omega), List.length_take, Nat.min_eq_left (by omega)]
      rw [show j - i = (j - i - 1) + 1 by omega, List.getElem?_cons_succ, List.getElem?_map, List.getElem?_drop, show i + 1 + (j - i - 1) = j by omega, List.getElem?_eq_getElem hj, List.getD_eq_getElem?_getD, List.getElem?_eq_getElem hj]
      rfl
    · rw [List.getD_eq_getElem?_getD, List.getElem?_append_right (by simp; omega), List.length_take, Nat.min_eq_left (by omega)]
      rw [show j - i = (j - i - 1) + 1 by omega, List.getElem?_cons_succ, List.getElem?_drop, show i + 1 + (j - i - 1) = j by omega, List.getD_eq_getElem?_getD]
  · rw [if_neg hij]
    constructor
    · rw [getD_lo (by simp; omega), List.getD_eq_getElem?_getD, List.getElem?_take, if_pos (by omega), List.getD_eq_getElem?_getD]; simp
    · rw [getD_lo (by simp; omega), List.getD_eq_getElem?_getD, List.getElem?_take, if_pos (by omega), List.getD_eq_getElem?_getD]
theorem row_eff {n i : Nat} (hi : i < n) : ∀ (row : List Key) {s : Tn}, s.ns.length = n → s.hs.length = n →
    (rowT row s i).t = (zipR row (zipOf s i)).1 ++ (zipR row (zipOf s i)).2.1 ∧ (rowT row s i).ns.length = n ∧ (rowT row s i).hs.length = n ∧
    ∀ j, j < n → j ≠ i → (rowT row s i).ns.getD j 0 = s.ns.getD j 0 + (if i < j then ((rowT row s i).t.length : Int) - s.t.length else 0) ∧ (rowT row s i).hs.getD j none = s.hs.getD j none
  | [], s, h1, h2 => ⟨(List.take_append_drop _ _).symm, h1, h2, fun j _ _ => ⟨by show s.ns.getD j 0 = s.ns.getD j 0 + (if i < j then (s.t.length : Int) - s.t.length else 0); split <;> omega, rfl⟩⟩
  | k :: row, s, h1, h2 => by
    obtain ⟨a, b, c, d⟩ := row_eff hi row (s := stepT s i k) ((stepT_ns _ _ _ (by omega)).trans h1) ((stepT_hs _ _ _ (by omega)).trans h2)
    rw [zipOf_step k (by omega) (by omega)] at a
    refine ⟨a, b, c, fun j hj hne => ?_⟩
    obtain ⟨d1, d2⟩ := d j hj hne
    obtain ⟨e1, e2⟩ := step_other k (s := s) (i := i) (j := j) (by omega) (by omega) (by omega) hne
    refine ⟨?_, d2.trans e2⟩
    show (rowT row (stepT s i k) i).ns.getD j 0 = _ + (if i < j then ((rowT row (stepT s i k) i).t.length : Int) - s.t.length else 0)
    rw [d1, e1]
    split <;> omega
/-- the same text, and the same carets where they still have to press -/
structure AgreeT (n : Nat) (o : List Nat) (s u : Tn) : Prop where
  t : s.t = u.t
  n1 : s.ns.length = n
  n2 : u.ns.length = n
  h1 : s.hs.length = n
  h2 : u.hs.length = n
  ns : ∀ j ∈ o, s.ns.getD j 0 = u.ns.getD j 0
  hs : ∀ j ∈ o, s.hs.getD j none = u.hs.getD j none
theorem AgreeT.row {n i : Nat} {o : List Nat} {s u : Tn} {a b : List Key} (hab : ∀ z, zipR a z = zipR b z) (hi : i < n) (ho : ∀ j ∈ o, j < n) (hio : i ∉ o) (h : AgreeT n (i :: o) s u) : AgreeT n o (rowT a s i) (rowT b u i) := by
  obtain ⟨a1, a2, a3, a4⟩ := row_eff hi a h.n1 h.h1
  obtain ⟨b1, b2, b3, b4⟩ := row_eff hi b h.n2 h.h2
  have ez : zipOf s i = zipOf u i := by
    unfold zipOf
    rw [h.t, h.ns i List.mem_cons_self, h.hs i List.mem_cons_self]
  have et : (rowT a s i).t = (rowT b u i).t := by rw [a1, b1, ez, hab]
  refine ⟨et, a2, b2, a3, b3, fun j hj => ?_, fun j hj => ?_⟩
  · have hne : j ≠ i := fun e => hio (e ▸ hj)
    rw [(a4 j (ho j hj) hne).1, (b4 j (ho j hj) hne).1, et, h.t, h.ns j (List.mem_cons_of_mem _ hj)]
  · have hne : j ≠ i := fun e => hio (e ▸ hj)
    rw [(a4 j (ho j hj) hne).2, (b4 j (ho j hj) hne).2, h.hs j (List.mem_cons_of_mem _ hj)]
theorem order_alike {n : Nat} {a b : List Key} (hab : ∀ z, zipR a z = zipR b z) : ∀ {o : List Nat} {s u : Tn}, o.Nodup → (∀ j ∈ o, j < n) → AgreeT n o s u → (orderT a s o).t = (orderT b u o).t
  | [], _, _, _, _, h => h.t
  | i :: o, s, u, hn, ho, h => by
    rw [List.nodup_cons] at hn
    exact order_alike hab (o := o) (s := rowT a s i) (u := rowT b u i) hn.2 (fun j hj => ho j (List.mem_cons_of_mem _ hj)) (h.row hab (ho i List.mem_cons_self) (fun j hj => ho j (List.mem_cons_of_mem _ hj)) hn.1)
theorem first_alike {a b : List Key} (hab : ∀ z, zipR a z = zipR b z) {t : Tx} {gs o : List Nat} (hn : o.Nodup) (ho : ∀ j ∈ o, j < gs.length) : (orderT a (firstT t gs) o).t = (orderT b (firstT t gs) o).t :=
  order_alike hab hn ho ⟨rfl, by simp [firstT], by simp [firstT], by simp [firstT], by simp [firstT], fun _ _ => rfl, fun _ _ => rfl⟩
/-- parts of rows that do the same alone -/
inductive SameAlone : List Key → List Key → Prop
  | wb (c : Nat) : SameAlone [.write c, .back] []
  | ld (c : Nat) : SameAlone [.lay c, .del] []
  | wl (c d : Nat) : SameAlone [.write c, .lay d] [.lay d, .write c]
  | wleft (c : Nat) : SameAlone [.write c, .left] [.lay c]
  | lright (c : Nat) : SameAlone [.lay c, .right] [.write c]
  | lrb (c : Nat) : SameAlone [.lay c, .right, .back] []
  | wld (c : Nat) : SameAlone [.write c, .left, .del] []
theorem SameAlone.eq {a b : List Key} (h : SameAlone a b) (z : Zip) : zipR a z = zipR b z := by
  obtain ⟨f, r, hd⟩ := z
  cases h <;> simp [zipR, zipK, fr, ins]
end Mc

set_option linter.all false
set_option maxRecDepth 100000
set_option Elab.async false
set_option maxHeartbeats 4000000
namespace Mc
/-- the sign that a key has -/
def sgK : Key → Option Nat
  | .write c => some c
  | .lay c => some c
  | _ => none
def mapZ (ρ : Nat → Nat) (z : Zip) : Zip := (z.1.map ρ, z.2.1.map ρ, z.2.2.map ρ)
theorem zipK_map {ρ : Nat → Nat} {k : Key} (h : ∀ c, sgK k = some c → ρ c = c) (z : Zip) : zipK k (mapZ ρ z) = mapZ ρ (zipK k z) := by
  obtain ⟨a, b, hd⟩ := z
  cases k
  case left => simp [zipK, mapZ, List.map_drop]
  case right => simp [zipK, mapZ, List.map_take]
  case back => simp [zipK, mapZ]
  case del => simp [zipK, mapZ]
  case take => cases b <;> cases hd <;> simp [zipK, mapZ]
  case grab => rcases List.eq_nil_or_concat a with rfl | ⟨g, c, rfl⟩ <;> cases hd <;> simp [zipK, mapZ]
  case put => cases hd <;> simp [zipK, mapZ, fr, ins]
  case leave => cases hd <;> simp [zipK, mapZ, fr, ins]
  case write c => simp [zipK, mapZ, fr, ins, h c rfl]
  case lay c => simp [zipK, mapZ, fr, ins, h c rfl]
theorem zipR_map {ρ : Nat → Nat} : ∀ {row : List Key} (z : Zip), (∀ k ∈ row, ∀ c, sgK k = some c → ρ c = c) → zipR row (mapZ ρ z) = mapZ ρ (zipR row z)
  | [], _, _ => rfl
  | k :: row, z, h => by
    show zipR row (zipK k (mapZ ρ z)) = mapZ ρ (zipR row (zipK k z))
    rw [zipK_map (h k List.mem_cons_self)]
    exact zipR_map _ fun k' hk => h k' (List.mem_cons_of_mem _ hk)
/-- a renaming of the signs of t to those of u -/
def ren (t u : Tx) (c : Nat) : Nat := match t, u with
  | a :: t, b :: u => if c = a then b else ren t u c
  | _, _ => c
theorem ren_out : ∀ {t u : Tx} {c : Nat}, c ∉ t → ren t u c = c
  | [], u, c, _ => by cases u <;> rfl
  | a :: t, [], c, _ => rfl
  | a :: t, b :: u, c, h => by
    rw [List.mem_cons, not_or] at h
    rw [ren, if_neg h.1]; exact ren_out h.2
theorem ren_map : ∀ {t u : Tx}, t.Nodup → u.length = t.length → t.map (ren t u) = u
  | [], u, _, h => by
    have : u = [] := List.length_eq_zero_iff.mp h
    subst this; rfl
  | a :: t, [], _, h => by simp at h
  | a :: t, b :: u, hn, h => by
    rw [List.nodup_cons] at hn
    simp only [List.length_cons, Nat.add_right_cancel_iff] at h
    rw [List.map_cons]
    congr 1
    · simp [ren]
    · rw [← ren_map hn.2 h]
      apply List.map_congr_left
      intro x hx
      have : x ≠ a := fun e => hn.1 (e ▸ hx)
      rw [ren_map hn.2 h, ren, if_neg this]
/-- what a row leaves at a gap, with an empty hand -/
def atT (row : List Key) (t : Tx) (g : Nat) : Zip := zipR row (t.take g, t.drop g, none)
def Unwr (row : List Key) (t : Tx) : Prop := ∀ k ∈ row, ∀ c, sgK k = some c → c ∉ t
theorem atT_ren {row : List Key} {t u : Tx} (hn : t.Nodup) (hl : u.length = t.length) (hw : Unwr row t) (g : Nat) : atT row u g = mapZ (ren t u) (atT row t g) := by
  unfold atT
  rw [← zipR_map _ fun k hk c hc => ren_out (hw k hk c hc)]
  have e := ren_map hn hl
  congr 1
  unfold mapZ
  rw [List.map_take, List.map_drop, e]; rfl
def diffAt (A B : List Key) (t : Tx) (g : Nat) : Bool := decide (atT A t g ≠ atT B t g)
theorem diff_out {A B : List Key} {t u : Tx} {g : Nat} (hn : t.Nodup) (hl : u.length = t.length) (hA : Unwr A t) (hB : Unwr B t) (h : diffAt A B t g = false) : diffAt A B u g = false := by
  simp only [diffAt, decide_eq_false_iff_not, Decidable.not_not] at h ⊢
  rw [atT_ren hn hl hA, atT_ren hn hl hB, h]
theorem diff_eq {A B : List Key} {t u : Tx} {g : Nat} (hn : t.Nodup) (hn2 : u.Nodup) (hl : u.length = t.length) (hA : Unwr A t) (hB : Unwr B t) (hA2 : Unwr A u) (hB2 : Unwr B u) : diffAt A B u g = diffAt A B t g := by
  cases h : diffAt A B t g with
  | false => exact diff_out hn hl hA hB h
  | true =>
    cases h2 : diffAt A B u g with
    | true => rfl
    | false => rw [diff_out hn2 hl.symm hA2 hB2 h2] at h; cases h
/-- different signs that no key writes -/
def cn (n : Nat) : Tx := (List.range n).map (· + 2000000)
theorem cn_len {n : Nat} : (cn n).length = n := by simp [cn]
theorem cn_nodup {n : Nat} : (cn n).Nodup := by
  unfold cn
  rw [List.nodup_iff_pairwise_ne, List.pairwise_map]
  exact List.nodup_range.imp fun h e => h (by omega)
theorem cn_unwr {row : List Key} {n : Nat} (h : ∀ k ∈ row, okK k) : Unwr row (cn n) := fun k hk c hc hm => by
  obtain ⟨i, _, rfl⟩ := List.mem_map.mp hm
  have : sgn (i + 2000000) := h k hk _ (by cases k <;> simp [sgK] at hc <;> simp [hc])
  unfold sgn at this
  omega
def reach (A B : List Key) : Nat := max A.length B.length
/-- how many signs the shortest text has on which the rows differ -/
def sizeN (A B : List Key) : Option Nat := (List.range (2 * reach A B + 1)).find? fun n => (List.range (n + 1)).any fun g => diffAt A B (cn n) g
theorem diff_sym {A B : List Key} {t : Tx} {g : Nat} : diffAt A B t g = diffAt B A t g := by
  unfold diffAt
  rw [decide_eq_decide]
  exact ⟨Ne.symm, Ne.symm⟩
theorem sizeN_sym (A B : List Key) : sizeN A B = sizeN B A := by
  unfold sizeN reach
  rw [Nat.max_comm]
  congr 1
  funext n
  congr 1
  funext g
  exact diff_sym
theorem sizeN_self (A : List Key) : sizeN A A = none := by
  unfold sizeN
  rw [List.find?_eq_none]
  intro n _
  simp [diffAt]
/-- the rows leave the same everywhere, with an empty hand -/
def Alike (A B : List Key) : Prop := ∀ a b : Tx, zipR A (a, b, none) = zipR B (a, b, none)
theorem Alike.sym {A B : List Key} (h : Alike A B) : Alike B A := fun a b => (h a b).symm
theorem Alike.trans {A B C : List Key} (h : Alike A B) (i : Alike B C) : Alike A C := fun a b => (h a b).trans (i a b)
theorem zipR_ctx (P S : Tx) : ∀ {row : List Key} {z : Zip}, (P = [] ∨ cntL row ≤ z.1.length) → (S = [] ∨ cntR row ≤ z.2.1.length) → zipR row (P ++ z.1, z.2.1 ++ S, z.2.2) = (P ++ (zipR row z).1, (zipR row z).2.1 ++ S, (zipR row z).2.2)
  | [], _, _, _ => rfl
  | k :: row, z, h1, h2 => by
    rw [cntL_cons] at h1
    rw [cntR_cons] at h2
    have u := zipK_use k z
    show zipR row (zipK k (P ++ z.1, z.2.1 ++ S, z.2.2)) = _
    rw [zipK_ctx k P S (fun q => h1.imp id fun h => by
      rw [if_pos q] at h
      exact List.length_pos_iff.mp (by omega)) (fun q => h2.imp id fun h => by
      rw [if_pos q] at h
      exact List.length_pos_iff.mp (by omega))]
    exact zipR_ctx P S (row := row) (z := zipK k z) (h1.imp id fun h => by omega) (h2.imp id fun h => by omega)
theorem alike_of {A B : List Key} {m : Nat} (hA : A.length ≤ m) (hB : B.length ≤ m) (h : ∀ a b : Tx, a.length ≤ m → b.length ≤ m → zipR A (a, b, none) = zipR B (a, b, none)) : Alike A B := by
  intro a b
  have cA := cnt_len A
  have cB := cnt_len B
  have e1 : a = a.take (a.length - m) ++ a.drop (a.length - m) := (List.take_append_drop _ _).symm
  have e2 : b = b.take m ++ b.drop m := (List.take_append_drop _ _).symm
  have l1 : (a.drop (a.length - m)).length = min m a.length := by simp; omega
  have l2 : (b.take m).length = min m b.length := by simp
  have p1 : ∀ c, c ≤ m → a.take (a.length - m) = [] ∨ c ≤ (a.drop (a.length - m)).length := fun c hc => by
    rcases Nat.lt_or_ge m a.length with q | q
    · right; omega
    · left; rw [show a.length - m = 0 by omega, List.take_zero]
  have p2 : ∀ c, c ≤ m → b.drop m = [] ∨ c ≤ (b.take m).length := fun c hc => by
    rcases Nat.lt_or_ge m b.length with q | q
    · right; omega
    · left; exact List.drop_of_length_le q
  have h1 := zipR_ctx (a.take (a.length - m)) (b.drop m) (row := A) (z := (a.drop (a.length - m), b.take m, none)) (p1 _ (by omega)) (p2 _ (by omega))
  have h2 := zipR_ctx (a.take (a.length - m)) (b.drop m) (row := B) (z := (a.drop (a.length - m), b.take m, none)) (p1 _ (by omega)) (p2 _ (by omega))
  simp only [List.take_append_drop] at h1 h2
  rw [h1, h2, h _ _ (by omega) (by omega)]
theorem sizeN_none {A B : List Key} (hA : ∀ k ∈ A, okK k) (hB : ∀ k ∈ B, okK k) : sizeN A B = none ↔ Alike A B := by
  constructor
  · intro h
    unfold sizeN at h
    rw [List.find?_eq_none] at h
    have m1 : A.length ≤ reach A B := Nat.le_max_left _ _
    have m2 : B.length ≤ reach A B := Nat.le_max_right _ _
    refine alike_of m1 m2 fun a b ha hb => ?_
    have h1 := h (a.length + b.length) (List.mem_range.mpr (by omega))
    simp only [List.any_eq_true, not_exists, not_and, Bool.not_eq_true] at h1
    have h2 := h1 a.length (List.mem_range.mpr (by omega))
    have h3 := diff_out (u := a ++ b) cn_nodup (by rw [cn_len, List.length_append]) (cn_unwr hA) (cn_unwr hB) h2
    simp only [diffAt, decide_eq_false_iff_not, Decidable.not_not, atT, List.take_left, List.drop_left] at h3
    exact h3
  · intro h
    unfold sizeN
    rw [List.find?_eq_none]
    intro n _
    simp only [List.any_eq_true, not_exists, not_and, Bool.not_eq_true]
    intro g _
    unfold diffAt atT
    rw [h]
    simp
theorem mapK_ok {A : List Key} (h : ∀ k ∈ A, okK k) : ∀ k ∈ A.map mirK, okK k := fun k hk => by
  obtain ⟨c, hc, rfl⟩ := List.mem_map.mp hk
  exact mirK_ok (h c hc)
theorem sgK_mir (k : Key) : sgK (mirK k) = sgK k := by cases k <;> rfl
theorem mirZ_mirZ (z : Zip) : mirZ (mirZ z) = z := by simp [mirZ]
theorem diff_mir (A B : List Key) (t : Tx) {g : Nat} (hg : g ≤ t.length) : diffAt (A.map mirK) (B.map mirK) t.reverse (t.length - g) = diffAt A B t g := by
  have e : ((t.reverse.take (t.length - g), t.reverse.drop (t.length - g), none) : Zip) = mirZ (t.take g, t.drop g, none) := by
    simp only [mirZ, List.take_reverse, List.drop_reverse]
    have : t.length - (t.length - g) = g := by omega
    rw [this]
  unfold diffAt atT
  rw [e, zipR_mir, zipR_mir, decide_eq_decide]
  constructor
  · intro h q; exact h (by rw [q])
  · intro h q; exact h (by have := congrArg mirZ q; rwa [mirZ_mirZ, mirZ_mirZ] at this)
theorem sizeN_mir {A B : List Key} (hA : ∀ k ∈ A, okK k) (hB : ∀ k ∈ B, okK k) : sizeN (A.map mirK) (B.map mirK) = sizeN A B := by
  unfold sizeN reach
  rw [List.length_map, List.length_map]
  congr 1
  funext n
  have key : ∀ A B : List Key, (∀ k ∈ A, okK k) → (∀ k ∈ B, okK k) → ((List.range (n + 1)).any fun g => diffAt A B (cn n) g) = true → ((List.range (n + 1)).any fun g => diffAt (A.map mirK) (B.map mirK) (cn n) g) = true := by
    intro A B hA hB h
    obtain ⟨g, hg, hd⟩ := List.any_eq_true.mp h
    have hg' := List.mem_range.mp hg
    refine List.any_eq_true.mpr ⟨n - g, List.mem_range.mpr (by omega), ?_⟩
    have e := diff_mir A B (cn n) (g := g) (by rw [cn_len]; omega)
    rw [cn_len, hd] at e
    rw [← e]
    exact (diff_eq (t := (cn n).reverse) (u := cn n) ((List.reverse_perm _).nodup_iff.mpr cn_nodup) cn_nodup (by simp) (fun k hk c hc hm => cn_unwr (mapK_ok hA) k hk c hc (List.mem_reverse.mp hm)) (fun k hk c hc hm => cn_unwr (mapK_ok hB) k hk c hc (List.mem_reverse.mp hm)) (cn_unwr (mapK_ok hA)) (cn_unwr (mapK_ok hB)))
  have mm : ∀ A : List Key, (A.map mirK).map mirK = A := fun A => by
    rw [List.map_map]
    conv => rhs; rw [← List.map_id A]
    apply List.map_congr_left
    intro k _
    cases k <;> rfl
  rw [Bool.eq_iff_iff]
  constructor
  · intro h
    have := key _ _ (mapK_ok hA) (mapK_ok hB) h
    rwa [mm, mm] at this
  · exact key A B hA hB
theorem Alike.app {A B : List Key} (h : Alike A B) (C : List Key) : Alike (A ++ C) (B ++ C) := fun a b => by rw [zipR_append, zipR_append, h]
theorem hand_stays : ∀ {C : List Key} (z : Zip), (∀ k ∈ C, k ≠ .take ∧ k ≠ .grab) → (zipR C z).2.2 = z.2.2
  | [], _, _ => rfl
  | k :: C, z, h => by
    have h1 := h k List.mem_cons_self
    show (zipR C (zipK k z)).2.2 = _
    rw [hand_stays _ fun k' hk => h k' (List.mem_cons_of_mem _ hk)]
    cases k <;> simp_all [zipK] <;> split <;> rfl
theorem Alike.pre {A B : List Key} (h : Alike A B) {C : List Key} (hC : ∀ k ∈ C, k ≠ .take ∧ k ≠ .grab) : Alike (C ++ A) (C ++ B) := fun a b => by
  rw [zipR_append, zipR_append]
  have e := hand_stays (a, b, none) hC
  generalize zipR C (a, b, none) = z at e
  obtain ⟨x, y, hd⟩ := z
  simp only at e
  subst e
  exact h x y
theorem sizeN_alike {A B C : List Key} (hA : ∀ k ∈ A, okK k) (hB : ∀ k ∈ B, okK k) (hC : ∀ k ∈ C, okK k) (h : Alike A B) : (sizeN C A).isNone = (sizeN C B).isNone := by
  rw [Bool.eq_iff_iff, Option.isNone_iff_eq_none, Option.isNone_iff_eq_none, sizeN_none hC hA, sizeN_none hC hB]
  exact ⟨fun i => i.trans h, fun i => i.trans h.sym⟩
theorem sizeN_some {A B : List Key} {n : Nat} (h : sizeN A B = some n) : n ≤ 2 * reach A B ∧ ((List.range (n + 1)).any fun g => diffAt A B (cn n) g) = true ∧ ∀ j, j < n → ((List.range (j + 1)).any fun g => diffAt A B (cn j) g) = false := by
  unfold sizeN at h
  rw [List.find?_range_eq_some] at h
  obtain ⟨h1, h2, h3⟩ := h
  refine ⟨by have := List.mem_range.mp h2; omega, h1, fun j hj => ?_⟩
  have := h3 j hj
  simpa using this
theorem sizeN_same {A B C : List Key} (hA : ∀ k ∈ A, okK k) (hB : ∀ k ∈ B, okK k) (hC : ∀ k ∈ C, okK k) (h : Alike A B) : sizeN C A = sizeN C B := by
  have hd : ∀ t g, diffAt C A t g = diffAt C B t g := fun t g => by unfold diffAt atT; rw [h]
  cases e1 : sizeN C A with
  | none => exact ((sizeN_none hC hB).mpr (((sizeN_none hC hA).mp e1).trans h)).symm
  | some n =>
    cases e2 : sizeN C B with
    | none => rw [(sizeN_none hC hA).mpr (((sizeN_none hC hB).mp e2).trans h.sym)] at e1; cases e1
    | some m =>
      obtain ⟨a1, a2, a3⟩ := sizeN_some e1
      obtain ⟨b1, b2, b3⟩ := sizeN_some e2
      congr 1
      rcases Nat.lt_trichotomy n m with q | q | q
      · have := b3 n q
        simp only [← hd] at this
        rw [a2] at this; cases this
      · exact q
      · have := a3 m q
        simp only [hd] at this
        rw [b2] at this; cases this
end Mc

set_option linter.all false
set_option maxRecDepth 100000
set_option Elab.async false
set_option maxHeartbeats 1000000
namespace Mc
/-- no two carets in one gap -/
def SA (cs : List Caret) : Prop := cs.Pairwise fun a b => a.1 < b.1
theorem asc_up2 {n : Nat} : ∀ {cs : List Caret} {d e : Nat}, asc n d cs → (∀ c ∈ cs, e ≤ c.1) → asc n e cs
  | [], _, _, _, _ => trivial
  | c :: cs, _, _, h, he => ⟨he c List.mem_cons_self, h.2.1, h.2.2⟩
theorem asc_mem {n : Nat} : ∀ {cs : List Caret} {d : Nat}, asc n d cs → ∀ c ∈ cs, d ≤ c.1 ∧ c.1 ≤ n
  | [], _, _, _, hc => by cases hc
  | x :: cs, d, h, c, hc => by
    rcases List.mem_cons.mp hc with rfl | hc
    · exact ⟨h.1, h.2.1⟩
    · have := asc_mem h.2.2 c hc
      have := h.1
      omega
theorem SA.asc {n : Nat} : ∀ {cs : List Caret}, SA cs → (∀ c ∈ cs, c.1 ≤ n) → asc n 0 cs
  | [], _, _ => trivial
  | c :: cs, h, hn => by
    have p := List.pairwise_cons.mp h
    have ih : Mc.asc n 0 cs := SA.asc p.2 fun x hx => hn x (List.mem_cons_of_mem _ hx)
    exact ⟨Nat.zero_le _, hn c List.mem_cons_self, asc_up2 ih fun x hx => Nat.le_of_lt (p.1 x hx)⟩
theorem joined_ge {n : Nat} {cs : List Caret} {d : Nat} (h : asc n d cs) : ∀ c ∈ (joined cs).1, d ≤ c.1 := fun c hc => (asc_mem (joined_asc h) c hc).1
theorem joined_sa {n : Nat} : ∀ {cs : List Caret} {d : Nat}, asc n d cs → SA (joined cs).1
  | [], _, _ => List.Pairwise.nil
  | c :: cs, d, h => by
    have ih := joined_sa h.2.2
    have ge := joined_ge h.2.2
    rw [joined_cons]
    generalize joined cs = x at ih ge
    obtain ⟨F, P⟩ := x
    cases F with
    | nil => exact List.pairwise_singleton _ _
    | cons f F =>
      have p := List.pairwise_cons.mp ih
      unfold joinCons
      simp only
      split
      · rename_i e
        exact List.pairwise_cons.mpr ⟨fun y hy => by have := p.1 y hy; show c.1 < y.1; omega, p.2⟩
      · rename_i e
        have g1 : c.1 ≤ f.1 := ge f List.mem_cons_self
        refine List.pairwise_cons.mpr ⟨fun y hy => ?_, ih⟩
        rcases List.mem_cons.mp hy with rfl | hy
        · omega
        · have := p.1 y hy; omega
def firsts : Option Nat → List Caret → List Caret
  | _, [] => []
  | p, c :: r => if some c.1 = p then firsts p r else c :: firsts (some c.1) r
def soleH (G : List Nat) (c : Caret) : Caret := (c.1, if G.count c.1 = 1 then c.2 else none)
def stepJ (G : List Nat) (F : List Caret) (c : Caret) : List Caret := if c.1 ∈ F.map (·.1) then F else F ++ [soleH G c]
theorem firsts_gt {n : Nat} : ∀ {r : List Caret} {a : Nat}, asc n a r → ∀ f ∈ firsts (some a) r, a < f.1
  | [], _, _, _, hf => by cases hf
  | c :: r, a, h, f, hf => by
    rw [firsts] at hf
    by_cases e : c.1 = a
    · rw [if_pos (by rw [e])] at hf
      subst e
      exact firsts_gt h.2.2 f hf
    · rw [if_neg (by simpa using e)] at hf
      have := h.1
      rcases List.mem_cons.mp hf with rfl | hf
      · omega
      · have := firsts_gt h.2.2 f hf; omega
theorem stepJ_fold {n : Nat} {G : List Nat} : ∀ {r : List Caret} {a : Nat} {F : List Caret}, asc n a r → (∀ f ∈ F, f.1 ≤ a) → a ∈ F.map (·.1) → r.foldl (stepJ G) F = F ++ (firsts (some a) r).map (soleH G)
  | [], _, _, _, _, _ => by simp [firsts]
  | c :: r, a, F, h, hF, ha => by
    rw [List.foldl_cons, firsts]
    by_cases e : c.1 = a
    · have : stepJ G F c = F := if_pos (by rw [e]; exact ha)
      rw [this, if_pos (by rw [e])]
      subst e
      exact stepJ_fold h.2.2 hF ha
    · have h1 := h.1
      have ni : ¬ c.1 ∈ F.map (·.1) := fun hm => by
        obtain ⟨f, hf, q⟩ := List.mem_map.mp hm
        have := hF f hf
        omega
      have : stepJ G F c = F ++ [soleH G c] := if_neg ni
      rw [this, if_neg (by simpa using e), stepJ_fold h.2.2 (fun f hf => by
        rcases List.mem_append.mp hf with hf | hf
        · have := hF f hf; omega
        · rw [List.mem_singleton.mp hf]; exact Nat.le_refl _) (by simp [soleH]), List.map_cons, List.append_assoc]
      rfl
theorem stepJ_all {n d : Nat} {G : List Nat} : ∀ {cs : List Caret}, asc n d cs → cs.foldl (stepJ G) [] = (firsts none cs).map (soleH G)
  | [], _ => rfl
  | c :: r, h => by
    rw [List.foldl_cons]
    have : stepJ G [] c = [soleH G c] := rfl
    rw [this, stepJ_fold h.2.2 (fun f hf => by rw [List.mem_singleton.mp hf]; exact Nat.le_refl _) (by simp [soleH]), firsts, if_neg (by simp), List.map_cons]
    rfl
theorem firsts_joined {n : Nat} : ∀ {cs : List Caret} {d : Nat}, asc n d cs → (firsts none cs).map (soleH (cs.map (·.1))) = (joined cs).1
  | [], _, _ => rfl
  | [c], _, _ => by
    simp [firsts, soleH, joined, joinStep]
  | c :: c' :: r, d, h => by
    have ih := firsts_joined h.2.2
    have h1 : c.1 ≤ c'.1 := h.2.2.1
    have ar : asc n c'.1 r := h.2.2.2.2
    have keep : ∀ f ∈ firsts (some c'.1) r, soleH ((c :: c' :: r).map (·.1)) f = soleH ((c' :: r).map (·.1)) f := fun f hf => by
      have := firsts_gt ar f hf
      unfold soleH
      rw [List.map_cons, List.count_cons_of_ne (by omega)]
    have e1 : firsts none (c' :: r) = c' :: firsts (some c'.1) r := by rw [firsts, if_neg (by simp)]
    rw [e1, List.map_cons] at ih
    rw [joined_cons]
    generalize joined (c' :: r) = x at ih
    obtain ⟨F, P⟩ := x
    simp only at ih
    subst ih
    rw [firsts, if_neg (by simp), List.map_cons, firsts]
    unfold joinCons
    simp only
    by_cases e : c'.1 = c.1
    · have e2 : (soleH ((c' :: r).map (·.1)) c').1 = c.1 := e
      rw [if_pos (by rw [e]), if_pos e2, ← e]
      congr 1
      · unfold soleH
        rw [if_neg (by rw [List.map_cons, List.map_cons, e]; simp), e]
      · exact List.map_congr_left keep
    · have e2 : ¬ (soleH ((c' :: r).map (·.1)) c').1 = c.1 := e
      rw [if_neg (by simpa using e), if_neg e2, List.map_cons]
      have n1 : ((c :: c' :: r).map (·.1)).count c.1 = 1 := by
        rw [List.map_cons, List.count_cons_self, List.count_eq_zero.mpr]
        intro hm
        obtain ⟨y, hy, q⟩ := List.mem_map.mp hm
        rcases List.mem_cons.mp hy with rfl | hy
        · exact e q
        · have := (asc_mem ar y hy).1; omega
      have a1 : soleH ((c :: c' :: r).map (·.1)) c = c := by unfold soleH; rw [if_pos n1]
      have a2 : soleH ((c :: c' :: r).map (·.1)) c' = soleH ((c' :: r).map (·.1)) c' := by
        unfold soleH
        rw [List.map_cons, List.count_cons_of_ne (fun q => e q.symm)]
      have a3 := List.map_congr_left keep
      rw [List.map_cons] at a1 a2 a3
      rw [a1, List.map_cons, a2, a3]
def putsAt (k : Key) (cs : List Caret) : List (Nat × Nat) := cs.filterMap fun c => (ins k c.2).map fun s => (c.1, s)
def atG (ps : List (Nat × Nat)) (i : Nat) : Tx := (ps.filter fun p => decide (p.1 = i)).map (·.2)
def insL (ps : List (Nat × Nat)) (t : Tx) (e : Nat) : Tx := ((List.range' e (t.length + 1 - e)).map fun i => atG ps i ++ (t[i]?).toList).flatten
theorem insL_step {ps : List (Nat × Nat)} {t : Tx} {e : Nat} (he : e ≤ t.length) : insL ps t e = atG ps e ++ ((t[e]?).toList ++ insL ps t (e + 1)) := by
  unfold insL
  rw [show t.length + 1 - e = (t.length + 1 - (e + 1)) + 1 by omega, List.range'_succ, List.map_cons, List.flatten_cons, List.append_assoc]
theorem insL_end {ps : List (Nat × Nat)} {t : Tx} {e : Nat} (he : t.length < e) : insL ps t e = [] := by
  unfold insL
  rw [show t.length + 1 - e = 0 by omega]; rfl
theorem insL_congr {ps qs : List (Nat × Nat)} {t : Tx} {e : Nat} (h : ∀ i, e ≤ i → atG ps i = atG qs i) : insL ps t e = insL qs t e := by
  unfold insL
  congr 1
  apply List.map_congr_left
  intro i hi
  rw [h i (List.mem_range'_1.mp hi).1]
theorem insL_skip {ps : List (Nat × Nat)} {t : Tx} : ∀ (j e : Nat), e + j ≤ t.length → (∀ i, e ≤ i → i < e + j → atG ps i = []) → insL ps t e = (t.take (e + j)).drop e ++ insL ps t (e + j)
  | 0, e, _, _ => by simp
  | j + 1, e, he, h => by
    rw [insL_step (by omega), h e (Nat.le_refl _) (by omega), List.nil_append, insL_skip j (e + 1) (by omega) (fun k h1 h2 => h k (by omega) (by omega))]
    have e1 : e < t.length := by omega
    have e2 : e < (t.take (e + (j + 1))).length := by rw [List.length_take]; omega
    rw [List.drop_eq_getElem_cons e2, List.getElem_take, List.getElem?_eq_getElem e1, show e + 1 + j = e + (j + 1) by omega]
    rfl
theorem atG_cons {c : Caret} {k : Key} {r : List Caret} {i : Nat} : atG (putsAt k (c :: r)) i = (if c.1 = i then (ins k c.2).toList else []) ++ atG (putsAt k r) i := by
  unfold atG putsAt
  rw [List.filterMap_cons]
  cases ins k c.2 with
  | none => simp
  | some s =>
    simp only [Option.map_some]
    rw [List.filter_cons]
    by_cases h : c.1 = i
    · simp [h]
    · simp [h]
theorem atG_none {k : Key} {r : List Caret} {i : Nat} (h : ∀ c ∈ r, c.1 ≠ i) : atG (putsAt k r) i = [] := by
  induction r with
  | nil => rfl
  | cons c r ih =>
    rw [atG_cons, if_neg (h c List.mem_cons_self), ih fun x hx => h x (List.mem_cons_of_mem _ hx)]; rfl
theorem insL_eq {k : Key} {t : Tx} : ∀ (cs : List Caret) (e : Nat) (ps : List (Nat × Nat)), e ≤ t.length → asc t.length e cs → (∀ i, e ≤ i → atG ps i = atG (putsAt k cs) i) → insL ps t e = insT k t e cs
  | [], e, ps, he, _, h => by
    rw [insL_congr h, insT]
    have h0 : ∀ i, atG (putsAt k []) i = [] := fun i => rfl
    have e1 := insL_skip (ps := putsAt k []) (t := t) (t.length - e) e (by omega) (fun i _ _ => h0 i)
    rw [show e + (t.length - e) = t.length by omega, List.take_length] at e1
    rw [e1, insL_step (Nat.le_refl _), h0, insL_end (by omega)]
    simp
  | c :: r, e, ps, he, ha, h => by
    have h1 : e ≤ c.1 := ha.1
    have h2 : c.1 ≤ t.length := ha.2.1
    rw [insL_congr h, insT]
    have e1 := insL_skip (ps := putsAt k (c :: r)) (t := t) (c.1 - e) e (by omega) (fun i g1 g2 => atG_none fun x hx => by
      rcases List.mem_cons.mp hx with rfl | hx
      · omega
      · have := (asc_mem ha.2.2 x hx).1; omega)
    rw [show e + (c.1 - e) = c.1 by omega] at e1
    have ih := insL_eq (k := k) (t := t) r c.1 (putsAt k r) h2 ha.2.2 fun _ _ => rfl
    rw [e1, insL_step h2, atG_cons, if_pos rfl, ← ih, insL_step h2 (ps := putsAt k r)]
    rw [insL_congr (ps := putsAt k (c :: r)) (qs := putsAt k r) (fun i hi => by rw [atG_cons, if_neg (by omega)]; rfl)]
    simp only [List.append_assoc]
def nLt (ps : List (Nat × Nat)) (g : Nat) : Nat := ps.countP fun p => decide (p.1 < g)
def nEq (ps : List (Nat × Nat)) (g : Nat) : Nat := ps.countP fun p => decide (p.1 = g)
theorem puts_app {k : Key} {a b : List Caret} : putsAt k (a ++ b) = putsAt k a ++ putsAt k b := List.filterMap_append
theorem puts_mem {k : Key} {cs : List Caret} {p : Nat × Nat} (h : p ∈ putsAt k cs) : ∃ c ∈ cs, c.1 = p.1 := by
  unfold putsAt at h
  obtain ⟨c, hc, e⟩ := List.mem_filterMap.mp h
  obtain ⟨s, _, rfl⟩ := Option.map_eq_some_iff.mp e
  exact ⟨c, hc, rfl⟩
theorem cnt_all {ps : List (Nat × Nat)} {f : Nat × Nat → Bool} (h : ∀ p ∈ ps, f p = true) : ps.countP f = ps.length := List.countP_eq_length.mpr h
theorem cnt_none {ps : List (Nat × Nat)} {f : Nat × Nat → Bool} (h : ∀ p ∈ ps, f p = false) : ps.countP f = 0 := List.countP_eq_zero.mpr fun p hp => by rw [h p hp]; exact Bool.false_ne_true
theorem insC_eq {k : Key} : ∀ (r P : List Caret), SA (P ++ r) → insC k (putsAt k P).length r = r.map fun c => (c.1 + nLt (putsAt k (P ++ r)) c.1 + (if fr k = true then nEq (putsAt k (P ++ r)) c.1 else 0), c.2)
  | [], _, _ => rfl
  | c :: r, P, h => by
    have h' : SA ((P ++ [c]) ++ r) := by rw [List.append_assoc]; exact h
    have ih := insC_eq (k := k) r (P ++ [c]) h'
    rw [List.append_assoc, List.singleton_append] at ih
    have p1 := (List.pairwise_append.mp h).2.2
    have p2 := List.pairwise_cons.mp (List.pairwise_append.mp h).2.1
    have n1 : nLt (putsAt k (P ++ c :: r)) c.1 = (putsAt k P).length := by
      unfold nLt
      rw [puts_app, List.countP_append, cnt_all, cnt_none]
      · rfl
      · intro p hp
        obtain ⟨x, hx, e⟩ := puts_mem hp
        rcases List.mem_cons.mp hx with rfl | hx
        · simp [← e]
        · have := p2.1 x hx; simp; omega
      · intro p hp
        obtain ⟨x, hx, e⟩ := puts_mem hp
        have := p1 x hx c List.mem_cons_self
        simp; omega
    have n2 : nEq (putsAt k (P ++ c :: r)) c.1 = (ins k c.2).toList.length := by
      unfold nEq
      rw [puts_app, List.countP_append, cnt_none (ps := putsAt k P), Nat.zero_add]
      · have e : putsAt k (c :: r) = ((ins k c.2).toList.map fun s => (c.1, s)) ++ putsAt k r := by
          unfold putsAt
          rw [List.filterMap_cons]
          cases ins k c.2 <;> rfl
        rw [e, List.countP_append, cnt_none (ps := putsAt k r), cnt_all, List.length_map]
        · rfl
        · intro p hp
          obtain ⟨s, _, rfl⟩ := List.mem_map.mp hp
          simp
        · intro p hp
          obtain ⟨x, hx, e⟩ := puts_mem hp
          have := p2.1 x hx
          simp; omega
      · intro p hp
        obtain ⟨x, hx, e⟩ := puts_mem hp
        have := p1 x hx c List.mem_cons_self
        simp; omega
    have n3 : (putsAt k (P ++ [c])).length = (putsAt k P).length + (ins k c.2).toList.length := by
      rw [puts_app, List.length_append]
      congr 1
      unfold putsAt
      rw [List.filterMap_cons, List.filterMap_nil]
      cases ins k c.2 <;> rfl
    rw [n3] at ih
    rw [insC, List.map_cons, ih, n1, n2]
    congr 2
    cases fr k <;> simp
theorem insC_sa {k : Key} : ∀ (cs : List Caret) (s : Nat), SA cs → SA (insC k s cs) ∧ ∀ c ∈ insC k s cs, ∃ x ∈ cs, x.1 + s ≤ c.1
  | [], _, _ => ⟨List.Pairwise.nil, fun _ h => by cases h⟩
  | c :: r, s, h => by
    have p := List.pairwise_cons.mp h
    obtain ⟨i1, i2⟩ := insC_sa (k := k) r (s + (ins k c.2).toList.length) p.2
    rw [insC]
    refine ⟨List.pairwise_cons.mpr ⟨fun y hy => ?_, i1⟩, fun y hy => ?_⟩
    · obtain ⟨x, hx, e⟩ := i2 y hy
      have := p.1 x hx
      show (if fr k = true then c.1 + s + (ins k c.2).toList.length else c.1 + s) < y.1
      split <;> omega
    · rcases List.mem_cons.mp hy with rfl | hy
      · refine ⟨c, List.mem_cons_self, ?_⟩
        show c.1 + s ≤ (if fr k = true then c.1 + s + (ins k c.2).toList.length else c.1 + s)
        split <;> omega
      · obtain ⟨x, hx, e⟩ := i2 y hy
        exact ⟨x, List.mem_cons_of_mem _ hx, by omega⟩
theorem cnt_eqAt (s a : Nat) : ∀ m, (List.range m).countP (fun i => decide (a = i + s)) = if s ≤ a ∧ a < m + s then 1 else 0
  | 0 => by
    rw [if_neg (by omega)]; rfl
  | m + 1 => by
    rw [List.range_succ, List.countP_append, cnt_eqAt s a m, List.countP_cons, List.countP_nil]
    by_cases h : a = m + s
    · subst h
      rw [if_neg (by omega), if_pos (by simp), if_pos (by omega)]
    · rw [decide_eq_false h]
      by_cases h2 : s ≤ a ∧ a < m + s
      · have h3 : s ≤ a ∧ a < m + 1 + s := ⟨h2.1, by omega⟩
        rw [if_pos h2, if_pos h3]; rfl
      · have h3 : ¬ (s ≤ a ∧ a < m + 1 + s) := fun q => h2 ⟨q.1, by omega⟩
        rw [if_neg h2, if_neg h3]; rfl
theorem cnt_or {p q : Nat → Bool} : ∀ (l : List Nat), (∀ i ∈ l, ¬ (p i = true ∧ q i = true)) → l.countP (fun i => p i || q i) = l.countP p + l.countP q
  | [], _ => rfl
  | a :: l, h => by
    rw [List.countP_cons, List.countP_cons, List.countP_cons, cnt_or l fun i hi => h i (List.mem_cons_of_mem _ hi)]
    have := h a List.mem_cons_self
    cases hp : p a <;> cases hq : q a <;> simp_all <;> omega
theorem cnt_any (s m : Nat) : ∀ (cs : List Caret), SA cs → (List.range m).countP (fun i => cs.any fun c => decide (c.1 = i + s)) = cs.countP fun c => decide (s ≤ c.1 ∧ c.1 < m + s)
  | [], _ => by simp
  | c :: cs, h => by
    have p := List.pairwise_cons.mp h
    have ih := cnt_any s m cs p.2
    rw [List.countP_cons, ← ih]
    have e : (fun i => (c :: cs).any fun c => decide (c.1 = i + s)) = fun i => decide (c.1 = i + s) || cs.any fun c => decide (c.1 = i + s) := by
      funext i; rw [List.any_cons]
    rw [e, cnt_or, cnt_eqAt, Nat.add_comm]
    · congr 1
      by_cases h2 : s ≤ c.1 ∧ c.1 < m + s
      · rw [if_pos h2, if_pos (by simpa using h2)]
      · rw [if_neg h2, if_neg (by simpa using h2)]
    · rintro i - ⟨h1, h2⟩
      simp only [decide_eq_true_eq] at h1
      obtain ⟨x, hx, e2⟩ := List.any_eq_true.mp h2
      simp only [decide_eq_true_eq] at e2
      have := p.1 x hx
      omega
theorem fewer_cnt {s n g : Nat} {cs : List Caret} (h : SA cs) (hg : g ≤ n) : fewer (doomed s n cs) g = cs.countP fun c => decide (s ≤ c.1 ∧ c.1 < g + s) := by
  rw [← cnt_any s g cs h]
  unfold fewer
  apply List.countP_congr
  intro i hi
  have := List.mem_range.mp hi
  unfold doomed
  simp [show i < n by omega]
def mapC (ρ : Nat → Nat) (cs : List Caret) : List Caret := cs.map fun c => (c.1, c.2.map ρ)
def mapP (ρ : Nat → Nat) (x : Tx × List Caret) : Tx × List Caret := (x.1.map ρ, mapC ρ x.2)
theorem ins_map {ρ : Nat → Nat} {k : Key} {h : Option Nat} (hk : ∀ c, sgK k = some c → ρ c = c) : ins k (h.map ρ) = (ins k h).map ρ := by
  cases k <;> simp [ins]
  case write c => exact (hk c rfl).symm
  case lay c => exact (hk c rfl).symm
theorem insT_map {ρ : Nat → Nat} {k : Key} (hk : ∀ c, sgK k = some c → ρ c = c) : ∀ (cs : List Caret) (t : Tx) (d : Nat), insT k (t.map ρ) d (mapC ρ cs) = (insT k t d cs).map ρ
  | [], t, d => by simp [insT, mapC, List.map_drop]
  | c :: cs, t, d => by
    have ih := insT_map hk cs t c.1
    unfold mapC at *
    rw [List.map_cons, insT, insT]
    simp only
    rw [ih, ins_map hk, List.map_append, List.map_append, List.map_drop, List.map_take]
    cases ins k c.2 <;> rfl
theorem insC_map {ρ : Nat → Nat} {k : Key} (hk : ∀ c, sgK k = some c → ρ c = c) : ∀ (cs : List Caret) (s : Nat), insC k s (mapC ρ cs) = mapC ρ (insC k s cs)
  | [], _ => rfl
  | c :: cs, s => by
    have hl : (ins k (c.2.map ρ)).toList.length = (ins k c.2).toList.length := by rw [ins_map hk]; cases ins k c.2 <;> rfl
    have ih := insC_map hk cs (s + (ins k c.2).toList.length)
    unfold mapC at *
    rw [List.map_cons, insC, insC]
    simp only
    rw [hl, ih, List.map_cons]
theorem doomed_map {ρ : Nat → Nat} {s n : Nat} {cs : List Caret} : doomed s n (mapC ρ cs) = doomed s n cs := by
  funext i
  unfold doomed mapC
  rw [List.any_map]; rfl
theorem delT_mapS {ρ : Nat → Nat} {p : Nat → Bool} {t : Tx} : delT p (t.map ρ) = (delT p t).map ρ := by
  unfold delT
  generalize 0 = k
  induction t generalizing k with
  | nil => rfl
  | cons c t ih =>
    rw [List.map_cons, List.zipIdx_cons, List.zipIdx_cons, List.filter_cons, List.filter_cons]
    cases h : p k <;> simp [h, ih]
theorem afterKey_map {ρ : Nat → Nat} {k : Key} (hk : ∀ c, sgK k = some c → ρ c = c) (t : Tx) (cs : List Caret) : afterKey (t.map ρ) (mapC ρ cs) k = mapP ρ (afterKey t cs k) := by
  have ik : ∀ k, (∀ c, sgK k = some c → ρ c = c) → ((insT k (t.map ρ) 0 (mapC ρ cs), insC k 0 (mapC ρ cs)) : Tx × List Caret) = mapP ρ (insT k t 0 cs, insC k 0 cs) := fun k hk => by
    rw [insT_map hk, insC_map hk]; rfl
  have dk : ∀ s, ((delT (doomed s (t.map ρ).length (mapC ρ cs)) (t.map ρ), (mapC ρ cs).map fun c => (c.1 - fewer (doomed s (t.map ρ).length (mapC ρ cs)) c.1, c.2)) : Tx × List Caret) = mapP ρ (delT (doomed s t.length cs) t, cs.map fun c => (c.1 - fewer (doomed s t.length cs) c.1, c.2)) := fun s => by
    rw [doomed_map, List.length_map, delT_mapS]
    unfold mapP mapC
    simp [List.map_map, Function.comp_def]
  cases k
  case left => unfold afterKey mapP mapC; simp [List.map_map, Function.comp_def]
  case right => unfold afterKey mapP mapC; simp [List.map_map, Function.comp_def]
  case take =>
    unfold afterKey mapP mapC
    simp only [List.map_map, Prod.mk.injEq, true_and]
    apply List.map_congr_left
    intro c _
    simp only [Function.comp, List.getElem?_map]
    cases t[c.1]? <;> rfl
  case grab =>
    unfold afterKey mapP mapC
    simp only [List.map_map, Prod.mk.injEq, true_and]
    apply List.map_congr_left
    intro c _
    simp only [Function.comp, List.getElem?_map]
    split
    · rfl
    · cases t[c.1 - 1]? <;> rfl
  case back => exact dk 1
  case del => exact dk 0
  case put => exact ik _ hk
  case leave => exact ik _ hk
  case write c => exact ik _ hk
  case lay c => exact ik _ hk
theorem joined_map {ρ : Nat → Nat} : ∀ cs : List Caret, joined (mapC ρ cs) = (mapC ρ (joined cs).1, (joined cs).2)
  | [] => rfl
  | c :: cs => by
    have ih := joined_map (ρ := ρ) cs
    have e : mapC ρ (c :: cs) = (c.1, c.2.map ρ) :: mapC ρ cs := rfl
    rw [e, joined_cons, joined_cons, ih]
    generalize joined cs = x
    obtain ⟨F, P⟩ := x
    cases F with
    | nil => rfl
    | cons f F =>
      have e2 : mapC ρ (f :: F) = (f.1, f.2.map ρ) :: mapC ρ F := rfl
      unfold joinCons
      simp only [e2]
      split <;> rfl
theorem press_map {ρ : Nat → Nat} {k : Key} (hk : ∀ c, sgK k = some c → ρ c = c) (x : Tx × List Caret) : press (mapP ρ x) k = mapP ρ (press x k) := by
  unfold press
  have e : afterKey (mapP ρ x).1 (mapP ρ x).2 k = mapP ρ (afterKey x.1 x.2 k) := afterKey_map hk x.1 x.2
  rw [e]
  show ((mapP ρ (afterKey x.1 x.2 k)).1, (joined (mapC ρ (afterKey x.1 x.2 k).2)).1) = _
  rw [joined_map]; rfl
theorem together_map {ρ : Nat → Nat} : ∀ (row : List Key) (x : Tx × List Caret), (∀ k ∈ row, ∀ c, sgK k = some c → ρ c = c) → together (mapP ρ x) row = mapP ρ (together x row)
  | [], _, _ => rfl
  | k :: row, x, h => by
    show together (press (mapP ρ x) k) row = mapP ρ (together (press x k) row)
    rw [press_map (h k List.mem_cons_self)]
    exact together_map row _ fun k' hk => h k' (List.mem_cons_of_mem _ hk)
def bare (gs : List Nat) : List Caret := gs.map fun g => (g, none)
theorem mapC_bare {ρ : Nat → Nat} {gs : List Nat} : mapC ρ (bare gs) = bare gs := by unfold mapC bare; rw [List.map_map]; rfl
theorem together_unz : ∀ (row : List Key) (z : Zip), together (unz z) row = unz (zipR row z)
  | [], _ => rfl
  | k :: row, z => by
    have e : press (unz z) k = unz (zipK k z) := by
      unfold press
      rw [afterKey_one]; rfl
    show together (press (unz z) k) row = _
    rw [e]; exact together_unz row _
theorem together_bare {t : Tx} {g : Nat} (h : g ≤ t.length) (row : List Key) : (together (t, bare [g]) row).1 = (zipR row (t.take g, t.drop g, none)).1 ++ (zipR row (t.take g, t.drop g, none)).2.1 := by
  show (together (t, [(g, none)]) row).1 = _
  rw [unz_of t g none h, together_unz]; rfl
theorem together_no : ∀ (row : List Key) (t : Tx), together (t, []) row = (t, [])
  | [], _ => rfl
  | k :: row, t => by
    have e : press (t, []) k = (t, []) := by
      unfold press
      simp only
      rw [afterKey_nil]; rfl
    show together (press (t, []) k) row = _
    rw [e]; exact together_no row t
/-- what is left at all gaps but the last -/
def restT (row : List Key) (t : Tx) (gs : List Nat) : Tx := (together (t, bare gs.dropLast) row).1
/-- is a beginning sound with so many further signs -/
def sndAt (row : List Key) (t : Tx) (gs : List Nat) (n : Nat) : Bool := decide ((together (t, bare gs) row).1 = (together (restT row t gs, bare [(restT row t gs).length - n]) row).1)
theorem sndAt_map {ρ : Nat → Nat} {row : List Key} {t : Tx} {gs : List Nat} {n : Nat} (hr : ∀ k ∈ row, ∀ c, sgK k = some c → ρ c = c) (h : sndAt row t gs n = true) : sndAt row (t.map ρ) gs n = true := by
  have q : ∀ (t : Tx) (gs : List Nat), (together (t.map ρ, bare gs) row).1 = (together (t, bare gs) row).1.map ρ := fun t gs => by
    have := together_map row (t, bare gs) hr
    unfold mapP at this
    simp only [mapC_bare] at this
    rw [this]
  unfold sndAt at *
  simp only [decide_eq_true_eq] at *
  have e : restT row (t.map ρ) gs = (restT row t gs).map ρ := q t gs.dropLast
  rw [e, q, q, h, List.length_map]
theorem sndAt_ren {row : List Key} {t u : Tx} {gs : List Nat} {n : Nat} (ht : t.Nodup) (hu : u.Nodup) (hl : u.length = t.length) (wt : Unwr row t) (wu : Unwr row u) : sndAt row u gs n = sndAt row t gs n := by
  rw [Bool.eq_iff_iff]
  constructor
  · intro h
    have := sndAt_map (ρ := ren u t) (fun k hk c hc => ren_out (wu k hk c hc)) h
    rwa [ren_map hu hl.symm] at this
  · intro h
    have := sndAt_map (ρ := ren t u) (fun k hk c hc => ren_out (wt k hk c hc)) h
    rwa [ren_map ht hl] at this
theorem sndAt_one {row : List Key} {t : Tx} {g n : Nat} (h : t.length = g + n) : sndAt row t [g] n = true := by
  have e : restT row t [g] = t := by
    show (together (t, bare []) row).1 = t
    show (together (t, []) row).1 = t
    rw [together_no]
  unfold sndAt
  rw [decide_eq_true_eq, e, show t.length - n = g by omega]
end Mc

set_option linter.all false
set_option maxRecDepth 100000
set_option Elab.async false
set_option maxHeartbeats 1000000
namespace Mc
theorem memDed {k : Int} : ∀ {l : List Int}, k ∈ dedI l ↔ k ∈ l
  | [] => Iff.rfl
  | a :: r => by
    have ih := memDed (k := k) (l := r)
    unfold dedI
    by_cases h : a ∈ r
    · rw [if_pos h, ih, List.mem_cons]
      exact ⟨.inr, fun z => z.elim (fun z => z ▸ h) id⟩
    · rw [if_neg h, List.mem_cons, List.mem_cons, ih]
theorem nodupDed : ∀ l : List Int, (dedI l).Nodup
  | [] => List.nodup_nil
  | a :: r => by
    unfold dedI
    by_cases h : a ∈ r
    · rw [if_pos h]; exact nodupDed r
    · rw [if_neg h]; exact List.nodup_cons.mpr ⟨fun z => h (memDed.mp z), nodupDed r⟩
theorem sortI_asc (l : List Int) : (sortI l).Pairwise (· ≤ ·) := by
  unfold sortI
  have := List.pairwise_mergeSort (le := fun a b : Int => decide (a ≤ b)) (fun a b c h h' => by simp only [decide_eq_true_eq] at *; omega) (fun a b => by simp only [Bool.or_eq_true, decide_eq_true_eq]; omega) l
  exact this.imp fun h => by simpa using h
theorem sortI_eq {ns ms : List Int} (hp : ns.Perm ms) (hs : ns.Pairwise (· ≤ ·)) : sortI ms = ns := by
  have h1 : (sortI ms).Perm ms := List.mergeSort_perm _ _
  exact List.Perm.eq_of_pairwise (le := fun a b : Int => a ≤ b) (fun a b _ _ h h' => Int.le_antisymm h h') (sortI_asc ms) hs (h1.trans hp.symm)
theorem setN_eq {ns l : List Int} (hs : ns.Pairwise (· < ·)) (hm : ∀ k, k ∈ ns ↔ k ∈ l) : setI l = ns := by
  refine sortI_eq ?_ (hs.imp fun h => Int.le_of_lt h)
  have nd : ns.Nodup := hs.imp fun h => Int.ne_of_lt h
  exact (List.perm_ext_iff_of_nodup nd (nodupDed l)).mpr fun k => (hm k).trans memDed.symm
theorem joined_mem : ∀ (cs : List Caret) (g : Nat), (∃ c ∈ (joined cs).1, c.1 = g) ↔ ∃ c ∈ cs, c.1 = g
  | [], g => by simp [joined]
  | c :: cs, g => by
    have ih := joined_mem cs g
    rw [joined_cons]
    generalize joined cs = x at ih
    obtain ⟨F, P⟩ := x
    cases F with
    | nil =>
      simp only [List.not_mem_nil, false_and, exists_false, false_iff, not_exists, not_and] at ih
      unfold joinCons
      simp only [List.mem_cons, List.not_mem_nil, or_false, exists_eq_left]
      constructor
      · intro h
        exact ⟨c, .inl rfl, h⟩
      · rintro ⟨y, rfl | hy, e⟩
        · exact e
        · exact absurd e (ih y hy)
    | cons f F =>
      unfold joinCons
      simp only
      split
      · rename_i e
        constructor
        · rintro ⟨y, hy, rfl⟩
          rcases List.mem_cons.mp hy with rfl | hy
          · exact ⟨c, List.mem_cons_self, rfl⟩
          · obtain ⟨z, hz, q⟩ := ih.mp ⟨y, List.mem_cons_of_mem _ hy, rfl⟩
            exact ⟨z, List.mem_cons_of_mem _ hz, q⟩
        · rintro ⟨y, hy, rfl⟩
          rcases List.mem_cons.mp hy with rfl | hy
          · exact ⟨_, List.mem_cons_self, rfl⟩
          · obtain ⟨z, hz, q⟩ := ih.mpr ⟨y, hy, rfl⟩
            rcases List.mem_cons.mp hz with rfl | hz
            · exact ⟨_, List.mem_cons_self, by show c.1 = _; omega⟩
            · exact ⟨z, List.mem_cons_of_mem _ hz, q⟩
      · constructor
        · rintro ⟨y, hy, rfl⟩
          rcases List.mem_cons.mp hy with rfl | hy
          · exact ⟨_, List.mem_cons_self, rfl⟩
          · obtain ⟨z, hz, q⟩ := ih.mp ⟨y, hy, rfl⟩
            exact ⟨z, List.mem_cons_of_mem _ hz, q⟩
        · rintro ⟨y, hy, rfl⟩
          rcases List.mem_cons.mp hy with rfl | hy
          · exact ⟨_, List.mem_cons_self, rfl⟩
          · obtain ⟨z, hz, q⟩ := ih.mpr ⟨y, hy, rfl⟩
            exact ⟨z, List.mem_cons_of_mem _ hz, q⟩
/-- the gaps, each once -/
theorem set_gaps {n d : Nat} {cs : List Caret} (h : asc n d cs) : setI (cs.map fun c => (c.1 : Int)) = (joined cs).1.map fun c => (c.1 : Int) := by
  refine setN_eq ?_ fun k => ?_
  · have := joined_sa h
    unfold SA at this
    rw [List.pairwise_map]
    exact this.imp fun h => by omega
  · simp only [List.mem_map]
    constructor
    · rintro ⟨c, hc, rfl⟩
      obtain ⟨x, hx, e⟩ := (joined_mem cs c.1).mp ⟨c, hc, rfl⟩
      exact ⟨x, hx, by omega⟩
    · rintro ⟨c, hc, rfl⟩
      obtain ⟨x, hx, e⟩ := (joined_mem cs c.1).mpr ⟨c, hc, rfl⟩
      exact ⟨x, hx, by omega⟩
/-- the hands in a gap -/
def heldAt (cs : List Caret) (g : Nat) : List (Option Nat) := (cs.filter fun c => decide (c.1 = g)).map (·.2)
def soleAt (cs : List Caret) (g : Nat) : Option Nat := match heldAt cs g with
  | [h] => h
  | _ => none
theorem heldAt_len {cs : List Caret} {g : Nat} : (heldAt cs g).length = (cs.map (·.1)).count g := by
  unfold heldAt
  rw [List.length_map]
  induction cs with
  | nil => rfl
  | cons c cs ih =>
    rw [List.filter_cons, List.map_cons, List.count_cons]
    by_cases h : c.1 = g
    · simp [h, ih]
    · simp [h, ih]
theorem joined_sole {n d : Nat} {cs : List Caret} (h : asc n d cs) : (joined cs).1 = (joined cs).1.map fun c => (c.1, soleAt cs c.1) := by
  have e := firsts_joined h
  rw [← e, List.map_map]
  apply List.map_congr_left
  intro c hc
  have hm : c ∈ cs := by
    have : ∀ (p : Option Nat) (l : List Caret), c ∈ firsts p l → c ∈ l := by
      intro p l
      induction l generalizing p with
      | nil => intro h; cases h
      | cons x l ih =>
        intro h
        rw [firsts] at h
        split at h
        · exact List.mem_cons_of_mem _ (ih _ h)
        · rcases List.mem_cons.mp h with rfl | h
          · exact List.mem_cons_self
          · exact List.mem_cons_of_mem _ (ih _ h)
    exact this none cs hc
  show soleH _ c = (c.1, soleAt cs c.1)
  unfold soleH
  congr 1
  have hl := heldAt_len (cs := cs) (g := c.1)
  unfold soleAt
  by_cases h1 : (cs.map (·.1)).count c.1 = 1
  · rw [if_pos h1]
    rw [h1] at hl
    have hmem : c.2 ∈ heldAt cs c.1 := by
      unfold heldAt
      exact List.mem_map.mpr ⟨c, List.mem_filter.mpr ⟨hm, by simp⟩, rfl⟩
    obtain ⟨x, hx⟩ := List.length_eq_one_iff.mp hl
    rw [hx] at hmem ⊢
    exact List.mem_singleton.mp hmem
  · rw [if_neg h1]
    split
    · rename_i x hx
      rw [hx] at hl
      exact absurd hl.symm h1
    · rfl
def insAt (t : Tx) (g : Nat) (s : Tx) : Tx := t.take g ++ s ++ t.drop g
theorem insAt_step {key : Key} {t : Tx} {c : Caret} {r : List Caret} {e n : Nat} (ha : asc n e (c :: r)) (hn : c.1 ≤ t.length) : insAt (t.take c.1 ++ insT key t c.1 r) c.1 (ins key c.2).toList = t.take e ++ insT key t e (c :: r) := by
  unfold insAt
  have l1 : (t.take c.1).length = c.1 := by rw [List.length_take]; omega
  have e1 : (t.take c.1 ++ insT key t c.1 r).take c.1 = t.take c.1 := by rw [List.take_append_of_le_length (by omega), List.take_take]; simp
  have e2 : (t.take c.1 ++ insT key t c.1 r).drop c.1 = insT key t c.1 r := by
    rw [List.drop_append, l1]
    simp
  rw [e1, e2, insT, ← List.append_assoc, ← List.append_assoc]
  congr 2
  have h1 : e ≤ c.1 := ha.1
  have e3 : t.take e = (t.take c.1).take e := by rw [List.take_take]; congr 1; omega
  rw [e3, List.take_append_drop]
theorem delT_last {p : Nat → Bool} {t : Tx} {i : Nat} (hi : i < t.length) (hp : ∀ j, j ≤ i → p j = false) : (delT p t).take i ++ (delT p t).drop (i + 1) = delT (fun j => decide (j = i) || p j) t := by
  have split : t = t.take (i + 1) ++ t.drop (i + 1) := (List.take_append_drop _ _).symm
  have l1 : (t.take (i + 1)).length = i + 1 := by rw [List.length_take]; omega
  have d1 : delT p (t.take (i + 1)) = t.take (i + 1) := delT_none fun j hj => hp j (by omega)
  have e1 : delT p t = t.take (i + 1) ++ delT (fun j => p (j + (i + 1))) (t.drop (i + 1)) := by
    conv => lhs; rw [split]
    rw [delT_append, l1, d1]
  have d2 : delT (fun j => decide (j = i) || p j) (t.take (i + 1)) = t.take i := by
    have s2 : t.take (i + 1) = t.take i ++ [t[i]] := List.take_succ_eq_append_getElem hi
    have l2 : (t.take i).length = i := by rw [List.length_take]; omega
    rw [s2, delT_snoc', l2, delT_none (fun j hj => by rw [l2] at hj; rw [hp j (by omega)]; simp; omega)]
    simp
  have e2 : delT (fun j => decide (j = i) || p j) t = t.take i ++ delT (fun j => p (j + (i + 1))) (t.drop (i + 1)) := by
    conv => lhs; rw [split]
    rw [delT_append, l1, d2]
    congr 1
    apply delT_congr
    intro j _
    have : ¬ j + (i + 1) = i := by omega
    simp [this]
  rw [e1, e2]
  have l3 : (t.take (i + 1) ++ delT (fun j => p (j + (i + 1))) (t.drop (i + 1))).take i = t.take i := by
    rw [List.take_append_of_le_length (by omega), List.take_take]; congr 1; omega
  have l4 : (t.take (i + 1) ++ delT (fun j => p (j + (i + 1))) (t.drop (i + 1))).drop (i + 1) = delT (fun j => p (j + (i + 1))) (t.drop (i + 1)) := by
    rw [List.drop_append, l1]; simp
  rw [l3, l4]
def lastG (cs : List Caret) : Nat := match cs.getLast? with
  | some c => c.1
  | none => 0
theorem lastG_snoc {cs : List Caret} {c : Caret} : lastG (cs ++ [c]) = c.1 := by unfold lastG; rw [List.getLast?_concat]
theorem lastG_ge {n : Nat} : ∀ {cs : List Caret} {d : Nat}, asc n d cs → ∀ c ∈ cs, c.1 ≤ lastG cs
  | [], _, _, c, hc => by cases hc
  | [x], _, _, c, hc => by rw [List.mem_singleton.mp hc]; exact Nat.le_refl _
  | x :: y :: r, d, h, c, hc => by
    have ih := lastG_ge h.2.2
    have e : lastG (x :: y :: r) = lastG (y :: r) := by unfold lastG; rw [List.getLast?_cons_cons]
    rw [e]
    rcases List.mem_cons.mp hc with rfl | hc
    · exact Nat.le_trans h.2.2.1 (ih y List.mem_cons_self)
    · exact ih c hc
theorem lastG_le {n : Nat} {cs : List Caret} (h : ∀ c ∈ cs, c.1 ≤ n) : lastG cs ≤ n := by
  unfold lastG
  split
  · rename_i c hc
    exact h c (List.mem_of_getLast? hc)
  · exact Nat.zero_le _
theorem joined_last (cs : List Caret) : lastG (joined cs).1 = lastG cs := by
  rcases List.eq_nil_or_concat cs with rfl | ⟨P, c, rfl⟩
  · rfl
  · rw [List.concat_eq_append, joined_snoc, lastG_snoc]
    generalize joined P = x
    obtain ⟨F, Q⟩ := x
    rcases List.eq_nil_or_concat F with rfl | ⟨G, l, rfl⟩
    · rfl
    · rw [List.concat_eq_append, joinStep_snoc]
      split
      · exact lastG_snoc
      · rw [show G ++ [l, c] = (G ++ [l]) ++ [c] by simp]; exact lastG_snoc
theorem joined_one : ∀ {cs : List Caret} {c : Caret}, (joined cs).1 = [c] → cs = [c] ∨ (2 ≤ cs.length ∧ c.2 = none)
  | [], c, h => by cases h
  | [x], c, h => by
    left
    have : (joined [x]).1 = [x] := rfl
    rw [this] at h
    exact h
  | x :: y :: r, c, h => by
    right
    refine ⟨by simp, ?_⟩
    have ne := joined_ne (cs := y :: r) (by simp)
    rw [joined_cons] at h
    generalize joined (y :: r) = z at h ne
    obtain ⟨F, P⟩ := z
    cases F with
    | nil => exact absurd rfl ne
    | cons f F =>
      unfold joinCons at h
      simp only at h
      split at h
      · injection h with h1 h2
        rw [← h1]
      · injection h with h1 h2
        cases h2
/-- what a caret that is left alone has in its hand -/
structure HandP (H : Option Nat) (cs : List Caret) : Prop where
  ne : cs ≠ []
  one : ∀ c, cs = [c] → c.2 = H
  two : 2 ≤ cs.length → H = none
theorem HandP.joined {H : Option Nat} {cs : List Caret} (h : HandP H cs) : HandP H (joined cs).1 := by
  refine ⟨joined_ne h.ne, fun c hc => ?_, fun h2 => h.two ?_⟩
  · rcases joined_one hc with e | ⟨e, q⟩
    · exact h.one c e
    · rw [q, h.two e]
  · have : (Mc.joined cs).1.length ≤ cs.length := by
      induction cs with
      | nil => exact Nat.le_refl _
      | cons c cs ih =>
        rw [joined_cons]
        by_cases hn : cs = []
        · subst hn; exact Nat.le_refl _
        · have ih' : (Mc.joined cs).1.length ≤ cs.length := by
            have gen : ∀ l : List Caret, (Mc.joined l).1.length ≤ l.length := by
              intro l
              induction l with
              | nil => exact Nat.le_refl _
              | cons x l ihl =>
                rw [joined_cons]
                generalize Mc.joined l = z at ihl
                obtain ⟨F, P⟩ := z
                cases F with
                | nil => simp [joinCons]
                | cons f F =>
                  unfold joinCons
                  simp only
                  split
                  · simpa using Nat.le_succ_of_le ihl
                  · simpa using ihl
            exact gen cs
          generalize Mc.joined cs = z at ih'
          obtain ⟨F, P⟩ := z
          cases F with
          | nil => simp [joinCons]
          | cons f F =>
            unfold joinCons
            simp only
            split
            · simpa using Nat.le_succ_of_le ih'
            · simpa using ih'
    omega
theorem HandP.map {H : Option Nat} {cs : List Caret} (h : HandP H cs) {f : Caret → Nat} : HandP H (cs.map fun c => (f c, c.2)) := by
  refine ⟨fun e => h.ne (List.map_eq_nil_iff.mp e), fun c hc => ?_, fun h2 => h.two (by simpa using h2)⟩
  match cs, hc with
  | [x], hc =>
    injection hc with h1 _
    rw [← h1]
    exact h.one x rfl
theorem one_zero {cs : List Caret} (hs : SA cs) (hz : ∀ c ∈ cs, c.1 = 0) {H : Option Nat} (h : HandP H cs) : cs = [(0, H)] := by
  match cs, hs, hz, h with
  | [], _, _, h => exact absurd rfl h.ne
  | [c], _, hz, h =>
    have h1 := hz c List.mem_cons_self
    have h2 := h.one c rfl
    rw [← h1, ← h2]
  | x :: y :: r, hs, hz, _ =>
    have := (List.pairwise_cons.mp hs).1 y List.mem_cons_self
    have := hz x List.mem_cons_self
    have := hz y (List.mem_cons_of_mem _ List.mem_cons_self)
    omega
theorem lefts {t : Tx} {H : Option Nat} : ∀ (m : Nat) (cs : List Caret), asc t.length 0 cs → SA cs → HandP H cs → (∀ c ∈ cs, c.1 ≤ m) → together (t, cs) (List.replicate m .left) = (t, [(0, H)])
  | 0, cs, _, hs, h, hm => by
    have := one_zero hs (fun c hc => Nat.le_zero.mp (hm c hc)) h
    rw [this]; rfl
  | m + 1, cs, ha, hs, h, hm => by
    have e : press (t, cs) .left = (t, (joined (cs.map fun c => (c.1 - 1, c.2))).1) := rfl
    show together (press (t, cs) .left) (List.replicate m .left) = _
    rw [e]
    have ha2 : asc t.length 0 (cs.map fun c => (c.1 - 1, c.2)) := afterKey_asc .left ha
    refine lefts m _ (joined_asc ha2) (joined_sa ha2) (h.map (f := fun c => c.1 - 1)).joined fun c hc => ?_
    obtain ⟨x, hx, e⟩ := (joined_mem _ c.1).mp ⟨c, hc, rfl⟩
    obtain ⟨y, hy, rfl⟩ := List.mem_map.mp hx
    have := hm y hy
    simp only at e
    omega
theorem back_step {t : Tx} {cs : List Caret} (ha : asc t.length 0 cs) (hne : cs ≠ []) : lastG (press (t, cs) .back).2 ≤ lastG cs - 1 ∧ (press (t, cs) .back).1.drop (lastG (press (t, cs) .back).2) = t.drop (lastG cs) := by
  have e : press (t, cs) .back = (delT (doomed 1 t.length cs) t, (joined (cs.map fun c => (c.1 - fewer (doomed 1 t.length cs) c.1, c.2))).1) := rfl
  rw [e]
  simp only [joined_last]
  rcases List.eq_nil_or_concat cs with rfl | ⟨P, c, rfl⟩
  · exact absurd rfl hne
  rw [List.concat_eq_append] at *
  have hc : c.1 ≤ t.length := (asc_mem ha c (by simp)).2
  have hl : ∀ x ∈ P ++ [c], x.1 ≤ c.1 := fun x hx => by
    have := lastG_ge ha x hx
    rwa [lastG_snoc] at this
  have dn : ∀ i, c.1 ≤ i → doomed 1 t.length (P ++ [c]) i = false := fun i hi => by
    unfold doomed
    rw [Bool.and_eq_false_iff]
    right
    rw [List.any_eq_false]
    intro x hx
    have := hl x hx
    simp; omega
  have d1 : 0 < c.1 → doomed 1 t.length (P ++ [c]) (c.1 - 1) = true := fun h0 => by
    unfold doomed
    rw [Bool.and_eq_true]
    refine ⟨by simp; omega, List.any_eq_true.mpr ⟨c, by simp, by simp; omega⟩⟩
  generalize doomed 1 t.length (P ++ [c]) = p at *
  rw [List.map_append, List.map_cons, List.map_nil, lastG_snoc, lastG_snoc]
  simp only
  constructor
  · rcases Nat.eq_zero_or_pos c.1 with h0 | h0
    · omega
    · have : fewer p c.1 = fewer p (c.1 - 1) + 1 := by
        have q := fewer_succ p (c.1 - 1)
        rw [show c.1 - 1 + 1 = c.1 by omega, d1 h0, if_pos rfl] at q
        exact q
      omega
  · have split : t = t.take c.1 ++ t.drop c.1 := (List.take_append_drop _ _).symm
    have l1 : (t.take c.1).length = c.1 := by rw [List.length_take]; omega
    have e1 : delT p t = delT p (t.take c.1) ++ t.drop c.1 := by
      conv => lhs; rw [split]
      rw [delT_append, l1, delT_none (p := fun i => p (i + c.1)) fun i _ => dn _ (by omega)]
    have l2 := delT_length p (t.take c.1)
    rw [l1] at l2
    rw [e1, List.drop_append, show c.1 - fewer p c.1 - (delT p (t.take c.1)).length = 0 by omega, List.drop_of_length_le (by omega)]
    rfl
theorem backs {H : Option Nat} : ∀ (m : Nat) (t : Tx) (cs : List Caret), asc t.length 0 cs → SA cs → HandP H cs → lastG cs ≤ m → together (t, cs) (List.replicate m .back) = (t.drop (lastG cs), [(0, H)])
  | 0, t, cs, ha, hs, h, hm => by
    have e0 : lastG cs = 0 := Nat.le_zero.mp hm
    have := one_zero hs (fun c hc => by have := lastG_ge ha c hc; omega) h
    rw [e0, this]; rfl
  | m + 1, t, cs, ha, hs, h, hm => by
    obtain ⟨b1, b2⟩ := back_step ha h.ne
    show together (press (t, cs) .back) (List.replicate m .back) = _
    rw [← b2]
    have ha2 : asc (press (t, cs) .back).1.length 0 (press (t, cs) .back).2 := press_asc .back ha
    have hs2 : SA (press (t, cs) .back).2 := joined_sa (afterKey_asc .back ha)
    have hp2 : HandP H (press (t, cs) .back).2 := (h.map (f := fun c => c.1 - fewer (doomed 1 t.length cs) c.1)).joined
    generalize press (t, cs) .back = y at *
    exact backs m y.1 y.2 ha2 hs2 hp2 (by omega)
theorem mirC_mirC {n : Nat} {cs : List Caret} (h : ∀ c ∈ cs, c.1 ≤ n) : mirC n (mirC n cs) = cs := by
  unfold mirC
  rw [← List.map_reverse, List.reverse_reverse, List.map_map]
  conv => rhs; rw [← List.map_id cs]
  apply List.map_congr_left
  intro c hc
  have := h c hc
  simp only [Function.comp, id]
  rw [show n - (n - c.1) = c.1 by omega]
theorem mir_sa {n : Nat} {cs : List Caret} (h : SA cs) (hn : ∀ c ∈ cs, c.1 ≤ n) : SA (mirC n cs) := by
  unfold SA mirC at *
  rw [List.pairwise_map, List.pairwise_reverse]
  refine List.Pairwise.imp_of_mem (fun {a b} ha hb hab => ?_) h
  have := hn a ha
  have := hn b hb
  simp only
  omega
theorem mir_hand {n : Nat} {H : Option Nat} {cs : List Caret} (h : HandP H cs) : HandP H (mirC n cs) := by
  refine ⟨fun e => h.ne ?_, fun c hc => ?_, fun h2 => h.two (by rwa [mirC_len] at h2)⟩
  · have := congrArg List.length e
    rw [mirC_len] at this
    exact List.length_eq_zero_iff.mp this
  · have hl : cs.length = 1 := by have := congrArg List.length hc; rwa [mirC_len] at this
    obtain ⟨x, rfl⟩ := List.length_eq_one_iff.mp hl
    have e : mirC n [x] = [(n - x.1, x.2)] := rfl
    rw [e] at hc
    injection hc with h1 _
    rw [← h1]
    exact h.one x rfl
theorem mir_of {t : Tx} {cs : List Caret} {row : List Key} (ha : asc t.length 0 cs) (hs : SA cs) : together (t, cs) (row.map mirK) = mirP (together (t.reverse, mirC t.length cs) row) := by
  have hn : ∀ c ∈ cs, c.1 ≤ t.length := fun c hc => (asc_mem ha c hc).2
  have sa := mir_sa hs hn
  have bd : ∀ c ∈ mirC t.length cs, c.1 ≤ t.length := fun c hc => by
    unfold mirC at hc
    obtain ⟨x, _, rfl⟩ := List.mem_map.mp hc
    show t.length - x.1 ≤ t.length
    omega
  have ha2 : asc t.reverse.length 0 (mirC t.length cs) := by rw [List.length_reverse]; exact sa.asc bd
  have e := together_mir row (x := (t.reverse, mirC t.length cs)) ha2
  have e2 : mirP (t.reverse, mirC t.length cs) = (t, cs) := by
    unfold mirP
    simp only [List.length_reverse, List.reverse_reverse]
    rw [mirC_mirC hn]
  rw [e2] at e
  exact e
theorem rights {t : Tx} {H : Option Nat} (m : Nat) {cs : List Caret} (ha : asc t.length 0 cs) (hs : SA cs) (h : HandP H cs) (hm : t.length ≤ m) : together (t, cs) (List.replicate m .right) = (t, [(t.length, H)]) := by
  have hn : ∀ c ∈ cs, c.1 ≤ t.length := fun c hc => (asc_mem ha c hc).2
  have sa := mir_sa hs hn
  have bd : ∀ c ∈ mirC t.length cs, c.1 ≤ t.length := fun c hc => by
    unfold mirC at hc
    obtain ⟨x, _, rfl⟩ := List.mem_map.mp hc
    show t.length - x.1 ≤ t.length
    omega
  have ha2 : asc t.reverse.length 0 (mirC t.length cs) := by rw [List.length_reverse]; exact sa.asc bd
  have e := mir_of (row := List.replicate m .left) ha hs
  rw [List.map_replicate] at e
  have e2 := lefts (t := t.reverse) m _ ha2 sa (mir_hand h) fun c hc => by have := bd c hc; omega
  rw [e2] at e
  show together (t, cs) (List.replicate m (mirK .left)) = _
  rw [e]
  unfold mirP mirC
  simp
/-- the first gap -/
def firstG (cs : List Caret) : Nat := match cs with
  | c :: _ => c.1
  | [] => 0
theorem dels {t : Tx} {H : Option Nat} (m : Nat) {cs : List Caret} (ha : asc t.length 0 cs) (hs : SA cs) (h : HandP H cs) (hm : t.length ≤ m) : together (t, cs) (List.replicate m .del) = (t.take (firstG cs), [(firstG cs, H)]) := by
  have hn : ∀ c ∈ cs, c.1 ≤ t.length := fun c hc => (asc_mem ha c hc).2
  have sa := mir_sa hs hn
  have bd : ∀ c ∈ mirC t.length cs, c.1 ≤ t.length := fun c hc => by
    unfold mirC at hc
    obtain ⟨x, _, rfl⟩ := List.mem_map.mp hc
    show t.length - x.1 ≤ t.length
    omega
  have ha2 : asc t.reverse.length 0 (mirC t.length cs) := by rw [List.length_reverse]; exact sa.asc bd
  have e := mir_of (row := List.replicate m .back) ha hs
  rw [List.map_replicate] at e
  have e2 := backs m t.reverse _ ha2 sa (mir_hand h) (Nat.le_trans (lastG_le bd) hm)
  rw [e2] at e
  show together (t, cs) (List.replicate m (mirK .back)) = _
  rw [e]
  match cs, h, hn with
  | [], h, _ => exact absurd rfl h.ne
  | c :: r, _, hn =>
    have h1 := hn c List.mem_cons_self
    have el : lastG (mirC t.length (c :: r)) = t.length - c.1 := by rw [mirC_cons, lastG_snoc]
    rw [el]
    unfold mirP mirC firstG
    simp only [List.reverse_cons, List.reverse_nil, List.nil_append, List.map_cons, List.map_nil, List.length_drop, List.length_reverse, List.drop_reverse, List.reverse_reverse]
    rw [show t.length - (t.length - c.1) = c.1 by omega]
    simp
    exact Nat.min_eq_left h1
end Mc

set_option linter.all false
set_option maxRecDepth 4000
set_option Elab.async false
set_option maxHeartbeats 1000000
namespace Mc
mutual
theorem plainZ_mono : ∀ {n m : Nat} {d : D}, n ≤ m → plainZ n d = true → plainZ m d = true
  | _, m, .non, _, _ => by cases m <;> rfl
  | _, m, .bl _, _, _ => by cases m <;> rfl
  | _, m, .int _, _, _ => by cases m <;> rfl
  | n, m, .str s, _, h => by cases n <;> cases m <;> simpa [plainZ] using h
  | n + 1, 0, .tup l, h, _ => by omega
  | n + 1, m + 1, .tup l, h, k => by rw [plainZ] at k ⊢; exact plainZL_mono (by omega) k
  | n + 1, 0, .lst l, h, _ => by omega
  | n + 1, m + 1, .lst l, h, k => by rw [plainZ] at k ⊢; exact plainZL_mono (by omega) k
  | n + 1, 0, .dic l, h, _ => by omega
  | n + 1, m + 1, .dic l, h, k => by
    rw [plainZ, Bool.and_eq_true] at k ⊢
    exact ⟨k.1, plainZK_mono (by omega) k.2⟩
  | 0, _, .tup _, _, h => by simp [plainZ] at h
  | 0, _, .lst _, _, h => by simp [plainZ] at h
  | 0, _, .dic _, _, h => by simp [plainZ] at h
  | n, _, .rng _ _, _, h => by simp [plainZ] at h
  | n, _, .own _, _, h => by simp [plainZ] at h
  | n, _, .scr _, _, h => by simp [plainZ] at h
theorem plainZL_mono : ∀ {n m : Nat} {l : List D}, n ≤ m → plainZL n l = true → plainZL m l = true
  | _, _, [], _, _ => by rw [plainZL]
  | n, m, d :: l, h, k => by
    rw [plainZL, Bool.and_eq_true] at k ⊢
    exact ⟨plainZ_mono h k.1, plainZL_mono h k.2⟩
theorem plainZK_mono : ∀ {n m : Nat} {l : List (D × D)}, n ≤ m → plainZK n l = true → plainZK m l = true
  | _, _, [], _, _ => by rw [plainZK]
  | n, m, (a, d) :: l, h, k => by
    rw [plainZK, Bool.and_eq_true, Bool.and_eq_true] at k ⊢
    exact ⟨⟨k.1.1, plainZ_mono h k.1.2⟩, plainZK_mono h k.2⟩
end
mutual
theorem belowZ {b : Nat} : ∀ {n : Nat} {d : D}, plainZ n d = true → below b d = true
  | _, .non, _ => rfl
  | _, .bl _, _ => rfl
  | _, .int _, _ => rfl
  | _, .str s, _ => rfl
  | n + 1, .tup l, k => by rw [plainZ] at k; rw [below]; exact belowZL k
  | n + 1, .lst l, k => by rw [plainZ] at k; rw [below]; exact belowZL k
  | n + 1, .dic l, k => by rw [plainZ, Bool.and_eq_true] at k; rw [below]; exact belowZK k.2
  | 0, .tup _, h => by simp [plainZ] at h
  | 0, .lst _, h => by simp [plainZ] at h
  | 0, .dic _, h => by simp [plainZ] at h
  | n, .rng _ _, h => by simp [plainZ] at h
  | n, .own _, h => by simp [plainZ] at h
  | n, .scr _, h => by simp [plainZ] at h
theorem belowZL {b : Nat} : ∀ {n : Nat} {l : List D}, plainZL n l = true → belowL b l = true
  | _, [], _ => rfl
  | n, d :: l, k => by
    rw [plainZL, Bool.and_eq_true] at k
    rw [belowL, belowZ k.1, belowZL k.2]; rfl
theorem belowZK {b : Nat} : ∀ {n : Nat} {l : List (D × D)}, plainZK n l = true → belowK b l = true
  | _, [], _ => rfl
  | n, (a, d) :: l, k => by
    rw [plainZK, Bool.and_eq_true, Bool.and_eq_true] at k
    rw [belowK, belowZ k.1.1, belowZ k.1.2, belowZK k.2]; rfl
end
mutual
theorem frz_z {st : Sto} {b : Nat} : ∀ {n k : Nat} {d : D}, n ≤ k → plainZ n d = true → frz st b k d = some d
  | _, _, .non, _, _ => by simp only [frz]
  | _, _, .bl _, _, _ => by simp only [frz]
  | _, _, .int _, _, _ => by simp only [frz]
  | _, _, .str s, _, _ => by simp only [frz]
  | n + 1, 0, .tup l, h, _ => by omega
  | n + 1, k + 1, .tup l, h, z => by rw [plainZ] at z; simp only [frz, frzL_z (show n ≤ k by omega) z, Option.map_some]
  | n + 1, 0, .lst l, h, _ => by omega
  | n + 1, k + 1, .lst l, h, z => by rw [plainZ] at z; simp only [frz, frzL_z (show n ≤ k by omega) z, Option.map_some]
  | n + 1, k, .dic l, h, z => by
    rw [plainZ, Bool.and_eq_true] at z
    simp only [frz, belowZK z.2, if_true]
  | 0, _, .tup _, _, h => by simp [plainZ] at h
  | 0, _, .lst _, _, h => by simp [plainZ] at h
  | 0, _, .dic _, _, h => by simp [plainZ] at h
  | n, _, .rng _ _, _, h => by simp [plainZ] at h
  | n, _, .own _, _, h => by simp [plainZ] at h
  | n, _, .scr _, _, h => by simp [plainZ] at h
theorem frzL_z {st : Sto} {b : Nat} : ∀ {n k : Nat} {l : List D}, n ≤ k → plainZL n l = true → frzL st b k l = some l
  | _, _, [], _, _ => by simp only [frzL]
  | n, k, d :: l, h, z => by
    rw [plainZL, Bool.and_eq_true] at z
    simp only [frzL, frz_z h z.1, frzL_z h z.2, Option.bind_some, Option.map_some]
end
theorem pop_z {st cs : Sto} {v : D} {n : Nat} (h : plainZ n v = true) (hn : n ≤ 60) : popD st.length v (st ++ cs) = some (v, st) := by
  simp only [popD, frz_z hn h, Option.map_some]
  split
  · rename_i h
    have : cs = [] := by simpa using h
    simp [this]
  · simp
mutual
/-- a size; a sign counts one -/
def sz : D → Nat
  | .non => 4
  | .bl _ => 5
  | .int i => i.natAbs.log2 + 2
  | .str s => s.length + 2
  | .tup l => szL l + 3
  | .lst l => szL l + 3
  | .dic l => szK l + 3
  | _ => 0
def szL : List D → Nat
  | [] => 0
  | d :: r => sz d + 2 + szL r
def szK : List (D × D) → Nat
  | [] => 0
  | (k, d) :: r => sz k + sz d + 4 + szK r
end
mutual
theorem wt_sz : ∀ d : D, wt d ≤ 12 * sz d
  | .non => by simp [wt, sz]
  | .bl _ => by simp [wt, sz]
  | .int i => by simp only [wt, sz]; omega
  | .str s => by simp only [wt, sz]; omega
  | .tup l => by have := wtL_sz l; simp only [wt, sz]; omega
  | .lst l => by have := wtL_sz l; simp only [wt, sz]; omega
  | .dic l => by have := wtK_sz l; simp only [wt, sz]; omega
  | .rng _ _ => by simp [wt]
  | .own _ => by simp [wt]
  | .scr _ => by simp [wt]
theorem wtL_sz : ∀ l : List D, wtL l ≤ 12 * szL l
  | [] => by simp [wtL, szL]
  | d :: r => by have := wt_sz d; have := wtL_sz r; simp only [wtL, szL]; omega
theorem wtK_sz : ∀ l : List (D × D), wtK l ≤ 12 * szK l
  | [] => by simp [wtK, szK]
  | (k, d) :: r => by have := wt_sz k; have := wt_sz d; have := wtK_sz r; simp only [wtK, szK]; omega
end
structure Zv (n m : Nat) (d : D) : Prop where
  pl : plainZ n d = true
  sh : (toPy d).showable = true
  wt : Mc.sz d ≤ m
structure ZvL (n m : Nat) (l : List D) : Prop where
  pl : ∀ d ∈ l, plainZ n d = true
  sh : ∀ d ∈ l, (toPy d).showable = true
  wt : szL l ≤ m
theorem plainZL_all {n : Nat} : ∀ {l : List D}, plainZL n l = true ↔ ∀ d ∈ l, plainZ n d = true
  | [] => by simp [plainZL]
  | d :: l => by rw [plainZL, Bool.and_eq_true, plainZL_all, List.forall_mem_cons]
theorem showL_iff : ∀ {l : List D}, PySem.PyData.showableAll (toPyL l) = true ↔ ∀ d ∈ l, (toPy d).showable = true
  | [] => by simp [toPyL, PySem.PyData.showableAll]
  | d :: l => by rw [toPyL, PySem.PyData.showableAll, Bool.and_eq_true, showL_iff, List.forall_mem_cons]
theorem szL_app : ∀ {a b : List D}, szL (a ++ b) = szL a + szL b
  | [], b => by simp [szL]
  | d :: a, b => by rw [List.cons_append, szL, szL, szL_app]; omega
theorem szL_mem {d : D} : ∀ {l : List D}, d ∈ l → sz d + 2 ≤ szL l
  | a :: l, h => by
    rw [szL]
    rcases List.mem_cons.mp h with rfl | h
    · omega
    · have := szL_mem h; omega
theorem szL_rev : ∀ {l : List D}, szL l.reverse = szL l
  | [] => rfl
  | d :: l => by rw [List.reverse_cons, szL_app, szL_rev, szL, szL, szL]; omega
theorem szL_len : ∀ {l : List D}, 2 * l.length ≤ szL l
  | [] => by simp
  | d :: l => by
    have := szL_len (l := l)
    rw [szL, List.length_cons]; omega
section
variable {n m n' m' : Nat} {d : D} {l l' : List D}
theorem Zv.mono (h : Zv n m d) (hn : n ≤ n') (hm : m ≤ m') : Zv n' m' d := ⟨plainZ_mono hn h.pl, h.sh, Nat.le_trans h.wt hm⟩
theorem ZvL.mono (h : ZvL n m l) (hn : n ≤ n') (hm : m ≤ m') : ZvL n' m' l := ⟨fun d hd => plainZ_mono hn (h.pl d hd), h.sh, Nat.le_trans h.wt hm⟩
theorem ZvL.nil : ZvL n m [] := ⟨by simp, by simp, by simp [szL]⟩
theorem ZvL.one (h : Zv n m d) : ZvL n (m + 2) [d] := ⟨by simpa using h.pl, by simpa using h.sh, by have := h.wt; simp [szL]; omega⟩
theorem ZvL.app (h : ZvL n m l) (h' : ZvL n m' l') : ZvL n (m + m') (l ++ l') := ⟨fun d hd => (List.mem_append.mp hd).elim (h.pl d) (h'.pl d), fun d hd => (List.mem_append.mp hd).elim (h.sh d) (h'.sh d), by
  rw [szL_app]; have := h.wt; have := h'.wt; omega⟩
theorem ZvL.cons (h : Zv n m d) (h' : ZvL n m' l) : ZvL n (m + 2 + m') (d :: l) := (ZvL.one h).app h'
theorem ZvL.left {a b : List D} (h : ZvL n m (a ++ b)) : ZvL n m a := ⟨fun d hd => h.pl d (List.mem_append_left _ hd), fun d hd => h.sh d (List.mem_append_left _ hd), by have := h.wt; rw [szL_app] at this; omega⟩
theorem ZvL.right {a b : List D} (h : ZvL n m (a ++ b)) : ZvL n m b := ⟨fun d hd => h.pl d (List.mem_append_right _ hd), fun d hd => h.sh d (List.mem_append_right _ hd), by have := h.wt; rw [szL_app] at this; omega⟩
theorem ZvL.take (h : ZvL n m l) (i : Nat) : ZvL n m (l.take i) := by rw [← List.take_append_drop i l] at h; exact h.left
theorem ZvL.drop (h : ZvL n m l) (i : Nat) : ZvL n m (l.drop i) := by rw [← List.take_append_drop i l] at h; exact h.right
theorem ZvL.rev (h : ZvL n m l) : ZvL n m l.reverse := ⟨fun d hd => h.pl d (List.mem_reverse.mp hd), fun d hd => h.sh d (List.mem_reverse.mp hd), by rw [szL_rev]; exact h.wt⟩
theorem ZvL.cut {lo hi : Option Int} (h : ZvL n m l) : ZvL n m (Mc.cut l lo hi) := (h.drop _).take _
theorem ZvL.at (h : ZvL n m l) (hd : d ∈ l) : Zv n m d := ⟨h.pl d hd, h.sh d hd, by have := szL_mem hd; have := h.wt; omega⟩
theorem Zv.tup_ (h : ZvL n m l) : Zv (n + 1) (m + 3) (.tup l) := ⟨by rw [plainZ, plainZL_all]; exact h.pl, by simp only [toPy, PySem.PyData.showable]; exact showL_iff.mpr h.sh, by rw [Mc.sz]; have := h.wt; omega⟩
theorem Zv.lst_ (h : ZvL n m l) : Zv (n + 1) (m + 3) (.lst l) := ⟨by rw [plainZ, plainZL_all]; exact h.pl, by simp only [toPy, PySem.PyData.showable]; exact showL_iff.mpr h.sh, by rw [Mc.sz]; have := h.wt; omega⟩
theorem Zv.of_tup (h : Zv (n + 1) m (.tup l)) : ZvL n m l := ⟨by have := h.pl; rw [plainZ, plainZL_all] at this; exact this, by have := h.sh; simp only [toPy, PySem.PyData.showable] at this; exact showL_iff.mp this, by have := h.wt; rw [Mc.sz] at this; omega⟩
theorem Zv.dic0 : Zv (n + 1) 3 (.dic []) := ⟨rfl, rfl, by simp [Mc.sz, szK]⟩
theorem Zv.non_ : Zv n 4 .non := ⟨by cases n <;> rfl, rfl, by simp [Mc.sz]⟩
theorem Zv.bl_ {b : Bool} : Zv n 5 (.bl b) := ⟨by cases n <;> rfl, rfl, by simp [Mc.sz]⟩
theorem Zv.int_ {i : Int} {k : Nat} (h : i.natAbs.log2 ≤ k) (hk : k < 1900) : Zv n (k + 2) (.int i) := ⟨by cases n <;> rfl, by simp [toPy, PySem.PyData.showable]; omega, by rw [Mc.sz]; omega⟩
theorem Zv.str_ {s : Tx} (h : ∀ c ∈ s, c < 1114112) : Zv n (s.length + 2) (.str s) := ⟨by cases n <;> simpa [plainZ] using h, by simp [toPy, PySem.PyData.showable], by rw [Mc.sz]; omega⟩
theorem log2_le {a k : Nat} (h : a < 2 ^ (k + 1)) : a.log2 ≤ k := by
  by_cases h0 : a = 0
  · subst h0; simp
  · have := (Nat.log2_lt h0).mpr h; omega
theorem Zv.repr (h : Zv n m d) (hn : n ≤ 60) (hm : m ≤ 80000) (c : Bool) (st : Sto) : bltE .repr c [d] st = some (.str (shown d), st) := by
  have h1 : plainZ 60 d = true := plainZ_mono hn h.pl
  have h2 : showOk d = true := by unfold showOk; rw [h.sh, Bool.true_and, decide_eq_true_eq]; have := h.wt; have := wt_sz d; omega
  have two : ∀ (a : Bool) (x : Option (D × Sto)), (if (a && showOk d) = true then x else if (plainZ 60 d && showOk d) = true then x else none) = x := fun a x => by
    rw [h1, h2]; cases a <;> rfl
  cases d with
  | tup l => exact two (plain 60 (.tup l)) _
  | lst l => exact two (plain 60 (.lst l)) _
  | dic l => exact if_pos (by rw [h1, h2]; rfl)
  | str s => exact if_pos (by rw [h2, Bool.and_true]; simpa [plainZ, plain] using h1)
  | int i => exact if_pos h2
  | bl b => rfl
  | non => rfl
  | _ => simp [plainZ] at h1
end
theorem eqz_tup {l : List D} {st : Sto} : cmpE .eq (.tup l) (.tup []) st = some l.isEmpty := by
  show (if plain 60 (.tup l) && plain 60 (.tup []) then some (eqv (.tup l) (.tup [])) else eqE.eqN (.tup l) (.tup []) st) = _
  split
  · cases l <;> simp [eqv, eqvL]
  · rfl
theorem eqz_lst {l : List D} {st : Sto} : cmpE .eq (.lst l) (.lst []) st = some l.isEmpty := by
  show (if plain 60 (.lst l) && plain 60 (.lst []) then some (eqv (.lst l) (.lst [])) else eqE.eqN (.lst l) (.lst []) st) = _
  split
  · cases l <;> simp [eqv, eqvL]
  · rfl
theorem ty_int {i : Int} {st : Sto} : tyOf st (.int i) = some .int := rfl
theorem ty_bl {i : Bool} {st : Sto} : tyOf st (.bl i) = some .bool := rfl
theorem ty_non {st : Sto} : tyOf st .non = some .nonT := rfl
theorem ty_lst {l : List D} {st : Sto} : tyOf st (.lst l) = some .list := rfl
theorem ty_dic {l : List (D × D)} {st : Sto} : tyOf st (.dic l) = some .dict := rfl
def isNon : D → Bool
  | .non => true
  | _ => false
theorem isz {d : D} {st : Sto} : cmpE .is d .non st = some (isNon d) := by cases d <;> rfl
theorem isnz {d : D} {st : Sto} : cmpE .isn d .non st = some (!isNon d) := by cases d <;> rfl
theorem trus_map {α : Type} (f : α → Bool) : ∀ l : List α, trus (l.map fun a => .bl (f a)) = some (l.map f)
  | [] => rfl
  | a :: l => by rw [List.map_cons, trus, trus_map f l]; rfl
theorem all_id {α : Type} (f : α → Bool) (l : List α) : (l.map f).all id = l.all f := by rw [List.all_map]; rfl
mutual
theorem same_z : ∀ {n : Nat} {d : D}, plainZ n d = true → same d d = true
  | _, .non, _ => rfl
  | _, .bl b, _ => by cases b <;> rfl
  | _, .int i, _ => by simp [same]
  | _, .str s, _ => by simp [same]
  | n + 1, .tup l, k => by rw [plainZ] at k; rw [same]; exact sameL_z k
  | n + 1, .lst l, k => by rw [plainZ] at k; rw [same]; exact sameL_z k
  | n + 1, .dic l, k => by rw [plainZ, Bool.and_eq_true] at k; rw [same]; exact sameK_z k.2
  | 0, .tup _, h => by simp [plainZ] at h
  | 0, .lst _, h => by simp [plainZ] at h
  | 0, .dic _, h => by simp [plainZ] at h
  | n, .rng _ _, h => by simp [plainZ] at h
  | n, .own _, h => by simp [plainZ] at h
  | n, .scr _, h => by simp [plainZ] at h
theorem sameL_z : ∀ {n : Nat} {l : List D}, plainZL n l = true → sameL l l = true
  | _, [], _ => rfl
  | n, d :: l, k => by
    rw [plainZL, Bool.and_eq_true] at k
    rw [sameL, same_z k.1, sameL_z k.2]; rfl
theorem sameK_z : ∀ {n : Nat} {l : List (D × D)}, plainZK n l = true → sameK l l = true
  | _, [], _ => rfl
  | n, (a, d) :: l, k => by
    rw [plainZK, Bool.and_eq_true, Bool.and_eq_true] at k
    rw [sameK, same_z k.1.1, same_z k.1.2, sameK_z k.2]; rfl
end
theorem cps_ok (s : String) : ∀ c ∈ (PySem.Str.ofString s).cps.toList, c < 1114112 := by
  intro c hc
  rw [PySem.Str.ofString_eq_toList] at hc
  obtain ⟨x, _, rfl⟩ := List.mem_map.mp hc
  have := x.valid
  show x.val.toNat < 1114112
  rcases this with h | ⟨h1, h2⟩
  · omega
  · omega
theorem Zv.shown_int {n m k : Nat} {i : Int} (h : Zv n m (.int i)) (hm : m ≤ k) : Zv 0 (k + 4) (.str (shown (.int i))) := by
  have e : shown (.int i) = (PySem.Str.ofString (toString i)).cps.toList := by
    unfold shown
    simp only [toPy, PySem.PyData.shown]
  have hl : (shown (.int i)).length ≤ k + 2 := by
    have hw := h.wt
    rw [Mc.sz] at hw
    have h1 := PySem.int_text_length_le (a := i) (k := i.natAbs.log2 + 1) (by omega) (by omega)
    have h2 := PySem.ofString_length (toString i)
    have h3 : (PySem.Str.ofString (toString i)).cps.toList.length = (PySem.Str.ofString (toString i)).length := by first | rfl | simp [PySem.Str.length]
    rw [e, h3, h2]; omega
  exact (Zv.str_ (n := 0) (by rw [e]; exact cps_ok _)).mono (Nat.le_refl 0) (by omega)
theorem Zv.shown_bl {b : Bool} : Zv 0 7 (.str (shown (.bl b))) := by
  have e : shown (.bl b) = (PySem.Str.ofString (if b = true then "True" else "False")).cps.toList := by
    unfold shown
    cases b <;> simp [toPy, PySem.PyData.shown]
  have hl : (shown (.bl b)).length ≤ 5 := by
    have h2 := PySem.ofString_length (if b = true then "True" else "False")
    have h3 : (PySem.Str.ofString (if b = true then "True" else "False")).cps.toList.length = (PySem.Str.ofString (if b = true then "True" else "False")).length := by first | rfl | simp [PySem.Str.length]
    rw [e, h3, h2]
    cases b <;> decide
  exact (Zv.str_ (n := 0) (by rw [e]; exact cps_ok _)).mono (Nat.le_refl 0) (by omega)
theorem log_add (a b : Int) (h : b.natAbs ≤ 1) : (a + b).natAbs.log2 ≤ a.natAbs.log2 + 1 := by
  refine log2_le ?_
  have h1 : a.natAbs < 2 ^ (a.natAbs.log2 + 1) := Nat.lt_log2_self
  have h2 : 2 ^ (a.natAbs.log2 + 1 + 1) = 2 * 2 ^ (a.natAbs.log2 + 1) := by rw [Nat.pow_succ]; omega
  have h3 : 1 ≤ 2 ^ (a.natAbs.log2 + 1) := Nat.one_le_two_pow
  have h4 : (a + b).natAbs ≤ a.natAbs + b.natAbs := Int.natAbs_add_le a b
  omega
theorem Zv.int_add {n m k : Nat} {i j : Int} (h : Zv n m (.int i)) (hm : m ≤ 1800) (hj : j.natAbs ≤ 1) : Zv k (m + 1) (.int (i + j)) := by
  have hw := h.wt
  rw [Mc.sz] at hw
  have := log_add i j hj
  exact (Zv.int_ (n := k) this (by omega)).mono (Nat.le_refl _) (by omega)
theorem Zv.int_neg {n m k : Nat} {i : Int} (h : Zv n m (.int i)) (hm : m ≤ 1800) : Zv k m (.int (0 - i)) := by
  have hw := h.wt
  rw [Mc.sz] at hw
  have e : (0 - i).natAbs = i.natAbs := by omega
  exact (Zv.int_ (n := k) (k := i.natAbs.log2) (by rw [e]; omega) (by omega)).mono (Nat.le_refl _) hw
/-- such a value, as a Bool -/
def zvB (n m : Nat) (d : D) : Bool := plainZ n d && ((toPy d).showable && decide (sz d ≤ m))
theorem zv_of {n m : Nat} {d : D} (h : zvB n m d = true) : Zv n m d := by
  simp only [zvB, Bool.and_eq_true, decide_eq_true_eq] at h
  exact ⟨h.1, h.2.1, h.2.2⟩
theorem zvs_of {n m : Nat} {l : List D} (h : l.all (zvB n m) = true) : ∀ d ∈ l, Zv n m d := fun d hd => zv_of (List.all_eq_true.mp h d hd)
theorem add_bl {k c : Bool} {j : Int} {st : Sto} : binE .add c (.bl k) (.int j) st = some (.int (b2I k + j), st) := rfl
theorem sub_bl {k c : Bool} {j : Int} {st : Sto} : binE .sub c (.bl k) (.int j) st = some (.int (b2I k - j), st) := rfl
theorem subi_bl {k c : Bool} {j : Int} {st : Sto} : binE .sub c (.int j) (.bl k) st = some (.int (j - b2I k), st) := rfl
theorem strB_bl {k c : Bool} {st : Sto} : bltE .str c [.bl k] st = some (.str (shown (.bl k)), st) := rfl
theorem strB_int {i : Int} {c : Bool} {st : Sto} (h : showOk (.int i) = true) : bltE .str c [.int i] st = some (.str (shown (.int i)), st) := if_pos h
theorem Zv.strB {n m : Nat} {i : Int} (h : Zv n m (.int i)) (hm : m ≤ 80000) (c : Bool) (st : Sto) : bltE .str c [.int i] st = some (.str (shown (.int i)), st) := strB_int (by
  unfold showOk; rw [h.sh, Bool.true_and, decide_eq_true_eq]; have := h.wt; have := wt_sz (.int i); omega)
theorem mul2_lst {l : List D} {st : Sto} (h : l.length ≤ 1000) : binE .mul false (.lst l) (.int 2) st = some (.lst (l ++ l), st) := by
  have e : rep 2 l = l ++ l := by unfold rep; show (List.replicate 2 l).flatten = _; simp [List.replicate]
  show (if _ then some (mkL false (rep 2 l) st) else none) = _
  rw [if_pos ⟨by omega, by omega, by show l.length * 2 ≤ line; rw [line_val]; omega⟩, e]; rfl
theorem blt_listT {l : List D} {c : Bool} {st : Sto} : bltE .list c [.tup l] st = some (mkL c l st) := rfl
end Mc

set_option linter.all false
set_option maxRecDepth 100000
set_option Elab.async false
set_option maxHeartbeats 0
namespace Inst
open Mc
def b_is_integer : SL := (.cons (.ret (.and (.isi (.var 0) .int) (.nt (.isi (.var 0) .bool)))) .nil)
def b_is_state : SL := (.cons (.ret (.and (.call 0 (.cons (.var 0) .nil) .nil) (.cmp (.cst (.int 0)) (.cons .le (.var 0) (.one .lt (.var 1)))))) .nil)
def b_is_state_pair : SL := (.cons (.iff (.or (.nt (.ex (.isi (.var 0) .tuple))) (.or (.cmp (.blt .len (.cons (.var 0) .nil) false) (.one .ne (.glb 0))) (.nt (.ex (.call 1 (.cons (.idx (.var 0) (.cst (.int 0))) (.cons (.var 1) .nil)) .nil))))) (.cons (.ret (.cst (.bl false))) .nil) .nil) (.cons (.ret (.or (.cmp (.idx (.var 0) (.cst (.int 1))) (.one .is (.cst .non))) (.call 1 (.cons (.idx (.var 0) (.cst (.int 1))) (.cons (.var 1) .nil)) .nil))) .nil))
def b_is_rule : SL := (.cons (.iff (.or (.nt (.ex (.isi (.var 0) .tuple))) (.or (.cmp (.var 0) (.one .eq (.tup .nil))) (.nt (.ex (.blt .all (.cons (.lc (.name 3) (.ex (.var 0)) .nil (.call 2 (.cons (.var 3) (.cons (.blt .len (.cons (.var 0) .nil) false) .nil)) .nil) [3] false) .nil) false))))) (.cons (.ret (.cst (.bl false))) .nil) .nil) (.cons (.ret (.blt .all (.cons (.lc (.tup (.cons (.name 1) (.cons (.name 2) .nil))) (.ex (.var 0)) .nil (.or (.cmp (.var 2) (.one .is (.cst .non))) (.cmp (.idx (.idx (.var 0) (.var 2)) (.cst (.int 1))) (.one .is (.cst .non)))) [1, 2] false) .nil) false)) .nil))
def b__law_source : SL := (.cons (.asg (.tup (.cons (.name 1) (.cons (.name 2) .nil))) (.tup (.cons (.rev (.blt .list (.cons (.slc (.var 0) .no (.yes (.cst (.int 63))) true) .nil) true) true) (.cons (.cst (.int 51407)) .nil)))) (.cons (.for_ (.name 3) (.ex (.var 1)) (.cons (.asg (.name 2) (.bin .mod (.bin .add (.bin .add (.bin .mul (.var 2) (.cst (.int 40692)) true) (.bin .mod (.var 3) (.cst (.int 2147483579)) true) true) (.cst (.int 37)) true) (.cst (.int 2147483629)) true)) .nil)) (.cons (.ret (.dic (.cons (.cst (.str [112,105,108,101])) (.var 1) (.cons (.cst (.str [109,105,120,101,100])) (.var 2) (.cons (.cst (.str [100,114,97,119,115])) (.cst (.int 0)) .nil))) true)) .nil)))
def b__law_draw : SL := (.cons (.asg (.tup (.cons (.name 2) (.cons (.name 3) .nil))) (.tup (.cons (.bin .add (.idx (.var 0) (.cst (.str [100,114,97,119,115]))) (.cst (.int 1)) false) (.cons (.cst (.int 0)) .nil)))) (.cons (.asg (.sub (.var 0) (.cst (.str [100,114,97,119,115]))) (.var 2)) (.cons (.iff (.cmp (.idx (.var 0) (.cst (.str [112,105,108,101]))) (.one .ne (.lst .nil false))) (.cons (.asg (.name 3) (.met .pop0 (.idx (.var 0) (.cst (.str [112,105,108,101]))) .nil)) (.cons (.iff (.cmp (.var 3) (.one .ge (.bin .pow (.cst (.int 10)) (.cst (.int 18)) false))) (.cons (.ex (.met .append (.idx (.var 0) (.cst (.str [112,105,108,101]))) (.cons (.bin .fdv (.var 3) (.var 1) false) .nil))) (.cons (.ret (.bin .mod (.var 3) (.var 1) false)) .nil)) .nil) .nil)) .nil) (.cons (.asg (.name 4) (.bin .add (.bin .add (.idx (.var 0) (.cst (.str [109,105,120,101,100]))) (.bin .mod (.var 3) (.cst (.int 2147483587)) false) false) (.bin .mul (.bin .mul (.cst (.int 81931)) (.var 2) false) (.var 2) false) false)) (.cons (.asg (.name 4) (.bin .mod (.bin .mul (.var 4) (.cst (.int 69621)) false) (.cst (.int 2147483647)) false)) (.cons (.asg (.name 4) (.bin .mod (.bin .add (.bin .add (.bin .mul (.var 4) (.var 4) false) (.bin .mul (.cst (.int 39119)) (.var 2) false) false) (.cst (.int 17)) false) (.cst (.int 2147483563)) false)) (.cons (.ret (.bin .mod (.bin .fdv (.bin .mod (.bin .mul (.var 4) (.bin .add (.bin .fdv (.var 4) (.cst (.int 11)) false) (.cst (.int 40014)) false) false) (.cst (.int 2147483629)) false) (.cst (.int 64)) false) (.var 1) false)) .nil)))))))
def b__law_choose : SL := (.cons (.ret (.idx (.var 1) (.call 3 (.cons (.var 0) (.cons (.blt .len (.cons (.var 1) .nil) false) .nil)) .nil))) .nil)
def b__law_states : SL := (.cons (.asg (.name 2) (.bin .add (.cst (.int 1)) (.call 3 (.cons (.var 0) (.cons (.var 1) .nil)) .nil) false)) (.cons (.asg (.name 3) (.lc (.name 4) (.rng (.cons (.var 2) .nil)) .nil (.lst (.cons (.call 3 (.cons (.var 0) (.cons (.var 2) .nil)) .nil) (.cons (.call 4 (.cons (.var 0) (.cons (.lst (.cons (.cst .non) (.cons (.call 3 (.cons (.var 0) (.cons (.var 2) .nil)) .nil) .nil)) false) .nil)) .nil) .nil)) true) [4] true)) (.cons (.for_ (.name 4) (.rng (.cons (.var 2) .nil)) (.cons (.iff (.cmp (.idx (.idx (.var 3) (.var 4)) (.cst (.int 1))) (.one .isn (.cst .non))) (.cons (.asg (.sub (.idx (.var 3) (.idx (.idx (.var 3) (.var 4)) (.cst (.int 1)))) (.cst (.int 1))) (.cst .non)) .nil) .nil) .nil)) (.cons (.for_ (.name 5) (.ex (.var 3)) (.cons (.iff (.and (.cmp (.idx (.var 5) (.cst (.int 1))) (.one .isn (.cst .non))) (.cmp (.idx (.idx (.var 3) (.idx (.var 5) (.cst (.int 1)))) (.cst (.int 1))) (.one .isn (.cst .non)))) (.cons (.asg (.sub (.var 5) (.cst (.int 1))) (.cst .non)) .nil) .nil) .nil)) (.cons (.ret (.blt .tuple (.cons (.lc (.name 5) (.ex (.var 3)) .nil (.blt .tuple (.cons (.var 5) .nil) false) [5] false) .nil) false)) .nil)))))
def b__law_is_one : SL := (.cons (.iff (.or (.nt (.ex (.isi (.var 0) .tuple))) (.cmp (.var 0) (.one .eq (.tup .nil)))) (.cons (.ret (.cst (.bl false))) .nil) .nil) (.cons (.for_ (.name 1) (.ex (.var 0)) (.cons (.iff (.or (.nt (.ex (.isi (.var 1) .tuple))) (.cmp (.blt .len (.cons (.var 1) .nil) false) (.one .ne (.cst (.int 2))))) (.cons (.ret (.cst (.bl false))) .nil) .nil) (.cons (.for_ (.tup (.cons (.name 2) (.cons (.name 3) .nil))) (.enu (.var 1)) (.cons (.iff (.and (.cmp (.var 2) (.one .eq (.cst (.int 1)))) (.cmp (.var 3) (.one .is (.cst .non)))) (.cons (.cnt) .nil) .nil) (.cons (.iff (.or (.nt (.ex (.isi (.var 3) .int))) (.or (.ex (.isi (.var 3) .bool)) (.nt (.cmp (.cst (.int 0)) (.cons .le (.var 3) (.one .lt (.blt .len (.cons (.var 0) .nil) false))))))) (.cons (.ret (.cst (.bl false))) .nil) .nil) .nil))) .nil))) (.cons (.ret (.cmp (.lc (.name 1) (.ex (.var 0)) (.cons (.and (.cmp (.idx (.var 1) (.cst (.int 1))) (.one .isn (.cst .non))) (.cmp (.idx (.idx (.var 0) (.idx (.var 1) (.cst (.int 1)))) (.cst (.int 1))) (.one .isn (.cst .non)))) .nil) (.cst (.int 1)) [1] false) (.one .eq (.lst .nil false)))) .nil)))
def b__law_other : SL := (.cons (.asg (.name 2) (.lst (.cons (.cst .non) (.cons (.cst (.bl true)) (.cons (.cst (.bl false)) (.cons (.cst (.int 0)) (.cons (.cst (.int 1)) (.cons (.cst (.int 2)) (.cons (.neg (.cst (.int 1))) (.cons (.bin .pow (.cst (.int 10)) (.cst (.int 39)) false) (.cons (.cst (.str [])) (.cons (.cst (.str [48])) (.cons (.tup .nil) (.cons (.tup (.cons (.cst (.int 0)) .nil)) (.cons (.lst .nil false) (.cons (.dic .nil false) (.cons (.tup (.cons (.var 1) .nil)) (.cons (.lst (.cons (.var 1) .nil) false) (.cons (.tup (.cons (.cst (.int 0)) (.cons (.cst (.int 1)) .nil))) (.cons (.tup (.cons (.cst (.int 0)) (.cons (.cst .non) .nil))) .nil)))))))))))))))))) false)) (.cons (.iff (.ex (.isi (.var 1) .int)) (.cons (.asg (.name 2) (.bin .add (.var 2) (.bin .mul (.lst (.cons (.bin .add (.var 1) (.cst (.int 1)) false) (.cons (.bin .sub (.var 1) (.cst (.int 1)) false) (.cons (.blt .str (.cons (.var 1) .nil) false) (.cons (.cst .non) .nil)))) false) (.cst (.int 2)) false) false)) .nil) .nil) (.cons (.iff (.ex (.isi (.var 1) .tuple)) (.cons (.asg (.name 2) (.bin .add (.var 2) (.bin .mul (.lst (.cons (.slc (.var 1) (.yes (.cst (.int 1))) .no false) (.cons (.slc (.var 1) .no (.yes (.neg (.cst (.int 1)))) false) (.cons (.bin .add (.var 1) (.slc (.var 1) (.yes (.neg (.cst (.int 1)))) .no false) false) (.cons (.rev (.var 1) false) (.cons (.blt .list (.cons (.var 1) .nil) false) (.cons (.bin .add (.var 1) (.tup (.cons (.cst (.int 0)) .nil)) false) .nil)))))) false) (.cst (.int 2)) false) false)) .nil) .nil) (.cons (.ret (.call 4 (.cons (.var 0) (.cons (.var 2) .nil)) .nil)) .nil))))
def b__law_changed : SL := (.cons (.iff (.or (.nt (.ex (.isi (.var 1) .tuple))) (.or (.cmp (.var 1) (.one .eq (.tup .nil))) (.cmp (.call 3 (.cons (.var 0) (.cons (.cst (.int 5)) .nil)) .nil) (.one .eq (.cst (.int 0)))))) (.cons (.ret (.call 6 (.cons (.var 0) (.cons (.var 1) .nil)) .nil)) .nil) .nil) (.cons (.asg (.name 2) (.call 3 (.cons (.var 0) (.cons (.blt .len (.cons (.var 1) .nil) false) .nil)) .nil)) (.cons (.ret (.bin .add (.bin .add (.slc (.var 1) .no (.yes (.var 2)) false) (.tup (.cons (.call 5 (.cons (.var 0) (.cons (.idx (.var 1) (.var 2)) .nil)) .nil) .nil)) false) (.slc (.var 1) (.yes (.bin .add (.var 2) (.cst (.int 1)) false)) .no false) false)) .nil)))
def b_law : SL := (.cons (.asg (.name 1) (.call 11 (.cons (.var 0) .nil) .nil)) (.cons (.asg (.name 2) (.lst (.cons (.tup .nil) (.cons (.tup (.cons (.tup (.cons (.cst (.int 0)) (.cons (.cst .non) .nil))) .nil)) (.cons (.tup (.cons (.tup (.cons (.cst (.int 0)) (.cons (.cst (.int 0)) .nil))) .nil)) (.cons (.tup (.cons (.tup (.cons (.cst (.int 0)) (.cons (.cst (.int 1)) .nil))) .nil)) (.cons (.tup (.cons (.tup (.cons (.cst (.int 0)) (.cons (.cst (.int 1)) .nil))) (.cons (.tup (.cons (.cst (.int 0)) (.cons (.cst .non) .nil))) .nil))) (.cons (.tup (.cons (.tup (.cons (.cst (.int 0)) (.cons (.cst (.int 1)) .nil))) (.cons (.tup (.cons (.cst (.int 0)) (.cons (.cst (.int 0)) .nil))) .nil))) (.cons (.tup (.cons (.tup (.cons (.cst (.int 0)) (.cons (.cst (.int 1)) .nil))) (.cons (.tup (.cons (.cst (.int 0)) (.cons (.cst (.int 1)) .nil))) .nil))) .nil))))))) true)) (.cons (.asg (.name 2) (.bin .add (.var 2) (.lst (.cons (.tup (.cons (.tup (.cons (.cst (.int 1)) (.cons (.cst .non) .nil))) .nil)) (.cons (.lst (.cons (.tup (.cons (.cst (.int 0)) (.cons (.cst .non) .nil))) .nil) false) (.cons (.tup (.cons (.lst (.cons (.cst (.int 0)) (.cons (.cst .non) .nil)) false) .nil)) (.cons (.tup (.cons (.tup (.cons (.cst (.int 0)) .nil)) .nil)) (.cons (.tup (.cons (.tup (.cons (.cst (.int 0)) (.cons (.cst .non) (.cons (.cst .non) .nil)))) .nil)) (.cons (.tup (.cons (.tup (.cons (.cst .non) (.cons (.cst .non) .nil))) .nil)) .nil)))))) false) true)) (.cons (.asg (.name 2) (.bin .add (.var 2) (.lst (.cons (.tup (.cons (.tup (.cons (.cst (.bl false)) (.cons (.cst .non) .nil))) .nil)) (.cons (.tup (.cons (.tup (.cons (.cst (.int 0)) (.cons (.cst (.bl false)) .nil))) .nil)) (.cons (.cst .non) (.cons (.cst (.int 0)) (.cons (.cst (.str [])) (.cons (.dic .nil false) (.cons (.tup (.cons (.tup .nil) .nil)) (.cons (.tup (.cons (.cst (.str [97,98])) .nil)) (.cons (.tup (.cons (.tup (.cons (.cst (.int 0)) (.cons (.cst (.int 2)) .nil))) (.cons (.tup (.cons (.cst (.int 0)) (.cons (.cst .non) .nil))) .nil))) (.cons (.tup (.cons (.tup (.cons (.neg (.cst (.int 1))) (.cons (.cst .non) .nil))) .nil)) .nil)))))))))) false) true)) (.cons (.ex (.met .append (.var 2) (.cons (.tup (.cons (.tup (.cons (.cst (.int 0)) (.cons (.cst (.int 1)) .nil))) (.cons (.tup (.cons (.cst (.int 0)) (.cons (.cst (.int 2)) .nil))) (.cons (.tup (.cons (.cst (.int 0)) (.cons (.cst .non) .nil))) .nil)))) .nil))) (.cons (.asg (.name 3) (.bin .add (.tup (.cons (.tup (.cons (.cst (.int 0)) (.cons (.cst (.int 1)) .nil))) .nil)) (.blt .tuple (.cons (.lc (.name 11) (.rng (.cons (.cst (.int 1)) (.cons (.cst (.int 30)) .nil))) .nil (.tup (.cons (.bin .add (.var 11) (.cst (.int 1)) false) (.cons (.cst .non) .nil))) [11] false) .nil) false) false)) (.cons (.asg (.name 2) (.bin .add (.var 2) (.lst (.cons (.bin .add (.var 3) (.tup (.cons (.tup (.cons (.cst (.int 0)) (.cons (.cst .non) .nil))) .nil)) false) (.cons (.var 3) (.cons (.bin .add (.var 3) (.tup (.cons (.tup (.cons (.cst (.int 31)) (.cons (.cst .non) .nil))) .nil)) false) (.cons (.bin .add (.var 3) (.tup (.cons (.tup (.cons (.cst (.int 0)) (.cons (.cst (.int 1)) .nil))) .nil)) false) (.cons (.bin .add (.var 3) (.tup (.cons (.tup (.cons (.cst (.int 30)) (.cons (.cst (.int 29)) .nil))) .nil)) false) .nil))))) false) true)) (.cons (.for_ (.name 4) (.rng (.cons (.cst (.int 12)) .nil)) (.cons (.asg (.name 5) (.call 10 (.cons (.var 1) (.cons (.cst (.int 8)) .nil)) .nil)) (.cons (.ex (.met .append (.var 2) (.cons (.var 5) .nil))) (.cons (.for_ (.name 6) (.rng (.cons (.cst (.int 6)) .nil)) (.cons (.asg (.name 7) (.call 5 (.cons (.var 1) (.cons (.var 5) .nil)) .nil)) (.cons (.ex (.met .append (.var 2) (.cons (.ife (.cmp (.call 3 (.cons (.var 1) (.cons (.cst (.int 3)) .nil)) .nil) (.one .eq (.cst (.int 0)))) (.call 5 (.cons (.var 1) (.cons (.var 7) .nil)) .nil) (.var 7)) .nil))) .nil))) .nil)))) (.cons (.for_ (.name 8) (.ex (.var 2)) (.cons (.asg (.tup (.cons (.name 9) (.cons (.name 10) .nil))) (.tup (.cons (.blt .repr (.cons (.var 8) .nil) false) (.cons (.call 9 (.cons (.var 8) .nil) .nil) .nil)))) (.cons (.iff (.or (.cmp (.blt .repr (.cons (.lst (.cons (.call 8 (.cons (.var 8) .nil) .nil) (.cons (.call 7 .nil (.cons (.var 8) .nil)) .nil)) false) .nil) false) (.one .ne (.blt .repr (.cons (.lst (.cons (.var 10) (.cons (.var 10) .nil)) false) .nil) false))) (.cmp (.blt .repr (.cons (.var 8) .nil) false) (.one .ne (.var 9)))) (.cons (.ret (.cst (.bl false))) .nil) .nil) .nil))) (.cons (.ret (.cst (.bl true))) .nil))))))))))
def tab : Tab := ⟨[⟨1, 1, b_is_integer, false⟩, ⟨2, 2, b_is_state, false⟩, ⟨2, 2, b_is_state_pair, false⟩, ⟨1, 4, b_is_rule, false⟩, ⟨1, 4, b__law_source, true⟩, ⟨2, 5, b__law_draw, false⟩, ⟨2, 2, b__law_choose, false⟩, ⟨2, 6, b__law_states, false⟩, ⟨1, 4, b__law_is_one, false⟩, ⟨2, 3, b__law_other, false⟩, ⟨2, 3, b__law_changed, false⟩, ⟨1, 12, b_law, false⟩], [(.int 2)], [⟨0, 1, [], [.pos 0]⟩, ⟨1, 2, [], [.pos 0, .pos 1]⟩, ⟨2, 2, [], [.pos 0, .pos 1]⟩, ⟨5, 2, [], [.pos 0, .pos 1]⟩, ⟨6, 2, [], [.pos 0, .pos 1]⟩, ⟨10, 2, [], [.pos 0, .pos 1]⟩, ⟨9, 2, [], [.pos 0, .pos 1]⟩, ⟨3, 0, [[118,97,108,117,101]], [.kw 0]⟩, ⟨3, 1, [], [.pos 0]⟩, ⟨8, 1, [], [.pos 0]⟩, ⟨7, 2, [], [.pos 0, .pos 1]⟩, ⟨4, 1, [], [.pos 0]⟩], 1000000⟩
theorem df_0 : tab.defs[0]? = some ⟨1, 1, b_is_integer, false⟩ := rfl
theorem df_1 : tab.defs[1]? = some ⟨2, 2, b_is_state, false⟩ := rfl
theorem df_2 : tab.defs[2]? = some ⟨2, 2, b_is_state_pair, false⟩ := rfl
theorem df_3 : tab.defs[3]? = some ⟨1, 4, b_is_rule, false⟩ := rfl
theorem df_4 : tab.defs[4]? = some ⟨1, 4, b__law_source, true⟩ := rfl
theorem df_5 : tab.defs[5]? = some ⟨2, 5, b__law_draw, false⟩ := rfl
theorem df_6 : tab.defs[6]? = some ⟨2, 2, b__law_choose, false⟩ := rfl
theorem df_7 : tab.defs[7]? = some ⟨2, 6, b__law_states, false⟩ := rfl
theorem df_8 : tab.defs[8]? = some ⟨1, 4, b__law_is_one, false⟩ := rfl
theorem df_9 : tab.defs[9]? = some ⟨2, 3, b__law_other, false⟩ := rfl
theorem df_10 : tab.defs[10]? = some ⟨2, 3, b__law_changed, false⟩ := rfl
theorem df_11 : tab.defs[11]? = some ⟨1, 12, b_law, false⟩ := rfl
theorem sh0 : tab.shp[0]? = some ⟨0, 1, [], [.pos 0]⟩ := rfl
theorem sh1 : tab.shp[1]? = some ⟨1, 2, [], [.pos 0, .pos 1]⟩ := rfl
theorem sh2 : tab.shp[2]? = some ⟨2, 2, [], [.pos 0, .pos 1]⟩ := rfl
theorem sh3 : tab.shp[3]? = some ⟨5, 2, [], [.pos 0, .pos 1]⟩ := rfl
theorem sh4 : tab.shp[4]? = some ⟨6, 2, [], [.pos 0, .pos 1]⟩ := rfl
theorem sh5 : tab.shp[5]? = some ⟨10, 2, [], [.pos 0, .pos 1]⟩ := rfl
theorem sh6 : tab.shp[6]? = some ⟨9, 2, [], [.pos 0, .pos 1]⟩ := rfl
theorem sh7 : tab.shp[7]? = some ⟨3, 0, [[118,97,108,117,101]], [.kw 0]⟩ := rfl
theorem sh8 : tab.shp[8]? = some ⟨3, 1, [], [.pos 0]⟩ := rfl
theorem sh9 : tab.shp[9]? = some ⟨8, 1, [], [.pos 0]⟩ := rfl
theorem sh10 : tab.shp[10]? = some ⟨7, 2, [], [.pos 0, .pos 1]⟩ := rfl
theorem sh11 : tab.shp[11]? = some ⟨4, 1, [], [.pos 0]⟩ := rfl
theorem gl0 : tab.glb[0]? = some (.int 2) := rfl
end Inst

set_option linter.all false
set_option maxRecDepth 100000
set_option Elab.async false
set_option maxHeartbeats 4000000
namespace Inst
open Mc
set_option hygiene false
local macro_rules
  | `(tactic| push_cast) => `(tactic| simp -dsimp -implicitDefEqProofs only [TL.plain, lst_own, evB, evS.eq_1, evS.eq_2, evS.eq_3, evS.eq_4, evS.eq_5, evS.eq_6, evS.eq_7, evS.eq_8, evS.eq_9, evS.eq_10, evS.eq_11, evS.eq_12, evS.eq_13, evE.eq_1, evE.eq_2, evE.eq_3, evE.eq_4, evE.eq_5, evE.eq_6, evE.eq_7, evE.eq_8, evE.eq_9, evE.eq_10, evE.eq_11, evE.eq_12, evE.eq_13, evE.eq_14, evE.eq_15, evE.eq_16, evE.eq_17, evE.eq_18, evE.eq_19, evE.eq_20, evE.eq_21, evE.eq_22, evE.eq_23, evT, evC, evL, evP, evO, evF, evI, asT, asL, evM, agD, wipe, ↓bind_lz, bindL_some, bindL_none, ↓ite_lz, iteL_t, iteL_f, W_ite, bind_ite, map_ite, ↓loopF_lz, ↓loopC_lz, ↓loopK_lz, ↓loopW_lz, W_some, W_bind, W_map, Option.bind_some, Option.bind_none, Option.map_some, Option.map_none, List.length_cons, List.length_nil, List.replicate, List.map_cons, List.map_nil, List.cons_append, List.nil_append, List.append_nil, List.append_assoc, Bool.false_eq_true, Bool.not_true, Bool.not_false, Bool.and_true, Bool.and_false, Bool.true_and, Bool.false_and, Bool.and_self, Bool.or_true, Bool.true_or, Bool.or_false, Bool.false_or, Nat.zero_add, Nat.add_zero, Nat.mul_zero, Nat.zero_mul, Nat.mul_one, Nat.one_mul, Nat.reduceAdd, Nat.reduceSub, Int.reduceAdd, Int.reduceSub, decide_true, decide_false, decide_eq_true_eq, true_and, and_true, eq_self, reduceCtorEq, Nat.reduceLT, Nat.reduceLeDiff, Nat.reduceEqDiff, Nat.reduceBEq, Int.reduceLT, Int.reduceLE, Int.reduceEq, Int.reduceNeg, Int.reduceToNat, Int.reducePow, Nat.reducePow, Int.reduceMul, Nat.reduceMul, Int.reduceMod, Int.reduceDiv, List.cons.injEq, List.reduceReplicate, Nat.add_assoc, List.getElem_cons_zero, List.getElem_cons_succ, Option.some.injEq, Cell.dic.injEq, Cell.lst.injEq, and_false, false_and, List.isEmpty_nil, List.isEmpty_cons, isEmpty_snoc, List.map_append, List.length_map, List.length_append, List.getLast?_concat, List.dropLast_concat, not_false_eq_true, or_true, true_or, or_false, false_or, add_int, add_tup, add_str, sub_int, mul_int, mod_int, fdv_int, pow_int, idx_own, idx_ownI, idx_tup, idx_lst, idx_strN, look_hit, look_miss, kEq_str, kEq_int, set_own, setI_own, cmp_lt, cmp_le, cmp_gt, cmp_ge, seq_tup, seq_lst, seq_own, lst_lst, lst_own, met_ok, app_own, popl_own, small_lit, still_tup, still_lst, still_non, still_str, ty_tup, ty_str, isTy, eq_str, ne_str, slc_tup, slc_str, slc_lst, add_lst, isn_bl, is_bl, blt_tupL, blt_tupO, blt_tupT, blt_all, slc_scr, blt_listO, blt_lenO, blt_lenT, blt_lenL, blt_lenS, rev_own, items_tup, items_lst, items_own, items_str, still_own, still_scr, still_zip, stillO_own, stillO_tup, stillO_lst, isl_tup, isl_lst, isl_own, tru_bl, tru_int, tru_str, tru_tup, tru_lst, wr_int, wr_str, mkL, mkD, min_int, max_int, joinE, ext_own, pop_st, pop_fz, frz_tup, frz_lst, frz_ownL, frz_ownD, frz_non, frz_bl, frz_int, frz_str, frzL_nil, frzL_cons, augI, inn_tup, nin_tup, inn_own, nin_own, flat_str, flat_int, flat_non, flat_bl, eqv_str, eqv_int, eq_int, ne_int, int_int, int_bl, isn_non, is_non, isn_str, is_str, metok_join, isKey_int, isKey_str, line_val, List.any_cons, List.any_nil, List.all_cons, List.all_nil, List.foldl_cons, List.foldl_nil, wr_ge, wrL_ge, leA, Nat.le_refl, out0, out1, out2, is_hn, is_hs, isn_hn, isn_hs, frz_out, idx_k0, at_0, at_1, at_2, at_3, at_m1, at_nat, cut_all, cut_to, cut_from, cut_m1, cut_l1, cut_one, cut_1, cut_d1, cut_d1p, cut_nn, clampA, clampB, rev_tup, ints_rev, rgv_t, rgv_f, rgv_f1, srt_own, ints_len, ints_snoc, up_ok, metok_up, ge_0, ge_1, ge_2, se_0, se_1, se_2, g_0, g_1, g_2, g_3, g_4, g_5, g_6, g_7, g_8, g_9, g_10, g_11, g_12, g_13, g_14, g_15, g_16, g_17, g_18, g_19, g_20, g_21, g_22, g_23, g_24, g_25, s_0, s_1, s_2, s_3, s_4, s_5, s_6, s_7, s_8, s_9, s_10, s_11, s_12, s_13, s_14, s_15, s_16, s_17, s_18, s_19, s_20, s_21, s_22, s_23, s_24, s_25, get0, get1, get2, get3, get4, get5, set0, set1, set2, set3, set4, set5, sh0, sh1, sh2, sh3, sh4, sh5, sh6, sh7, sh8, sh9, sh10, sh11, gl0])
  | `(tactic| push_cast [$xs,*]) => `(tactic| simp -dsimp -implicitDefEqProofs only [TL.plain, lst_own, evB, evS.eq_1, evS.eq_2, evS.eq_3, evS.eq_4, evS.eq_5, evS.eq_6, evS.eq_7, evS.eq_8, evS.eq_9, evS.eq_10, evS.eq_11, evS.eq_12, evS.eq_13, evE.eq_1, evE.eq_2, evE.eq_3, evE.eq_4, evE.eq_5, evE.eq_6, evE.eq_7, evE.eq_8, evE.eq_9, evE.eq_10, evE.eq_11, evE.eq_12, evE.eq_13, evE.eq_14, evE.eq_15, evE.eq_16, evE.eq_17, evE.eq_18, evE.eq_19, evE.eq_20, evE.eq_21, evE.eq_22, evE.eq_23, evT, evC, evL, evP, evO, evF, evI, asT, asL, evM, agD, wipe, ↓bind_lz, bindL_some, bindL_none, ↓ite_lz, iteL_t, iteL_f, W_ite, bind_ite, map_ite, ↓loopF_lz, ↓loopC_lz, ↓loopK_lz, ↓loopW_lz, W_some, W_bind, W_map, Option.bind_some, Option.bind_none, Option.map_some, Option.map_none, List.length_cons, List.length_nil, List.replicate, List.map_cons, List.map_nil, List.cons_append, List.nil_append, List.append_nil, List.append_assoc, Bool.false_eq_true, Bool.not_true, Bool.not_false, Bool.and_true, Bool.and_false, Bool.true_and, Bool.false_and, Bool.and_self, Bool.or_true, Bool.true_or, Bool.or_false, Bool.false_or, Nat.zero_add, Nat.add_zero, Nat.mul_zero, Nat.zero_mul, Nat.mul_one, Nat.one_mul, Nat.reduceAdd, Nat.reduceSub, Int.reduceAdd, Int.reduceSub, decide_true, decide_false, decide_eq_true_eq, true_and, and_true, eq_self, reduceCtorEq, Nat.reduceLT, Nat.reduceLeDiff, Nat.reduceEqDiff, Nat.reduceBEq, Int.reduceLT, Int.reduceLE, Int.reduceEq, Int.reduceNeg, Int.reduceToNat, Int.reducePow, Nat.reducePow, Int.reduceMul, Nat.reduceMul, Int.reduceMod, Int.reduceDiv, List.cons.injEq, List.reduceReplicate, Nat.add_assoc, List.getElem_cons_zero, List.getElem_cons_succ, Option.some.injEq, Cell.dic.injEq, Cell.lst.injEq, and_false, false_and, List.isEmpty_nil, List.isEmpty_cons, isEmpty_snoc, List.map_append, List.length_map, List.length_append, List.getLast?_concat, List.dropLast_concat, not_false_eq_true, or_true, true_or, or_false, false_or, add_int, add_tup, add_str, sub_int, mul_int, mod_int, fdv_int, pow_int, idx_own, idx_ownI, idx_tup, idx_lst, idx_strN, look_hit, look_miss, kEq_str, kEq_int, set_own, setI_own, cmp_lt, cmp_le, cmp_gt, cmp_ge, seq_tup, seq_lst, seq_own, lst_lst, lst_own, met_ok, app_own, popl_own, small_lit, still_tup, still_lst, still_non, still_str, ty_tup, ty_str, isTy, eq_str, ne_str, slc_tup, slc_str, slc_lst, add_lst, isn_bl, is_bl, blt_tupL, blt_tupO, blt_tupT, blt_all, slc_scr, blt_listO, blt_lenO, blt_lenT, blt_lenL, blt_lenS, rev_own, items_tup, items_lst, items_own, items_str, still_own, still_scr, still_zip, stillO_own, stillO_tup, stillO_lst, isl_tup, isl_lst, isl_own, tru_bl, tru_int, tru_str, tru_tup, tru_lst, wr_int, wr_str, mkL, mkD, min_int, max_int, joinE, ext_own, pop_st, pop_fz, frz_tup, frz_lst, frz_ownL, frz_ownD, frz_non, frz_bl, frz_int, frz_str, frzL_nil, frzL_cons, augI, inn_tup, nin_tup, inn_own, nin_own, flat_str, flat_int, flat_non, flat_bl, eqv_str, eqv_int, eq_int, ne_int, int_int, int_bl, isn_non, is_non, isn_str, is_str, metok_join, isKey_int, isKey_str, line_val, List.any_cons, List.any_nil, List.all_cons, List.all_nil, List.foldl_cons, List.foldl_nil, wr_ge, wrL_ge, leA, Nat.le_refl, out0, out1, out2, is_hn, is_hs, isn_hn, isn_hs, frz_out, idx_k0, at_0, at_1, at_2, at_3, at_m1, at_nat, cut_all, cut_to, cut_from, cut_m1, cut_l1, cut_one, cut_1, cut_d1, cut_d1p, cut_nn, clampA, clampB, rev_tup, ints_rev, rgv_t, rgv_f, rgv_f1, srt_own, ints_len, ints_snoc, up_ok, metok_up, ge_0, ge_1, ge_2, se_0, se_1, se_2, g_0, g_1, g_2, g_3, g_4, g_5, g_6, g_7, g_8, g_9, g_10, g_11, g_12, g_13, g_14, g_15, g_16, g_17, g_18, g_19, g_20, g_21, g_22, g_23, g_24, g_25, s_0, s_1, s_2, s_3, s_4, s_5, s_6, s_7, s_8, s_9, s_10, s_11, s_12, s_13, s_14, s_15, s_16, s_17, s_18, s_19, s_20, s_21, s_22, s_23, s_24, s_25, get0, get1, get2, get3, get4, get5, set0, set1, set2, set3, set4, set5, sh0, sh1, sh2, sh3, sh4, sh5, sh6, sh7, sh8, sh9, sh10, sh11, gl0, $xs,*])
set_option hygiene true
/-- the deck: its cells, the first four -/
structure Dq where
  a : List D
  b : List D
  its : List Int
  seed : Int
  draws : Int
def Dq.st (q : Dq) (r : Sto) : Sto := .lst q.a :: .lst q.b :: .lst (q.its.map .int) :: .dic [(.str [112,105,108,101], .own 2), (.str [109,105,120,101,100], .int q.seed), (.str [100,114,97,119,115], .int q.draws)] :: r
def Dq.ok (q : Dq) (n : Int) : Prop := q.its.length ≤ 64 ∧ 0 ≤ q.draws ∧ q.draws ≤ n
theorem Dq.ok.mono {q : Dq} {n m : Int} (h : q.ok n) (hm : n ≤ m) : q.ok m := ⟨h.1, h.2.1, Int.le_trans h.2.2 hm⟩
theorem dq_app {q : Dq} {r s : Sto} : q.st r ++ s = q.st (r ++ s) := rfl
theorem dq_len {q : Dq} {r : Sto} : (q.st r).length = r.length + 4 := rfl
theorem pop_dq {q : Dq} {r : Sto} {d : D} : popD (r.length + 4) d (q.st r) = some (d, q.st r) := pop_same rfl
set_option hygiene false
local macro_rules
  | `(tactic| push_cast) => `(tactic| simp -dsimp -implicitDefEqProofs only [TL.plain, lst_own, evB, evS.eq_1, evS.eq_2, evS.eq_3, evS.eq_4, evS.eq_5, evS.eq_6, evS.eq_7, evS.eq_8, evS.eq_9, evS.eq_10, evS.eq_11, evS.eq_12, evS.eq_13, evE.eq_1, evE.eq_2, evE.eq_3, evE.eq_4, evE.eq_5, evE.eq_6, evE.eq_7, evE.eq_8, evE.eq_9, evE.eq_10, evE.eq_11, evE.eq_12, evE.eq_13, evE.eq_14, evE.eq_15, evE.eq_16, evE.eq_17, evE.eq_18, evE.eq_19, evE.eq_20, evE.eq_21, evE.eq_22, evE.eq_23, evT, evC, evL, evP, evO, evF, evI, asT, asL, evM, agD, wipe, ↓bind_lz, bindL_some, bindL_none, ↓ite_lz, iteL_t, iteL_f, W_ite, bind_ite, map_ite, ↓loopF_lz, ↓loopC_lz, ↓loopK_lz, ↓loopW_lz, W_some, W_bind, W_map, Option.bind_some, Option.bind_none, Option.map_some, Option.map_none, List.length_cons, List.length_nil, List.replicate, List.map_cons, List.map_nil, List.cons_append, List.nil_append, List.append_nil, List.append_assoc, Bool.false_eq_true, Bool.not_true, Bool.not_false, Bool.and_true, Bool.and_false, Bool.true_and, Bool.false_and, Bool.and_self, Bool.or_true, Bool.true_or, Bool.or_false, Bool.false_or, Nat.zero_add, Nat.add_zero, Nat.mul_zero, Nat.zero_mul, Nat.mul_one, Nat.one_mul, Nat.reduceAdd, Nat.reduceSub, Int.reduceAdd, Int.reduceSub, decide_true, decide_false, decide_eq_true_eq, true_and, and_true, eq_self, reduceCtorEq, Nat.reduceLT, Nat.reduceLeDiff, Nat.reduceEqDiff, Nat.reduceBEq, Int.reduceLT, Int.reduceLE, Int.reduceEq, Int.reduceNeg, Int.reduceToNat, Int.reducePow, Nat.reducePow, Int.reduceMul, Nat.reduceMul, Int.reduceMod, Int.reduceDiv, List.cons.injEq, List.reduceReplicate, Nat.add_assoc, List.getElem_cons_zero, List.getElem_cons_succ, Option.some.injEq, Cell.dic.injEq, Cell.lst.injEq, and_false, false_and, List.isEmpty_nil, List.isEmpty_cons, isEmpty_snoc, List.map_append, List.length_map, List.length_append, List.getLast?_concat, List.dropLast_concat, not_false_eq_true, or_true, true_or, or_false, false_or, add_int, add_tup, add_str, sub_int, mul_int, mod_int, fdv_int, pow_int, idx_own, idx_ownI, idx_tup, idx_lst, idx_strN, look_hit, look_miss, kEq_str, kEq_int, set_own, setI_own, cmp_lt, cmp_le, cmp_gt, cmp_ge, seq_tup, seq_lst, seq_own, lst_lst, lst_own, met_ok, app_own, popl_own, small_lit, still_tup, still_lst, still_non, still_str, ty_tup, ty_str, isTy, eq_str, ne_str, slc_tup, slc_str, slc_lst, add_lst, isn_bl, is_bl, blt_tupL, blt_tupO, blt_tupT, blt_all, slc_scr, blt_listO, blt_lenO, blt_lenT, blt_lenL, blt_lenS, rev_own, items_tup, items_lst, items_own, items_str, still_own, still_scr, still_zip, stillO_own, stillO_tup, stillO_lst, isl_tup, isl_lst, isl_own, tru_bl, tru_int, tru_str, tru_tup, tru_lst, wr_int, wr_str, mkL, mkD, min_int, max_int, joinE, ext_own, pop_st, pop_fz, frz_tup, frz_lst, frz_ownL, frz_ownD, frz_non, frz_bl, frz_int, frz_str, frzL_nil, frzL_cons, augI, inn_tup, nin_tup, inn_own, nin_own, flat_str, flat_int, flat_non, flat_bl, eqv_str, eqv_int, eq_int, ne_int, int_int, int_bl, isn_non, is_non, isn_str, is_str, metok_join, isKey_int, isKey_str, line_val, List.any_cons, List.any_nil, List.all_cons, List.all_nil, List.foldl_cons, List.foldl_nil, wr_ge, wrL_ge, leA, Nat.le_refl, out0, out1, out2, is_hn, is_hs, isn_hn, isn_hs, frz_out, idx_k0, at_0, at_1, at_2, at_3, at_m1, at_nat, cut_all, cut_to, cut_from, cut_m1, cut_l1, cut_one, cut_1, cut_d1, cut_d1p, cut_nn, clampA, clampB, rev_tup, ints_rev, rgv_t, rgv_f, rgv_f1, srt_own, ints_len, ints_snoc, up_ok, metok_up, ge_0, ge_1, ge_2, se_0, se_1, se_2, g_0, g_1, g_2, g_3, g_4, g_5, g_6, g_7, g_8, g_9, g_10, g_11, g_12, g_13, g_14, g_15, g_16, g_17, g_18, g_19, g_20, g_21, g_22, g_23, g_24, g_25, s_0, s_1, s_2, s_3, s_4, s_5, s_6, s_7, s_8, s_9, s_10, s_11, s_12, s_13, s_14, s_15, s_16, s_17, s_18, s_19, s_20, s_21, s_22, s_23, s_24, s_25, get0, get1, get2, get3, get4, get5, set0, set1, set2, set3, set4, set5, sh0, sh1, sh2, sh3, sh4, sh5, sh6, sh7, sh8, sh9, sh10, sh11, gl0, pop_dq, dq_app, dq_len])
  | `(tactic| push_cast [$xs,*]) => `(tactic| simp -dsimp -implicitDefEqProofs only [TL.plain, lst_own, evB, evS.eq_1, evS.eq_2, evS.eq_3, evS.eq_4, evS.eq_5, evS.eq_6, evS.eq_7, evS.eq_8, evS.eq_9, evS.eq_10, evS.eq_11, evS.eq_12, evS.eq_13, evE.eq_1, evE.eq_2, evE.eq_3, evE.eq_4, evE.eq_5, evE.eq_6, evE.eq_7, evE.eq_8, evE.eq_9, evE.eq_10, evE.eq_11, evE.eq_12, evE.eq_13, evE.eq_14, evE.eq_15, evE.eq_16, evE.eq_17, evE.eq_18, evE.eq_19, evE.eq_20, evE.eq_21, evE.eq_22, evE.eq_23, evT, evC, evL, evP, evO, evF, evI, asT, asL, evM, agD, wipe, ↓bind_lz, bindL_some, bindL_none, ↓ite_lz, iteL_t, iteL_f, W_ite, bind_ite, map_ite, ↓loopF_lz, ↓loopC_lz, ↓loopK_lz, ↓loopW_lz, W_some, W_bind, W_map, Option.bind_some, Option.bind_none, Option.map_some, Option.map_none, List.length_cons, List.length_nil, List.replicate, List.map_cons, List.map_nil, List.cons_append, List.nil_append, List.append_nil, List.append_assoc, Bool.false_eq_true, Bool.not_true, Bool.not_false, Bool.and_true, Bool.and_false, Bool.true_and, Bool.false_and, Bool.and_self, Bool.or_true, Bool.true_or, Bool.or_false, Bool.false_or, Nat.zero_add, Nat.add_zero, Nat.mul_zero, Nat.zero_mul, Nat.mul_one, Nat.one_mul, Nat.reduceAdd, Nat.reduceSub, Int.reduceAdd, Int.reduceSub, decide_true, decide_false, decide_eq_true_eq, true_and, and_true, eq_self, reduceCtorEq, Nat.reduceLT, Nat.reduceLeDiff, Nat.reduceEqDiff, Nat.reduceBEq, Int.reduceLT, Int.reduceLE, Int.reduceEq, Int.reduceNeg, Int.reduceToNat, Int.reducePow, Nat.reducePow, Int.reduceMul, Nat.reduceMul, Int.reduceMod, Int.reduceDiv, List.cons.injEq, List.reduceReplicate, Nat.add_assoc, List.getElem_cons_zero, List.getElem_cons_succ, Option.some.injEq, Cell.dic.injEq, Cell.lst.injEq, and_false, false_and, List.isEmpty_nil, List.isEmpty_cons, isEmpty_snoc, List.map_append, List.length_map, List.length_append, List.getLast?_concat, List.dropLast_concat, not_false_eq_true, or_true, true_or, or_false, false_or, add_int, add_tup, add_str, sub_int, mul_int, mod_int, fdv_int, pow_int, idx_own, idx_ownI, idx_tup, idx_lst, idx_strN, look_hit, look_miss, kEq_str, kEq_int, set_own, setI_own, cmp_lt, cmp_le, cmp_gt, cmp_ge, seq_tup, seq_lst, seq_own, lst_lst, lst_own, met_ok, app_own, popl_own, small_lit, still_tup, still_lst, still_non, still_str, ty_tup, ty_str, isTy, eq_str, ne_str, slc_tup, slc_str, slc_lst, add_lst, isn_bl, is_bl, blt_tupL, blt_tupO, blt_tupT, blt_all, slc_scr, blt_listO, blt_lenO, blt_lenT, blt_lenL, blt_lenS, rev_own, items_tup, items_lst, items_own, items_str, still_own, still_scr, still_zip, stillO_own, stillO_tup, stillO_lst, isl_tup, isl_lst, isl_own, tru_bl, tru_int, tru_str, tru_tup, tru_lst, wr_int, wr_str, mkL, mkD, min_int, max_int, joinE, ext_own, pop_st, pop_fz, frz_tup, frz_lst, frz_ownL, frz_ownD, frz_non, frz_bl, frz_int, frz_str, frzL_nil, frzL_cons, augI, inn_tup, nin_tup, inn_own, nin_own, flat_str, flat_int, flat_non, flat_bl, eqv_str, eqv_int, eq_int, ne_int, int_int, int_bl, isn_non, is_non, isn_str, is_str, metok_join, isKey_int, isKey_str, line_val, List.any_cons, List.any_nil, List.all_cons, List.all_nil, List.foldl_cons, List.foldl_nil, wr_ge, wrL_ge, leA, Nat.le_refl, out0, out1, out2, is_hn, is_hs, isn_hn, isn_hs, frz_out, idx_k0, at_0, at_1, at_2, at_3, at_m1, at_nat, cut_all, cut_to, cut_from, cut_m1, cut_l1, cut_one, cut_1, cut_d1, cut_d1p, cut_nn, clampA, clampB, rev_tup, ints_rev, rgv_t, rgv_f, rgv_f1, srt_own, ints_len, ints_snoc, up_ok, metok_up, ge_0, ge_1, ge_2, se_0, se_1, se_2, g_0, g_1, g_2, g_3, g_4, g_5, g_6, g_7, g_8, g_9, g_10, g_11, g_12, g_13, g_14, g_15, g_16, g_17, g_18, g_19, g_20, g_21, g_22, g_23, g_24, g_25, s_0, s_1, s_2, s_3, s_4, s_5, s_6, s_7, s_8, s_9, s_10, s_11, s_12, s_13, s_14, s_15, s_16, s_17, s_18, s_19, s_20, s_21, s_22, s_23, s_24, s_25, get0, get1, get2, get3, get4, get5, set0, set1, set2, set3, set4, set5, sh0, sh1, sh2, sh3, sh4, sh5, sh6, sh7, sh8, sh9, sh10, sh11, gl0, pop_dq, dq_app, dq_len, $xs,*])
set_option hygiene true
theorem draw_ok (k b : Nat) (q : Dq) (r : Sto) (lim n : Int) (hk : 1 ≤ k) (h1 : 0 < lim) (h2 : lim < 1073741824) (h3 : q.ok n) (h4 : n < 1099511627776) :
    W (callD tab k b 5 [.own 3, .int lim] (q.st r)) fun x => ∃ v q', x = (.int v, Dq.st q' r) ∧ 0 ≤ v ∧ v < lim ∧ q'.ok (n + 1) := by
  obtain ⟨k, rfl⟩ : ∃ j, k = j + 1 := ⟨k - 1, by omega⟩
  obtain ⟨a, b', its, seed, draws⟩ := q
  obtain ⟨h5, h6, h7⟩ := h3
  dsimp only at h5 h6 h7
  have hs : small64 (draws + 1) = true := small_pos (by omega) (by omega)
  have fin : ∀ (l : List Int) (x : Int), l.length ≤ 64 → ∃ v q', ((D.int (x % lim), Dq.st ⟨a, b', l, seed, draws + 1⟩ r) : D × Sto) = (.int v, Dq.st q' r) ∧ 0 ≤ v ∧ v < lim ∧ q'.ok (n + 1) :=
    fun l x hl => ⟨_, _, rfl, Int.emod_nonneg _ (by omega), Int.emod_lt_of_pos _ h1, hl, by show 0 ≤ draws + 1; omega, by show draws + 1 ≤ n + 1; omega⟩
  refine W_call df_5 rfl ?_
  rcases List.eq_nil_or_concat its with rfl | ⟨l, i, rfl⟩
  · push_cast [b__law_draw, put_def, Dq.st, hs, h1, h2, evP, ne_nil, plainL_nil, small_mod, pop_same]
    exact fin [] _ (by simp)
  · rw [List.concat_eq_append] at *
    have hp : plainL 59 (l.map D.int ++ [.int i]) = true := by simpa using ints_plainL 59 (l ++ [i])
    have hl : l.length < 64 := by simp at h5; omega
    by_cases hi : 1000000000000000000 ≤ i
    · push_cast [b__law_draw, put_def, Dq.st, hs, hp, h1, h2, hi, ne_nil, small_mod, pop_same, show l.length < 16777216 by omega, line_val]
      have := fin (l ++ [i / lim]) i (by simp; omega)
      rw [Dq.st, List.map_append, List.map_cons, List.map_nil] at this
      exact this
    · push_cast [b__law_draw, put_def, Dq.st, hs, hp, h1, h2, hi, ne_nil, small_mod, pop_same]
      exact fin l _ (by omega)
theorem deck_ok (k b : Nat) (ns : List Int) (hk : 1 ≤ k) (hn : ns.length ≤ 63) : W (callD tab k b 4 [.scr ns] []) fun x => ∃ q, x = (.own 3, Dq.st q []) ∧ q.ok 0 := by
  obtain ⟨k, rfl⟩ : ∃ j, k = j + 1 := ⟨k - 1, by omega⟩
  have hc : ((cut ns none (some 63)).length ≤ 64) := by simp [cut, six]; omega
  refine W_raw df_4 rfl ?_
  push_cast [b__law_source, ← List.map_reverse, sameL_ints]
  refine W_for D.int (cut ns none (some 63)).reverse (fun _ env st => st = [.lst ((cut ns none (some 63)).map .int), .lst ((cut ns none (some 63)).map .int), .lst ((cut ns none (some 63)).reverse.map .int)] ∧ ∃ (s : Int) (o : Option D), env = [some (.scr ns), some (.own 2), some (.int s), o]) rfl ⟨rfl, _, _, rfl⟩ ?_ ?_
  · rintro i r env st ⟨rfl, s, o, rfl⟩
    push_cast [← List.map_reverse, sameL_ints]
    exact ⟨_, _, rfl, rfl⟩
  · rintro env st ⟨rfl, s, o, rfl⟩
    push_cast [put_def]
    exact ⟨⟨(cut ns none (some 63)).map .int, (cut ns none (some 63)).map .int, (cut ns none (some 63)).reverse, s, 0⟩, by simp [Dq.st], by simpa using hc, by simp, by simp⟩
theorem pick_ok (k b : Nat) (q : Dq) (r : Sto) (l : List D) (n : Int) (hk : 2 ≤ k) (h1 : 0 < l.length) (h2 : l.length < 1073741824) (h3 : q.ok n) (h4 : n < 1099511627776) :
    W (callD tab k b 6 [.own 3, .lst l] (q.st r)) fun x => ∃ v q', x = (v, Dq.st q' r) ∧ v ∈ l ∧ q'.ok (n + 1) := by
  obtain ⟨k, rfl⟩ : ∃ j, k = j + 1 := ⟨k - 1, by omega⟩
  refine W_call df_6 rfl ?_
  push_cast [b__law_choose]
  refine (draw_ok k _ q r l.length n (by omega) (by omega) (by omega) h3 h4).mono ?_
  rintro _ ⟨v, q', rfl, v0, v1, hq⟩
  obtain ⟨d, hd, e⟩ := at_in v0 v1
  push_cast [e]
  exact ⟨d, q', rfl, hd, hq⟩
theorem pickS_ok (k b : Nat) (q : Dq) (r : Sto) (l : Tx) (n : Int) (hk : 2 ≤ k) (h1 : 0 < l.length) (h2 : l.length < 16777216) (h3 : q.ok n) (h4 : n < 1099511627776) :
    W (callD tab k b 6 [.own 3, .str l] (q.st r)) fun x => ∃ c q', x = (.str [c], Dq.st q' r) ∧ c ∈ l ∧ q'.ok (n + 1) := by
  obtain ⟨k, rfl⟩ : ∃ j, k = j + 1 := ⟨k - 1, by omega⟩
  refine W_call df_6 rfl ?_
  have h5 : l.length ≤ 16777216 := by omega
  push_cast [b__law_choose, h5]
  refine (draw_ok k _ q r l.length n (by omega) (by omega) (by omega) h3 h4).mono ?_
  rintro _ ⟨v, q', rfl, v0, v1, hq⟩
  obtain ⟨d, hd, e⟩ := at_in v0 v1
  push_cast [e, h5]
  exact ⟨d, q', rfl, hd, hq⟩
end Inst

set_option linter.all false
set_option maxRecDepth 100000
set_option Elab.async false
set_option maxHeartbeats 4000000
namespace Inst
open Mc
set_option hygiene false
local macro_rules
  | `(tactic| push_cast) => `(tactic| simp -dsimp -implicitDefEqProofs only [TL.plain, lst_own, evB, evS.eq_1, evS.eq_2, evS.eq_3, evS.eq_4, evS.eq_5, evS.eq_6, evS.eq_7, evS.eq_8, evS.eq_9, evS.eq_10, evS.eq_11, evS.eq_12, evS.eq_13, evE.eq_1, evE.eq_2, evE.eq_3, evE.eq_4, evE.eq_5, evE.eq_6, evE.eq_7, evE.eq_8, evE.eq_9, evE.eq_10, evE.eq_11, evE.eq_12, evE.eq_13, evE.eq_14, evE.eq_15, evE.eq_16, evE.eq_17, evE.eq_18, evE.eq_19, evE.eq_20, evE.eq_21, evE.eq_22, evE.eq_23, evT, evC, evL, evP, evO, evF, evI, asT, asL, evM, agD, wipe, ↓bind_lz, bindL_some, bindL_none, ↓ite_lz, iteL_t, iteL_f, W_ite, bind_ite, map_ite, ↓loopF_lz, ↓loopC_lz, ↓loopK_lz, ↓loopW_lz, W_some, W_bind, W_map, Option.bind_some, Option.bind_none, Option.map_some, Option.map_none, List.length_cons, List.length_nil, List.replicate, List.map_cons, List.map_nil, List.cons_append, List.nil_append, List.append_nil, List.append_assoc, Bool.false_eq_true, Bool.not_true, Bool.not_false, Bool.and_true, Bool.and_false, Bool.true_and, Bool.false_and, Bool.and_self, Bool.or_true, Bool.true_or, Bool.or_false, Bool.false_or, Nat.zero_add, Nat.add_zero, Nat.mul_zero, Nat.zero_mul, Nat.mul_one, Nat.one_mul, Nat.reduceAdd, Nat.reduceSub, Int.reduceAdd, Int.reduceSub, decide_true, decide_false, decide_eq_true_eq, true_and, and_true, eq_self, reduceCtorEq, Nat.reduceLT, Nat.reduceLeDiff, Nat.reduceEqDiff, Nat.reduceBEq, Int.reduceLT, Int.reduceLE, Int.reduceEq, Int.reduceNeg, Int.reduceToNat, Int.reducePow, Nat.reducePow, Int.reduceMul, Nat.reduceMul, Int.reduceMod, Int.reduceDiv, List.cons.injEq, List.reduceReplicate, Nat.add_assoc, List.getElem_cons_zero, List.getElem_cons_succ, Option.some.injEq, Cell.dic.injEq, Cell.lst.injEq, and_false, false_and, List.isEmpty_nil, List.isEmpty_cons, isEmpty_snoc, List.map_append, List.length_map, List.length_append, List.getLast?_concat, List.dropLast_concat, not_false_eq_true, or_true, true_or, or_false, false_or, add_int, add_tup, add_str, sub_int, mul_int, mod_int, fdv_int, pow_int, idx_own, idx_ownI, idx_tup, idx_lst, idx_strN, look_hit, look_miss, kEq_str, kEq_int, set_own, setI_own, cmp_lt, cmp_le, cmp_gt, cmp_ge, seq_tup, seq_lst, seq_own, lst_lst, lst_own, met_ok, app_own, popl_own, small_lit, still_tup, still_lst, still_non, still_str, ty_tup, ty_str, isTy, eq_str, ne_str, slc_tup, slc_str, slc_lst, add_lst, isn_bl, is_bl, blt_tupL, blt_tupO, blt_tupT, blt_all, slc_scr, blt_listO, blt_lenO, blt_lenT, blt_lenL, blt_lenS, rev_own, items_tup, items_lst, items_own, items_str, still_own, still_scr, still_zip, stillO_own, stillO_tup, stillO_lst, isl_tup, isl_lst, isl_own, tru_bl, tru_int, tru_str, tru_tup, tru_lst, wr_int, wr_str, mkL, mkD, min_int, max_int, joinE, ext_own, pop_st, pop_fz, frz_tup, frz_lst, frz_ownL, frz_ownD, frz_non, frz_bl, frz_int, frz_str, frzL_nil, frzL_cons, augI, inn_tup, nin_tup, inn_own, nin_own, flat_str, flat_int, flat_non, flat_bl, eqv_str, eqv_int, eq_int, ne_int, int_int, int_bl, isn_non, is_non, isn_str, is_str, metok_join, isKey_int, isKey_str, line_val, List.any_cons, List.any_nil, List.all_cons, List.all_nil, List.foldl_cons, List.foldl_nil, wr_ge, wrL_ge, leA, Nat.le_refl, out0, out1, out2, is_hn, is_hs, isn_hn, isn_hs, frz_out, idx_k0, at_0, at_1, at_2, at_3, at_m1, at_nat, cut_all, cut_to, cut_from, cut_m1, cut_l1, cut_one, cut_1, cut_d1, cut_d1p, cut_nn, clampA, clampB, rev_tup, ints_rev, rgv_t, rgv_f, rgv_f1, srt_own, ints_len, ints_snoc, up_ok, metok_up, ge_0, ge_1, ge_2, se_0, se_1, se_2, g_0, g_1, g_2, g_3, g_4, g_5, g_6, g_7, g_8, g_9, g_10, g_11, g_12, g_13, g_14, g_15, g_16, g_17, g_18, g_19, g_20, g_21, g_22, g_23, g_24, g_25, s_0, s_1, s_2, s_3, s_4, s_5, s_6, s_7, s_8, s_9, s_10, s_11, s_12, s_13, s_14, s_15, s_16, s_17, s_18, s_19, s_20, s_21, s_22, s_23, s_24, s_25, get0, get1, get2, get3, get4, get5, set0, set1, set2, set3, set4, set5, sh0, sh1, sh2, sh3, sh4, sh5, sh6, sh7, sh8, sh9, sh10, sh11, gl0, pop_dq, dq_app, dq_len])
  | `(tactic| push_cast [$xs,*]) => `(tactic| simp -dsimp -implicitDefEqProofs only [TL.plain, lst_own, evB, evS.eq_1, evS.eq_2, evS.eq_3, evS.eq_4, evS.eq_5, evS.eq_6, evS.eq_7, evS.eq_8, evS.eq_9, evS.eq_10, evS.eq_11, evS.eq_12, evS.eq_13, evE.eq_1, evE.eq_2, evE.eq_3, evE.eq_4, evE.eq_5, evE.eq_6, evE.eq_7, evE.eq_8, evE.eq_9, evE.eq_10, evE.eq_11, evE.eq_12, evE.eq_13, evE.eq_14, evE.eq_15, evE.eq_16, evE.eq_17, evE.eq_18, evE.eq_19, evE.eq_20, evE.eq_21, evE.eq_22, evE.eq_23, evT, evC, evL, evP, evO, evF, evI, asT, asL, evM, agD, wipe, ↓bind_lz, bindL_some, bindL_none, ↓ite_lz, iteL_t, iteL_f, W_ite, bind_ite, map_ite, ↓loopF_lz, ↓loopC_lz, ↓loopK_lz, ↓loopW_lz, W_some, W_bind, W_map, Option.bind_some, Option.bind_none, Option.map_some, Option.map_none, List.length_cons, List.length_nil, List.replicate, List.map_cons, List.map_nil, List.cons_append, List.nil_append, List.append_nil, List.append_assoc, Bool.false_eq_true, Bool.not_true, Bool.not_false, Bool.and_true, Bool.and_false, Bool.true_and, Bool.false_and, Bool.and_self, Bool.or_true, Bool.true_or, Bool.or_false, Bool.false_or, Nat.zero_add, Nat.add_zero, Nat.mul_zero, Nat.zero_mul, Nat.mul_one, Nat.one_mul, Nat.reduceAdd, Nat.reduceSub, Int.reduceAdd, Int.reduceSub, decide_true, decide_false, decide_eq_true_eq, true_and, and_true, eq_self, reduceCtorEq, Nat.reduceLT, Nat.reduceLeDiff, Nat.reduceEqDiff, Nat.reduceBEq, Int.reduceLT, Int.reduceLE, Int.reduceEq, Int.reduceNeg, Int.reduceToNat, Int.reducePow, Nat.reducePow, Int.reduceMul, Nat.reduceMul, Int.reduceMod, Int.reduceDiv, List.cons.injEq, List.reduceReplicate, Nat.add_assoc, List.getElem_cons_zero, List.getElem_cons_succ, Option.some.injEq, Cell.dic.injEq, Cell.lst.injEq, and_false, false_and, List.isEmpty_nil, List.isEmpty_cons, isEmpty_snoc, List.map_append, List.length_map, List.length_append, List.getLast?_concat, List.dropLast_concat, not_false_eq_true, or_true, true_or, or_false, false_or, add_int, add_tup, add_str, sub_int, mul_int, mod_int, fdv_int, pow_int, idx_own, idx_ownI, idx_tup, idx_lst, idx_strN, look_hit, look_miss, kEq_str, kEq_int, set_own, setI_own, cmp_lt, cmp_le, cmp_gt, cmp_ge, seq_tup, seq_lst, seq_own, lst_lst, lst_own, met_ok, app_own, popl_own, small_lit, still_tup, still_lst, still_non, still_str, ty_tup, ty_str, isTy, eq_str, ne_str, slc_tup, slc_str, slc_lst, add_lst, isn_bl, is_bl, blt_tupL, blt_tupO, blt_tupT, blt_all, slc_scr, blt_listO, blt_lenO, blt_lenT, blt_lenL, blt_lenS, rev_own, items_tup, items_lst, items_own, items_str, still_own, still_scr, still_zip, stillO_own, stillO_tup, stillO_lst, isl_tup, isl_lst, isl_own, tru_bl, tru_int, tru_str, tru_tup, tru_lst, wr_int, wr_str, mkL, mkD, min_int, max_int, joinE, ext_own, pop_st, pop_fz, frz_tup, frz_lst, frz_ownL, frz_ownD, frz_non, frz_bl, frz_int, frz_str, frzL_nil, frzL_cons, augI, inn_tup, nin_tup, inn_own, nin_own, flat_str, flat_int, flat_non, flat_bl, eqv_str, eqv_int, eq_int, ne_int, int_int, int_bl, isn_non, is_non, isn_str, is_str, metok_join, isKey_int, isKey_str, line_val, List.any_cons, List.any_nil, List.all_cons, List.all_nil, List.foldl_cons, List.foldl_nil, wr_ge, wrL_ge, leA, Nat.le_refl, out0, out1, out2, is_hn, is_hs, isn_hn, isn_hs, frz_out, idx_k0, at_0, at_1, at_2, at_3, at_m1, at_nat, cut_all, cut_to, cut_from, cut_m1, cut_l1, cut_one, cut_1, cut_d1, cut_d1p, cut_nn, clampA, clampB, rev_tup, ints_rev, rgv_t, rgv_f, rgv_f1, srt_own, ints_len, ints_snoc, up_ok, metok_up, ge_0, ge_1, ge_2, se_0, se_1, se_2, g_0, g_1, g_2, g_3, g_4, g_5, g_6, g_7, g_8, g_9, g_10, g_11, g_12, g_13, g_14, g_15, g_16, g_17, g_18, g_19, g_20, g_21, g_22, g_23, g_24, g_25, s_0, s_1, s_2, s_3, s_4, s_5, s_6, s_7, s_8, s_9, s_10, s_11, s_12, s_13, s_14, s_15, s_16, s_17, s_18, s_19, s_20, s_21, s_22, s_23, s_24, s_25, get0, get1, get2, get3, get4, get5, set0, set1, set2, set3, set4, set5, sh0, sh1, sh2, sh3, sh4, sh5, sh6, sh7, sh8, sh9, sh10, sh11, gl0, pop_dq, dq_app, dq_len, $xs,*])
set_option hygiene true
/-- a pair of states -/
abbrev Pr := Nat × Option Nat
def oD (o : Option Nat) : D := match o with
  | some c => .int (c : Nat)
  | none => .non
def prL (p : Pr) : List D := [.int (p.1 : Nat), oD p.2]
def prD (p : Pr) : D := .tup (prL p)
def prC (p : Pr) : Cell := .lst (prL p)
def okPr (m : Nat) (p : Pr) : Prop := p.1 < m ∧ ∀ c, p.2 = some c → c < m
def idsD (b m : Nat) : List D := (List.range m).map fun k => .own (b + k)
theorem pr_get {q : Dq} {r s : Sto} {cs : List Pr} {i : Nat} {p : Pr} (h : cs[i]? = some p) : (Dq.st q (r ++ (cs.map prC ++ s)))[r.length + 4 + i]? = some (prC p) := by
  show (_ :: _ :: _ :: _ :: (r ++ (cs.map prC ++ s)))[r.length + 4 + i]? = _
  rw [show r.length + 4 + i = (r.length + i) + 4 by omega]
  simp only [List.getElem?_cons_succ]
  rw [List.getElem?_append_right (by omega), show r.length + i - r.length = i by omega, List.getElem?_append_left (by
    rw [List.length_map]
    exact (List.getElem?_eq_some_iff.mp h).1), List.getElem?_map, h]
  rfl
theorem pr_out {q : Dq} {r : Sto} {cs : List Pr} {x : Cell} : (Dq.st q (r ++ (cs.map prC ++ [x])))[r.length + 4 + cs.length]? = some x := by
  show (_ :: _ :: _ :: _ :: (r ++ (cs.map prC ++ [x])))[r.length + 4 + cs.length]? = _
  rw [show r.length + 4 + cs.length = (r.length + cs.length) + 4 by omega]
  simp only [List.getElem?_cons_succ]
  rw [List.getElem?_append_right (by omega), show r.length + cs.length - r.length = cs.length by omega, List.getElem?_append_right (by simp)]
  simp
theorem pr_set {q : Dq} {r s : Sto} {cs : List Pr} {i : Nat} {p : Pr} (h : i < cs.length) : (Dq.st q (r ++ (cs.map prC ++ s))).set (r.length + 4 + i) (prC p) = Dq.st q (r ++ ((cs.set i p).map prC ++ s)) := by
  show (_ :: _ :: _ :: _ :: (r ++ (cs.map prC ++ s))).set (r.length + 4 + i) (prC p) = _
  rw [show r.length + 4 + i = (r.length + i) + 4 by omega]
  simp only [List.set_cons_succ]
  rw [List.set_append_right _ _ (by omega), show r.length + i - r.length = i by omega, List.set_append_left _ _ (by rw [List.length_map]; exact h), List.map_set]
  rfl
theorem ids_get {b m i : Nat} (h : i < m) : (idsD b m)[i]? = some (.own (b + i)) := by
  unfold idsD
  rw [List.getElem?_map, List.getElem?_range h]; rfl
theorem ids_snoc {b m : Nat} : idsD b (m + 1) = idsD b m ++ [.own (b + m)] := by unfold idsD; rw [List.range_succ, List.map_append]; rfl
theorem ids_len {b m : Nat} : (idsD b m).length = m := by unfold idsD; simp
theorem isn_oD {o : Option Nat} {st : Sto} : cmpE .isn (oD o) .non st = some o.isSome := by cases o <;> rfl
theorem same_ids {b m : Nat} : sameL (idsD b m) (idsD b m) = true := sameL_map (fun k => by simp [same]) _
theorem dq_sol {q : Dq} {r s : Sto} {v : D} (h : sol 60 v = true) : popD (r.length + 4) v (Dq.st q (r ++ s)) = some (v, Dq.st q r) :=
  pop_sol (st := Dq.st q r) (cs := s) h
theorem sol_oD (k : Nat) (o : Option Nat) : sol k (oD o) = true := by cases o <;> cases k <;> rfl
theorem sol_prD (k : Nat) (p : Pr) : sol (k + 1) (prD p) = true := by
  unfold prD prL
  rw [sol, solL, solL, solL, sol_oD]
  cases k <;> rfl
theorem states_ok (k b : Nat) (q : Dq) (r : Sto) (m : Nat) (n : Int) (hk : 3 ≤ k) (h0 : 0 < m) (hm : m ≤ 100) (h3 : q.ok n) (h4 : n < 1099511000000) :
    W (callD tab k b 7 [.own 3, .int (m : Nat)] (q.st r)) fun x => ∃ (rl : List Pr) (q' : Dq), x = (.tup (rl.map prD), Dq.st q' r) ∧ (∀ p ∈ rl, okPr rl.length p) ∧ 0 < rl.length ∧ rl.length ≤ m ∧ q'.ok (n + 1 + 3 * m) := by
  obtain ⟨k, rfl⟩ : ∃ j, k = j + 1 := ⟨k - 1, by omega⟩
  refine W_call df_7 rfl ?_
  push_cast [b__law_states]
  refine (draw_ok k _ q _ m _ (by omega) (by omega) (by omega) h3 (by omega)).mono ?_
  rintro _ ⟨v, q1, rfl, v0, v1, k1⟩
  obtain ⟨c, hc, hc1, hc2⟩ : ∃ c : Nat, 1 + v = (c : Int) ∧ 0 < c ∧ c ≤ m := ⟨(1 + v).toNat, by omega, by omega, by omega⟩
  have rg : (-4611686018427387904 : Int) ≤ (c : Int) ∧ (c : Int) < 4611686018427387904 := by omega
  have rn : ((c : Nat) : Int).toNat = c := by omega
  push_cast [hc, rg, rn]
  refine W_lc (fun k : Nat => D.int (0 + (k : Int))) (List.range c) (fun l vs st => ∃ (cs : List Pr) (q' : Dq), vs = idsD (r.length + 4) cs.length ∧ st = q'.st (r ++ cs.map prC) ∧ q'.ok (n + 1 + 3 * cs.length) ∧ cs.length + l.length = c ∧ ∀ p ∈ cs, okPr c p) rfl ⟨[], q1, rfl, by rw [List.map_nil, List.append_nil], k1.mono (by simp), by simp, by simp⟩ ?_ ?_
  · rintro i l vs st ⟨cs, q2, rfl, rfl, k2, hl, hp⟩
    simp only [List.length_cons] at hl
    push_cast
    refine (draw_ok k _ q2 _ c _ (by omega) (by omega) (by omega) k2 (by omega)).mono ?_
    rintro _ ⟨a, q3, rfl, a0, a1, k3⟩
    push_cast
    refine (draw_ok k _ q3 _ c _ (by omega) (by omega) (by omega) k3 (by omega)).mono ?_
    rintro _ ⟨e, q4, rfl, e0, e1, k4⟩
    push_cast
    refine (pick_ok k _ q4 _ _ _ (by omega) (by simp) (by simp) k4 (by omega)).mono ?_
    rintro _ ⟨d, q5, rfl, hd, k5⟩
    obtain ⟨o, rfl, ho⟩ : ∃ o : Option Nat, d = oD o ∧ ∀ x, o = some x → x < c := by
      simp only [List.mem_cons, List.not_mem_nil, or_false] at hd
      rcases hd with rfl | rfl
      · exact ⟨none, rfl, fun x h => by cases h⟩
      · exact ⟨some e.toNat, by show D.int e = .int ((e.toNat : Nat) : Int); rw [Int.toNat_of_nonneg e0], fun x h => by cases h; omega⟩
    push_cast
    refine ⟨cs ++ [(a.toNat, o)], q5, ?_, ?_, k5.mono (by simp; omega), by simp; omega, fun p hm => ?_⟩
    · rw [List.length_append, List.length_singleton, ids_snoc]
      congr 3
      omega
    · have ea : D.int a = .int ((a.toNat : Nat) : Int) := by rw [Int.toNat_of_nonneg a0]
      rw [List.map_append, ea]
      rfl
    · rcases List.mem_append.mp hm with hm | hm
      · exact hp p hm
      · rw [List.mem_singleton.mp hm]; exact ⟨by show a.toNat < c; omega, ho⟩
  · rintro vs st ⟨cs, q2, rfl, rfl, k2, hl, hp⟩
    simp only [List.length_nil, Nat.add_zero] at hl
    subst hl
    have gl : cs.length ≤ 16777216 := by omega
    have i1 : ixn 2 1 = some 1 := rfl
    have s1 : ∀ x y z : D, [x, y].set 1 z = [x, z] := fun _ _ _ => rfl
    have wl : ∀ (n : Nat) (l : List D), wrL 0 n l = true := fun n l => by simp [wrL]
    push_cast [ids_len, gl, rg, rn]
    refine W_for (fun k : Nat => D.int (0 + (k : Int))) (List.range cs.length) (fun l env st => ∃ (c2 : List Pr) (o4 : Option D), env = [some (.own 3), some (.int (m : Nat)), some (.int (cs.length : Nat)), some (.own (r.length + (cs.length + 4))), o4, none] ∧ st = q2.st (r ++ (c2.map prC ++ [.lst (idsD (r.length + 4) cs.length)])) ∧ c2.length = cs.length ∧ (∀ p ∈ c2, okPr cs.length p) ∧ ∀ i ∈ l, i < cs.length) rfl ⟨cs, _, rfl, rfl, rfl, hp, fun i hi => List.mem_range.mp hi⟩ ?_ ?_
    · rintro i l env st ⟨c2, o4, rfl, rfl, h2, hp2, hi⟩
      have hi1 := hi i List.mem_cons_self
      have z1 : (0 : Int) + (i : Int) = (i : Int) := by omega
      obtain ⟨p, hpi⟩ : ∃ p, c2[i]? = some p := ⟨c2[i], List.getElem?_eq_getElem (by omega)⟩
      obtain ⟨a, o⟩ := p
      have hpo := hp2 (a, o) (List.mem_of_getElem? hpi)
      have hO : (Dq.st q2 (r ++ (c2.map prC ++ [.lst (idsD (r.length + 4) cs.length)])))[r.length + (cs.length + 4)]? = some (.lst (idsD (r.length + 4) cs.length)) := by
        have := pr_out (q := q2) (r := r) (cs := c2) (x := .lst (idsD (r.length + 4) cs.length))
        rwa [h2, show r.length + 4 + cs.length = r.length + (cs.length + 4) by omega] at this
      have hI : ∀ j, j < cs.length → (idsD (r.length + 4) cs.length)[j]? = some (.own (r.length + (4 + j))) := fun j hj => by rw [ids_get hj, Nat.add_assoc]
      have hP : ∀ (j a : Nat) (o : Option Nat), c2[j]? = some (a, o) → (Dq.st q2 (r ++ (c2.map prC ++ [.lst (idsD (r.length + 4) cs.length)])))[r.length + (4 + j)]? = some (.lst [.int (a : Nat), oD o]) := fun j a o hj => by
        have := pr_get (q := q2) (r := r) (s := [.lst (idsD (r.length + 4) cs.length)]) hj
        rwa [Nat.add_assoc] at this
      have e1 := hI i hi1
      have e2 := hP i a o hpi
      have e3 : ∀ st, cmpE .isn (oD o) .non st = some o.isSome := fun st => isn_oD
      cases o with
      | none =>
        push_cast [z1, hO, e1, e2, e3, Option.isSome_none, oD]
        exact ⟨c2, _, rfl, rfl, h2, hp2, fun i h => hi i (List.mem_cons_of_mem _ h)⟩
      | some c =>
        have hc9 : c < cs.length := hpo.2 c rfl
        have e4 := hI c hc9
        obtain ⟨p9, hp9⟩ : ∃ p, c2[c]? = some p := ⟨c2[c], List.getElem?_eq_getElem (by omega)⟩
        obtain ⟨a9, o9⟩ := p9
        have e5 := hP c a9 o9 hp9
        have e6 : ∀ st, cmpE .isn (.int (c : Nat)) .non st = some true := fun st => rfl
        have e7 : (Dq.st q2 (r ++ (c2.map prC ++ [.lst (idsD (r.length + 4) cs.length)]))).set (r.length + (4 + c)) (.lst [.int (a9 : Nat), .non]) = Dq.st q2 (r ++ ((c2.set c (a9, none)).map prC ++ [.lst (idsD (r.length + 4) cs.length)])) := by
          have := pr_set (q := q2) (r := r) (s := [.lst (idsD (r.length + 4) cs.length)]) (cs := c2) (i := c) (p := (a9, none)) (by omega)
          rwa [Nat.add_assoc] at this
        have e2' : (Dq.st q2 (r ++ (c2.map prC ++ [.lst (idsD (r.length + 4) cs.length)])))[r.length + (4 + i)]? = some (.lst [.int (a : Nat), .int (c : Nat)]) := e2
        have e8 : setE (r.length + 4) (.own (r.length + (4 + c))) (.int 1) .non (Dq.st q2 (r ++ (c2.map prC ++ [.lst (idsD (r.length + 4) cs.length)]))) = some (Dq.st q2 (r ++ ((c2.set c (a9, none)).map prC ++ [.lst (idsD (r.length + 4) cs.length)]))) := by
          have wn : wr (r.length + 4) (r.length + (4 + c)) .non = true := by simp [wr, below]
          rw [← e7]
          simp [setE, e5, i1, wn]
        push_cast [z1, hO, e1, e2', e6, e4, e8]
        exact ⟨c2.set c (a9, none), _, rfl, rfl, by rw [List.length_set]; exact h2, fun p hm => by
          rcases List.mem_or_eq_of_mem_set hm with hm | rfl
          · exact hp2 p hm
          · exact ⟨(hp2 (a9, o9) (List.mem_of_getElem? hp9)).1, fun x h => by cases h⟩, fun i h => hi i (List.mem_cons_of_mem _ h)⟩
    · rintro env st ⟨c2, o4, rfl, rfl, h2, hp2, -⟩
      have hO : ∀ c2 : List Pr, c2.length = cs.length → (Dq.st q2 (r ++ (c2.map prC ++ [.lst (idsD (r.length + 4) cs.length)])))[r.length + (cs.length + 4)]? = some (.lst (idsD (r.length + 4) cs.length)) := fun c2 h2 => by
        have := pr_out (q := q2) (r := r) (cs := c2) (x := .lst (idsD (r.length + 4) cs.length))
        rwa [h2, show r.length + 4 + cs.length = r.length + (cs.length + 4) by omega] at this
      have hI : ∀ j, j < cs.length → (idsD (r.length + 4) cs.length)[j]? = some (.own (r.length + (4 + j))) := fun j hj => by rw [ids_get hj, Nat.add_assoc]
      have hP : ∀ (c2 : List Pr) (j a : Nat) (o : Option Nat), c2[j]? = some (a, o) → (Dq.st q2 (r ++ (c2.map prC ++ [.lst (idsD (r.length + 4) cs.length)])))[r.length + (4 + j)]? = some (.lst [.int (a : Nat), oD o]) := fun c2 j a o hj => by
        have := pr_get (q := q2) (r := r) (s := [.lst (idsD (r.length + 4) cs.length)]) hj
        rwa [Nat.add_assoc] at this
      have si := same_ids (b := r.length + 4) (m := cs.length)
      have hO1 := hO c2 h2
      push_cast [hO1, si]
      refine W_for (fun k : Nat => D.own (r.length + 4 + k)) (List.range cs.length) (fun l env st => ∃ (c3 : List Pr) (o5 : Option D), env = [some (.own 3), some (.int (m : Nat)), some (.int (cs.length : Nat)), some (.own (r.length + (cs.length + 4))), o4, o5] ∧ st = q2.st (r ++ (c3.map prC ++ [.lst (idsD (r.length + 4) cs.length)])) ∧ c3.length = cs.length ∧ (∀ p ∈ c3, okPr cs.length p) ∧ ∀ i ∈ l, i < cs.length) rfl ⟨c2, _, rfl, rfl, h2, hp2, fun i hi => List.mem_range.mp hi⟩ ?_ ?_
      · rintro i l env st ⟨c3, o5, rfl, rfl, h3', hp3, hi⟩
        have hi1 := hi i List.mem_cons_self
        obtain ⟨p, hpi⟩ : ∃ p, c3[i]? = some p := ⟨c3[i], List.getElem?_eq_getElem (by omega)⟩
        obtain ⟨a, o⟩ := p
        have hpo := hp3 (a, o) (List.mem_of_getElem? hpi)
        have hO2 := hO c3 h3'
        have e2 := hP c3 i a o hpi
        have e3 : ∀ st, cmpE .isn (oD o) .non st = some o.isSome := fun st => isn_oD
        cases o with
        | none =>
          push_cast [hO2, e2, e3, Option.isSome_none, si]
          exact ⟨c3, _, rfl, rfl, h3', hp3, fun i h => hi i (List.mem_cons_of_mem _ h)⟩
        | some c =>
          have hc9 : c < cs.length := hpo.2 c rfl
          have e4 := hI c hc9
          obtain ⟨p9, hp9⟩ : ∃ p, c3[c]? = some p := ⟨c3[c], List.getElem?_eq_getElem (by omega)⟩
          obtain ⟨a9, o9⟩ := p9
          have e5 := hP c3 c a9 o9 hp9
          have e6 : ∀ st, cmpE .isn (.int (c : Nat)) .non st = some true := fun st => rfl
          have e7 : ∀ st, cmpE .isn (oD o9) .non st = some o9.isSome := fun st => isn_oD
          have e2' : (Dq.st q2 (r ++ (c3.map prC ++ [.lst (idsD (r.length + 4) cs.length)])))[r.length + (4 + i)]? = some (.lst [.int (a : Nat), .int (c : Nat)]) := e2
          cases h9 : o9.isSome with
          | false =>
            rw [h9] at e7
            push_cast [hO2, e2', e6, e4, e5, e7, si]
            exact ⟨c3, _, rfl, rfl, h3', hp3, fun i h => hi i (List.mem_cons_of_mem _ h)⟩
          | true =>
            rw [h9] at e7
            have e8 : setE (r.length + 4) (.own (r.length + (4 + i))) (.int 1) .non (Dq.st q2 (r ++ (c3.map prC ++ [.lst (idsD (r.length + 4) cs.length)]))) = some (Dq.st q2 (r ++ ((c3.set i (a, none)).map prC ++ [.lst (idsD (r.length + 4) cs.length)]))) := by
              have wn : wr (r.length + 4) (r.length + (4 + i)) .non = true := by simp [wr, below]
              have := pr_set (q := q2) (r := r) (s := [.lst (idsD (r.length + 4) cs.length)]) (cs := c3) (i := i) (p := (a, none)) (by omega)
              rw [Nat.add_assoc] at this
              rw [← this]
              simp [setE, e2', i1, wn, prC, prL, oD]
            have hO3 := hO (c3.set i (a, none)) (by rw [List.length_set]; exact h3')
            push_cast [hO2, hO3, e2', e6, e4, e5, e7, e8, si]
            exact ⟨c3.set i (a, none), _, rfl, rfl, by rw [List.length_set]; exact h3', fun p hm => by
              rcases List.mem_or_eq_of_mem_set hm with hm | rfl
              · exact hp3 p hm
              · exact ⟨hpo.1, fun x h => by cases h⟩, fun i h => hi i (List.mem_cons_of_mem _ h)⟩
      · rintro env st ⟨c3, o5, rfl, rfl, h3', hp3, -⟩
        have hO2 := hO c3 h3'
        push_cast [hO2, si]
        refine W_lcM (fun k : Nat => D.own (r.length + 4 + k)) (List.range cs.length) (fun k => prD (c3.getD k (0, none))) rfl ?_ ?_
        · intro x hx
          have hx2 := List.mem_range.mp hx
          obtain ⟨p, hpi⟩ : ∃ p, c3[x]? = some p := ⟨c3[x], List.getElem?_eq_getElem (by omega)⟩
          have e2 := hP c3 x p.1 p.2 hpi
          have eg : prD (c3.getD x (0, none)) = .tup [.int (p.1 : Nat), oD p.2] := by rw [List.getD_eq_getElem?_getD, hpi]; rfl
          push_cast [hO2, e2, eg, si]
        · have em : (List.range cs.length).map (fun k => prD (c3.getD k (0, none))) = c3.map prD := by
            rw [← h3']
            apply List.ext_getElem
            · simp
            · intro j h1 h2
              have hj : j < c3.length := by simpa using h2
              simp [List.getD_eq_getElem?_getD, List.getElem?_eq_getElem hj]
          have gl3 : c3.length ≤ 16777216 := by omega
          have pz := dq_sol (q := q2) (r := r) (s := c3.map prC ++ [.lst (idsD (r.length + 4) cs.length)]) (v := .tup (c3.map prD)) (by rw [sol]; exact solL_map (sol_prD 58) c3)
          push_cast [em, gl3, pz]
          exact ⟨c3, q2, rfl, fun p hp => by rw [h3']; exact hp3 p hp, by omega, by omega, k2.mono (by omega)⟩
end Inst

set_option linter.all false
set_option maxRecDepth 100000
set_option Elab.async false
set_option maxHeartbeats 4000000
namespace Inst
open Mc
set_option hygiene false
local macro_rules
  | `(tactic| push_cast) => `(tactic| simp -dsimp -implicitDefEqProofs only [TL.plain, lst_own, evB, evS.eq_1, evS.eq_2, evS.eq_3, evS.eq_4, evS.eq_5, evS.eq_6, evS.eq_7, evS.eq_8, evS.eq_9, evS.eq_10, evS.eq_11, evS.eq_12, evS.eq_13, evE.eq_1, evE.eq_2, evE.eq_3, evE.eq_4, evE.eq_5, evE.eq_6, evE.eq_7, evE.eq_8, evE.eq_9, evE.eq_10, evE.eq_11, evE.eq_12, evE.eq_13, evE.eq_14, evE.eq_15, evE.eq_16, evE.eq_17, evE.eq_18, evE.eq_19, evE.eq_20, evE.eq_21, evE.eq_22, evE.eq_23, evT, evC, evL, evP, evO, evF, evI, asT, asL, evM, agD, wipe, ↓bind_lz, bindL_some, bindL_none, ↓ite_lz, iteL_t, iteL_f, W_ite, bind_ite, map_ite, ↓loopF_lz, ↓loopC_lz, ↓loopK_lz, ↓loopW_lz, W_some, W_bind, W_map, Option.bind_some, Option.bind_none, Option.map_some, Option.map_none, List.length_cons, List.length_nil, List.replicate, List.map_cons, List.map_nil, List.cons_append, List.nil_append, List.append_nil, List.append_assoc, Bool.false_eq_true, Bool.not_true, Bool.not_false, Bool.and_true, Bool.and_false, Bool.true_and, Bool.false_and, Bool.and_self, Bool.or_true, Bool.true_or, Bool.or_false, Bool.false_or, Nat.zero_add, Nat.add_zero, Nat.mul_zero, Nat.zero_mul, Nat.mul_one, Nat.one_mul, Nat.reduceAdd, Nat.reduceSub, Int.reduceAdd, Int.reduceSub, decide_true, decide_false, decide_eq_true_eq, true_and, and_true, eq_self, reduceCtorEq, Nat.reduceLT, Nat.reduceLeDiff, Nat.reduceEqDiff, Nat.reduceBEq, Int.reduceLT, Int.reduceLE, Int.reduceEq, Int.reduceNeg, Int.reduceToNat, Int.reducePow, Nat.reducePow, Int.reduceMul, Nat.reduceMul, Int.reduceMod, Int.reduceDiv, List.cons.injEq, List.reduceReplicate, Nat.add_assoc, List.getElem_cons_zero, List.getElem_cons_succ, Option.some.injEq, Cell.dic.injEq, Cell.lst.injEq, and_false, false_and, List.isEmpty_nil, List.isEmpty_cons, isEmpty_snoc, List.map_append, List.length_map, List.length_append, List.getLast?_concat, List.dropLast_concat, not_false_eq_true, or_true, true_or, or_false, false_or, add_int, add_tup, add_str, sub_int, mul_int, mod_int, fdv_int, pow_int, idx_own, idx_ownI, idx_tup, idx_lst, idx_strN, look_hit, look_miss, kEq_str, kEq_int, set_own, setI_own, cmp_lt, cmp_le, cmp_gt, cmp_ge, seq_tup, seq_lst, seq_own, lst_lst, lst_own, met_ok, app_own, popl_own, small_lit, still_tup, still_lst, still_non, still_str, ty_tup, ty_str, isTy, eq_str, ne_str, slc_tup, slc_str, slc_lst, add_lst, isn_bl, is_bl, blt_tupL, blt_tupO, blt_tupT, blt_all, slc_scr, blt_listO, blt_lenO, blt_lenT, blt_lenL, blt_lenS, rev_own, items_tup, items_lst, items_own, items_str, still_own, still_scr, still_zip, stillO_own, stillO_tup, stillO_lst, isl_tup, isl_lst, isl_own, tru_bl, tru_int, tru_str, tru_tup, tru_lst, wr_int, wr_str, mkL, mkD, min_int, max_int, joinE, ext_own, pop_st, pop_fz, frz_tup, frz_lst, frz_ownL, frz_ownD, frz_non, frz_bl, frz_int, frz_str, frzL_nil, frzL_cons, augI, inn_tup, nin_tup, inn_own, nin_own, flat_str, flat_int, flat_non, flat_bl, eqv_str, eqv_int, eq_int, ne_int, int_int, int_bl, isn_non, is_non, isn_str, is_str, metok_join, isKey_int, isKey_str, line_val, List.any_cons, List.any_nil, List.all_cons, List.all_nil, List.foldl_cons, List.foldl_nil, wr_ge, wrL_ge, leA, Nat.le_refl, out0, out1, out2, is_hn, is_hs, isn_hn, isn_hs, frz_out, idx_k0, at_0, at_1, at_2, at_3, at_m1, at_nat, cut_all, cut_to, cut_from, cut_m1, cut_l1, cut_one, cut_1, cut_d1, cut_d1p, cut_nn, clampA, clampB, rev_tup, ints_rev, rgv_t, rgv_f, rgv_f1, srt_own, ints_len, ints_snoc, up_ok, metok_up, ge_0, ge_1, ge_2, se_0, se_1, se_2, g_0, g_1, g_2, g_3, g_4, g_5, g_6, g_7, g_8, g_9, g_10, g_11, g_12, g_13, g_14, g_15, g_16, g_17, g_18, g_19, g_20, g_21, g_22, g_23, g_24, g_25, s_0, s_1, s_2, s_3, s_4, s_5, s_6, s_7, s_8, s_9, s_10, s_11, s_12, s_13, s_14, s_15, s_16, s_17, s_18, s_19, s_20, s_21, s_22, s_23, s_24, s_25, get0, get1, get2, get3, get4, get5, set0, set1, set2, set3, set4, set5, sh0, sh1, sh2, sh3, sh4, sh5, sh6, sh7, sh8, sh9, sh10, sh11, gl0, pop_dq, dq_app, dq_len])
  | `(tactic| push_cast [$xs,*]) => `(tactic| simp -dsimp -implicitDefEqProofs only [TL.plain, lst_own, evB, evS.eq_1, evS.eq_2, evS.eq_3, evS.eq_4, evS.eq_5, evS.eq_6, evS.eq_7, evS.eq_8, evS.eq_9, evS.eq_10, evS.eq_11, evS.eq_12, evS.eq_13, evE.eq_1, evE.eq_2, evE.eq_3, evE.eq_4, evE.eq_5, evE.eq_6, evE.eq_7, evE.eq_8, evE.eq_9, evE.eq_10, evE.eq_11, evE.eq_12, evE.eq_13, evE.eq_14, evE.eq_15, evE.eq_16, evE.eq_17, evE.eq_18, evE.eq_19, evE.eq_20, evE.eq_21, evE.eq_22, evE.eq_23, evT, evC, evL, evP, evO, evF, evI, asT, asL, evM, agD, wipe, ↓bind_lz, bindL_some, bindL_none, ↓ite_lz, iteL_t, iteL_f, W_ite, bind_ite, map_ite, ↓loopF_lz, ↓loopC_lz, ↓loopK_lz, ↓loopW_lz, W_some, W_bind, W_map, Option.bind_some, Option.bind_none, Option.map_some, Option.map_none, List.length_cons, List.length_nil, List.replicate, List.map_cons, List.map_nil, List.cons_append, List.nil_append, List.append_nil, List.append_assoc, Bool.false_eq_true, Bool.not_true, Bool.not_false, Bool.and_true, Bool.and_false, Bool.true_and, Bool.false_and, Bool.and_self, Bool.or_true, Bool.true_or, Bool.or_false, Bool.false_or, Nat.zero_add, Nat.add_zero, Nat.mul_zero, Nat.zero_mul, Nat.mul_one, Nat.one_mul, Nat.reduceAdd, Nat.reduceSub, Int.reduceAdd, Int.reduceSub, decide_true, decide_false, decide_eq_true_eq, true_and, and_true, eq_self, reduceCtorEq, Nat.reduceLT, Nat.reduceLeDiff, Nat.reduceEqDiff, Nat.reduceBEq, Int.reduceLT, Int.reduceLE, Int.reduceEq, Int.reduceNeg, Int.reduceToNat, Int.reducePow, Nat.reducePow, Int.reduceMul, Nat.reduceMul, Int.reduceMod, Int.reduceDiv, List.cons.injEq, List.reduceReplicate, Nat.add_assoc, List.getElem_cons_zero, List.getElem_cons_succ, Option.some.injEq, Cell.dic.injEq, Cell.lst.injEq, and_false, false_and, List.isEmpty_nil, List.isEmpty_cons, isEmpty_snoc, List.map_append, List.length_map, List.length_append, List.getLast?_concat, List.dropLast_concat, not_false_eq_true, or_true, true_or, or_false, false_or, add_int, add_tup, add_str, sub_int, mul_int, mod_int, fdv_int, pow_int, idx_own, idx_ownI, idx_tup, idx_lst, idx_strN, look_hit, look_miss, kEq_str, kEq_int, set_own, setI_own, cmp_lt, cmp_le, cmp_gt, cmp_ge, seq_tup, seq_lst, seq_own, lst_lst, lst_own, met_ok, app_own, popl_own, small_lit, still_tup, still_lst, still_non, still_str, ty_tup, ty_str, isTy, eq_str, ne_str, slc_tup, slc_str, slc_lst, add_lst, isn_bl, is_bl, blt_tupL, blt_tupO, blt_tupT, blt_all, slc_scr, blt_listO, blt_lenO, blt_lenT, blt_lenL, blt_lenS, rev_own, items_tup, items_lst, items_own, items_str, still_own, still_scr, still_zip, stillO_own, stillO_tup, stillO_lst, isl_tup, isl_lst, isl_own, tru_bl, tru_int, tru_str, tru_tup, tru_lst, wr_int, wr_str, mkL, mkD, min_int, max_int, joinE, ext_own, pop_st, pop_fz, frz_tup, frz_lst, frz_ownL, frz_ownD, frz_non, frz_bl, frz_int, frz_str, frzL_nil, frzL_cons, augI, inn_tup, nin_tup, inn_own, nin_own, flat_str, flat_int, flat_non, flat_bl, eqv_str, eqv_int, eq_int, ne_int, int_int, int_bl, isn_non, is_non, isn_str, is_str, metok_join, isKey_int, isKey_str, line_val, List.any_cons, List.any_nil, List.all_cons, List.all_nil, List.foldl_cons, List.foldl_nil, wr_ge, wrL_ge, leA, Nat.le_refl, out0, out1, out2, is_hn, is_hs, isn_hn, isn_hs, frz_out, idx_k0, at_0, at_1, at_2, at_3, at_m1, at_nat, cut_all, cut_to, cut_from, cut_m1, cut_l1, cut_one, cut_1, cut_d1, cut_d1p, cut_nn, clampA, clampB, rev_tup, ints_rev, rgv_t, rgv_f, rgv_f1, srt_own, ints_len, ints_snoc, up_ok, metok_up, ge_0, ge_1, ge_2, se_0, se_1, se_2, g_0, g_1, g_2, g_3, g_4, g_5, g_6, g_7, g_8, g_9, g_10, g_11, g_12, g_13, g_14, g_15, g_16, g_17, g_18, g_19, g_20, g_21, g_22, g_23, g_24, g_25, s_0, s_1, s_2, s_3, s_4, s_5, s_6, s_7, s_8, s_9, s_10, s_11, s_12, s_13, s_14, s_15, s_16, s_17, s_18, s_19, s_20, s_21, s_22, s_23, s_24, s_25, get0, get1, get2, get3, get4, get5, set0, set1, set2, set3, set4, set5, sh0, sh1, sh2, sh3, sh4, sh5, sh6, sh7, sh8, sh9, sh10, sh11, gl0, pop_dq, dq_app, dq_len, $xs,*])
set_option hygiene true
def prAt (rl : List Pr) (s : Nat) : Pr := rl.getD s (0, none)
theorem prAt_ok {rl : List Pr} (h : ∀ p ∈ rl, okPr rl.length p) {s : Nat} (hs : s < rl.length) : okPr rl.length (prAt rl s) := by
  unfold prAt
  rw [List.getD_eq_getElem?_getD, List.getElem?_eq_getElem hs]
  exact h _ (List.getElem_mem hs)
theorem pr_idx {rl : List Pr} {s : Nat} (hs : s < rl.length) : (rl.map prD)[s]? = some (.tup [.int ((prAt rl s).1 : Nat), oD (prAt rl s).2]) := by
  unfold prAt
  rw [List.getElem?_map, List.getD_eq_getElem?_getD, List.getElem?_eq_getElem hs]; rfl
theorem isO {o : Option Nat} {st : Sto} : cmpE .is (oD o) .non st = some o.isNone := by cases o <;> rfl
set_option hygiene false
local macro_rules
  | `(tactic| push_cast) => `(tactic| simp -dsimp -implicitDefEqProofs only [TL.plain, lst_own, evB, evS.eq_1, evS.eq_2, evS.eq_3, evS.eq_4, evS.eq_5, evS.eq_6, evS.eq_7, evS.eq_8, evS.eq_9, evS.eq_10, evS.eq_11, evS.eq_12, evS.eq_13, evE.eq_1, evE.eq_2, evE.eq_3, evE.eq_4, evE.eq_5, evE.eq_6, evE.eq_7, evE.eq_8, evE.eq_9, evE.eq_10, evE.eq_11, evE.eq_12, evE.eq_13, evE.eq_14, evE.eq_15, evE.eq_16, evE.eq_17, evE.eq_18, evE.eq_19, evE.eq_20, evE.eq_21, evE.eq_22, evE.eq_23, evT, evC, evL, evP, evO, evF, evI, asT, asL, evM, agD, wipe, ↓bind_lz, bindL_some, bindL_none, ↓ite_lz, iteL_t, iteL_f, W_ite, bind_ite, map_ite, ↓loopF_lz, ↓loopC_lz, ↓loopK_lz, ↓loopW_lz, W_some, W_bind, W_map, Option.bind_some, Option.bind_none, Option.map_some, Option.map_none, List.length_cons, List.length_nil, List.replicate, List.map_cons, List.map_nil, List.cons_append, List.nil_append, List.append_nil, List.append_assoc, Bool.false_eq_true, Bool.not_true, Bool.not_false, Bool.and_true, Bool.and_false, Bool.true_and, Bool.false_and, Bool.and_self, Bool.or_true, Bool.true_or, Bool.or_false, Bool.false_or, Nat.zero_add, Nat.add_zero, Nat.mul_zero, Nat.zero_mul, Nat.mul_one, Nat.one_mul, Nat.reduceAdd, Nat.reduceSub, Int.reduceAdd, Int.reduceSub, decide_true, decide_false, decide_eq_true_eq, true_and, and_true, eq_self, reduceCtorEq, Nat.reduceLT, Nat.reduceLeDiff, Nat.reduceEqDiff, Nat.reduceBEq, Int.reduceLT, Int.reduceLE, Int.reduceEq, Int.reduceNeg, Int.reduceToNat, Int.reducePow, Nat.reducePow, Int.reduceMul, Nat.reduceMul, Int.reduceMod, Int.reduceDiv, List.cons.injEq, List.reduceReplicate, Nat.add_assoc, List.getElem_cons_zero, List.getElem_cons_succ, Option.some.injEq, Cell.dic.injEq, Cell.lst.injEq, and_false, false_and, List.isEmpty_nil, List.isEmpty_cons, isEmpty_snoc, List.map_append, List.length_map, List.length_append, List.getLast?_concat, List.dropLast_concat, not_false_eq_true, or_true, true_or, or_false, false_or, add_int, add_tup, add_str, sub_int, mul_int, mod_int, fdv_int, pow_int, idx_own, idx_ownI, idx_tup, idx_lst, idx_strN, look_hit, look_miss, kEq_str, kEq_int, set_own, setI_own, cmp_lt, cmp_le, cmp_gt, cmp_ge, seq_tup, seq_lst, seq_own, lst_lst, lst_own, met_ok, app_own, popl_own, small_lit, still_tup, still_lst, still_non, still_str, ty_tup, ty_str, isTy, eq_str, ne_str, slc_tup, slc_str, slc_lst, add_lst, isn_bl, is_bl, blt_tupL, blt_tupO, blt_tupT, blt_all, slc_scr, blt_listO, blt_lenO, blt_lenT, blt_lenL, blt_lenS, rev_own, items_tup, items_lst, items_own, items_str, still_own, still_scr, still_zip, stillO_own, stillO_tup, stillO_lst, isl_tup, isl_lst, isl_own, tru_bl, tru_int, tru_str, tru_tup, tru_lst, wr_int, wr_str, mkL, mkD, min_int, max_int, joinE, ext_own, pop_st, pop_fz, frz_tup, frz_lst, frz_ownL, frz_ownD, frz_non, frz_bl, frz_int, frz_str, frzL_nil, frzL_cons, augI, inn_tup, nin_tup, inn_own, nin_own, flat_str, flat_int, flat_non, flat_bl, eqv_str, eqv_int, eq_int, ne_int, int_int, int_bl, isn_non, is_non, isn_str, is_str, metok_join, isKey_int, isKey_str, line_val, List.any_cons, List.any_nil, List.all_cons, List.all_nil, List.foldl_cons, List.foldl_nil, wr_ge, wrL_ge, leA, Nat.le_refl, out0, out1, out2, is_hn, is_hs, isn_hn, isn_hs, frz_out, idx_k0, at_0, at_1, at_2, at_3, at_m1, at_nat, cut_all, cut_to, cut_from, cut_m1, cut_l1, cut_one, cut_1, cut_d1, cut_d1p, cut_nn, clampA, clampB, rev_tup, ints_rev, rgv_t, rgv_f, rgv_f1, srt_own, ints_len, ints_snoc, up_ok, metok_up, ge_0, ge_1, ge_2, se_0, se_1, se_2, g_0, g_1, g_2, g_3, g_4, g_5, g_6, g_7, g_8, g_9, g_10, g_11, g_12, g_13, g_14, g_15, g_16, g_17, g_18, g_19, g_20, g_21, g_22, g_23, g_24, g_25, s_0, s_1, s_2, s_3, s_4, s_5, s_6, s_7, s_8, s_9, s_10, s_11, s_12, s_13, s_14, s_15, s_16, s_17, s_18, s_19, s_20, s_21, s_22, s_23, s_24, s_25, get0, get1, get2, get3, get4, get5, set0, set1, set2, set3, set4, set5, sh0, sh1, sh2, sh3, sh4, sh5, sh6, sh7, sh8, sh9, sh10, sh11, gl0, pop_dq, dq_app, dq_len, eqz_tup, eqz_lst, ty_int, ty_bl, ty_non, ty_lst, ty_dic, trus_map, all_id, add_bl, sub_bl, subi_bl, strB_bl, mul2_lst, blt_listT])
  | `(tactic| push_cast [$xs,*]) => `(tactic| simp -dsimp -implicitDefEqProofs only [TL.plain, lst_own, evB, evS.eq_1, evS.eq_2, evS.eq_3, evS.eq_4, evS.eq_5, evS.eq_6, evS.eq_7, evS.eq_8, evS.eq_9, evS.eq_10, evS.eq_11, evS.eq_12, evS.eq_13, evE.eq_1, evE.eq_2, evE.eq_3, evE.eq_4, evE.eq_5, evE.eq_6, evE.eq_7, evE.eq_8, evE.eq_9, evE.eq_10, evE.eq_11, evE.eq_12, evE.eq_13, evE.eq_14, evE.eq_15, evE.eq_16, evE.eq_17, evE.eq_18, evE.eq_19, evE.eq_20, evE.eq_21, evE.eq_22, evE.eq_23, evT, evC, evL, evP, evO, evF, evI, asT, asL, evM, agD, wipe, ↓bind_lz, bindL_some, bindL_none, ↓ite_lz, iteL_t, iteL_f, W_ite, bind_ite, map_ite, ↓loopF_lz, ↓loopC_lz, ↓loopK_lz, ↓loopW_lz, W_some, W_bind, W_map, Option.bind_some, Option.bind_none, Option.map_some, Option.map_none, List.length_cons, List.length_nil, List.replicate, List.map_cons, List.map_nil, List.cons_append, List.nil_append, List.append_nil, List.append_assoc, Bool.false_eq_true, Bool.not_true, Bool.not_false, Bool.and_true, Bool.and_false, Bool.true_and, Bool.false_and, Bool.and_self, Bool.or_true, Bool.true_or, Bool.or_false, Bool.false_or, Nat.zero_add, Nat.add_zero, Nat.mul_zero, Nat.zero_mul, Nat.mul_one, Nat.one_mul, Nat.reduceAdd, Nat.reduceSub, Int.reduceAdd, Int.reduceSub, decide_true, decide_false, decide_eq_true_eq, true_and, and_true, eq_self, reduceCtorEq, Nat.reduceLT, Nat.reduceLeDiff, Nat.reduceEqDiff, Nat.reduceBEq, Int.reduceLT, Int.reduceLE, Int.reduceEq, Int.reduceNeg, Int.reduceToNat, Int.reducePow, Nat.reducePow, Int.reduceMul, Nat.reduceMul, Int.reduceMod, Int.reduceDiv, List.cons.injEq, List.reduceReplicate, Nat.add_assoc, List.getElem_cons_zero, List.getElem_cons_succ, Option.some.injEq, Cell.dic.injEq, Cell.lst.injEq, and_false, false_and, List.isEmpty_nil, List.isEmpty_cons, isEmpty_snoc, List.map_append, List.length_map, List.length_append, List.getLast?_concat, List.dropLast_concat, not_false_eq_true, or_true, true_or, or_false, false_or, add_int, add_tup, add_str, sub_int, mul_int, mod_int, fdv_int, pow_int, idx_own, idx_ownI, idx_tup, idx_lst, idx_strN, look_hit, look_miss, kEq_str, kEq_int, set_own, setI_own, cmp_lt, cmp_le, cmp_gt, cmp_ge, seq_tup, seq_lst, seq_own, lst_lst, lst_own, met_ok, app_own, popl_own, small_lit, still_tup, still_lst, still_non, still_str, ty_tup, ty_str, isTy, eq_str, ne_str, slc_tup, slc_str, slc_lst, add_lst, isn_bl, is_bl, blt_tupL, blt_tupO, blt_tupT, blt_all, slc_scr, blt_listO, blt_lenO, blt_lenT, blt_lenL, blt_lenS, rev_own, items_tup, items_lst, items_own, items_str, still_own, still_scr, still_zip, stillO_own, stillO_tup, stillO_lst, isl_tup, isl_lst, isl_own, tru_bl, tru_int, tru_str, tru_tup, tru_lst, wr_int, wr_str, mkL, mkD, min_int, max_int, joinE, ext_own, pop_st, pop_fz, frz_tup, frz_lst, frz_ownL, frz_ownD, frz_non, frz_bl, frz_int, frz_str, frzL_nil, frzL_cons, augI, inn_tup, nin_tup, inn_own, nin_own, flat_str, flat_int, flat_non, flat_bl, eqv_str, eqv_int, eq_int, ne_int, int_int, int_bl, isn_non, is_non, isn_str, is_str, metok_join, isKey_int, isKey_str, line_val, List.any_cons, List.any_nil, List.all_cons, List.all_nil, List.foldl_cons, List.foldl_nil, wr_ge, wrL_ge, leA, Nat.le_refl, out0, out1, out2, is_hn, is_hs, isn_hn, isn_hs, frz_out, idx_k0, at_0, at_1, at_2, at_3, at_m1, at_nat, cut_all, cut_to, cut_from, cut_m1, cut_l1, cut_one, cut_1, cut_d1, cut_d1p, cut_nn, clampA, clampB, rev_tup, ints_rev, rgv_t, rgv_f, rgv_f1, srt_own, ints_len, ints_snoc, up_ok, metok_up, ge_0, ge_1, ge_2, se_0, se_1, se_2, g_0, g_1, g_2, g_3, g_4, g_5, g_6, g_7, g_8, g_9, g_10, g_11, g_12, g_13, g_14, g_15, g_16, g_17, g_18, g_19, g_20, g_21, g_22, g_23, g_24, g_25, s_0, s_1, s_2, s_3, s_4, s_5, s_6, s_7, s_8, s_9, s_10, s_11, s_12, s_13, s_14, s_15, s_16, s_17, s_18, s_19, s_20, s_21, s_22, s_23, s_24, s_25, get0, get1, get2, get3, get4, get5, set0, set1, set2, set3, set4, set5, sh0, sh1, sh2, sh3, sh4, sh5, sh6, sh7, sh8, sh9, sh10, sh11, gl0, pop_dq, dq_app, dq_len, eqz_tup, eqz_lst, ty_int, ty_bl, ty_non, ty_lst, ty_dic, trus_map, all_id, add_bl, sub_bl, subi_bl, strB_bl, mul2_lst, blt_listT, $xs,*])
set_option hygiene true

def intB : D → Bool
  | .int _ => true
  | _ => false
def stB (n : Nat) : D → Bool
  | .int i => decide (0 ≤ i) && decide (i < n)
  | _ => false
def prB (n : Nat) : D → Bool
  | .tup [a, b] => stB n a && (isNon b || stB n b)
  | _ => false
theorem is_integer_ok (k b n : Nat) (d : D) (st : Sto) (hk : 1 ≤ k) (h : plainZ n d = true) : callD tab k b 0 [d] st = some (.bl (intB d), st) := by
  obtain ⟨k, rfl⟩ : ∃ j, k = j + 1 := ⟨k - 1, by omega⟩
  refine W_eq (W_call df_0 rfl ?_)
  cases d with
  | own i => simp [plainZ] at h
  | rng i j => simp [plainZ] at h
  | scr i => simp [plainZ] at h
  | _ => push_cast [b_is_integer, intB]
theorem is_state_ok (k b n c : Nat) (d : D) (st : Sto) (hk : 2 ≤ k) (h : plainZ n d = true) : callD tab k b 1 [d, .int (c : Nat)] st = some (.bl (stB c d), st) := by
  obtain ⟨k, rfl⟩ : ∃ j, k = j + 1 := ⟨k - 1, by omega⟩
  refine W_eq (W_call df_1 rfl ?_)
  have e := fun b st => is_integer_ok k b n d st (by omega) h
  cases hi : intB d with
  | false =>
    have hs : stB c d = false := by cases d <;> first | rfl | cases hi
    push_cast [b_is_state, e, hi, hs]
  | true =>
    obtain ⟨i, rfl⟩ : ∃ i, d = .int i := by cases d <;> first | exact ⟨_, rfl⟩ | cases hi
    by_cases h0 : 0 ≤ i
    · by_cases h1 : i < (c : Int)
      · push_cast [b_is_state, e, hi, h0, h1, stB]
      · push_cast [b_is_state, e, hi, h0, h1, stB]
    · push_cast [b_is_state, e, hi, h0, stB]
theorem is_pair_ok (k b n c : Nat) (d : D) (st : Sto) (hk : 3 ≤ k) (h : plainZ n d = true) : callD tab k b 2 [d, .int (c : Nat)] st = some (.bl (prB c d), st) := by
  obtain ⟨k, rfl⟩ : ∃ j, k = j + 1 := ⟨k - 1, by omega⟩
  refine W_eq (W_call df_2 rfl ?_)
  have c2 : ((2 : Nat) : Int) = 2 := rfl
  have other : ∀ l : List D, l.length ≠ 2 → prB c (.tup l) = false := fun l hl => by
    match l, hl with
    | [], _ => rfl
    | [a], _ => rfl
    | [a, b], h => simp at h
    | a :: b :: c :: r, _ => rfl
  cases d with
  | own i => simp [plainZ] at h
  | rng i j => simp [plainZ] at h
  | scr i => simp [plainZ] at h
  | tup l =>
    by_cases hl : l.length = 2
    · obtain ⟨x, y, rfl⟩ : ∃ x y, l = [x, y] := by
        match l, hl with
        | [x, y], _ => exact ⟨x, y, rfl⟩
      obtain ⟨n, rfl⟩ : ∃ j, n = j + 1 := by cases n with
        | zero => simp [plainZ] at h
        | succ j => exact ⟨j, rfl⟩
      rw [plainZ, plainZL_all] at h
      have e1 := fun b st => is_state_ok k b n c x st (by omega) (h x (by simp))
      have e2 := fun b st => is_state_ok k b n c y st (by omega) (h y (by simp))
      have e3 : ∀ st, cmpE .is y .non st = some (isNon y) := fun st => isz
      cases h1 : stB c x with
      | false => push_cast [b_is_state_pair, e1, h1, prB, c2]
      | true =>
        cases h2 : isNon y with
        | true => push_cast [b_is_state_pair, e1, h1, e3, h2, prB, c2]
        | false => push_cast [b_is_state_pair, e1, e2, h1, e3, h2, prB, c2]
    · have hl2 : ¬ ((l.length : Int) = 2) := by omega
      have ho := other l hl
      push_cast [b_is_state_pair, hl2, ho]
  | _ => push_cast [b_is_state_pair, prB]
/-- a rule's second clause -/
def okZ (rl : List Pr) (p : Pr) : Bool := match p.2 with
  | none => true
  | some c => (prAt rl c).2.isNone
theorem pr_dec (n : Nat) : ∀ l : List D, l.all (prB n) = true → ∃ rl : List Pr, l = rl.map prD ∧ ∀ p ∈ rl, okPr n p
  | [], _ => ⟨[], rfl, by simp⟩
  | d :: l, h => by
    rw [List.all_cons, Bool.and_eq_true] at h
    obtain ⟨rl, e, hr⟩ := pr_dec n l h.2
    have st_int : ∀ x, stB n x = true → ∃ a : Nat, x = .int (a : Nat) ∧ a < n := fun x hx => by
      cases x <;> first | (simp [stB] at hx; done) | skip
      rename_i i
      simp only [stB, Bool.and_eq_true, decide_eq_true_eq] at hx
      exact ⟨i.toNat, by rw [Int.toNat_of_nonneg hx.1], by omega⟩
    obtain ⟨x, y, rfl⟩ : ∃ x y, d = .tup [x, y] := by
      match d, h.1 with
      | .tup [x, y], _ => exact ⟨x, y, rfl⟩
    have h1 := h.1
    simp only [prB, Bool.and_eq_true, Bool.or_eq_true] at h1
    obtain ⟨a, rfl, ha⟩ := st_int x h1.1
    obtain ⟨o, rfl, ho⟩ : ∃ o : Option Nat, y = oD o ∧ ∀ c, o = some c → c < n := by
      rcases h1.2 with hy | hy
      · refine ⟨none, ?_, fun c hc => by cases hc⟩
        cases y <;> first | rfl | cases hy
      · obtain ⟨c, rfl, hc⟩ := st_int y hy
        exact ⟨some c, rfl, fun x hx => by cases hx; exact hc⟩
    refine ⟨(a, o) :: rl, by rw [e]; rfl, fun p hp => ?_⟩
    rcases List.mem_cons.mp hp with rfl | hp
    · exact ⟨ha, ho⟩
    · exact hr p hp
theorem oDs {c : Nat} : oD (some c) = .int (c : Nat) := rfl
theorem oDn : oD none = .non := rfl
theorem isNon_oD (o : Option Nat) : isNon (oD o) = o.isNone := by cases o <;> rfl
/-- what is_rule says -/
inductive RuleV : D → Bool → Prop
  | no {d : D} : (∀ l, d ≠ .tup l) → RuleV d false
  | nil : RuleV (.tup []) false
  | bad {l : List D} : l ≠ [] → l.all (prB l.length) = false → RuleV (.tup l) false
  | good {rl : List Pr} : 0 < rl.length → (∀ p ∈ rl, okPr rl.length p) → (rl.map prD).all (prB rl.length) = true → RuleV (.tup (rl.map prD)) (rl.all (okZ rl))
theorem ruleV (d : D) : ∃ r, RuleV d r := by
  by_cases h : ∃ l, d = .tup l
  · obtain ⟨l, rfl⟩ := h
    by_cases hn : l = []
    · subst hn; exact ⟨_, .nil⟩
    · cases ha : l.all (prB l.length) with
      | false => exact ⟨_, .bad hn ha⟩
      | true =>
        obtain ⟨rl, e, hr⟩ := pr_dec _ l ha
        have el : l.length = rl.length := by rw [e, List.length_map]
        rw [el] at hr ha
        subst e
        exact ⟨_, .good (by cases rl with | nil => simp at hn | cons a r => simp) hr ha⟩
  · exact ⟨_, .no fun l e => h ⟨l, e⟩⟩
theorem is_rule_ok (k b n : Nat) (d : D) (r : Bool) (st : Sto) (hk : 4 ≤ k) (h : plainZ n d = true) (hw : sz d ≤ 80000) (hr : RuleV d r) : callD tab k b 3 [d] st = some (.bl r, st) := by
  obtain ⟨k, rfl⟩ : ∃ j, k = j + 1 := ⟨k - 1, by omega⟩
  refine W_eq (W_call df_3 rfl ?_)
  have memZ : ∀ l, plainZ n (.tup l) = true → ∀ x ∈ l, plainZ n x = true := fun l h x hx => by
    cases n with
    | zero => simp [plainZ] at h
    | succ n =>
      rw [plainZ, plainZL_all] at h
      exact plainZ_mono (by omega) (h x hx)
  have lenZ : ∀ l, sz (.tup l) ≤ 80000 → l.length ≤ 16777216 := fun l h => by
    have := szL_len (l := l)
    rw [sz] at h; omega
  cases hr with
  | no hd =>
    cases d with
    | tup l => exact absurd rfl (hd l)
    | own i => simp [plainZ] at h
    | rng i j => simp [plainZ] at h
    | scr i => simp [plainZ] at h
    | _ => push_cast [b_is_rule]
  | nil => push_cast [b_is_rule]
  | bad hn ha =>
    rename_i l
    have he : l.isEmpty = false := by cases l with | nil => exact absurd rfl hn | cons a t => rfl
    have hl := lenZ l hw
    push_cast [b_is_rule, he]
    refine W_lcM (fun x => x) l (fun p => .bl (prB l.length p)) (by simp) (fun p hp => ?_) ?_
    · have e1 := fun b st => is_pair_ok k b n l.length p st (by omega) (memZ l h p hp)
      push_cast [e1]
    · push_cast [hl, ha]
  | good h0 hr ha =>
    rename_i rl
    have he : (rl.map prD).isEmpty = false := by cases rl with | nil => simp at h0 | cons a t => rfl
    have hl := lenZ _ hw
    rw [List.length_map] at hl
    push_cast [b_is_rule, he]
    refine W_lcM prD rl (fun p => .bl (prB rl.length (prD p))) rfl (fun p hp => ?_) ?_
    · have e1 := fun b st => is_pair_ok k b n rl.length (prD p) st (by omega) (memZ _ h _ (List.mem_map.mpr ⟨p, hp, rfl⟩))
      push_cast [e1]
    · have ha2 : (rl.all fun p => prB rl.length (prD p)) = true := by rw [List.all_map] at ha; exact ha
      push_cast [hl, ha2]
      refine W_lcM prD rl (fun p => .bl (okZ rl p)) rfl (fun p hp => ?_) ?_
      · obtain ⟨a, o⟩ := p
        have e3 : ∀ st, cmpE .is .non .non st = some true := fun st => rfl
        cases o with
        | none => push_cast [prD, prL, oDn, e3, okZ]
        | some c =>
          have e4 : ∀ st, cmpE .is (.int (c : Nat)) .non st = some false := fun st => rfl
          have hc := (hr _ hp).2 c rfl
          have e5 := pr_idx hc
          have e6 : ∀ st, cmpE .is (oD (prAt rl c).2) .non st = some (prAt rl c).2.isNone := fun st => isO
          push_cast [prD, prL, oDs, e4, e5, e6, okZ]
      · push_cast [hl]
end Inst

set_option linter.all false
set_option maxRecDepth 100000
set_option Elab.async false
set_option maxHeartbeats 4000000
namespace Inst
open Mc
set_option hygiene false
local macro_rules
  | `(tactic| push_cast) => `(tactic| simp -dsimp -implicitDefEqProofs only [TL.plain, lst_own, evB, evS.eq_1, evS.eq_2, evS.eq_3, evS.eq_4, evS.eq_5, evS.eq_6, evS.eq_7, evS.eq_8, evS.eq_9, evS.eq_10, evS.eq_11, evS.eq_12, evS.eq_13, evE.eq_1, evE.eq_2, evE.eq_3, evE.eq_4, evE.eq_5, evE.eq_6, evE.eq_7, evE.eq_8, evE.eq_9, evE.eq_10, evE.eq_11, evE.eq_12, evE.eq_13, evE.eq_14, evE.eq_15, evE.eq_16, evE.eq_17, evE.eq_18, evE.eq_19, evE.eq_20, evE.eq_21, evE.eq_22, evE.eq_23, evT, evC, evL, evP, evO, evF, evI, asT, asL, evM, agD, wipe, ↓bind_lz, bindL_some, bindL_none, ↓ite_lz, iteL_t, iteL_f, W_ite, bind_ite, map_ite, ↓loopF_lz, ↓loopC_lz, ↓loopK_lz, ↓loopW_lz, W_some, W_bind, W_map, Option.bind_some, Option.bind_none, Option.map_some, Option.map_none, List.length_cons, List.length_nil, List.replicate, List.map_cons, List.map_nil, List.cons_append, List.nil_append, List.append_nil, List.append_assoc, Bool.false_eq_true, Bool.not_true, Bool.not_false, Bool.and_true, Bool.and_false, Bool.true_and, Bool.false_and, Bool.and_self, Bool.or_true, Bool.true_or, Bool.or_false, Bool.false_or, Nat.zero_add, Nat.add_zero, Nat.mul_zero, Nat.zero_mul, Nat.mul_one, Nat.one_mul, Nat.reduceAdd, Nat.reduceSub, Int.reduceAdd, Int.reduceSub, decide_true, decide_false, decide_eq_true_eq, true_and, and_true, eq_self, reduceCtorEq, Nat.reduceLT, Nat.reduceLeDiff, Nat.reduceEqDiff, Nat.reduceBEq, Int.reduceLT, Int.reduceLE, Int.reduceEq, Int.reduceNeg, Int.reduceToNat, Int.reducePow, Nat.reducePow, Int.reduceMul, Nat.reduceMul, Int.reduceMod, Int.reduceDiv, List.cons.injEq, List.reduceReplicate, Nat.add_assoc, List.getElem_cons_zero, List.getElem_cons_succ, Option.some.injEq, Cell.dic.injEq, Cell.lst.injEq, and_false, false_and, List.isEmpty_nil, List.isEmpty_cons, isEmpty_snoc, List.map_append, List.length_map, List.length_append, List.getLast?_concat, List.dropLast_concat, not_false_eq_true, or_true, true_or, or_false, false_or, add_int, add_tup, add_str, sub_int, mul_int, mod_int, fdv_int, pow_int, idx_own, idx_ownI, idx_tup, idx_lst, idx_strN, look_hit, look_miss, kEq_str, kEq_int, set_own, setI_own, cmp_lt, cmp_le, cmp_gt, cmp_ge, seq_tup, seq_lst, seq_own, lst_lst, lst_own, met_ok, app_own, popl_own, small_lit, still_tup, still_lst, still_non, still_str, ty_tup, ty_str, isTy, eq_str, ne_str, slc_tup, slc_str, slc_lst, add_lst, isn_bl, is_bl, blt_tupL, blt_tupO, blt_tupT, blt_all, slc_scr, blt_listO, blt_lenO, blt_lenT, blt_lenL, blt_lenS, rev_own, items_tup, items_lst, items_own, items_str, still_own, still_scr, still_zip, stillO_own, stillO_tup, stillO_lst, isl_tup, isl_lst, isl_own, tru_bl, tru_int, tru_str, tru_tup, tru_lst, wr_int, wr_str, mkL, mkD, min_int, max_int, joinE, ext_own, pop_st, pop_fz, frz_tup, frz_lst, frz_ownL, frz_ownD, frz_non, frz_bl, frz_int, frz_str, frzL_nil, frzL_cons, augI, inn_tup, nin_tup, inn_own, nin_own, flat_str, flat_int, flat_non, flat_bl, eqv_str, eqv_int, eq_int, ne_int, int_int, int_bl, isn_non, is_non, isn_str, is_str, metok_join, isKey_int, isKey_str, line_val, List.any_cons, List.any_nil, List.all_cons, List.all_nil, List.foldl_cons, List.foldl_nil, wr_ge, wrL_ge, leA, Nat.le_refl, out0, out1, out2, is_hn, is_hs, isn_hn, isn_hs, frz_out, idx_k0, at_0, at_1, at_2, at_3, at_m1, at_nat, cut_all, cut_to, cut_from, cut_m1, cut_l1, cut_one, cut_1, cut_d1, cut_d1p, cut_nn, clampA, clampB, rev_tup, ints_rev, rgv_t, rgv_f, rgv_f1, srt_own, ints_len, ints_snoc, up_ok, metok_up, ge_0, ge_1, ge_2, se_0, se_1, se_2, g_0, g_1, g_2, g_3, g_4, g_5, g_6, g_7, g_8, g_9, g_10, g_11, g_12, g_13, g_14, g_15, g_16, g_17, g_18, g_19, g_20, g_21, g_22, g_23, g_24, g_25, s_0, s_1, s_2, s_3, s_4, s_5, s_6, s_7, s_8, s_9, s_10, s_11, s_12, s_13, s_14, s_15, s_16, s_17, s_18, s_19, s_20, s_21, s_22, s_23, s_24, s_25, get0, get1, get2, get3, get4, get5, set0, set1, set2, set3, set4, set5, sh0, sh1, sh2, sh3, sh4, sh5, sh6, sh7, sh8, sh9, sh10, sh11, gl0, pop_dq, dq_app, dq_len, eqz_tup, eqz_lst, ty_int, ty_bl, ty_non, ty_lst, ty_dic, trus_map, all_id, add_bl, sub_bl, subi_bl, strB_bl, mul2_lst, blt_listT])
  | `(tactic| push_cast [$xs,*]) => `(tactic| simp -dsimp -implicitDefEqProofs only [TL.plain, lst_own, evB, evS.eq_1, evS.eq_2, evS.eq_3, evS.eq_4, evS.eq_5, evS.eq_6, evS.eq_7, evS.eq_8, evS.eq_9, evS.eq_10, evS.eq_11, evS.eq_12, evS.eq_13, evE.eq_1, evE.eq_2, evE.eq_3, evE.eq_4, evE.eq_5, evE.eq_6, evE.eq_7, evE.eq_8, evE.eq_9, evE.eq_10, evE.eq_11, evE.eq_12, evE.eq_13, evE.eq_14, evE.eq_15, evE.eq_16, evE.eq_17, evE.eq_18, evE.eq_19, evE.eq_20, evE.eq_21, evE.eq_22, evE.eq_23, evT, evC, evL, evP, evO, evF, evI, asT, asL, evM, agD, wipe, ↓bind_lz, bindL_some, bindL_none, ↓ite_lz, iteL_t, iteL_f, W_ite, bind_ite, map_ite, ↓loopF_lz, ↓loopC_lz, ↓loopK_lz, ↓loopW_lz, W_some, W_bind, W_map, Option.bind_some, Option.bind_none, Option.map_some, Option.map_none, List.length_cons, List.length_nil, List.replicate, List.map_cons, List.map_nil, List.cons_append, List.nil_append, List.append_nil, List.append_assoc, Bool.false_eq_true, Bool.not_true, Bool.not_false, Bool.and_true, Bool.and_false, Bool.true_and, Bool.false_and, Bool.and_self, Bool.or_true, Bool.true_or, Bool.or_false, Bool.false_or, Nat.zero_add, Nat.add_zero, Nat.mul_zero, Nat.zero_mul, Nat.mul_one, Nat.one_mul, Nat.reduceAdd, Nat.reduceSub, Int.reduceAdd, Int.reduceSub, decide_true, decide_false, decide_eq_true_eq, true_and, and_true, eq_self, reduceCtorEq, Nat.reduceLT, Nat.reduceLeDiff, Nat.reduceEqDiff, Nat.reduceBEq, Int.reduceLT, Int.reduceLE, Int.reduceEq, Int.reduceNeg, Int.reduceToNat, Int.reducePow, Nat.reducePow, Int.reduceMul, Nat.reduceMul, Int.reduceMod, Int.reduceDiv, List.cons.injEq, List.reduceReplicate, Nat.add_assoc, List.getElem_cons_zero, List.getElem_cons_succ, Option.some.injEq, Cell.dic.injEq, Cell.lst.injEq, and_false, false_and, List.isEmpty_nil, List.isEmpty_cons, isEmpty_snoc, List.map_append, List.length_map, List.length_append, List.getLast?_concat, List.dropLast_concat, not_false_eq_true, or_true, true_or, or_false, false_or, add_int, add_tup, add_str, sub_int, mul_int, mod_int, fdv_int, pow_int, idx_own, idx_ownI, idx_tup, idx_lst, idx_strN, look_hit, look_miss, kEq_str, kEq_int, set_own, setI_own, cmp_lt, cmp_le, cmp_gt, cmp_ge, seq_tup, seq_lst, seq_own, lst_lst, lst_own, met_ok, app_own, popl_own, small_lit, still_tup, still_lst, still_non, still_str, ty_tup, ty_str, isTy, eq_str, ne_str, slc_tup, slc_str, slc_lst, add_lst, isn_bl, is_bl, blt_tupL, blt_tupO, blt_tupT, blt_all, slc_scr, blt_listO, blt_lenO, blt_lenT, blt_lenL, blt_lenS, rev_own, items_tup, items_lst, items_own, items_str, still_own, still_scr, still_zip, stillO_own, stillO_tup, stillO_lst, isl_tup, isl_lst, isl_own, tru_bl, tru_int, tru_str, tru_tup, tru_lst, wr_int, wr_str, mkL, mkD, min_int, max_int, joinE, ext_own, pop_st, pop_fz, frz_tup, frz_lst, frz_ownL, frz_ownD, frz_non, frz_bl, frz_int, frz_str, frzL_nil, frzL_cons, augI, inn_tup, nin_tup, inn_own, nin_own, flat_str, flat_int, flat_non, flat_bl, eqv_str, eqv_int, eq_int, ne_int, int_int, int_bl, isn_non, is_non, isn_str, is_str, metok_join, isKey_int, isKey_str, line_val, List.any_cons, List.any_nil, List.all_cons, List.all_nil, List.foldl_cons, List.foldl_nil, wr_ge, wrL_ge, leA, Nat.le_refl, out0, out1, out2, is_hn, is_hs, isn_hn, isn_hs, frz_out, idx_k0, at_0, at_1, at_2, at_3, at_m1, at_nat, cut_all, cut_to, cut_from, cut_m1, cut_l1, cut_one, cut_1, cut_d1, cut_d1p, cut_nn, clampA, clampB, rev_tup, ints_rev, rgv_t, rgv_f, rgv_f1, srt_own, ints_len, ints_snoc, up_ok, metok_up, ge_0, ge_1, ge_2, se_0, se_1, se_2, g_0, g_1, g_2, g_3, g_4, g_5, g_6, g_7, g_8, g_9, g_10, g_11, g_12, g_13, g_14, g_15, g_16, g_17, g_18, g_19, g_20, g_21, g_22, g_23, g_24, g_25, s_0, s_1, s_2, s_3, s_4, s_5, s_6, s_7, s_8, s_9, s_10, s_11, s_12, s_13, s_14, s_15, s_16, s_17, s_18, s_19, s_20, s_21, s_22, s_23, s_24, s_25, get0, get1, get2, get3, get4, get5, set0, set1, set2, set3, set4, set5, sh0, sh1, sh2, sh3, sh4, sh5, sh6, sh7, sh8, sh9, sh10, sh11, gl0, pop_dq, dq_app, dq_len, eqz_tup, eqz_lst, ty_int, ty_bl, ty_non, ty_lst, ty_dic, trus_map, all_id, add_bl, sub_bl, subi_bl, strB_bl, mul2_lst, blt_listT, $xs,*])
set_option hygiene true
def okI (c : Nat) (e : Nat × D) : Bool := (decide (e.1 = 1) && isNon e.2) || stB c e.2
theorem bad_fil (rl : List Pr) : (rl.filterMap fun p => if okZ rl p = true then none else some (D.int 1)).isEmpty = rl.all (okZ rl) := by
  generalize okZ rl = f
  induction rl with
  | nil => rfl
  | cons a t ih =>
    rw [List.all_cons, ← ih, List.filterMap_cons]
    cases f a <;> simp
theorem is_one_ok (k b n : Nat) (d : D) (r : Bool) (st : Sto) (hk : 4 ≤ k) (h : plainZ n d = true) (hw : sz d ≤ 80000) (hr : RuleV d r) : callD tab k b 8 [d] st = some (.bl r, st) := by
  obtain ⟨k, rfl⟩ : ∃ j, k = j + 1 := ⟨k - 1, by omega⟩
  refine W_eq (W_call df_8 rfl ?_)
  have memZ : ∀ n l, plainZ n (.tup l) = true → ∀ x ∈ l, plainZ n x = true := fun n l h x hx => by
    cases n with
    | zero => simp [plainZ] at h
    | succ n =>
      rw [plainZ, plainZL_all] at h
      exact plainZ_mono (by omega) (h x hx)
  have lenZ : ∀ l, sz (.tup l) ≤ 80000 → l.length ≤ 16777216 := fun l h => by
    have := szL_len (l := l)
    rw [sz] at h; omega
  have c2 : ((2 : Nat) : Int) = 2 := rfl
  have c1 : ((1 : Nat) : Int) = 1 := rfl
  cases hr with
  | no hd =>
    cases d with
    | tup l => exact absurd rfl (hd l)
    | own i => simp [plainZ] at h
    | rng i j => simp [plainZ] at h
    | scr i => simp [plainZ] at h
    | _ => push_cast [b__law_is_one]
  | nil => push_cast [b__law_is_one]
  | bad hn ha =>
    rename_i l
    have he : l.isEmpty = false := by cases l with | nil => exact absurd rfl hn | cons a t => rfl
    have hl := lenZ l hw
    push_cast [b__law_is_one, he]
    refine W_forR (fun x => x) l (fun rest env st2 => ∃ o1 o2 o3 : Option D, env = [some (.tup l), o1, o2, o3] ∧ st2 = st ∧ (∀ p ∈ rest, plainZ n p = true) ∧ rest.all (prB l.length) = false) (by simp) ⟨_, _, _, rfl, rfl, memZ n l h, ha⟩ ?_ ?_
    · rintro p rest env st2 ⟨o1, o2, o3, rfl, rfl, hz, hb⟩
      have hp := hz p List.mem_cons_self
      have hz2 : ∀ p ∈ rest, plainZ n p = true := fun p h => hz p (List.mem_cons_of_mem _ h)
      rw [List.all_cons] at hb
      cases p with
      | own i => simp [plainZ] at hp
      | rng i j => simp [plainZ] at hp
      | scr i => simp [plainZ] at hp
      | tup q =>
        by_cases hq : q.length = 2
        · obtain ⟨x, y, rfl⟩ : ∃ x y, q = [x, y] := by
            match q, hq with
            | [x, y], _ => exact ⟨x, y, rfl⟩
          have hx := memZ n _ hp x (by simp)
          have hy := memZ n _ hp y (by simp)
          push_cast [c2]
          refine W_forR (fun x : Nat × D => .tup [.int (x.1 : Nat), x.2]) [(0, x), (1, y)] (fun r2 env st3 => ∃ o2 o3 : Option D, env = [some (.tup l), some (.tup [x, y]), o2, o3] ∧ st3 = st2 ∧ (∀ e ∈ r2, plainZ n e.2 = true) ∧ (r2.all (okI l.length) && rest.all (prB l.length)) = false) rfl ⟨_, _, rfl, rfl, ?_, ?_⟩ ?_ ?_
          · intro e he
            simp only [List.mem_cons, List.not_mem_nil, or_false] at he
            rcases he with rfl | rfl
            · exact hx
            · exact hy
          · rw [← hb]
            simp [okI, prB]
          · rintro ⟨i, z⟩ r2 env st3 ⟨o2, o3, rfl, rfl, hz3, hb3⟩
            have hz := hz3 _ List.mem_cons_self
            have hz4 : ∀ e ∈ r2, plainZ n e.2 = true := fun e h => hz3 e (List.mem_cons_of_mem _ h)
            rw [List.all_cons, Bool.and_assoc] at hb3
            have nx : okI l.length (i, z) = true → (r2.all (okI l.length) && rest.all (prB l.length)) = false := fun h => by rw [h, Bool.true_and] at hb3; exact hb3
            by_cases hi : i = 1
            · subst hi
              cases z with
              | own i => simp [plainZ] at hz
              | rng i j => simp [plainZ] at hz
              | scr i => simp [plainZ] at hz
              | non =>
                push_cast [c1]
                exact ⟨_, _, ⟨rfl, rfl⟩, hz4, nx rfl⟩
              | int j =>
                have i0 : ∀ st, cmpE .is (.int j) .non st = some false := fun st => rfl
                by_cases h0 : 0 ≤ j
                · by_cases h1 : j < (l.length : Int)
                  · push_cast [c1, i0, h0, h1]
                    exact ⟨_, _, ⟨rfl, rfl⟩, hz4, nx (by simp [okI, stB, h0, h1])⟩
                  · push_cast [c1, i0, h0, h1]
                · push_cast [c1, i0, h0]
              | bl j =>
                have i0 : ∀ st, cmpE .is (.bl j) .non st = some false := fun st => rfl
                push_cast [c1, i0]
              | str j =>
                have i0 : ∀ st, cmpE .is (.str j) .non st = some false := fun st => rfl
                push_cast [c1, i0]
              | tup j =>
                have i0 : ∀ st, cmpE .is (.tup j) .non st = some false := fun st => rfl
                push_cast [c1, i0]
              | lst j =>
                have i0 : ∀ st, cmpE .is (.lst j) .non st = some false := fun st => rfl
                push_cast [c1, i0]
              | dic j =>
                have i0 : ∀ st, cmpE .is (.dic j) .non st = some false := fun st => rfl
                push_cast [c1, i0]
            · have hi2 : ¬ ((i : Int) = 1) := by omega
              cases z with
              | own i => simp [plainZ] at hz
              | rng i j => simp [plainZ] at hz
              | scr i => simp [plainZ] at hz
              | int j =>
                by_cases h0 : 0 ≤ j
                · by_cases h1 : j < (l.length : Int)
                  · push_cast [hi2, h0, h1]
                    exact ⟨_, _, ⟨rfl, rfl⟩, hz4, nx (by simp [okI, stB, h0, h1])⟩
                  · push_cast [hi2, h0, h1]
                · push_cast [hi2, h0]
              | _ => push_cast [hi2]
          · rintro env st3 ⟨o2, o3, rfl, rfl, -, hb3⟩
            push_cast
            exact ⟨_, _, _, ⟨rfl, rfl, rfl⟩, hz2, by simpa using hb3⟩
        · have hl2 : ¬ ((q.length : Int) = 2) := by omega
          push_cast [hl2]
      | _ => push_cast
    · rintro env st2 ⟨o1, o2, o3, rfl, rfl, hz, hb⟩
      simp at hb
  | good h0 hr ha =>
    rename_i rl
    have he : (rl.map prD).isEmpty = false := by cases rl with | nil => simp at h0 | cons a t => rfl
    have hl := lenZ _ hw
    rw [List.length_map] at hl
    push_cast [b__law_is_one, he]
    refine W_forR prD rl (fun rest env st2 => ∃ o1 o2 o3 : Option D, env = [some (.tup (rl.map prD)), o1, o2, o3] ∧ st2 = st ∧ ∀ p ∈ rest, okPr rl.length p) rfl ⟨_, _, _, rfl, rfl, hr⟩ ?_ ?_
    · rintro ⟨a, o⟩ rest env st2 ⟨o1, o2, o3, rfl, rfl, hz⟩
      have hp := hz _ List.mem_cons_self
      have hz2 : ∀ p ∈ rest, okPr rl.length p := fun p h => hz p (List.mem_cons_of_mem _ h)
      push_cast [prD, prL, c2]
      refine W_forR (fun x : Nat × D => .tup [.int (x.1 : Nat), x.2]) [(0, .int (a : Nat)), (1, oD o)] (fun r2 env st3 => ∃ o2 o3 : Option D, env = [some (.tup (rl.map prD)), some (.tup [.int (a : Nat), oD o]), o2, o3] ∧ st3 = st2 ∧ ∀ e ∈ r2, e = (1, .non) ∨ ∃ c : Nat, e.2 = .int (c : Nat) ∧ c < rl.length) rfl ⟨_, _, rfl, rfl, ?_⟩ ?_ ?_
      · intro e he
        simp only [List.mem_cons, List.not_mem_nil, or_false] at he
        rcases he with rfl | rfl
        · exact .inr ⟨a, rfl, hp.1⟩
        · cases o with
          | none => exact .inl rfl
          | some c => exact .inr ⟨c, rfl, hp.2 c rfl⟩
      · rintro ⟨i, z⟩ r2 env st3 ⟨o2, o3, rfl, rfl, hz3⟩
        have hz4 : ∀ e ∈ r2, e = (1, D.non) ∨ ∃ c : Nat, e.2 = .int (c : Nat) ∧ c < rl.length := fun e h => hz3 e (List.mem_cons_of_mem _ h)
        rcases hz3 _ List.mem_cons_self with e | ⟨c, e, hc⟩
        · cases e
          push_cast [c1]
          exact ⟨_, _, ⟨rfl, rfl⟩, hz4⟩
        · dsimp only at e
          subst e
          have i0 : ∀ st, cmpE .is (.int (c : Nat)) .non st = some false := fun st => rfl
          have a0 : (0 : Int) ≤ (c : Int) := by omega
          have a1 : (c : Int) < (rl.length : Int) := by omega
          by_cases hi : i = 1
          · subst hi
            push_cast [c1, i0, a0, a1]
            exact ⟨_, _, ⟨rfl, rfl⟩, hz4⟩
          · have hi2 : ¬ ((i : Int) = 1) := by omega
            push_cast [hi2, i0, a0, a1]
            exact ⟨_, _, ⟨rfl, rfl⟩, hz4⟩
      · rintro env st3 ⟨o2, o3, rfl, rfl, -⟩
        push_cast
        exact ⟨_, _, _, ⟨rfl, rfl, rfl⟩, hz2⟩
    · rintro env st2 ⟨o1, o2, o3, rfl, rfl, -⟩
      push_cast
      refine W_lcF prD rl (fun p => if okZ rl p = true then none else some (D.int 1)) rfl (fun p hp => ?_) ?_
      · obtain ⟨a, o⟩ := p
        have e3 : ∀ st, cmpE .isn .non .non st = some false := fun st => rfl
        cases o with
        | none => push_cast [prD, prL, oDn, e3, okZ]
        | some c =>
          have e4 : ∀ (c : Nat) st, cmpE .isn (.int (c : Nat)) .non st = some true := fun c st => rfl
          have e7 : ∀ st, cmpE .isn (oD none) .non st = some false := fun st => rfl
          have hc := (hr _ hp).2 c rfl
          have e5 := pr_idx hc
          cases ho : (prAt rl c).2 with
          | none => push_cast [prD, prL, oDs, e4, e5, e7, okZ, ho, Option.isSome_none, Option.isNone_none]
          | some z => push_cast [prD, prL, oDs, e4, e5, okZ, ho, Option.isSome_some, Option.isNone_some]
      · have hfl : (rl.filterMap fun p => if okZ rl p = true then none else some (D.int 1)).length ≤ 16777216 := Nat.le_trans (List.length_filterMap_le _ _) hl
        have hb := bad_fil rl
        generalize (rl.filterMap fun p => if okZ rl p = true then none else some (D.int 1)) = F at hfl hb
        push_cast [hfl, hb]
end Inst

set_option linter.all false
set_option maxRecDepth 100000
set_option Elab.async false
set_option maxHeartbeats 4000000
namespace Inst
open Mc
set_option hygiene false
local macro_rules
  | `(tactic| push_cast) => `(tactic| simp -dsimp -implicitDefEqProofs only [TL.plain, lst_own, evB, evS.eq_1, evS.eq_2, evS.eq_3, evS.eq_4, evS.eq_5, evS.eq_6, evS.eq_7, evS.eq_8, evS.eq_9, evS.eq_10, evS.eq_11, evS.eq_12, evS.eq_13, evE.eq_1, evE.eq_2, evE.eq_3, evE.eq_4, evE.eq_5, evE.eq_6, evE.eq_7, evE.eq_8, evE.eq_9, evE.eq_10, evE.eq_11, evE.eq_12, evE.eq_13, evE.eq_14, evE.eq_15, evE.eq_16, evE.eq_17, evE.eq_18, evE.eq_19, evE.eq_20, evE.eq_21, evE.eq_22, evE.eq_23, evT, evC, evL, evP, evO, evF, evI, asT, asL, evM, agD, wipe, ↓bind_lz, bindL_some, bindL_none, ↓ite_lz, iteL_t, iteL_f, W_ite, bind_ite, map_ite, ↓loopF_lz, ↓loopC_lz, ↓loopK_lz, ↓loopW_lz, W_some, W_bind, W_map, Option.bind_some, Option.bind_none, Option.map_some, Option.map_none, List.length_cons, List.length_nil, List.replicate, List.map_cons, List.map_nil, List.cons_append, List.nil_append, List.append_nil, List.append_assoc, Bool.false_eq_true, Bool.not_true, Bool.not_false, Bool.and_true, Bool.and_false, Bool.true_and, Bool.false_and, Bool.and_self, Bool.or_true, Bool.true_or, Bool.or_false, Bool.false_or, Nat.zero_add, Nat.add_zero, Nat.mul_zero, Nat.zero_mul, Nat.mul_one, Nat.one_mul, Nat.reduceAdd, Nat.reduceSub, Int.reduceAdd, Int.reduceSub, decide_true, decide_false, decide_eq_true_eq, true_and, and_true, eq_self, reduceCtorEq, Nat.reduceLT, Nat.reduceLeDiff, Nat.reduceEqDiff, Nat.reduceBEq, Int.reduceLT, Int.reduceLE, Int.reduceEq, Int.reduceNeg, Int.reduceToNat, Int.reducePow, Nat.reducePow, Int.reduceMul, Nat.reduceMul, Int.reduceMod, Int.reduceDiv, List.cons.injEq, List.reduceReplicate, Nat.add_assoc, List.getElem_cons_zero, List.getElem_cons_succ, Option.some.injEq, Cell.dic.injEq, Cell.lst.injEq, and_false, false_and, List.isEmpty_nil, List.isEmpty_cons, isEmpty_snoc, List.map_append, List.length_map, List.length_append, List.getLast?_concat, List.dropLast_concat, not_false_eq_true, or_true, true_or, or_false, false_or, add_int, add_tup, add_str, sub_int, mul_int, mod_int, fdv_int, pow_int, idx_own, idx_ownI, idx_tup, idx_lst, idx_strN, look_hit, look_miss, kEq_str, kEq_int, set_own, setI_own, cmp_lt, cmp_le, cmp_gt, cmp_ge, seq_tup, seq_lst, seq_own, lst_lst, lst_own, met_ok, app_own, popl_own, small_lit, still_tup, still_lst, still_non, still_str, ty_tup, ty_str, isTy, eq_str, ne_str, slc_tup, slc_str, slc_lst, add_lst, isn_bl, is_bl, blt_tupL, blt_tupO, blt_tupT, blt_all, slc_scr, blt_listO, blt_lenO, blt_lenT, blt_lenL, blt_lenS, rev_own, items_tup, items_lst, items_own, items_str, still_own, still_scr, still_zip, stillO_own, stillO_tup, stillO_lst, isl_tup, isl_lst, isl_own, tru_bl, tru_int, tru_str, tru_tup, tru_lst, wr_int, wr_str, mkL, mkD, min_int, max_int, joinE, ext_own, pop_st, pop_fz, frz_tup, frz_lst, frz_ownL, frz_ownD, frz_non, frz_bl, frz_int, frz_str, frzL_nil, frzL_cons, augI, inn_tup, nin_tup, inn_own, nin_own, flat_str, flat_int, flat_non, flat_bl, eqv_str, eqv_int, eq_int, ne_int, int_int, int_bl, isn_non, is_non, isn_str, is_str, metok_join, isKey_int, isKey_str, line_val, List.any_cons, List.any_nil, List.all_cons, List.all_nil, List.foldl_cons, List.foldl_nil, wr_ge, wrL_ge, leA, Nat.le_refl, out0, out1, out2, is_hn, is_hs, isn_hn, isn_hs, frz_out, idx_k0, at_0, at_1, at_2, at_3, at_m1, at_nat, cut_all, cut_to, cut_from, cut_m1, cut_l1, cut_one, cut_1, cut_d1, cut_d1p, cut_nn, clampA, clampB, rev_tup, ints_rev, rgv_t, rgv_f, rgv_f1, srt_own, ints_len, ints_snoc, up_ok, metok_up, ge_0, ge_1, ge_2, se_0, se_1, se_2, g_0, g_1, g_2, g_3, g_4, g_5, g_6, g_7, g_8, g_9, g_10, g_11, g_12, g_13, g_14, g_15, g_16, g_17, g_18, g_19, g_20, g_21, g_22, g_23, g_24, g_25, s_0, s_1, s_2, s_3, s_4, s_5, s_6, s_7, s_8, s_9, s_10, s_11, s_12, s_13, s_14, s_15, s_16, s_17, s_18, s_19, s_20, s_21, s_22, s_23, s_24, s_25, get0, get1, get2, get3, get4, get5, set0, set1, set2, set3, set4, set5, sh0, sh1, sh2, sh3, sh4, sh5, sh6, sh7, sh8, sh9, sh10, sh11, gl0, pop_dq, dq_app, dq_len, eqz_tup, eqz_lst, ty_int, ty_bl, ty_non, ty_lst, ty_dic, trus_map, all_id, add_bl, sub_bl, subi_bl, strB_bl, mul2_lst, blt_listT])
  | `(tactic| push_cast [$xs,*]) => `(tactic| simp -dsimp -implicitDefEqProofs only [TL.plain, lst_own, evB, evS.eq_1, evS.eq_2, evS.eq_3, evS.eq_4, evS.eq_5, evS.eq_6, evS.eq_7, evS.eq_8, evS.eq_9, evS.eq_10, evS.eq_11, evS.eq_12, evS.eq_13, evE.eq_1, evE.eq_2, evE.eq_3, evE.eq_4, evE.eq_5, evE.eq_6, evE.eq_7, evE.eq_8, evE.eq_9, evE.eq_10, evE.eq_11, evE.eq_12, evE.eq_13, evE.eq_14, evE.eq_15, evE.eq_16, evE.eq_17, evE.eq_18, evE.eq_19, evE.eq_20, evE.eq_21, evE.eq_22, evE.eq_23, evT, evC, evL, evP, evO, evF, evI, asT, asL, evM, agD, wipe, ↓bind_lz, bindL_some, bindL_none, ↓ite_lz, iteL_t, iteL_f, W_ite, bind_ite, map_ite, ↓loopF_lz, ↓loopC_lz, ↓loopK_lz, ↓loopW_lz, W_some, W_bind, W_map, Option.bind_some, Option.bind_none, Option.map_some, Option.map_none, List.length_cons, List.length_nil, List.replicate, List.map_cons, List.map_nil, List.cons_append, List.nil_append, List.append_nil, List.append_assoc, Bool.false_eq_true, Bool.not_true, Bool.not_false, Bool.and_true, Bool.and_false, Bool.true_and, Bool.false_and, Bool.and_self, Bool.or_true, Bool.true_or, Bool.or_false, Bool.false_or, Nat.zero_add, Nat.add_zero, Nat.mul_zero, Nat.zero_mul, Nat.mul_one, Nat.one_mul, Nat.reduceAdd, Nat.reduceSub, Int.reduceAdd, Int.reduceSub, decide_true, decide_false, decide_eq_true_eq, true_and, and_true, eq_self, reduceCtorEq, Nat.reduceLT, Nat.reduceLeDiff, Nat.reduceEqDiff, Nat.reduceBEq, Int.reduceLT, Int.reduceLE, Int.reduceEq, Int.reduceNeg, Int.reduceToNat, Int.reducePow, Nat.reducePow, Int.reduceMul, Nat.reduceMul, Int.reduceMod, Int.reduceDiv, List.cons.injEq, List.reduceReplicate, Nat.add_assoc, List.getElem_cons_zero, List.getElem_cons_succ, Option.some.injEq, Cell.dic.injEq, Cell.lst.injEq, and_false, false_and, List.isEmpty_nil, List.isEmpty_cons, isEmpty_snoc, List.map_append, List.length_map, List.length_append, List.getLast?_concat, List.dropLast_concat, not_false_eq_true, or_true, true_or, or_false, false_or, add_int, add_tup, add_str, sub_int, mul_int, mod_int, fdv_int, pow_int, idx_own, idx_ownI, idx_tup, idx_lst, idx_strN, look_hit, look_miss, kEq_str, kEq_int, set_own, setI_own, cmp_lt, cmp_le, cmp_gt, cmp_ge, seq_tup, seq_lst, seq_own, lst_lst, lst_own, met_ok, app_own, popl_own, small_lit, still_tup, still_lst, still_non, still_str, ty_tup, ty_str, isTy, eq_str, ne_str, slc_tup, slc_str, slc_lst, add_lst, isn_bl, is_bl, blt_tupL, blt_tupO, blt_tupT, blt_all, slc_scr, blt_listO, blt_lenO, blt_lenT, blt_lenL, blt_lenS, rev_own, items_tup, items_lst, items_own, items_str, still_own, still_scr, still_zip, stillO_own, stillO_tup, stillO_lst, isl_tup, isl_lst, isl_own, tru_bl, tru_int, tru_str, tru_tup, tru_lst, wr_int, wr_str, mkL, mkD, min_int, max_int, joinE, ext_own, pop_st, pop_fz, frz_tup, frz_lst, frz_ownL, frz_ownD, frz_non, frz_bl, frz_int, frz_str, frzL_nil, frzL_cons, augI, inn_tup, nin_tup, inn_own, nin_own, flat_str, flat_int, flat_non, flat_bl, eqv_str, eqv_int, eq_int, ne_int, int_int, int_bl, isn_non, is_non, isn_str, is_str, metok_join, isKey_int, isKey_str, line_val, List.any_cons, List.any_nil, List.all_cons, List.all_nil, List.foldl_cons, List.foldl_nil, wr_ge, wrL_ge, leA, Nat.le_refl, out0, out1, out2, is_hn, is_hs, isn_hn, isn_hs, frz_out, idx_k0, at_0, at_1, at_2, at_3, at_m1, at_nat, cut_all, cut_to, cut_from, cut_m1, cut_l1, cut_one, cut_1, cut_d1, cut_d1p, cut_nn, clampA, clampB, rev_tup, ints_rev, rgv_t, rgv_f, rgv_f1, srt_own, ints_len, ints_snoc, up_ok, metok_up, ge_0, ge_1, ge_2, se_0, se_1, se_2, g_0, g_1, g_2, g_3, g_4, g_5, g_6, g_7, g_8, g_9, g_10, g_11, g_12, g_13, g_14, g_15, g_16, g_17, g_18, g_19, g_20, g_21, g_22, g_23, g_24, g_25, s_0, s_1, s_2, s_3, s_4, s_5, s_6, s_7, s_8, s_9, s_10, s_11, s_12, s_13, s_14, s_15, s_16, s_17, s_18, s_19, s_20, s_21, s_22, s_23, s_24, s_25, get0, get1, get2, get3, get4, get5, set0, set1, set2, set3, set4, set5, sh0, sh1, sh2, sh3, sh4, sh5, sh6, sh7, sh8, sh9, sh10, sh11, gl0, pop_dq, dq_app, dq_len, eqz_tup, eqz_lst, ty_int, ty_bl, ty_non, ty_lst, ty_dic, trus_map, all_id, add_bl, sub_bl, subi_bl, strB_bl, mul2_lst, blt_listT, $xs,*])
set_option hygiene true
theorem dq_z {q : Dq} {r s : Sto} {v : D} {n : Nat} (h : plainZ n v = true) (hn : n ≤ 60) : popD (r.length + 4) v (Dq.st q (r ++ s)) = some (v, Dq.st q r) := pop_z (st := Dq.st q r) (cs := s) h hn
theorem other_ok (k b : Nat) (q : Dq) (r : Sto) (d : D) (n m : Nat) (N : Int) (hk : 3 ≤ k) (hz : Zv n m d) (hm : m ≤ 800) (h3 : q.ok N) (h4 : N < 1099511600000) :
    W (callD tab k b 9 [.own 3, d] (q.st r)) fun x => ∃ v q', x = (v, Dq.st q' r) ∧ Zv (n + 1) (2 * m + 200) v ∧ q'.ok (N + 1) := by
  obtain ⟨k, rfl⟩ : ∃ j, k = j + 1 := ⟨k - 1, by omega⟩
  refine W_call df_9 rfl ?_
  have c : ∀ x, zvB 1 200 x = true → Zv (n + 1) (2 * m + 200) x := fun x h => (zv_of h).mono (by omega) (by omega)
  have base : ∀ x ∈ [D.non, .bl true, .bl false, .int 0, .int 1, .int 2, .int (-1), .int 1000000000000000000000000000000000000000, .str [], .str [48], .tup [], .tup [.int 0], .lst [], .dic [], .tup [d], .lst [d], .tup [.int 0, .int 1], .tup [.int 0, .non]], Zv (n + 1) (2 * m + 200) x := by
    have o := ZvL.one hz
    simp only [List.forall_mem_cons]
    refine ⟨c _ rfl, c _ rfl, c _ rfl, c _ (by decide +kernel), c _ (by decide +kernel), c _ (by decide +kernel), c _ (by decide +kernel), c _ (by decide +kernel), c _ rfl, c _ rfl, c _ rfl, c _ (by decide +kernel), c _ rfl, c _ rfl, (Zv.tup_ o).mono (by omega) (by omega), (Zv.lst_ o).mono (by omega) (by omega), c _ (by decide +kernel), c _ (by decide +kernel), by simp⟩
  have go2 : ∀ (l : List D), (∀ x ∈ l, Zv (n + 1) (2 * m + 200) x) → 0 < l.length → l.length < 1000 → W (callD tab k (r.length + 4) 6 [.own 3, .lst l] (q.st r)) fun x => ∃ v q', x = (v, Dq.st q' r) ∧ Zv (n + 1) (2 * m + 200) v ∧ q'.ok (N + 1) := fun l hl h0 h1 =>
    (pick_ok k _ q r l N (by omega) h0 (by omega) h3 (by omega)).mono (by
      rintro _ ⟨v, q', rfl, hv, k1⟩
      exact ⟨v, q', rfl, hl v hv, k1⟩)
  cases d with
  | own i => exact absurd hz.pl (by simp [plainZ])
  | rng i j => exact absurd hz.pl (by simp [plainZ])
  | scr i => exact absurd hz.pl (by simp [plainZ])
  | int i =>
    have es := fun c st => hz.strB (by omega) c st
    have t4 : ((4 : Nat) ≤ 1000) := by omega
    push_cast [b__law_other, es, Nat.reduceLeDiff]
    refine (go2 _ ?_ (by simp) (by simp)).mono ?_
    · have more : ∀ x ∈ [D.int (i + 1), .int (i - 1), .str (shown (.int i)), .non], Zv (n + 1) (2 * m + 200) x := by
        simp only [List.forall_mem_cons]
        refine ⟨(hz.int_add (by omega) (by decide)).mono (Nat.le_refl _) (by omega), ?_, (hz.shown_int (Nat.le_refl _)).mono (by omega) (by omega), c _ rfl, by simp⟩
        rw [Int.sub_eq_add_neg]
        exact (hz.int_add (by omega) (by decide)).mono (Nat.le_refl _) (by omega)
      intro x hx
      rcases List.mem_append.mp (show x ∈ [D.non, .bl true, .bl false, .int 0, .int 1, .int 2, .int (-1), .int 1000000000000000000000000000000000000000, .str [], .str [48], .tup [], .tup [.int 0], .lst [], .dic [], .tup [.int i], .lst [.int i], .tup [.int 0, .int 1], .tup [.int 0, .non]] ++ ([D.int (i + 1), .int (i - 1), .str (shown (.int i)), .non] ++ [D.int (i + 1), .int (i - 1), .str (shown (.int i)), .non]) from hx) with hx | hx
      · exact base x hx
      · rcases List.mem_append.mp hx with hx | hx <;> exact more x hx
    · rintro _ ⟨v, q', rfl, hv, k1⟩
      push_cast
      exact ⟨v, q', rfl, hv, k1⟩
  | bl i =>
    push_cast [b__law_other, Nat.reduceLeDiff]
    refine (go2 _ ?_ (by simp) (by simp)).mono ?_
    · have more : ∀ x ∈ [D.int (b2I i + 1), .int (b2I i - 1), .str (shown (.bl i)), .non], Zv (n + 1) (2 * m + 200) x := by
        simp only [List.forall_mem_cons]
        refine ⟨c _ (by cases i <;> decide +kernel), c _ (by cases i <;> decide +kernel), Zv.shown_bl.mono (by omega) (by omega), c _ rfl, by simp⟩
      intro x hx
      rcases List.mem_append.mp (show x ∈ [D.non, .bl true, .bl false, .int 0, .int 1, .int 2, .int (-1), .int 1000000000000000000000000000000000000000, .str [], .str [48], .tup [], .tup [.int 0], .lst [], .dic [], .tup [.bl i], .lst [.bl i], .tup [.int 0, .int 1], .tup [.int 0, .non]] ++ ([D.int (b2I i + 1), .int (b2I i - 1), .str (shown (.bl i)), .non] ++ [D.int (b2I i + 1), .int (b2I i - 1), .str (shown (.bl i)), .non]) from hx) with hx | hx
      · exact base x hx
      · rcases List.mem_append.mp hx with hx | hx <;> exact more x hx
    · rintro _ ⟨v, q', rfl, hv, k1⟩
      push_cast
      exact ⟨v, q', rfl, hv, k1⟩
  | tup l =>
    obtain ⟨n, rfl⟩ : ∃ j, n = j + 1 := by cases n with
      | zero => exact absurd hz.pl (by simp [plainZ])
      | succ j => exact ⟨j, rfl⟩
    have ol := hz.of_tup
    have sl := szL_len (l := l)
    have hw := hz.wt
    rw [Mc.sz] at hw
    have l1 : l.length + (l.drop (l.length - 1)).length ≤ 16777216 := by rw [List.length_drop]; omega
    have l1' : l.length + (l.length - (l.length - 1)) ≤ 16777216 := by omega
    have l2 : l.length + 1 ≤ 16777216 := by omega
    push_cast [b__law_other, Nat.reduceLeDiff, l1, l1', l2, List.length_drop]
    refine (go2 _ ?_ (by simp) (by simp)).mono ?_
    · have more : ∀ x ∈ [D.tup (l.drop 1), .tup l.dropLast, .tup (l ++ l.drop (l.length - 1)), .tup l.reverse, .lst l, .tup (l ++ [.int 0])], Zv (n + 1 + 1) (2 * m + 200) x := by
        have hd : ZvL n m l.dropLast := by rw [List.dropLast_eq_take]; exact ol.take _
        have i0 : Zv n 10 (.int 0) := (zv_of (n := 0) (m := 10) (by decide +kernel)).mono (by omega) (by omega)
        simp only [List.forall_mem_cons]
        refine ⟨(Zv.tup_ (ol.drop 1)).mono (by omega) (by omega), (Zv.tup_ hd).mono (by omega) (by omega), (Zv.tup_ (ol.app (ol.drop _))).mono (by omega) (by omega), (Zv.tup_ ol.rev).mono (by omega) (by omega), (Zv.lst_ ol).mono (by omega) (by omega), (Zv.tup_ (ol.app (ZvL.one i0))).mono (by omega) (by omega), by simp⟩
      intro x hx
      rcases List.mem_append.mp (show x ∈ [D.non, .bl true, .bl false, .int 0, .int 1, .int 2, .int (-1), .int 1000000000000000000000000000000000000000, .str [], .str [48], .tup [], .tup [.int 0], .lst [], .dic [], .tup [.tup l], .lst [.tup l], .tup [.int 0, .int 1], .tup [.int 0, .non]] ++ ([D.tup (l.drop 1), .tup l.dropLast, .tup (l ++ l.drop (l.length - 1)), .tup l.reverse, .lst l, .tup (l ++ [.int 0])] ++ [D.tup (l.drop 1), .tup l.dropLast, .tup (l ++ l.drop (l.length - 1)), .tup l.reverse, .lst l, .tup (l ++ [.int 0])]) from hx) with hx | hx
      · exact base x hx
      · rcases List.mem_append.mp hx with hx | hx <;> exact more x hx
    · rintro _ ⟨v, q', rfl, hv, k1⟩
      push_cast
      exact ⟨v, q', rfl, hv, k1⟩
  | _ =>
    push_cast [b__law_other]
    refine (go2 _ base (by simp) (by simp)).mono ?_
    rintro _ ⟨v, q', rfl, hv, k1⟩
    push_cast
    exact ⟨v, q', rfl, hv, k1⟩
theorem changed_ok : ∀ (n k b : Nat) (q : Dq) (r : Sto) (d : D) (m : Nat) (N : Int), n + 4 ≤ k → Zv n m d → m ≤ 800 → q.ok N → N + 2 * n + 3 < 1099511600000 →
    W (callD tab k b 10 [.own 3, d] (q.st r)) fun x => ∃ v q', x = (v, Dq.st q' r) ∧ Zv (n + 1) (2 * m + 200) v ∧ q'.ok (N + 2 * n + 2) := by
  intro n
  induction n with
  | zero =>
    intro k b q r d m N hk hz hm h3 h4
    obtain ⟨k, rfl⟩ : ∃ j, k = j + 1 := ⟨k - 1, by omega⟩
    refine W_call df_10 rfl ?_
    have o := fun b => other_ok k b q r d 0 m N (by omega) hz hm h3 (by omega)
    cases d with
    | own i => exact absurd hz.pl (by simp [plainZ])
    | rng i j => exact absurd hz.pl (by simp [plainZ])
    | scr i => exact absurd hz.pl (by simp [plainZ])
    | tup i => exact absurd hz.pl (by simp [plainZ])
    | _ =>
      push_cast [b__law_changed]
      refine (o _).mono ?_
      rintro _ ⟨v, q', rfl, hv, k1⟩
      push_cast
      exact ⟨v, q', rfl, hv, k1.mono (by omega)⟩
  | succ n ih =>
    intro k b q r d m N hk hz hm h3 h4
    obtain ⟨k, rfl⟩ : ∃ j, k = j + 1 := ⟨k - 1, by omega⟩
    refine W_call df_10 rfl ?_
    have o := fun b q N h3 h4 => other_ok k b q r d (n + 1) m N (by omega) hz hm h3 h4
    cases d with
    | own i => exact absurd hz.pl (by simp [plainZ])
    | rng i j => exact absurd hz.pl (by simp [plainZ])
    | scr i => exact absurd hz.pl (by simp [plainZ])
    | tup l =>
      have ol := hz.of_tup
      have sl := szL_len (l := l)
      have hw := hz.wt
      rw [Mc.sz] at hw
      cases hl : l.isEmpty with
      | true =>
        push_cast [b__law_changed, hl]
        refine (o _ q N h3 (by omega)).mono ?_
        rintro _ ⟨v, q', rfl, hv, k1⟩
        push_cast
        exact ⟨v, q', rfl, hv, k1.mono (by omega)⟩
      | false =>
        have hl0 : 0 < l.length := by cases l with | nil => cases hl | cons a t => simp
        push_cast [b__law_changed, hl]
        refine (draw_ok k _ q r 5 N (by omega) (by omega) (by omega) h3 (by omega)).mono ?_
        rintro _ ⟨v, q1, rfl, v0, v1, k1⟩
        by_cases hv : v = 0
        · subst hv
          push_cast
          refine (o _ q1 _ k1 (by omega)).mono ?_
          rintro _ ⟨v, q', rfl, hv, k1⟩
          push_cast
          exact ⟨v, q', rfl, hv, k1.mono (by omega)⟩
        · push_cast [hv]
          refine (draw_ok k _ q1 r l.length _ (by omega) (by omega) (by omega) k1 (by omega)).mono ?_
          rintro _ ⟨i, q2, rfl, i0, i1, k2⟩
          obtain ⟨i, rfl⟩ : ∃ j : Nat, i = (j : Nat) := ⟨i.toNat, by omega⟩
          have hi : i < l.length := by omega
          have ei : l[i]? = some l[i] := List.getElem?_eq_getElem hi
          push_cast [ei]
          have hx : Zv n (sz l[i]) l[i] := ⟨ol.pl _ (List.getElem_mem hi), ol.sh _ (List.getElem_mem hi), Nat.le_refl _⟩
          have hs : szL l = szL (l.take i) + (sz l[i] + 2 + szL (l.drop (i + 1))) := by
            conv => lhs; rw [← List.take_append_drop i l, szL_app, List.drop_eq_getElem_cons hi, szL]
          refine (ih k _ q2 r l[i] (sz l[i]) _ (by omega) hx (by omega) k2 (by omega)).mono ?_
          rintro _ ⟨v, q3, rfl, hv, k3⟩
          have l1 : (l.take i).length + 1 ≤ 16777216 := by rw [List.length_take]; omega
          have l1' : min i l.length + 1 ≤ 16777216 := by omega
          have l2 : min i l.length + 1 + (l.length - (i + 1)) ≤ 16777216 := by omega
          have l3 : min i l.length + (1 + (l.length - (i + 1))) ≤ 16777216 := by omega
          push_cast [l1, l1', l2, l3, List.length_take, List.length_drop]
          refine ⟨_, q3, rfl, ?_, k3.mono (by omega)⟩
          have a1 : ZvL (n + 1) (szL (l.take i)) (l.take i) := ⟨fun d hd => plainZ_mono (by omega) ((ol.take i).pl d hd), (ol.take i).sh, Nat.le_refl _⟩
          have a2 : ZvL (n + 1) (szL (l.drop (i + 1))) (l.drop (i + 1)) := ⟨fun d hd => plainZ_mono (by omega) ((ol.drop (i + 1)).pl d hd), (ol.drop (i + 1)).sh, Nat.le_refl _⟩
          exact (Zv.tup_ (a1.app (ZvL.cons hv a2))).mono (by omega) (by omega)
    | _ =>
      push_cast [b__law_changed]
      refine (o _ q N h3 (by omega)).mono ?_
      rintro _ ⟨v, q', rfl, hv, k1⟩
      push_cast
      exact ⟨v, q', rfl, hv, k1.mono (by omega)⟩
end Inst

set_option linter.all false
set_option maxRecDepth 100000
set_option Elab.async false
set_option maxHeartbeats 4000000
namespace Inst
open Mc
set_option hygiene false
local macro_rules
  | `(tactic| push_cast) => `(tactic| simp -dsimp -implicitDefEqProofs only [TL.plain, lst_own, evB, evS.eq_1, evS.eq_2, evS.eq_3, evS.eq_4, evS.eq_5, evS.eq_6, evS.eq_7, evS.eq_8, evS.eq_9, evS.eq_10, evS.eq_11, evS.eq_12, evS.eq_13, evE.eq_1, evE.eq_2, evE.eq_3, evE.eq_4, evE.eq_5, evE.eq_6, evE.eq_7, evE.eq_8, evE.eq_9, evE.eq_10, evE.eq_11, evE.eq_12, evE.eq_13, evE.eq_14, evE.eq_15, evE.eq_16, evE.eq_17, evE.eq_18, evE.eq_19, evE.eq_20, evE.eq_21, evE.eq_22, evE.eq_23, evT, evC, evL, evP, evO, evF, evI, asT, asL, evM, agD, wipe, ↓bind_lz, bindL_some, bindL_none, ↓ite_lz, iteL_t, iteL_f, W_ite, bind_ite, map_ite, ↓loopF_lz, ↓loopC_lz, ↓loopK_lz, ↓loopW_lz, W_some, W_bind, W_map, Option.bind_some, Option.bind_none, Option.map_some, Option.map_none, List.length_cons, List.length_nil, List.replicate, List.map_cons, List.map_nil, List.cons_append, List.nil_append, List.append_nil, List.append_assoc, Bool.false_eq_true, Bool.not_true, Bool.not_false, Bool.and_true, Bool.and_false, Bool.true_and, Bool.false_and, Bool.and_self, Bool.or_true, Bool.true_or, Bool.or_false, Bool.false_or, Nat.zero_add, Nat.add_zero, Nat.mul_zero, Nat.zero_mul, Nat.mul_one, Nat.one_mul, Nat.reduceAdd, Nat.reduceSub, Int.reduceAdd, Int.reduceSub, decide_true, decide_false, decide_eq_true_eq, true_and, and_true, eq_self, reduceCtorEq, Nat.reduceLT, Nat.reduceLeDiff, Nat.reduceEqDiff, Nat.reduceBEq, Int.reduceLT, Int.reduceLE, Int.reduceEq, Int.reduceNeg, Int.reduceToNat, Int.reducePow, Nat.reducePow, Int.reduceMul, Nat.reduceMul, Int.reduceMod, Int.reduceDiv, List.cons.injEq, List.reduceReplicate, Nat.add_assoc, List.getElem_cons_zero, List.getElem_cons_succ, Option.some.injEq, Cell.dic.injEq, Cell.lst.injEq, and_false, false_and, List.isEmpty_nil, List.isEmpty_cons, isEmpty_snoc, List.map_append, List.length_map, List.length_append, List.getLast?_concat, List.dropLast_concat, not_false_eq_true, or_true, true_or, or_false, false_or, add_int, add_tup, add_str, sub_int, mul_int, mod_int, fdv_int, pow_int, idx_own, idx_ownI, idx_tup, idx_lst, idx_strN, look_hit, look_miss, kEq_str, kEq_int, set_own, setI_own, cmp_lt, cmp_le, cmp_gt, cmp_ge, seq_tup, seq_lst, seq_own, lst_lst, lst_own, met_ok, app_own, popl_own, small_lit, still_tup, still_lst, still_non, still_str, ty_tup, ty_str, isTy, eq_str, ne_str, slc_tup, slc_str, slc_lst, add_lst, isn_bl, is_bl, blt_tupL, blt_tupO, blt_tupT, blt_all, slc_scr, blt_listO, blt_lenO, blt_lenT, blt_lenL, blt_lenS, rev_own, items_tup, items_lst, items_own, items_str, still_own, still_scr, still_zip, stillO_own, stillO_tup, stillO_lst, isl_tup, isl_lst, isl_own, tru_bl, tru_int, tru_str, tru_tup, tru_lst, wr_int, wr_str, mkL, mkD, min_int, max_int, joinE, ext_own, pop_st, pop_fz, frz_tup, frz_lst, frz_ownL, frz_ownD, frz_non, frz_bl, frz_int, frz_str, frzL_nil, frzL_cons, augI, inn_tup, nin_tup, inn_own, nin_own, flat_str, flat_int, flat_non, flat_bl, eqv_str, eqv_int, eq_int, ne_int, int_int, int_bl, isn_non, is_non, isn_str, is_str, metok_join, isKey_int, isKey_str, line_val, List.any_cons, List.any_nil, List.all_cons, List.all_nil, List.foldl_cons, List.foldl_nil, wr_ge, wrL_ge, leA, Nat.le_refl, out0, out1, out2, is_hn, is_hs, isn_hn, isn_hs, frz_out, idx_k0, at_0, at_1, at_2, at_3, at_m1, at_nat, cut_all, cut_to, cut_from, cut_m1, cut_l1, cut_one, cut_1, cut_d1, cut_d1p, cut_nn, clampA, clampB, rev_tup, ints_rev, rgv_t, rgv_f, rgv_f1, srt_own, ints_len, ints_snoc, up_ok, metok_up, ge_0, ge_1, ge_2, se_0, se_1, se_2, g_0, g_1, g_2, g_3, g_4, g_5, g_6, g_7, g_8, g_9, g_10, g_11, g_12, g_13, g_14, g_15, g_16, g_17, g_18, g_19, g_20, g_21, g_22, g_23, g_24, g_25, s_0, s_1, s_2, s_3, s_4, s_5, s_6, s_7, s_8, s_9, s_10, s_11, s_12, s_13, s_14, s_15, s_16, s_17, s_18, s_19, s_20, s_21, s_22, s_23, s_24, s_25, get0, get1, get2, get3, get4, get5, set0, set1, set2, set3, set4, set5, sh0, sh1, sh2, sh3, sh4, sh5, sh6, sh7, sh8, sh9, sh10, sh11, gl0, pop_dq, dq_app, dq_len, eqz_tup, eqz_lst, ty_int, ty_bl, ty_non, ty_lst, ty_dic, trus_map, all_id, add_bl, sub_bl, subi_bl, strB_bl, mul2_lst, blt_listT])
  | `(tactic| push_cast [$xs,*]) => `(tactic| simp -dsimp -implicitDefEqProofs only [TL.plain, lst_own, evB, evS.eq_1, evS.eq_2, evS.eq_3, evS.eq_4, evS.eq_5, evS.eq_6, evS.eq_7, evS.eq_8, evS.eq_9, evS.eq_10, evS.eq_11, evS.eq_12, evS.eq_13, evE.eq_1, evE.eq_2, evE.eq_3, evE.eq_4, evE.eq_5, evE.eq_6, evE.eq_7, evE.eq_8, evE.eq_9, evE.eq_10, evE.eq_11, evE.eq_12, evE.eq_13, evE.eq_14, evE.eq_15, evE.eq_16, evE.eq_17, evE.eq_18, evE.eq_19, evE.eq_20, evE.eq_21, evE.eq_22, evE.eq_23, evT, evC, evL, evP, evO, evF, evI, asT, asL, evM, agD, wipe, ↓bind_lz, bindL_some, bindL_none, ↓ite_lz, iteL_t, iteL_f, W_ite, bind_ite, map_ite, ↓loopF_lz, ↓loopC_lz, ↓loopK_lz, ↓loopW_lz, W_some, W_bind, W_map, Option.bind_some, Option.bind_none, Option.map_some, Option.map_none, List.length_cons, List.length_nil, List.replicate, List.map_cons, List.map_nil, List.cons_append, List.nil_append, List.append_nil, List.append_assoc, Bool.false_eq_true, Bool.not_true, Bool.not_false, Bool.and_true, Bool.and_false, Bool.true_and, Bool.false_and, Bool.and_self, Bool.or_true, Bool.true_or, Bool.or_false, Bool.false_or, Nat.zero_add, Nat.add_zero, Nat.mul_zero, Nat.zero_mul, Nat.mul_one, Nat.one_mul, Nat.reduceAdd, Nat.reduceSub, Int.reduceAdd, Int.reduceSub, decide_true, decide_false, decide_eq_true_eq, true_and, and_true, eq_self, reduceCtorEq, Nat.reduceLT, Nat.reduceLeDiff, Nat.reduceEqDiff, Nat.reduceBEq, Int.reduceLT, Int.reduceLE, Int.reduceEq, Int.reduceNeg, Int.reduceToNat, Int.reducePow, Nat.reducePow, Int.reduceMul, Nat.reduceMul, Int.reduceMod, Int.reduceDiv, List.cons.injEq, List.reduceReplicate, Nat.add_assoc, List.getElem_cons_zero, List.getElem_cons_succ, Option.some.injEq, Cell.dic.injEq, Cell.lst.injEq, and_false, false_and, List.isEmpty_nil, List.isEmpty_cons, isEmpty_snoc, List.map_append, List.length_map, List.length_append, List.getLast?_concat, List.dropLast_concat, not_false_eq_true, or_true, true_or, or_false, false_or, add_int, add_tup, add_str, sub_int, mul_int, mod_int, fdv_int, pow_int, idx_own, idx_ownI, idx_tup, idx_lst, idx_strN, look_hit, look_miss, kEq_str, kEq_int, set_own, setI_own, cmp_lt, cmp_le, cmp_gt, cmp_ge, seq_tup, seq_lst, seq_own, lst_lst, lst_own, met_ok, app_own, popl_own, small_lit, still_tup, still_lst, still_non, still_str, ty_tup, ty_str, isTy, eq_str, ne_str, slc_tup, slc_str, slc_lst, add_lst, isn_bl, is_bl, blt_tupL, blt_tupO, blt_tupT, blt_all, slc_scr, blt_listO, blt_lenO, blt_lenT, blt_lenL, blt_lenS, rev_own, items_tup, items_lst, items_own, items_str, still_own, still_scr, still_zip, stillO_own, stillO_tup, stillO_lst, isl_tup, isl_lst, isl_own, tru_bl, tru_int, tru_str, tru_tup, tru_lst, wr_int, wr_str, mkL, mkD, min_int, max_int, joinE, ext_own, pop_st, pop_fz, frz_tup, frz_lst, frz_ownL, frz_ownD, frz_non, frz_bl, frz_int, frz_str, frzL_nil, frzL_cons, augI, inn_tup, nin_tup, inn_own, nin_own, flat_str, flat_int, flat_non, flat_bl, eqv_str, eqv_int, eq_int, ne_int, int_int, int_bl, isn_non, is_non, isn_str, is_str, metok_join, isKey_int, isKey_str, line_val, List.any_cons, List.any_nil, List.all_cons, List.all_nil, List.foldl_cons, List.foldl_nil, wr_ge, wrL_ge, leA, Nat.le_refl, out0, out1, out2, is_hn, is_hs, isn_hn, isn_hs, frz_out, idx_k0, at_0, at_1, at_2, at_3, at_m1, at_nat, cut_all, cut_to, cut_from, cut_m1, cut_l1, cut_one, cut_1, cut_d1, cut_d1p, cut_nn, clampA, clampB, rev_tup, ints_rev, rgv_t, rgv_f, rgv_f1, srt_own, ints_len, ints_snoc, up_ok, metok_up, ge_0, ge_1, ge_2, se_0, se_1, se_2, g_0, g_1, g_2, g_3, g_4, g_5, g_6, g_7, g_8, g_9, g_10, g_11, g_12, g_13, g_14, g_15, g_16, g_17, g_18, g_19, g_20, g_21, g_22, g_23, g_24, g_25, s_0, s_1, s_2, s_3, s_4, s_5, s_6, s_7, s_8, s_9, s_10, s_11, s_12, s_13, s_14, s_15, s_16, s_17, s_18, s_19, s_20, s_21, s_22, s_23, s_24, s_25, get0, get1, get2, get3, get4, get5, set0, set1, set2, set3, set4, set5, sh0, sh1, sh2, sh3, sh4, sh5, sh6, sh7, sh8, sh9, sh10, sh11, gl0, pop_dq, dq_app, dq_len, eqz_tup, eqz_lst, ty_int, ty_bl, ty_non, ty_lst, ty_dic, trus_map, all_id, add_bl, sub_bl, subi_bl, strB_bl, mul2_lst, blt_listT, $xs,*])
set_option hygiene true
theorem zv_rule {rl : List Pr} (h1 : rl.length ≤ 8) (h2 : ∀ p ∈ rl, okPr rl.length p) : Zv 2 200 (.tup (rl.map prD)) := by
  have hp : ∀ p ∈ rl, Zv 1 20 (prD p) := fun p hp => by
    obtain ⟨a, o⟩ := p
    obtain ⟨ha, ho⟩ := h2 _ hp
    have hi : ∀ c : Nat, c < rl.length → Zv 0 6 (.int (c : Nat)) := fun c hc => (Zv.int_ (k := 3) (log2_le (by omega)) (by omega)).mono (Nat.le_refl _) (by omega)
    have hb : Zv 0 6 (oD o) := by
      cases o with
      | none => exact Zv.non_.mono (Nat.le_refl _) (by omega)
      | some c => exact hi c (ho c rfl)
    exact (Zv.tup_ (ZvL.cons (hi a ha) (ZvL.one hb))).mono (by omega) (by omega)
  have key : ∀ l : List Pr, (∀ p ∈ l, Zv 1 20 (prD p)) → ZvL 1 (22 * l.length) (l.map prD) := by
    intro l
    induction l with
    | nil => intro _; exact ZvL.nil
    | cons a t ih => exact fun h => (ZvL.cons (h a (by simp)) (ih fun p hp => h p (by simp [hp]))).mono (Nat.le_refl _) (by simp; omega)
  exact (Zv.tup_ (key rl hp)).mono (by omega) (by omega)
theorem pop_bl4 {q : Dq} {r : Sto} {b : Bool} : popD 0 (.bl b) (Dq.st q r) = some (.bl b, []) := by
  simp only [popD]
  rw [if_neg (by simp [Dq.st])]
  simp only [frz, Option.map_some, List.take_zero]
theorem ol4 {q : Dq} {A B : List D} (h : B.length + A.length ≤ 1000) : binE .add true (.own 4) (.lst A) (Dq.st q [.lst B]) = some (.own 5, Dq.st q [.lst B, .lst (B ++ A)]) := if_pos (Nat.le_trans h (by decide))
theorem ol5 {q : Dq} {c : Cell} {A B : List D} (h : B.length + A.length ≤ 1000) : binE .add true (.own 5) (.lst A) (Dq.st q [c, .lst B]) = some (.own 6, Dq.st q [c, .lst B, .lst (B ++ A)]) := if_pos (Nat.le_trans h (by decide))
theorem ol6 {q : Dq} {c c' : Cell} {A B : List D} (h : B.length + A.length ≤ 1000) : binE .add true (.own 6) (.lst A) (Dq.st q [c, c', .lst B]) = some (.own 7, Dq.st q [c, c', .lst B, .lst (B ++ A)]) := if_pos (Nat.le_trans h (by decide))
theorem dg6 {q : Dq} {a b c : Cell} {r : Sto} : (Dq.st q (a :: b :: c :: r))[6]? = some c := rfl
theorem dg7 {q : Dq} {a b c d : Cell} {r : Sto} : (Dq.st q (a :: b :: c :: d :: r))[7]? = some d := rfl
theorem ds6 {q : Dq} {a b c x : Cell} {r : Sto} : (Dq.st q (a :: b :: c :: r)).set 6 x = Dq.st q (a :: b :: x :: r) := rfl
theorem ds7 {q : Dq} {a b c d x : Cell} {r : Sto} : (Dq.st q (a :: b :: c :: d :: r)).set 7 x = Dq.st q (a :: b :: c :: x :: r) := rfl
def chL : List D := .tup [.int 0, .int 1] :: (List.range 29).map fun (k : Nat) => .tup [.int (1 + (k : Int) + 1), .non]
set_option hygiene false
local macro_rules
  | `(tactic| push_cast) => `(tactic| simp -dsimp -implicitDefEqProofs only [TL.plain, lst_own, evB, evS.eq_1, evS.eq_2, evS.eq_3, evS.eq_4, evS.eq_5, evS.eq_6, evS.eq_7, evS.eq_8, evS.eq_9, evS.eq_10, evS.eq_11, evS.eq_12, evS.eq_13, evE.eq_1, evE.eq_2, evE.eq_3, evE.eq_4, evE.eq_5, evE.eq_6, evE.eq_7, evE.eq_8, evE.eq_9, evE.eq_10, evE.eq_11, evE.eq_12, evE.eq_13, evE.eq_14, evE.eq_15, evE.eq_16, evE.eq_17, evE.eq_18, evE.eq_19, evE.eq_20, evE.eq_21, evE.eq_22, evE.eq_23, evT, evC, evL, evP, evO, evF, evI, asT, asL, evM, agD, wipe, ↓bind_lz, bindL_some, bindL_none, ↓ite_lz, iteL_t, iteL_f, W_ite, bind_ite, map_ite, ↓loopF_lz, ↓loopC_lz, ↓loopK_lz, ↓loopW_lz, W_some, W_bind, W_map, Option.bind_some, Option.bind_none, Option.map_some, Option.map_none, List.length_cons, List.length_nil, List.replicate, List.map_cons, List.map_nil, List.cons_append, List.nil_append, List.append_nil, List.append_assoc, Bool.false_eq_true, Bool.not_true, Bool.not_false, Bool.and_true, Bool.and_false, Bool.true_and, Bool.false_and, Bool.and_self, Bool.or_true, Bool.true_or, Bool.or_false, Bool.false_or, Nat.zero_add, Nat.add_zero, Nat.mul_zero, Nat.zero_mul, Nat.mul_one, Nat.one_mul, Nat.reduceAdd, Nat.reduceSub, Int.reduceAdd, Int.reduceSub, decide_true, decide_false, decide_eq_true_eq, true_and, and_true, eq_self, reduceCtorEq, Nat.reduceLT, Nat.reduceLeDiff, Nat.reduceEqDiff, Nat.reduceBEq, Int.reduceLT, Int.reduceLE, Int.reduceEq, Int.reduceNeg, Int.reduceToNat, Int.reducePow, Nat.reducePow, Int.reduceMul, Nat.reduceMul, Int.reduceMod, Int.reduceDiv, List.cons.injEq, List.reduceReplicate, Nat.add_assoc, List.getElem_cons_zero, List.getElem_cons_succ, Option.some.injEq, Cell.dic.injEq, Cell.lst.injEq, and_false, false_and, List.isEmpty_nil, List.isEmpty_cons, isEmpty_snoc, List.map_append, List.length_map, List.length_append, List.getLast?_concat, List.dropLast_concat, not_false_eq_true, or_true, true_or, or_false, false_or, add_int, add_tup, add_str, sub_int, mul_int, mod_int, fdv_int, pow_int, idx_own, idx_ownI, idx_tup, idx_lst, idx_strN, look_hit, look_miss, kEq_str, kEq_int, set_own, setI_own, cmp_lt, cmp_le, cmp_gt, cmp_ge, seq_tup, seq_lst, seq_own, lst_lst, lst_own, met_ok, app_own, popl_own, small_lit, still_tup, still_lst, still_non, still_str, ty_tup, ty_str, isTy, eq_str, ne_str, slc_tup, slc_str, slc_lst, add_lst, isn_bl, is_bl, blt_tupL, blt_tupO, blt_tupT, blt_all, slc_scr, blt_listO, blt_lenO, blt_lenT, blt_lenL, blt_lenS, rev_own, items_tup, items_lst, items_own, items_str, still_own, still_scr, still_zip, stillO_own, stillO_tup, stillO_lst, isl_tup, isl_lst, isl_own, tru_bl, tru_int, tru_str, tru_tup, tru_lst, wr_int, wr_str, mkL, mkD, min_int, max_int, joinE, ext_own, pop_st, pop_fz, frz_tup, frz_lst, frz_ownL, frz_ownD, frz_non, frz_bl, frz_int, frz_str, frzL_nil, frzL_cons, augI, inn_tup, nin_tup, inn_own, nin_own, flat_str, flat_int, flat_non, flat_bl, eqv_str, eqv_int, eq_int, ne_int, int_int, int_bl, isn_non, is_non, isn_str, is_str, metok_join, isKey_int, isKey_str, line_val, List.any_cons, List.any_nil, List.all_cons, List.all_nil, List.foldl_cons, List.foldl_nil, wr_ge, wrL_ge, leA, Nat.le_refl, out0, out1, out2, is_hn, is_hs, isn_hn, isn_hs, frz_out, idx_k0, at_0, at_1, at_2, at_3, at_m1, at_nat, cut_all, cut_to, cut_from, cut_m1, cut_l1, cut_one, cut_1, cut_d1, cut_d1p, cut_nn, clampA, clampB, rev_tup, ints_rev, rgv_t, rgv_f, rgv_f1, srt_own, ints_len, ints_snoc, up_ok, metok_up, ge_0, ge_1, ge_2, se_0, se_1, se_2, g_0, g_1, g_2, g_3, g_4, g_5, g_6, g_7, g_8, g_9, g_10, g_11, g_12, g_13, g_14, g_15, g_16, g_17, g_18, g_19, g_20, g_21, g_22, g_23, g_24, g_25, s_0, s_1, s_2, s_3, s_4, s_5, s_6, s_7, s_8, s_9, s_10, s_11, s_12, s_13, s_14, s_15, s_16, s_17, s_18, s_19, s_20, s_21, s_22, s_23, s_24, s_25, get0, get1, get2, get3, get4, get5, set0, set1, set2, set3, set4, set5, sh0, sh1, sh2, sh3, sh4, sh5, sh6, sh7, sh8, sh9, sh10, sh11, gl0, pop_dq, dq_app, dq_len, eqz_tup, eqz_lst, ty_int, ty_bl, ty_non, ty_lst, ty_dic, trus_map, all_id, add_bl, sub_bl, subi_bl, strB_bl, mul2_lst, blt_listT, ol4, ol5, ol6, dg6, dg7, ds6, ds7])
  | `(tactic| push_cast [$xs,*]) => `(tactic| simp -dsimp -implicitDefEqProofs only [TL.plain, lst_own, evB, evS.eq_1, evS.eq_2, evS.eq_3, evS.eq_4, evS.eq_5, evS.eq_6, evS.eq_7, evS.eq_8, evS.eq_9, evS.eq_10, evS.eq_11, evS.eq_12, evS.eq_13, evE.eq_1, evE.eq_2, evE.eq_3, evE.eq_4, evE.eq_5, evE.eq_6, evE.eq_7, evE.eq_8, evE.eq_9, evE.eq_10, evE.eq_11, evE.eq_12, evE.eq_13, evE.eq_14, evE.eq_15, evE.eq_16, evE.eq_17, evE.eq_18, evE.eq_19, evE.eq_20, evE.eq_21, evE.eq_22, evE.eq_23, evT, evC, evL, evP, evO, evF, evI, asT, asL, evM, agD, wipe, ↓bind_lz, bindL_some, bindL_none, ↓ite_lz, iteL_t, iteL_f, W_ite, bind_ite, map_ite, ↓loopF_lz, ↓loopC_lz, ↓loopK_lz, ↓loopW_lz, W_some, W_bind, W_map, Option.bind_some, Option.bind_none, Option.map_some, Option.map_none, List.length_cons, List.length_nil, List.replicate, List.map_cons, List.map_nil, List.cons_append, List.nil_append, List.append_nil, List.append_assoc, Bool.false_eq_true, Bool.not_true, Bool.not_false, Bool.and_true, Bool.and_false, Bool.true_and, Bool.false_and, Bool.and_self, Bool.or_true, Bool.true_or, Bool.or_false, Bool.false_or, Nat.zero_add, Nat.add_zero, Nat.mul_zero, Nat.zero_mul, Nat.mul_one, Nat.one_mul, Nat.reduceAdd, Nat.reduceSub, Int.reduceAdd, Int.reduceSub, decide_true, decide_false, decide_eq_true_eq, true_and, and_true, eq_self, reduceCtorEq, Nat.reduceLT, Nat.reduceLeDiff, Nat.reduceEqDiff, Nat.reduceBEq, Int.reduceLT, Int.reduceLE, Int.reduceEq, Int.reduceNeg, Int.reduceToNat, Int.reducePow, Nat.reducePow, Int.reduceMul, Nat.reduceMul, Int.reduceMod, Int.reduceDiv, List.cons.injEq, List.reduceReplicate, Nat.add_assoc, List.getElem_cons_zero, List.getElem_cons_succ, Option.some.injEq, Cell.dic.injEq, Cell.lst.injEq, and_false, false_and, List.isEmpty_nil, List.isEmpty_cons, isEmpty_snoc, List.map_append, List.length_map, List.length_append, List.getLast?_concat, List.dropLast_concat, not_false_eq_true, or_true, true_or, or_false, false_or, add_int, add_tup, add_str, sub_int, mul_int, mod_int, fdv_int, pow_int, idx_own, idx_ownI, idx_tup, idx_lst, idx_strN, look_hit, look_miss, kEq_str, kEq_int, set_own, setI_own, cmp_lt, cmp_le, cmp_gt, cmp_ge, seq_tup, seq_lst, seq_own, lst_lst, lst_own, met_ok, app_own, popl_own, small_lit, still_tup, still_lst, still_non, still_str, ty_tup, ty_str, isTy, eq_str, ne_str, slc_tup, slc_str, slc_lst, add_lst, isn_bl, is_bl, blt_tupL, blt_tupO, blt_tupT, blt_all, slc_scr, blt_listO, blt_lenO, blt_lenT, blt_lenL, blt_lenS, rev_own, items_tup, items_lst, items_own, items_str, still_own, still_scr, still_zip, stillO_own, stillO_tup, stillO_lst, isl_tup, isl_lst, isl_own, tru_bl, tru_int, tru_str, tru_tup, tru_lst, wr_int, wr_str, mkL, mkD, min_int, max_int, joinE, ext_own, pop_st, pop_fz, frz_tup, frz_lst, frz_ownL, frz_ownD, frz_non, frz_bl, frz_int, frz_str, frzL_nil, frzL_cons, augI, inn_tup, nin_tup, inn_own, nin_own, flat_str, flat_int, flat_non, flat_bl, eqv_str, eqv_int, eq_int, ne_int, int_int, int_bl, isn_non, is_non, isn_str, is_str, metok_join, isKey_int, isKey_str, line_val, List.any_cons, List.any_nil, List.all_cons, List.all_nil, List.foldl_cons, List.foldl_nil, wr_ge, wrL_ge, leA, Nat.le_refl, out0, out1, out2, is_hn, is_hs, isn_hn, isn_hs, frz_out, idx_k0, at_0, at_1, at_2, at_3, at_m1, at_nat, cut_all, cut_to, cut_from, cut_m1, cut_l1, cut_one, cut_1, cut_d1, cut_d1p, cut_nn, clampA, clampB, rev_tup, ints_rev, rgv_t, rgv_f, rgv_f1, srt_own, ints_len, ints_snoc, up_ok, metok_up, ge_0, ge_1, ge_2, se_0, se_1, se_2, g_0, g_1, g_2, g_3, g_4, g_5, g_6, g_7, g_8, g_9, g_10, g_11, g_12, g_13, g_14, g_15, g_16, g_17, g_18, g_19, g_20, g_21, g_22, g_23, g_24, g_25, s_0, s_1, s_2, s_3, s_4, s_5, s_6, s_7, s_8, s_9, s_10, s_11, s_12, s_13, s_14, s_15, s_16, s_17, s_18, s_19, s_20, s_21, s_22, s_23, s_24, s_25, get0, get1, get2, get3, get4, get5, set0, set1, set2, set3, set4, set5, sh0, sh1, sh2, sh3, sh4, sh5, sh6, sh7, sh8, sh9, sh10, sh11, gl0, pop_dq, dq_app, dq_len, eqz_tup, eqz_lst, ty_int, ty_bl, ty_non, ty_lst, ty_dic, trus_map, all_id, add_bl, sub_bl, subi_bl, strB_bl, mul2_lst, blt_listT, ol4, ol5, ol6, dg6, dg7, ds6, ds7, $xs,*])
set_option hygiene true
theorem law_ok (ns : List Int) (hn : ns.length ≤ 63) : W (callD tab 60 0 11 [.scr ns] []) fun x => x = (.bl true, []) := by
  refine W_call (k := 59) df_11 rfl ?_
  push_cast [b_law]
  refine (deck_ok 59 _ ns (by omega) hn).mono ?_
  rintro _ ⟨q, rfl, hq⟩
  have rg : (-4611686018427387904 : Int) ≤ (1 : Int) ∧ (1 : Int) < 4611686018427387904 ∧ (-4611686018427387904 : Int) ≤ (30 : Int) ∧ (30 : Int) < 4611686018427387904 := by omega
  have rn : ((30 : Int) - 1).toNat = 29 := rfl
  push_cast [rg, rn]
  refine W_lcM (fun k : Nat => D.int (1 + (k : Int))) (List.range 29) (fun k => .tup [.int (1 + (k : Int) + 1), .non]) rfl ?_ ?_
  · rintro i -
    push_cast
  push_cast [List.length_range]
  refine W_for (fun k : Nat => D.int (0 + (k : Int))) (List.range 12) (fun rest env st => ∃ (q : Dq) (a b c : Cell) (L : List D) (o3 o4 o5 o6 o7 : Option D), env = [some (.scr ns), some (.own 3), some (.own 7), o3, o4, o5, o6, o7, none, none, none, none] ∧ st = q.st [a, b, c, .lst L] ∧ (∀ x ∈ L, Zv 12 2000 x) ∧ L.length + 7 * rest.length ≤ 200 ∧ rest.length ≤ 12 ∧ q.ok (200 * (12 - (rest.length : Int)))) rfl ⟨q, _, _, _, _, _, _, _, _, _, rfl, rfl, zvs_of (by decide +kernel), by decide, by decide, hq.mono (by decide)⟩ ?_ ?_
  · rintro i rest env st ⟨q, a, b, c, L, o3, o4, o5, o6, o7, rfl, rfl, hL, hl, hr, hq⟩
    simp only [List.length_cons] at hl hr hq
    generalize hN : (200 * (12 - ((rest.length + 1 : Nat) : Int)) : Int) = N at hq
    have N0 : N + 200 = 200 * (12 - (rest.length : Int)) := by omega
    push_cast
    refine (states_ok 59 _ q _ 8 N (by omega) (by omega) (by omega) hq (by omega)).mono ?_
    rintro _ ⟨rl, q1, rfl, h1, h2, h8, k1⟩
    have z1 := zv_rule h8 h1
    have w1 := belowZ (b := 0) z1.pl
    have hl1 : L.length < 16777216 := by omega
    have wr1 : ∀ n x, wr 0 n x = true := fun n x => by simp [wr]
    push_cast [hl1, wr1]
    refine W_for (fun k : Nat => D.int (0 + (k : Int))) (List.range 6) (fun rest2 env st => ∃ (q : Dq) (L : List D) (o6 o7 : Option D), env = [some (.scr ns), some (.own 3), some (.own 7), o3, some (.int (0 + (i : Int))), some (.tup (rl.map prD)), o6, o7, none, none, none, none] ∧ st = q.st [a, b, c, .lst L] ∧ (∀ x ∈ L, Zv 12 2000 x) ∧ L.length + rest2.length + 7 * rest.length ≤ 200 ∧ rest2.length ≤ 6 ∧ q.ok (N + 30 + 20 * (6 - (rest2.length : Int)))) rfl ⟨q1, _, _, _, rfl, rfl, ?_, by simp; omega, by simp, k1.mono (by simp; omega)⟩ ?_ ?_
    · intro x hx
      rcases List.mem_append.mp hx with hx | hx
      · exact hL x hx
      · rw [List.mem_singleton.mp hx]; exact z1.mono (by omega) (by omega)
    · rintro j rest2 env st ⟨q, L, o6, o7, rfl, rfl, hL, hl, hr2, hq⟩
      simp only [List.length_cons] at hl hr2 hq
      generalize hN2 : (N + 30 + 20 * (6 - ((rest2.length + 1 : Nat) : Int)) : Int) = N2 at hq
      have N20 : N2 + 20 = N + 30 + 20 * (6 - (rest2.length : Int)) := by omega
      have hl1 : L.length < 16777216 := by omega
      have grow : ∀ x, Zv 12 2000 x → ∀ y ∈ L ++ [x], Zv 12 2000 y := fun x hx y hy => by
        rcases List.mem_append.mp hy with hy | hy
        · exact hL y hy
        · rw [List.mem_singleton.mp hy]; exact hx
      push_cast
      refine (changed_ok 2 59 _ q _ _ 200 N2 (by omega) z1 (by omega) hq (by omega)).mono ?_
      rintro _ ⟨v, q2, rfl, zv, k2⟩
      push_cast
      refine (draw_ok 59 _ q2 _ 3 _ (by omega) (by omega) (by omega) k2 (by omega)).mono ?_
      rintro _ ⟨d, q3, rfl, d0, d1, k3⟩
      by_cases hd : d = 0
      · subst hd
        push_cast
        refine (changed_ok 3 59 _ q3 _ v 600 _ (by omega) (zv.mono (by omega) (by omega)) (by omega) k3 (by omega)).mono ?_
        rintro _ ⟨v2, q4, rfl, zv2, k4⟩
        push_cast [hl1, wr1]
        exact ⟨q4, _, _, _, ⟨rfl, rfl⟩, rfl, grow v2 (zv2.mono (by omega) (by omega)), by simp; omega, by omega, k4.mono (by omega)⟩
      · push_cast [hd, hl1, wr1]
        exact ⟨q3, _, _, _, ⟨rfl, rfl⟩, rfl, grow v (zv.mono (by omega) (by omega)), by simp; omega, by omega, k3.mono (by omega)⟩
    · rintro env st ⟨q, L, o6, o7, rfl, rfl, hL, hl, hr2, hq⟩
      simp only [List.length_nil] at hl hr2 hq
      push_cast
      exact ⟨q, _, _, _, L, _, _, _, _, _, ⟨rfl, rfl, rfl, rfl, rfl⟩, rfl, hL, by omega, by omega, hq.mono (by omega)⟩
  · rintro env st ⟨q, a, b, c, L, o3, o4, o5, o6, o7, rfl, rfl, hL, hl, hr, hq⟩
    have sL : sameL L L = true := sameL_z (n := 12) (plainZL_all.mpr fun x hx => (hL x hx).pl)
    push_cast [sL]
    refine W_for (fun x : D => x) L (fun rest env st => ∃ (o8 o9 o10 : Option D), env = [some (.scr ns), some (.own 3), some (.own 7), o3, o4, o5, o6, o7, o8, o9, o10, none] ∧ st = q.st [a, b, c, .lst L] ∧ ∀ x ∈ rest, Zv 12 2000 x) (by simp) ⟨_, _, _, rfl, rfl, hL⟩ ?_ ?_
    · rintro x rest env st ⟨o8, o9, o10, rfl, rfl, hz⟩
      have zx := hz x List.mem_cons_self
      obtain ⟨rr, hrr⟩ := ruleV x
      have e1 := fun c st => zx.repr (by omega) (by omega) c st
      have e2 := fun b st => is_one_ok 59 b 12 x rr st (by omega) zx.pl (by have := zx.wt; omega) hrr
      have e3 := fun b st => is_rule_ok 59 b 12 x rr st (by omega) zx.pl (by have := zx.wt; omega) hrr
      have e4 : ∀ c st, bltE .repr c [.lst [.bl rr, .bl rr]] st = some (.str (shown (.lst [.bl rr, .bl rr])), st) := fun c st => (zv_of (n := 1) (m := 30) (by cases rr <;> decide +kernel)).repr (by omega) (by omega) c st
      push_cast [e1, e2, e3, e4, sL]
      exact ⟨_, _, _, ⟨rfl, rfl, rfl⟩, fun y hy => hz y (List.mem_cons_of_mem _ hy)⟩
    · rintro env st ⟨o8, o9, o10, rfl, rfl, -⟩
      push_cast
      exact W_of pop_bl4 rfl
theorem law_all (ns : List Int) (hn : ns.length ≤ 63) : ∃ st, callD tab 60 0 11 [.scr ns] [] = some (.bl true, st) := by
  obtain ⟨⟨d, st⟩, e, h⟩ := law_ok ns hn
  cases h
  exact ⟨_, e⟩
end Inst

set_option linter.all false
set_option maxRecDepth 100000
set_option Elab.async false
set_option maxHeartbeats 0
namespace Inst
open PySem PySem.Spec PyProof.Rows L2 Mc
abbrev prg : Program := PySem.Challenge.pw_manycarets_k18_rules_of_any_value
def top (i : Nat) : Stmt := prg.main.body.getD i (.Pass ⟨0, 0, 0, 0⟩)
def mkD (x : String) (N ps : List Str) (i : Nat) (kws : List (Str × L2.V) := []) : DI := ⟨x, N, ps, defArgs (top i), defBody (top i), defScope (top i), [], kws⟩
def d_is_integer : DI := mkD "is_integer" ["value"] ["value"] 1
def d_is_state : DI := mkD "is_state" ["value", "count"] ["value", "count"] 4
def d_is_state_pair : DI := mkD "is_state_pair" ["value", "count"] ["value", "count"] 5
def d_is_rule : DI := mkD "is_rule" ["value", "after_sign", "after_caret", "pair"] ["value"] 6
def d__law_source : DI := mkD "_law_source" ["_law_script", "_law_pile", "_law_mixed", "_law_cell"] ["_law_script"] 8
def d__law_draw : DI := mkD "_law_draw" ["_law_source_here", "_law_ways", "_law_turn", "_law_cell", "_law_mixed"] ["_law_source_here", "_law_ways"] 9
def d__law_choose : DI := mkD "_law_choose" ["_law_source_here", "_law_some"] ["_law_source_here", "_law_some"] 10
def d__law_states : DI := mkD "_law_states" ["_law_source_here", "_law_most", "_law_count", "_law_nexts", "_law_k", "_law_pair"] ["_law_source_here", "_law_most"] 11
def d__law_is_one : DI := mkD "_law_is_one" ["_law_thing", "_law_pair", "_law_k", "_law_state"] ["_law_thing"] 12
def d__law_other : DI := mkD "_law_other" ["_law_source_here", "_law_thing", "_law_some"] ["_law_source_here", "_law_thing"] 13
def d__law_changed : DI := mkD "_law_changed" ["_law_source_here", "_law_thing", "_law_at"] ["_law_source_here", "_law_thing"] 14
def d_law : DI := mkD "law" ["_law_script", "_law_source_here", "_law_some", "_law_chain", "_law_turn", "_law_one", "_law_again", "_law_other_here", "_law_thing", "_law_before", "_law_due", "_law_k"] ["_law_script"] 15
def dis : List DI := [d_is_integer, d_is_state, d_is_state_pair, d_is_rule, d__law_source, d__law_draw, d__law_choose, d__law_states, d__law_is_one, d__law_other, d__law_changed, d_law]
def gls : List Str := ["PAIR_PARTS"]
def bls : List Str := ["all", "range", "tuple", "isinstance", "int", "enumerate", "len", "bool", "list", "repr", "str"]
theorem c_is_integer : chkB tab.shp (d_is_integer.nm gls (dis.map (·.name)) bls) b_is_integer d_is_integer.body = true := by kernel_rfl
theorem s_is_integer : FnScope d_is_integer.N d_is_integer.ps d_is_integer.scope := ⟨by kernel_rfl, by kernel_rfl, by kernel_rfl, by decide +kernel, by kernel_rfl, by decide +kernel, by decide +kernel⟩
theorem c_is_state : chkB tab.shp (d_is_state.nm gls (dis.map (·.name)) bls) b_is_state d_is_state.body = true := by kernel_rfl
theorem s_is_state : FnScope d_is_state.N d_is_state.ps d_is_state.scope := ⟨by kernel_rfl, by kernel_rfl, by kernel_rfl, by decide +kernel, by kernel_rfl, by decide +kernel, by decide +kernel⟩
theorem c_is_state_pair : chkB tab.shp (d_is_state_pair.nm gls (dis.map (·.name)) bls) b_is_state_pair d_is_state_pair.body = true := by kernel_rfl
theorem s_is_state_pair : FnScope d_is_state_pair.N d_is_state_pair.ps d_is_state_pair.scope := ⟨by kernel_rfl, by kernel_rfl, by kernel_rfl, by decide +kernel, by kernel_rfl, by decide +kernel, by decide +kernel⟩
theorem c_is_rule : chkB tab.shp (d_is_rule.nm gls (dis.map (·.name)) bls) b_is_rule d_is_rule.body = true := by kernel_rfl
theorem s_is_rule : FnScope d_is_rule.N d_is_rule.ps d_is_rule.scope := ⟨by kernel_rfl, by kernel_rfl, by kernel_rfl, by decide +kernel, by kernel_rfl, by decide +kernel, by decide +kernel⟩
theorem c__law_source : chkB tab.shp (d__law_source.nm gls (dis.map (·.name)) bls) b__law_source d__law_source.body = true := by kernel_rfl
theorem s__law_source : FnScope d__law_source.N d__law_source.ps d__law_source.scope := ⟨by kernel_rfl, by kernel_rfl, by kernel_rfl, by decide +kernel, by kernel_rfl, by decide +kernel, by decide +kernel⟩
theorem c__law_draw : chkB tab.shp (d__law_draw.nm gls (dis.map (·.name)) bls) b__law_draw d__law_draw.body = true := by kernel_rfl
theorem s__law_draw : FnScope d__law_draw.N d__law_draw.ps d__law_draw.scope := ⟨by kernel_rfl, by kernel_rfl, by kernel_rfl, by decide +kernel, by kernel_rfl, by decide +kernel, by decide +kernel⟩
theorem c__law_choose : chkB tab.shp (d__law_choose.nm gls (dis.map (·.name)) bls) b__law_choose d__law_choose.body = true := by kernel_rfl
theorem s__law_choose : FnScope d__law_choose.N d__law_choose.ps d__law_choose.scope := ⟨by kernel_rfl, by kernel_rfl, by kernel_rfl, by decide +kernel, by kernel_rfl, by decide +kernel, by decide +kernel⟩
theorem c__law_states : chkB tab.shp (d__law_states.nm gls (dis.map (·.name)) bls) b__law_states d__law_states.body = true := by kernel_rfl
theorem s__law_states : FnScope d__law_states.N d__law_states.ps d__law_states.scope := ⟨by kernel_rfl, by kernel_rfl, by kernel_rfl, by decide +kernel, by kernel_rfl, by decide +kernel, by decide +kernel⟩
theorem c__law_is_one : chkB tab.shp (d__law_is_one.nm gls (dis.map (·.name)) bls) b__law_is_one d__law_is_one.body = true := by kernel_rfl
theorem s__law_is_one : FnScope d__law_is_one.N d__law_is_one.ps d__law_is_one.scope := ⟨by kernel_rfl, by kernel_rfl, by kernel_rfl, by decide +kernel, by kernel_rfl, by decide +kernel, by decide +kernel⟩
theorem c__law_other : chkB tab.shp (d__law_other.nm gls (dis.map (·.name)) bls) b__law_other d__law_other.body = true := by kernel_rfl
theorem s__law_other : FnScope d__law_other.N d__law_other.ps d__law_other.scope := ⟨by kernel_rfl, by kernel_rfl, by kernel_rfl, by decide +kernel, by kernel_rfl, by decide +kernel, by decide +kernel⟩
theorem c__law_changed : chkB tab.shp (d__law_changed.nm gls (dis.map (·.name)) bls) b__law_changed d__law_changed.body = true := by kernel_rfl
theorem s__law_changed : FnScope d__law_changed.N d__law_changed.ps d__law_changed.scope := ⟨by kernel_rfl, by kernel_rfl, by kernel_rfl, by decide +kernel, by kernel_rfl, by decide +kernel, by decide +kernel⟩
theorem c_law : chkB tab.shp (d_law.nm gls (dis.map (·.name)) bls) b_law d_law.body = true := by kernel_rfl
theorem s_law : FnScope d_law.N d_law.ps d_law.scope := ⟨by kernel_rfl, by kernel_rfl, by kernel_rfl, by decide +kernel, by kernel_rfl, by decide +kernel, by decide +kernel⟩
theorem h_0 {K : PySem.W.Frag} {w : World} {f : Addr} {fd : FuncData} {o : Str} (F : FunD K o o d_is_integer.params d_is_integer.body d_is_integer.scope [] [] f fd) : ShpOk ⟨K, w⟩ fd d_is_integer.ps ⟨0, 1, [], [.pos 0]⟩ :=
  shp0 F fun _ _ _ _ _ _ us ws h1 h2 => match us, ws, h1, h2 with | [_], [], _, _ => ⟨_, rfl, rfl, rfl⟩
theorem h_1 {K : PySem.W.Frag} {w : World} {f : Addr} {fd : FuncData} {o : Str} (F : FunD K o o d_is_state.params d_is_state.body d_is_state.scope [] [] f fd) : ShpOk ⟨K, w⟩ fd d_is_state.ps ⟨1, 2, [], [.pos 0, .pos 1]⟩ :=
  shp0 F fun _ _ _ _ _ _ us ws h1 h2 => match us, ws, h1, h2 with | [_, _], [], _, _ => ⟨_, rfl, rfl, rfl⟩
theorem h_2 {K : PySem.W.Frag} {w : World} {f : Addr} {fd : FuncData} {o : Str} (F : FunD K o o d_is_state_pair.params d_is_state_pair.body d_is_state_pair.scope [] [] f fd) : ShpOk ⟨K, w⟩ fd d_is_state_pair.ps ⟨2, 2, [], [.pos 0, .pos 1]⟩ :=
  shp0 F fun _ _ _ _ _ _ us ws h1 h2 => match us, ws, h1, h2 with | [_, _], [], _, _ => ⟨_, rfl, rfl, rfl⟩
theorem h_3 {K : PySem.W.Frag} {w : World} {f : Addr} {fd : FuncData} {o : Str} (F : FunD K o o d__law_draw.params d__law_draw.body d__law_draw.scope [] [] f fd) : ShpOk ⟨K, w⟩ fd d__law_draw.ps ⟨5, 2, [], [.pos 0, .pos 1]⟩ :=
  shp0 F fun _ _ _ _ _ _ us ws h1 h2 => match us, ws, h1, h2 with | [_, _], [], _, _ => ⟨_, rfl, rfl, rfl⟩
theorem h_4 {K : PySem.W.Frag} {w : World} {f : Addr} {fd : FuncData} {o : Str} (F : FunD K o o d__law_choose.params d__law_choose.body d__law_choose.scope [] [] f fd) : ShpOk ⟨K, w⟩ fd d__law_choose.ps ⟨6, 2, [], [.pos 0, .pos 1]⟩ :=
  shp0 F fun _ _ _ _ _ _ us ws h1 h2 => match us, ws, h1, h2 with | [_, _], [], _, _ => ⟨_, rfl, rfl, rfl⟩
theorem h_5 {K : PySem.W.Frag} {w : World} {f : Addr} {fd : FuncData} {o : Str} (F : FunD K o o d__law_changed.params d__law_changed.body d__law_changed.scope [] [] f fd) : ShpOk ⟨K, w⟩ fd d__law_changed.ps ⟨10, 2, [], [.pos 0, .pos 1]⟩ :=
  shp0 F fun _ _ _ _ _ _ us ws h1 h2 => match us, ws, h1, h2 with | [_, _], [], _, _ => ⟨_, rfl, rfl, rfl⟩
theorem h_6 {K : PySem.W.Frag} {w : World} {f : Addr} {fd : FuncData} {o : Str} (F : FunD K o o d__law_other.params d__law_other.body d__law_other.scope [] [] f fd) : ShpOk ⟨K, w⟩ fd d__law_other.ps ⟨9, 2, [], [.pos 0, .pos 1]⟩ :=
  shp0 F fun _ _ _ _ _ _ us ws h1 h2 => match us, ws, h1, h2 with | [_, _], [], _, _ => ⟨_, rfl, rfl, rfl⟩
theorem h_7 {K : PySem.W.Frag} {w : World} {f : Addr} {fd : FuncData} {o : Str} (F : FunD K o o d_is_rule.params d_is_rule.body d_is_rule.scope [] [] f fd) : ShpOk ⟨K, w⟩ fd d_is_rule.ps ⟨3, 0, [[118,97,108,117,101]], [.kw 0]⟩ :=
  shp0 F fun _ _ _ _ _ _ us ws h1 h2 => match us, ws, h1, h2 with | [], [_], _, _ => ⟨_, rfl, rfl, rfl⟩
theorem h_8 {K : PySem.W.Frag} {w : World} {f : Addr} {fd : FuncData} {o : Str} (F : FunD K o o d_is_rule.params d_is_rule.body d_is_rule.scope [] [] f fd) : ShpOk ⟨K, w⟩ fd d_is_rule.ps ⟨3, 1, [], [.pos 0]⟩ :=
  shp0 F fun _ _ _ _ _ _ us ws h1 h2 => match us, ws, h1, h2 with | [_], [], _, _ => ⟨_, rfl, rfl, rfl⟩
theorem h_9 {K : PySem.W.Frag} {w : World} {f : Addr} {fd : FuncData} {o : Str} (F : FunD K o o d__law_is_one.params d__law_is_one.body d__law_is_one.scope [] [] f fd) : ShpOk ⟨K, w⟩ fd d__law_is_one.ps ⟨8, 1, [], [.pos 0]⟩ :=
  shp0 F fun _ _ _ _ _ _ us ws h1 h2 => match us, ws, h1, h2 with | [_], [], _, _ => ⟨_, rfl, rfl, rfl⟩
theorem h_10 {K : PySem.W.Frag} {w : World} {f : Addr} {fd : FuncData} {o : Str} (F : FunD K o o d__law_states.params d__law_states.body d__law_states.scope [] [] f fd) : ShpOk ⟨K, w⟩ fd d__law_states.ps ⟨7, 2, [], [.pos 0, .pos 1]⟩ :=
  shp0 F fun _ _ _ _ _ _ us ws h1 h2 => match us, ws, h1, h2 with | [_, _], [], _, _ => ⟨_, rfl, rfl, rfl⟩
theorem h_11 {K : PySem.W.Frag} {w : World} {f : Addr} {fd : FuncData} {o : Str} (F : FunD K o o d__law_source.params d__law_source.body d__law_source.scope [] [] f fd) : ShpOk ⟨K, w⟩ fd d__law_source.ps ⟨4, 1, [], [.pos 0]⟩ :=
  shp0 F fun _ _ _ _ _ _ us ws h1 h2 => match us, ws, h1, h2 with | [_], [], _, _ => ⟨_, rfl, rfl, rfl⟩
def fn : List He.DefD := [⟨("is_integer", none), "is_integer", "is_integer", d_is_integer.params, d_is_integer.body, d_is_integer.scope, [], []⟩, ⟨("is_state", none), "is_state", "is_state", d_is_state.params, d_is_state.body, d_is_state.scope, [], []⟩, ⟨("is_state_pair", none), "is_state_pair", "is_state_pair", d_is_state_pair.params, d_is_state_pair.body, d_is_state_pair.scope, [], []⟩, ⟨("is_rule", none), "is_rule", "is_rule", d_is_rule.params, d_is_rule.body, d_is_rule.scope, [], []⟩, ⟨("_law_source", none), "_law_source", "_law_source", d__law_source.params, d__law_source.body, d__law_source.scope, [], []⟩, ⟨("_law_draw", none), "_law_draw", "_law_draw", d__law_draw.params, d__law_draw.body, d__law_draw.scope, [], []⟩, ⟨("_law_choose", none), "_law_choose", "_law_choose", d__law_choose.params, d__law_choose.body, d__law_choose.scope, [], []⟩, ⟨("_law_states", none), "_law_states", "_law_states", d__law_states.params, d__law_states.body, d__law_states.scope, [], []⟩, ⟨("_law_is_one", none), "_law_is_one", "_law_is_one", d__law_is_one.params, d__law_is_one.body, d__law_is_one.scope, [], []⟩, ⟨("_law_other", none), "_law_other", "_law_other", d__law_other.params, d__law_other.body, d__law_other.scope, [], []⟩, ⟨("_law_changed", none), "_law_changed", "_law_changed", d__law_changed.params, d__law_changed.body, d__law_changed.scope, [], []⟩, ⟨("law", none), "law", "law", d_law.params, d_law.body, d_law.scope, [], []⟩]
def fa : List He.Fa := [.glo "is_integer", .glo "is_state", .glo "is_state_pair", .glo "is_rule", .glo "_law_source", .glo "_law_draw", .glo "_law_choose", .glo "_law_states", .glo "_law_is_one", .glo "_law_other", .glo "_law_changed", .glo "law", .free "all", .free "range", .free "tuple", .free "isinstance", .free "int", .free "enumerate", .free "len", .free "bool", .free "list", .free "repr", .free "str", .int "PAIR_PARTS" 2]
def ts : List He.Tab := []
def ex (K : PySem.W.Frag) : Bool := true
abbrev hk : PySem.W.Hook := He.hookX 4 fa fn ts [] ex
def ob (s : PySem.W.SharedT) : He.AlX := He.obsX 4 fa fn ts [] ex (HandSHeadRun.getT s)
theorem ob_eq (s : PySem.W.SharedT) : ob s = hk.obs s.abs := He.obsX_eq (HandSHeadRun.getT_eq s)
abbrev R : PySem.W.OpenRow := PySem.W.OpenLaw.row PySem.Challenge.rw_manycarets_k18_rules_of_any_value
def loose : List Str := [("is_integer" : Str), ("PAIR_PARTS" : Str), ("is_state" : Str), ("is_state_pair" : Str), ("is_rule" : Str), ("_law_source" : Str), ("_law_draw" : Str), ("_law_choose" : Str), ("_law_states" : Str), ("_law_is_one" : Str), ("_law_other" : Str), ("_law_changed" : Str)]
abbrev RQ (w : World) : Prop := HandSHeadRun.RunEq R (PySem.W.view R.prog [15]) hk ob 4000 loose w
theorem run (w : World) : RQ w := PySem.W.byRow2 "special-get-raises" (P := RQ) (fun w => by intro os; kernel_rfl) (fun w => by intro os; kernel_rfl) w
theorem prog {w : World} {K : PySem.W.Frag} {h : Heap} {mg : Str → Option Value} (X : K.In h) (G : h.Ns mainGlobals mg) (c : He.SaysX fa fn ts [] ex w h K) : Prog tab dis gls bls prg w K mg where
  len := rfl
  sc := fun i d h => match i, h with
    | 0, h => by cases h; exact s_is_integer
    | 1, h => by cases h; exact s_is_state
    | 2, h => by cases h; exact s_is_state_pair
    | 3, h => by cases h; exact s_is_rule
    | 4, h => by cases h; exact s__law_source
    | 5, h => by cases h; exact s__law_draw
    | 6, h => by cases h; exact s__law_choose
    | 7, h => by cases h; exact s__law_states
    | 8, h => by cases h; exact s__law_is_one
    | 9, h => by cases h; exact s__law_other
    | 10, h => by cases h; exact s__law_changed
    | 11, h => by cases h; exact s_law
    | n + 12, h => by cases h
  chk := fun i d e h1 h2 => match i, h1, h2 with
    | 0, h1, h2 => by cases h1; cases h2; exact ⟨rfl, rfl, c_is_integer⟩
    | 1, h1, h2 => by cases h1; cases h2; exact ⟨rfl, rfl, c_is_state⟩
    | 2, h1, h2 => by cases h1; cases h2; exact ⟨rfl, rfl, c_is_state_pair⟩
    | 3, h1, h2 => by cases h1; cases h2; exact ⟨rfl, rfl, c_is_rule⟩
    | 4, h1, h2 => by cases h1; cases h2; exact ⟨rfl, rfl, c__law_source⟩
    | 5, h1, h2 => by cases h1; cases h2; exact ⟨rfl, rfl, c__law_draw⟩
    | 6, h1, h2 => by cases h1; cases h2; exact ⟨rfl, rfl, c__law_choose⟩
    | 7, h1, h2 => by cases h1; cases h2; exact ⟨rfl, rfl, c__law_states⟩
    | 8, h1, h2 => by cases h1; cases h2; exact ⟨rfl, rfl, c__law_is_one⟩
    | 9, h1, h2 => by cases h1; cases h2; exact ⟨rfl, rfl, c__law_other⟩
    | 10, h1, h2 => by cases h1; cases h2; exact ⟨rfl, rfl, c__law_changed⟩
    | 11, h1, h2 => by cases h1; cases h2; exact ⟨rfl, rfl, c_law⟩
    | n + 12, h1, h2 => by cases h1
  ex := fun i d h => match i, h with
    | 0, h => by cases h; obtain ⟨fd, F⟩ := c.t.d.def_ 0 rfl; exact ⟨_, fd, He.glo_ok X G (c.t.d.fact 0 rfl), _, F⟩
    | 1, h => by cases h; obtain ⟨fd, F⟩ := c.t.d.def_ 1 rfl; exact ⟨_, fd, He.glo_ok X G (c.t.d.fact 1 rfl), _, F⟩
    | 2, h => by cases h; obtain ⟨fd, F⟩ := c.t.d.def_ 2 rfl; exact ⟨_, fd, He.glo_ok X G (c.t.d.fact 2 rfl), _, F⟩
    | 3, h => by cases h; obtain ⟨fd, F⟩ := c.t.d.def_ 3 rfl; exact ⟨_, fd, He.glo_ok X G (c.t.d.fact 3 rfl), _, F⟩
    | 4, h => by cases h; obtain ⟨fd, F⟩ := c.t.d.def_ 4 rfl; exact ⟨_, fd, He.glo_ok X G (c.t.d.fact 4 rfl), _, F⟩
    | 5, h => by cases h; obtain ⟨fd, F⟩ := c.t.d.def_ 5 rfl; exact ⟨_, fd, He.glo_ok X G (c.t.d.fact 5 rfl), _, F⟩
    | 6, h => by cases h; obtain ⟨fd, F⟩ := c.t.d.def_ 6 rfl; exact ⟨_, fd, He.glo_ok X G (c.t.d.fact 6 rfl), _, F⟩
    | 7, h => by cases h; obtain ⟨fd, F⟩ := c.t.d.def_ 7 rfl; exact ⟨_, fd, He.glo_ok X G (c.t.d.fact 7 rfl), _, F⟩
    | 8, h => by cases h; obtain ⟨fd, F⟩ := c.t.d.def_ 8 rfl; exact ⟨_, fd, He.glo_ok X G (c.t.d.fact 8 rfl), _, F⟩
    | 9, h => by cases h; obtain ⟨fd, F⟩ := c.t.d.def_ 9 rfl; exact ⟨_, fd, He.glo_ok X G (c.t.d.fact 9 rfl), _, F⟩
    | 10, h => by cases h; obtain ⟨fd, F⟩ := c.t.d.def_ 10 rfl; exact ⟨_, fd, He.glo_ok X G (c.t.d.fact 10 rfl), _, F⟩
    | 11, h => by cases h; obtain ⟨fd, F⟩ := c.t.d.def_ 11 rfl; exact ⟨_, fd, He.glo_ok X G (c.t.d.fact 11 rfl), _, F⟩
    | n + 12, h => by cases h
  shp := fun sh p d f fd h1 h2 h3 => match sh, h1 with
    | 0, h1 => by cases h1; cases h2; obtain ⟨o, F⟩ := h3.2; exact h_0 F
    | 1, h1 => by cases h1; cases h2; obtain ⟨o, F⟩ := h3.2; exact h_1 F
    | 2, h1 => by cases h1; cases h2; obtain ⟨o, F⟩ := h3.2; exact h_2 F
    | 3, h1 => by cases h1; cases h2; obtain ⟨o, F⟩ := h3.2; exact h_3 F
    | 4, h1 => by cases h1; cases h2; obtain ⟨o, F⟩ := h3.2; exact h_4 F
    | 5, h1 => by cases h1; cases h2; obtain ⟨o, F⟩ := h3.2; exact h_5 F
    | 6, h1 => by cases h1; cases h2; obtain ⟨o, F⟩ := h3.2; exact h_6 F
    | 7, h1 => by cases h1; cases h2; obtain ⟨o, F⟩ := h3.2; exact h_7 F
    | 8, h1 => by cases h1; cases h2; obtain ⟨o, F⟩ := h3.2; exact h_8 F
    | 9, h1 => by cases h1; cases h2; obtain ⟨o, F⟩ := h3.2; exact h_9 F
    | 10, h1 => by cases h1; cases h2; obtain ⟨o, F⟩ := h3.2; exact h_10 F
    | 11, h1 => by cases h1; cases h2; obtain ⟨o, F⟩ := h3.2; exact h_11 F
    | n + 12, h1 => by cases h1
  glb := fun j x h => match j, h with
    | 0, h => by cases h; obtain ⟨v, u, q1, q2, q3⟩ := (glb_int X G (c.t.d.fact 23 rfl) : GlbOk K w mg "PAIR_PARTS" _); exact ⟨_, v, u, rfl, q1, q2, q3⟩
    | n + 1, h => by cases h
  blt := fun x hx => by
    simp only [bls, List.mem_cons, List.not_mem_nil, or_false] at hx
    rcases hx with rfl | rfl | rfl | rfl | rfl | rfl | rfl | rfl | rfl | rfl | rfl
    · exact He.free_ok X G (c.t.d.fact 12 rfl)
    · exact He.free_ok X G (c.t.d.fact 13 rfl)
    · exact He.free_ok X G (c.t.d.fact 14 rfl)
    · exact He.free_ok X G (c.t.d.fact 15 rfl)
    · exact He.free_ok X G (c.t.d.fact 16 rfl)
    · exact He.free_ok X G (c.t.d.fact 17 rfl)
    · exact He.free_ok X G (c.t.d.fact 18 rfl)
    · exact He.free_ok X G (c.t.d.fact 19 rfl)
    · exact He.free_ok X G (c.t.d.fact 20 rfl)
    · exact He.free_ok X G (c.t.d.fact 21 rfl)
    · exact He.free_ok X G (c.t.d.fact 22 rfl)
end Inst
open PySem PySem.W PySem.Calls PyProof.Rows
theorem Inst.ends (ev : ∀ ns : List Int, ns.length ≤ 63 → ∃ st, Mc.callD Inst.tab 60 0 11 [.scr ns] [] = some (.bl true, st)) : PySem.Challenge.rw_manycarets_k18_rules_of_any_value.Holds := by
  w_on; o_law
  refine HandSHeadRun.head_any (r := OpenLaw.row PySem.Challenge.rw_manycarets_k18_rules_of_any_value) (q := view (OpenLaw.row PySem.Challenge.rw_manycarets_k18_rules_of_any_value).prog [15]) (H := Inst.hk) (ob := Inst.ob) (M := 4000) (loose := Inst.loose) (d := HandSHeadRun.topDef (OpenLaw.row PySem.Challenge.rw_manycarets_k18_rules_of_any_value).prog 15) (kwd := []) Inst.ob_eq
    (by kernel_rfl) (fun s => by kernel_rfl) Inst.run (by kernel_rfl) (by kernel_rfl) (by kernel_rfl) (by rfl) (by first | assumption | decide +kernel) (by decide +kernel) ⟨rfl, rfl, rfl, rfl, rfl, by decide +kernel⟩ ?hw ?hc
  case hw => w_witness2
  case hc =>
    refine Mc.walk_mc (l := PySem.Challenge.rw_manycarets_k18_rules_of_any_value) (n := 63) (k := 60) (li := 11) (x := "_law_script") (T := Inst.tab) rfl (by decide) (by kernel_rfl) ⟨rfl, by decide, by decide⟩ ?F ev
    intro w mg fa h Y G hmg0
    obtain ⟨K, KX, c⟩ := Y
    refine ⟨K, Inst.dis, Inst.gls, Inst.bls, Inst.d_law, KX, Inst.prog KX G c, rfl, by kernel_rfl, rfl, fun f fd hf s u => ?_⟩
    obtain ⟨o, F⟩ := hf.2
    have b := L2.FunD.bindsA (ps := ["_law_script"]) F fun _ _ _ _ _ _ us hl => match us, hl with | [_], _ => rfl
    exact b s [u] rfl

theorem PySem.Challenge.cw_manycarets_k18_rules_of_any_value_holds : PySem.Challenge.rw_manycarets_k18_rules_of_any_value.Holds := by
  exact Inst.ends Inst.law_all
