import PyProof.Rows.All
import KE.SortData
import KE.DataMinMax
import HandS.Text
import Wide.All
import OpenK.AllK
import Wide.FinOn
import HandS.ForMost
import HandS.Flow
import HandS.IsInst
import HandS.StrMore
import HandS.Style
import HandS.AnyAll
import HandS.TupLen
import KE.SortCalls
import PyProof.Rows.SumAny
import PyProof.WalksMore
import HandS.TupMul
import PyProof.StrOps2
import HandS.Call
import HandS.TupAny
import KE.DataCmp
import HandS.SortKw
import HandS.Conv
import PyProof.ListStr
import HandS.More
import HandS.Set
import HandS.SetFor
import HandS.Strs
import HandS.Zip
import HandS.TupSets
import HandS.Replace
import HandS.Gcd
import HandS.Deep
import KE.GoesEnum
import HandS.Iter
import PyProof.TupleOps
import KE.KRevIter
import HandS.Rev
import PyProof.EqAt
import PyProof.EqKinds
import PyProof.TupleCall
import HandS.Base
import HandS.List
import KE.KDictDisplayH
import HandS.GenOver
import HandS.Lambda
import KE.DataFind
import HandS.EndTab
import PySem.Challenge.RW_tilehouse_k81_whole_halvings_or_flaws
set_option Elab.async false
set_option linter.all false
set_option maxRecDepth 100000
set_option maxHeartbeats 4000000
/-! T01: plain data, a small language of expressions and blocks, and what they come to. No program in sight. -/
namespace Tl
open PySem (Str Operator CmpOp)

/-- plain data: what a value stands for -/
inductive D where
  | non
  | bl (b : Bool)
  | int (i : Int)
  | str (s : List Nat)
  | tup (l : List D)
  | lst (l : List D)
  | dic (t : Bool) (l : List (D × D))
  | st (l : List D)
  | fn (k : Nat)
  | ro (l : List D)
  deriving Inhabited

/-- a slot: empty, a value that may be shared, a list of one's own that may be changed -/
inductive Sl where
  | no
  | sh (d : D)
  | ow (d : D)
abbrev En := List Sl
def eget : En → Nat → Sl
  | [], _ => .no
  | s :: _, 0 => s
  | _ :: r, n + 1 => eget r n
def eset : En → Nat → Sl → En
  | [], _, _ => []
  | _ :: r, 0, x => x :: r
  | s :: r, n + 1, x => s :: eset r n x
def wipeE (e : En) : List Nat → En
  | [] => e
  | v :: vs => eset (wipeE e vs) v .no

/-- a target: a slot, or a tuple of targets -/
inductive TP where
  | one (i : Nat)
  | tn
  | tc (p ps : TP)
def bindT : TP → D → En → Option En
  | .one i, d, e => some (eset e i (.sh d))
  | .tn, .tup [], e => some e
  | .tc p ps, .tup (d :: ds), e => match bindT p d e with
    | some e' => bindT ps (.tup ds) e'
    | none => none
  | _, _, _ => none

/-- the longest list, text that is served -/
def lim : Nat := 100000
def okLen {α : Type} (l : List α) : Bool := Nat.ble l.length lim

def truD : D → Option Bool
  | .non => some false
  | .bl b => some b
  | .int i => some (i != 0)
  | .str s => if okLen s then some (!s.isEmpty) else none
  | .tup l => some (!l.isEmpty)
  | .lst l => some (!l.isEmpty)
  | .dic _ _ => none
  | .st l => some (!l.isEmpty)
  | .fn _ => none
  | .ro l => some (!l.isEmpty)

mutual
/-- the same data, without dicts and sets -/
def sameD : D → D → Bool
  | .non, .non => true
  | .bl a, .bl b => a == b
  | .int a, .int b => a == b
  | .str a, .str b => a == b
  | .tup a, .tup b => sameDs a b
  | _, _ => false
def sameDs : List D → List D → Bool
  | [], [] => true
  | x :: xs, y :: ys => sameD x y && sameDs xs ys
  | _, _ => false
end
mutual
theorem same_eq : ∀ {x y : D}, sameD x y = true → x = y
  | .non, .non, _ => rfl
  | .bl a, .bl b, h => by unfold sameD at h; rw [eq_of_beq h]
  | .int a, .int b, h => by unfold sameD at h; rw [eq_of_beq h]
  | .str a, .str b, h => by unfold sameD at h; rw [eq_of_beq h]
  | .tup a, .tup b, h => by unfold sameD at h; rw [same_eqs h]
theorem same_eqs : ∀ {x y : List D}, sameDs x y = true → x = y
  | [], [], _ => rfl
  | x :: xs, y :: ys, h => by
    unfold sameDs at h
    rw [Bool.and_eq_true] at h
    rw [same_eq h.1, same_eqs h.2]
end
/-- the same key -/
def dGet : List (D × D) → D → Option D
  | [], _ => none
  | (k, v) :: r, x => if sameD k x then some v else dGet r x
def dPut (l : List (D × D)) (x v : D) : List (D × D) :=
  if l.any (fun p => sameD p.1 x) then l.map (fun p => if sameD p.1 x then (p.1, v) else p) else l ++ [(x, v)]
def isKey : D → Bool
  | .int _ => true
  | .str _ => true
  | _ => false
/-- a key of a dict: (t) a tuple of ints and texts, or an int, a text -/
def keyT (t : Bool) : D → Bool
  | .int _ => !t
  | .str _ => !t
  | .tup l => t && l.all isKey
  | _ => false
mutual
/-- no list, dict, set within -/
def imm : D → Bool
  | .lst _ => false
  | .dic _ _ => false
  | .st _ => false
  | .ro _ => false
  | .tup l => immAll l
  | _ => true
def immAll : List D → Bool
  | [] => true
  | d :: ds => imm d && immAll ds
end

mutual
/-- == of data without dicts and sets -/
def eqD : D → D → Bool
  | .non, .non => true
  | .bl a, .bl b => a == b
  | .bl a, .int j => (if a then 1 else 0) == j
  | .int i, .bl b => i == (if b then 1 else 0)
  | .int i, .int j => i == j
  | .str x, .str y => x == y
  | .tup x, .tup y => eqDs x y
  | .lst x, .lst y => eqDs x y
  | _, _ => false
def eqDs : List D → List D → Bool
  | [], [] => true
  | x :: xs, y :: ys => eqD x y && eqDs xs ys
  | _, _ => false
end
mutual
/-- no dict, set, def within, and not deeper than n -/
def flat : Nat → D → Bool
  | _, .non => true
  | _, .bl _ => true
  | _, .int _ => true
  | _, .str s => s.all fun c => Nat.blt c 1114112
  | n + 1, .tup l => flats n l
  | n + 1, .lst l => flats n l
  | _, _ => false
def flats : Nat → List D → Bool
  | _, [] => true
  | n, d :: ds => flat n d && flats n ds
end
def small (n : Nat) (i : Int) : Bool := Nat.blt i.natAbs n
def b64 : Nat := 18446744073709551616
def binD : Operator → D → D → Option D
  | .Add, .int i, .int j => some (.int (i + j))
  | .Add, .str x, .str y => if okLen (x ++ y) then some (.str (x ++ y)) else none
  | .Add, .tup x, .tup y => if okLen (x ++ y) then some (.tup (x ++ y)) else none
  | .Add, .lst x, .lst y => if okLen (x ++ y) then some (.lst (x ++ y)) else none
  | .Sub, .int i, .int j => some (.int (i - j))
  | .Mult, .int i, .int j => if small b64 i || small b64 j then some (.int (i * j)) else none
  | .Mult, .lst x, .int k => if okLen x && small lim k && okLen (List.replicate k.toNat x).flatten then some (.lst (List.replicate k.toNat x).flatten) else none
  | .Mult, .str x, .int k => if okLen x && small lim k && okLen (List.replicate k.toNat x).flatten then some (.str (List.replicate k.toNat x).flatten) else none
  | .Mult, .tup x, .int k => if Nat.ble x.length 1000 && decide (0 ≤ k) && decide (k ≤ 1000) then some (.tup (List.replicate k.toNat x).flatten) else none
  | .FloorDiv, .int i, .int j => if decide (0 < j) && small 1073741824 j then some (.int (i / j)) else none
  | .Mod, .int i, .int j => if decide (0 < j) then some (.int (i % j)) else none
  | .Pow, .int i, .int j => if decide (0 ≤ j) && small 1000000 j && small b64 i then some (.int (i ^ j.toNat)) else none
  | _, _, _ => none

/-- the place that an index means -/
def ixD (n : Nat) (i : Int) : Option Nat := if 0 ≤ i then (if i < n then some i.toNat else none) else if -(n : Int) ≤ i then some (i + n).toNat else none
def idxD : D → D → Option D
  | .tup l, .int i => (ixD l.length i).bind fun j => l[j]?
  | .lst l, .int i => (ixD l.length i).bind fun j => l[j]?
  | .ro l, .int i => (ixD l.length i).bind fun j => l[j]?
  | .str s, .int i => if okLen s then ((ixD s.length i).bind fun j => s[j]?).map fun c => .str [c] else none
  | .dic t l, k => if keyT t k then dGet l k else none
  | _, _ => none
def sIx (n d : Nat) : Option Int → Nat
  | none => d
  | some v => if v < 0 then (v + n).toNat else min v.toNat n
def cutL {α : Type} (l : List α) (lo hi : Option Int) : List α := (l.drop (sIx l.length 0 lo)).take (sIx l.length l.length hi - sIx l.length 0 lo)
/-- the places lo:hi:k, k > 0 -/
def stpL {α : Type} (l : List α) (lo hi : Option Int) (k : Int) : List α :=
  (PySem.sliceRange (PySem.sliceBounds lo hi (some k) l.length).1 (PySem.sliceBounds lo hi (some k) l.length).2.1 k).filterMap (l[·]?)
def stpD : D → Option Int → Option Int → D → Option D
  | .lst l, lo, hi, .int k => if 0 < k then some (.lst (stpL l lo hi k)) else none
  | .tup l, lo, hi, .int k => if 0 < k then some (.tup (stpL l lo hi k)) else none
  | _, _, _, _ => none
def slcD : D → Option Int → Option Int → Option D
  | .lst l, lo, hi => some (.lst (cutL l lo hi))
  | .tup l, lo, hi => some (.tup (cutL l lo hi))
  | .str s, lo, hi => if okLen s then some (.str (cutL s lo hi)) else none
  | _, _, _ => none
/-- a slice's part: absent, or an int -/
def parD (no : Bool) (d : D) : Option (Option Int) := if no then some none else match d with
  | .int i => some (some i)
  | _ => none

/-- is this text within that one -/
def isIn (x : List Nat) : List Nat → Bool
  | [] => x.isEmpty
  | c :: cs => x.isPrefixOf (c :: cs) || isIn x cs
def ltL : List Nat → List Nat → Bool
  | [], [] => false
  | [], _ :: _ => true
  | _ :: _, [] => false
  | x :: xs, y :: ys => Nat.blt x y || (x == y && ltL xs ys)
mutual
/-- < of data of one shape (the first place that differs; ints, texts, bools alike) -/
def ltD : D → D → Bool
  | .int i, .int j => decide (i < j)
  | .str x, .str y => ltL x y
  | .tup x, .tup y => ltDs x y
  | .lst x, .lst y => ltDs x y
  | _, _ => false
def ltDs : List D → List D → Bool
  | [], [] => false
  | [], _ :: _ => true
  | _ :: _, [] => false
  | x :: xs, y :: ys => if eqD x y then ltDs xs ys else ltD x y
end
mutual
/-- they can be set in order -/
def likeD : D → D → Bool
  | .int _, .int _ => true
  | .str _, .str _ => true
  | .tup x, .tup y => likeDs x y
  | .lst x, .lst y => likeDs x y
  | _, _ => false
def likeDs : List D → List D → Bool
  | [], _ => true
  | _, [] => true
  | x :: xs, y :: ys => likeD x y && likeDs xs ys
end
def isNum : D → D → Bool
  | .int _, .int _ => true
  | _, _ => false
mutual
def toP : D → PySem.PyData
  | .non => .none
  | .bl b => .bool b
  | .int i => .int i
  | .str s => .str ⟨s.toArray⟩
  | .tup l => .tuple (toPs l)
  | .lst l => .list (toPs l)
  | _ => .none
def toPs : List D → List PySem.PyData
  | [] => []
  | d :: ds => toP d :: toPs ds
end
def ltP (x y : D) : Bool := PySem.W.dataLt (toP x) (toP y)
/-- two tuples, two texts that can be set in order -/
def ordK : D → D → Bool
  | .tup x, .tup y => flat 40 (.tup x) && flat 40 (.tup y) && PySem.W.alike (toP (.tup x)) (toP (.tup y))
  | .str x, .str y => flat 40 (.str x) && flat 40 (.str y)
  | _, _ => false
def cmpK (op : CmpOp) (x : D) (t : Bool) (l : List (D × D)) : Option Bool := match op with
  | .In => if keyT t x then some (dGet l x).isSome else none
  | .NotIn => if keyT t x then some (!(dGet l x).isSome) else none
  | _ => none
def cmpD0 : CmpOp → D → D → Option Bool
  | .Eq, .str x, .str y => some (x == y)
  | .NotEq, .str x, .str y => some (!(x == y))
  | .Eq, x, y => if flat 40 x && flat 40 y then some (eqD x y) else none
  | .NotEq, x, y => if flat 40 x && flat 40 y then some (!eqD x y) else none
  | .Lt, .int i, .int j => some (decide (i < j))
  | .LtE, .int i, .int j => some (decide (i ≤ j))
  | .Gt, .int i, .int j => some (decide (j < i))
  | .GtE, .int i, .int j => some (decide (j ≤ i))
  | .Lt, .str x, .str y => some (ltL x y)
  | .Is, .non, .non => some true
  | .IsNot, .non, .non => some false
  | .Is, _, .non => some false
  | .IsNot, _, .non => some true
  | .In, .str x, .str y => some (isIn x y)
  | .NotIn, .str x, .str y => some (!isIn x y)
  | .In, x, .tup l => if flat 40 x && flats 40 l then some (l.any fun y => eqD y x) else none
  | .In, x, .lst l => if flat 40 x && flats 40 l then some (l.any fun y => eqD y x) else none
  | .NotIn, x, .tup l => if flat 40 x && flats 40 l then some (!l.any fun y => eqD y x) else none
  | .NotIn, x, .lst l => if flat 40 x && flats 40 l then some (!l.any fun y => eqD y x) else none
  | .Lt, x, y => if ordK x y then some (ltP x y) else none
  | .Gt, x, y => if ordK x y then some (ltP y x) else none
  | .LtE, x, y => if ordK x y then some (!ltP y x) else none
  | .GtE, x, y => if ordK x y then some (!ltP x y) else none
  | _, _, _ => none
def cmpD (op : CmpOp) (x : D) : D → Option Bool
  | .dic t l => cmpK op x t l
  | y => cmpD0 op x y

/-- built-ins by name; methods -/
inductive BI where
  | len | abs | int | tuple | list | sum | max | min | all | any | sorted
  deriving DecidableEq
inductive ME where
  | join | index | rstrip | count | startswith | lindex | endswith
  deriving DecidableEq
inductive TY where
  | int | bool | str | tuple | list
  deriving DecidableEq

def intsOf : List D → Option (List Int)
  | [] => some []
  | .int i :: r => (intsOf r).map (i :: ·)
  | _ => none
def bsOf : List D → Option (List Bool)
  | [] => some []
  | .bl b :: r => (bsOf r).map (b :: ·)
  | _ => none
def strsOf : List D → Option (List (List Nat))
  | [] => some []
  | .str s :: r => (strsOf r).map (s :: ·)
  | _ => none
def itemsOf : D → Option (List D)
  | .lst l => some l
  | .tup l => some l
  | _ => none
def mostOf : Int → List Int → Int
  | m, [] => m
  | m, x :: r => mostOf (if x > m then x else m) r
def leastOf : Int → List Int → Int
  | m, [] => m
  | m, x :: r => leastOf (if x < m then x else m) r

/-- <=, of data that can be set in order -/
def leD (x y : D) : Bool := PySem.W.dataLe false toP x y
def isI : D → Bool
  | .int _ => true
  | _ => false
def isS : D → Bool
  | .str _ => true
  | _ => false
def likeOk (l : List D) : Bool := l.all isI || l.all isS || l.all fun x => l.all fun y => PySem.W.alike (toP x) (toP y)
def tupNe : D → Bool
  | .tup (_ :: _) => true
  | _ => false
/-- tuples, () among them -/
def isTup : D → Bool
  | .tup _ => true
  | _ => false
def tupE (l : List D) : Bool := l.all isTup
def plainK : D → Bool
  | .non => false
  | .tup _ => false
  | _ => true
def minL (x : D) (xs : List D) : D := xs.foldl (fun a y => if ltP y a then y else a) x
def maxL (x : D) (xs : List D) : D := xs.foldl (fun a y => if ltP a y then y else a) x
def notNon : D → Bool
  | .non => false
  | _ => true
def minB : List D → Option D
  | [.lst (x :: xs)] => if flats 40 (x :: xs) && likeOk (x :: xs) && (x :: xs).all notNon then some (minL x xs) else none
  | [.tup (x :: xs)] => if flats 40 (x :: xs) && likeOk (x :: xs) && (x :: xs).all notNon then some (minL x xs) else none
  | [.str x, .str y] => if flats 40 [.str x, .str y] then some (.str (if ltP (.str y) (.str x) then y else x)) else none
  | _ => none
def maxB : List D → Option D
  | [.lst (x :: xs)] => if flats 40 (x :: xs) && likeOk (x :: xs) && (x :: xs).all notNon then some (maxL x xs) else none
  | [.tup (x :: xs)] => if flats 40 (x :: xs) && likeOk (x :: xs) && (x :: xs).all notNon then some (maxL x xs) else none
  | [.str x, .str y] => if flats 40 [.str x, .str y] then some (.str (if ltP (.str x) (.str y) then y else x)) else none
  | _ => none
def sortB : List D → Option D
  | [.lst l] => if flats 40 l && okLen l && likeOk l && (l.all tupNe || (l.all plainK || tupE l)) then some (.lst (l.mergeSort leD)) else none
  | [.tup l] => if flats 40 l && okLen l && likeOk l && (l.all tupNe || (l.all plainK || tupE l)) then some (.lst (l.mergeSort leD)) else none
  | _ => none
def biD : BI → List D → Option D
  | .len, [.lst l] => some (.int l.length)
  | .len, [.tup l] => some (.int l.length)
  | .len, [.ro l] => some (.int l.length)
  | .len, [.dic t l] => if t then none else some (.int l.length)
  | .len, [.str s] => if okLen s then some (.int s.length) else none
  | .abs, [.int i] => some (.int (if i < 0 then -i else i))
  | .int, [.int i] => some (.int i)
  | .tuple, [.lst l] => some (.tup l)
  | .tuple, [.tup l] => some (.tup l)
  | .list, [.lst l] => some (.lst l)
  | .list, [.tup l] => some (.lst l)
  | .list, [.str s] => if okLen s then some (.lst (s.map fun c => .str [c])) else none
  | .sum, [.lst l] => (intsOf l).map fun ns => .int ns.sum
  | .sum, [.tup l] => (intsOf l).map fun ns => .int ns.sum
  | .max, [.lst l] => match intsOf l with
    | some (n :: ns) => some (.int (mostOf n ns))
    | _ => maxB [.lst l]
  | .min, [.lst l] => match intsOf l with
    | some (n :: ns) => some (.int (leastOf n ns))
    | _ => minB [.lst l]
  | .max, [.tup l] => maxB [.tup l]
  | .min, [.tup l] => minB [.tup l]
  | .max, [.int i, .int j] => some (.int (if j > i then j else i))
  | .max, [.str x, .str y] => maxB [.str x, .str y]
  | .min, [.int i, .int j] => some (.int (if j < i then j else i))
  | .min, [.str x, .str y] => minB [.str x, .str y]
  | .all, [.lst l] => (bsOf l).map fun bs => .bl (bs.all id)
  | .any, [.lst l] => (bsOf l).map fun bs => .bl (bs.any id)
  | .sorted, l => sortB l
  | _, _ => none
/-- one of each kind -/
def uniq : List D → List D
  | [] => []
  | x :: r => if r.any (eqD x) then uniq r else x :: uniq r
def rowD : D → Option (List D)
  | .lst l => some l
  | .tup l => some l
  | .ro l => some l
  | _ => none
/-- len(set(d)), sorted(set(d)) -/
def isTI : D → Bool
  | .tup l => l.all isI
  | _ => false
def setF (so : Bool) (d : D) : Option D := match rowD d with
  | some l => if Nat.ble l.length 4000 && (l.all isI || l.all isS) then some (if so then .lst ((uniq l).mergeSort leD) else .int (uniq l).length)
    else if Nat.ble l.length 63 && l.all isTI && (!so || l.all tupNe) then some (if so then .lst ((uniq l).mergeSort leD) else .int (uniq l).length) else none
  | none => none
/-- max (mx), min of what may be empty -/
def mmF (mx : Bool) : D → D → Option D
  | .lst [], d => some d
  | .tup [], d => some d
  | .lst (x :: xs), _ => if mx then maxB [.lst (x :: xs)] else minB [.lst (x :: xs)]
  | .tup (x :: xs), _ => if mx then maxB [.tup (x :: xs)] else minB [.tup (x :: xs)]
  | _, _ => none
def joinL (sep : List Nat) : List (List Nat) → List Nat
  | [] => []
  | [x] => x
  | x :: y :: r => x ++ (sep ++ joinL sep (y :: r))
def rstripL (cs : List Nat) (s : List Nat) : List Nat := (s.reverse.dropWhile fun c => cs.contains c).reverse
def meD : ME → D → List D → Option D
  | .join, .str sep, [.lst l] => match strsOf l with
    | some xs => if okLen (joinL sep xs) && Nat.ble (xs.length * sep.length) lim then some (.str (joinL sep xs)) else none
    | none => none
  | .join, .str sep, [.tup l] => match strsOf l with
    | some xs => if okLen (joinL sep xs) && Nat.ble (xs.length * sep.length) lim then some (.str (joinL sep xs)) else none
    | none => none
  | .index, .str s, [.str [c]] => if okLen s then (s.findIdx? (· == c)).map fun (i : Nat) => .int i else none
  | .rstrip, .str s, [.str cs] => if okLen s && okLen cs then some (.str (rstripL cs s)) else none
  | .lindex, .lst l, [x] => if flat 40 x && flat 40 (.lst l) then (l.findIdx? fun y => eqD y x).map fun (i : Nat) => .int i else none
  | .count, .str s, [.str t] => some (.int (PySem.Txt.count ⟨s.toArray⟩ ⟨t.toArray⟩))
  | .startswith, .str s, [.str t] => some (.bl (PySem.Txt.startswith ⟨s.toArray⟩ ⟨t.toArray⟩))
  | .endswith, .str s, [.str t] => some (.bl (PySem.Txt.endswith ⟨s.toArray⟩ ⟨t.toArray⟩))
  | _, _, _ => none
def isTy : TY → D → Bool
  | .int, .int _ => true
  | .int, .bl _ => true
  | .bool, .bl _ => true
  | .str, .str _ => true
  | .tuple, .tup _ => true
  | .list, .lst _ => true
  | .list, .ro _ => true
  | _, _ => false

def notDic : D → Bool
  | .dic _ _ => false
  | _ => true
/-- a small letter made great -/
def upC (c : Nat) : Nat := if 97 ≤ c ∧ c ≤ 122 then c - 32 else c
/-- expressions -/
inductive IE where
  | c (d : D)
  | v (i : Nat)
  | b (i : Nat)
  | bin (op : Operator) (x y : IE)
  | neg (x : IE)
  | nt (x : IE)
  | cmp (op : CmpOp) (x y : IE)
  | chn (op op' : CmpOp) (x y z : IE)
  | and (x y : IE)
  | or (x y : IE)
  | ife (t x y : IE)
  | tup (as : IE)
  | lst (as : IE)
  | an
  | ac (e as : IE)
  | idx (x i : IE)
  | slc (x lo hi : IE)
  | slst (x lo hi k : IE)
  | no
  | rvs (x : IE)
  | call (k : Nat) (as : IE)
  | bi (f : BI) (as : IE)
  | isi (t : TY) (x : IE)
  | me (m : ME) (x as : IE)
  | rng (as : IE)
  | lc (own : List Nat) (tp : TP) (it t x : IE)
  | yes
  | gc (j : Nat) (d : D)
  | gcd (as : IE)
  | lc2 (own own1 : List Nat) (tp tp1 : TP) (it it1 t x : IE)
  | enm (x : IE)
  | zip (x y : IE)
  | gex (al : Bool) (own : List Nat) (tp : TP) (it x : IE)
  /-- all(..), any(..) of a generator expression with a test -/
  | gxi (al : Bool) (own : List Nat) (tp : TP) (it g x : IE)
  | lrg (tu : Bool) (x y : IE)
  | mmd (mx : Bool) (x y : IE)
  | sts (so : Bool) (x : IE)
  | dnw (t : Bool)
  | dsp (k v : IE)
  | dgt (x k y : IE)
  | kys (x : IE)
  | vls (x : IE)
  | itm (x : IE)
  | rvd (x : IE)
  | rn3 (as : IE)
  | lck (i : Nat) (x : IE)
  | dso (x : IE)
  | dls (x : IE)
  | dcn (l : List (D × D))
  /-- a written dict of the module: d[k], k in d -/
  | kdx (j : Nat) (l : List (D × D)) (x : IE)
  | kdi (neg : Bool) (j : Nat) (l : List (D × D)) (x : IE)
  | upr (x : IE)

def isNo : IE → Bool
  | .no => true
  | _ => false
/-- has a borrowed argument -/
def hasB : IE → Bool
  | .ac (.b _) _ => true
  | .ac _ as => hasB as
  | _ => false
def upto : Nat → Int → List D
  | 0, _ => []
  | n + 1, a => .int a :: upto n (a + 1)
def b62 : Nat := 4611686018427387904
def rngD : List D → Option D
  | [.int n] => if small b62 n then some (.lst (upto n.toNat 0)) else none
  | [.int a, .int n] => if small b62 a && small b62 n then some (.lst (upto (n - a).toNat a)) else none
  | _ => none
/-- the items that a loop goes through -/
def walkD : D → Option (List D)
  | .lst l => some l
  | .tup l => some l
  | .str s => if okLen s then some (s.map fun c => .str [c]) else none
  | _ => none
def lcGo (t x : En → Option D) (tp : TP) (e : En) : List D → Option (List D)
  | [] => some []
  | d :: ds => match bindT tp d e with
    | none => none
    | some e' => match t e' with
      | some (.bl true) => match x e' with
        | some y => match lcGo t x tp e ds with
          | some ys => some (y :: ys)
          | none => none
        | none => none
      | some (.bl false) => lcGo t x tp e ds
      | _ => none

def enumL : Nat → List D → List D
  | _, [] => []
  | i, d :: r => .tup [.int (i : Int), d] :: enumL (i + 1) r
def zipL : List D → List D → List D
  | x :: xs, y :: ys => .tup [x, y] :: zipL xs ys
  | _, _ => []
mutual
/-- no dict within -/
def noDic : D → Bool
  | .dic _ _ => false
  | .tup l => noDics l
  | .lst l => noDics l
  | .ro l => noDics l
  | _ => true
def noDics : List D → Bool
  | [] => true
  | d :: ds => noDic d && noDics ds
end
def rng3D : List D → Option D
  | [.int a, .int n, .int c] => if c != 0 && small 1073741824 c && PySem.Builtin.Range.small a n c then some (.lst ((List.range (PySem.Builtin.Range.rangeSize a n c).toNat).map fun (i : Nat) => .int (a + i * c))) else none
  | _ => none
/-- a source that wants a target of two names -/
def isTupIt : IE → Bool
  | .itm _ => true
  | .enm _ => true
  | .zip _ _ => true
  | _ => false
def lc2Go (f : En → Option (List D)) (tp : TP) (e : En) : List D → Option (List D)
  | [] => some []
  | d :: ds => match bindT tp d e with
    | none => none
    | some e' => match f e' with
      | some ys => match lc2Go f tp e ds with
        | some zs => some (ys ++ zs)
        | none => none
      | none => none
/-- all (al), any of a generator expression -/
def gexGo (al : Bool) (f : En → Option D) (tp : TP) (e : En) : List D → Option Bool
  | [] => some al
  | d :: ds => match bindT tp d e with
    | none => none
    | some e' => match f e' with
      | some (.bl b) => if b == al then gexGo al f tp e ds else some (!al)
      | _ => none
/-- with a test -/
def gxiGo (al : Bool) (t f : En → Option D) (tp : TP) (e : En) : List D → Option Bool
  | [] => some al
  | d :: ds => match bindT tp d e with
    | none => none
    | some e' => match t e' with
      | some (.bl true) => (match f e' with
        | some (.bl b) => if b == al then gxiGo al t f tp e ds else some (!al)
        | _ => none)
      | some (.bl false) => gxiGo al t f tp e ds
      | _ => none
/-- as a test: the truth of the value -/
def fin (t : Bool) : Option D → Option D
  | some d => if t then (match truD d with | some b => some (.bl b) | none => none) else some d
  | none => none
def consD : Option D → Option D → Option D
  | some x, some (.tup l) => some (.tup (x :: l))
  | _, _ => none
def argsD : Option D → Option (List D)
  | some (.tup l) => some l
  | _ => none

def ev (F : Nat → List D → Option D) : IE → Bool → En → Option D
  | .c d, t, _ => fin t (some d)
  | .v i, t, e => fin t (match eget e i with | .sh d => some d | _ => none)
  | .b i, t, e => fin t (match eget e i with | .sh d => some d | .ow d => some d | .no => none)
  | .bin op x y, t, e => fin t (match ev F x false e, ev F y false e with
    | some a, some b => binD op a b
    | _, _ => none)
  | .neg x, t, e => fin t (match ev F x false e with
    | some (.int i) => some (.int (-i))
    | _ => none)
  | .nt x, t, e => match (if t then ev F x true e else fin true (ev F x false e)) with
    | some (.bl b) => some (.bl (!b))
    | _ => none
  | .cmp op x y, _, e => match ev F x false e, ev F y false e with
    | some a, some b => (cmpD op a b).map .bl
    | _, _ => none
  | .chn op op' x y z, _, e => match ev F x false e, ev F y false e with
    | some a, some b => match cmpD op a b with
      | some true => match ev F z false e with
        | some c => (cmpD op' b c).map .bl
        | none => none
      | some false => some (.bl false)
      | none => none
    | _, _ => none
  | .and x y, t, e => match ev F x t e with
    | some (.bl true) => ev F y t e
    | some (.bl false) => some (.bl false)
    | _ => none
  | .or x y, t, e => match ev F x t e with
    | some (.bl false) => ev F y t e
    | some (.bl true) => some (.bl true)
    | _ => none
  | .ife c x y, t, e => fin t (match ev F c true e with
    | some (.bl true) => ev F x false e
    | some (.bl false) => ev F y false e
    | _ => none)
  | .tup as, t, e => fin t (ev F as false e)
  | .lst as, t, e => fin t (match ev F as false e with
    | some (.tup l) => some (.lst l)
    | _ => none)
  | .an, _, _ => some (.tup [])
  | .ac x as, _, e => match ev F x false e, ev F as false e with
    | some d, some (.tup l) => some (.tup (d :: l))
    | _, _ => none
  | .idx x i, t, e => fin t (match ev F x false e, ev F i false e with
    | some a, some b => idxD a b
    | _, _ => none)
  | .slc x lo hi, t, e => fin t (match ev F x false e, ev F lo false e, ev F hi false e with
    | some a, some l, some h => match parD (isNo lo) l, parD (isNo hi) h with
      | some l, some h => slcD a l h
      | _, _ => none
    | _, _, _ => none)
  | .slst x lo hi k, t, e => fin t (match ev F x false e, ev F lo false e, ev F hi false e, ev F k false e with
    | some a, some l, some h, some k => match parD (isNo lo) l, parD (isNo hi) h with
      | some l, some h => stpD a l h k
      | _, _ => none
    | _, _, _, _ => none)
  | .no, _, _ => some .non
  | .yes, _, _ => some (.bl true)
  | .lc2 own own1 tp tp1 it it1 c x, t, e => fin t (match ev F it false e with
    | some d => match walkD d with
      | some ds => match lc2Go (fun e' => match ev F it1 false e' with
          | some d1 => match walkD d1 with
            | some ds1 => lcGo (ev F c true) (ev F x false) tp1 (wipeE e' own1) ds1
            | none => none
          | none => none) tp (wipeE e own) ds with
        | some ys => if okLen ys then some (.lst ys) else none
        | none => none
      | none => none
    | none => none)
  | .enm x, _, e => match ev F x false e with
    | some (.lst l) => some (.lst (enumL 0 l))
    | some (.tup l) => some (.lst (enumL 0 l))
    | _ => none
  | .zip x y, _, e => match ev F x false e, ev F y false e with
    | some (.lst l), some (.lst m) => some (.lst (zipL l m))
    | some (.tup l), some (.tup m) => some (.lst (zipL l m))
    | _, _ => none
  | .gex al own tp it x, t, e => fin t (match ev F it false e with
    | some d => match walkD d with
      | some ds => (gexGo al (ev F x false) tp (wipeE e own) ds).map .bl
      | none => none
    | none => none)
  | .gxi al own tp it g x, t, e => fin t (match ev F it false e with
    | some d => match walkD d with
      | some ds => (gxiGo al (ev F g true) (ev F x false) tp (wipeE e own) ds).map .bl
      | none => none
    | none => none)
  | .lrg tu x y, t, e => fin t (match ev F x false e, ev F y false e with
    | some a, some b => match (if isNo x then rngD [.int 0, b] else rngD [a, b]) with
      | some (.lst r) => if okLen r then some (if tu then .tup r else .lst r) else none
      | _ => none
    | _, _ => none)
  | .mmd mx x y, t, e => fin t (match ev F x false e, ev F y false e with
    | some a, some d => mmF mx a d
    | _, _ => none)
  | .sts so x, t, e => fin t (match ev F x false e with
    | some d => setF so d
    | none => none)
  | .dnw t, _, _ => some (.dic t [])
  | .dsp k v, _, e => match ev F k false e, ev F v false e with
    | some kd, some vd => if keyT false kd then some (.dic false [(kd, vd)]) else none
    | _, _ => none
  | .dgt x k y, t, e => fin t (match ev F x false e, ev F k false e, ev F y false e with
    | some (.dic tt l), some kd, some yd => if keyT tt kd then some ((dGet l kd).getD yd) else none
    | _, _, _ => none)
  | .kys x, _, e => match ev F x false e with
    | some (.dic _ l) => some (.lst (l.map Prod.fst))
    | _ => none
  | .vls x, _, e => match ev F x false e with
    | some (.dic false l) => some (.lst (l.map Prod.snd))
    | _ => none
  | .itm x, _, e => match ev F x false e with
    | some (.dic false l) => some (.lst (l.map fun p => .tup [p.1, p.2]))
    | _ => none
  | .rvd x, _, e => match ev F x false e with
    | some (.lst l) => some (.lst l.reverse)
    | some (.str s) => if okLen s then some (.lst (s.reverse.map fun c => .str [c])) else none
    | _ => none
  | .rn3 as, _, e => match ev F as false e with
    | some (.tup l) => rng3D l
    | _ => none
  | .lck i x, t, e => match eget e i with
    | .ow (.dic tt l) => match ev F x t (eset e i (.sh (.dic tt l))) with
      | some d => if noDic d then some d else none
      | none => none
    | _ => none
  | .dso x, t, e => fin t (match ev F x false e with
    | some (.dic false l) => if okLen l && (l.all (fun p => isI p.1) || l.all (fun p => isS p.1)) then some (.lst ((l.map Prod.fst).mergeSort leD)) else none
    | some (.dic true l) => if okLen l && likeOk (l.map Prod.fst) && (l.map Prod.fst).all tupNe then some (.lst ((l.map Prod.fst).mergeSort leD)) else none
    | _ => none)
  | .dcn l, _, _ => some (.dic false l)
  | .kdx _ l x, t, e => fin t (match ev F x false e with
    | some (.str s) => dGet l (.str s)
    | _ => none)
  | .kdi neg _ l x, _, e => match ev F x false e with
    | some (.str s) => some (.bl (if neg then !(dGet l (.str s)).isSome else (dGet l (.str s)).isSome))
    | _ => none
  | .upr x, t, e => fin t (match ev F x false e with
    | some (.str s) => if okLen s && s.all (fun c => decide (c < 128)) then some (.str (s.map upC)) else none
    | _ => none)
  | .dls x, t, e => fin t (match ev F x false e with
    | some (.dic false l) => some (.lst (l.map Prod.fst))
    | _ => none)
  | .gc _ d, t, _ => fin t (some d)
  | .gcd as, t, e => fin t (match ev F as false e with
    | some (.tup [.int a, .int b]) => some (.int ((Nat.gcd a.natAbs b.natAbs : Nat) : Int))
    | _ => none)
  | .rvs x, t, e => fin t (match ev F x false e with
    | some (.str s) => if okLen s then some (.str s.reverse) else none
    | some (.lst l) => some (.lst l.reverse)
    | some (.tup l) => some (.tup l.reverse)
    | _ => none)
  | .call k as, t, e => fin t (match ev F as false e with
    | some (.tup l) => match F k l with
      | some r => if hasB as then (if imm r && l.all notDic then some r else none) else some r
      | none => none
    | _ => none)
  | .bi f as, t, e => fin t (match ev F as false e with
    | some (.tup l) => biD f l
    | _ => none)
  | .isi ty x, t, e => fin t (match ev F x false e with
    | some d => if notDic d then some (.bl (isTy ty d)) else none
    | none => none)
  | .me m x as, t, e => fin t (match ev F x false e, ev F as false e with
    | some d, some (.tup l) => meD m d l
    | _, _ => none)
  | .rng as, _, e => match ev F as false e with
    | some (.tup l) => rngD l
    | _ => none
  | .lc own tp it c x, t, e => fin t (match ev F it false e with
    | some d => match walkD d with
      | some ds => match lcGo (ev F c true) (ev F x false) tp (wipeE e own) ds with
        | some ys => if okLen ys then some (.lst ys) else none
        | none => none
      | none => none
    | none => none)

/-- statements, blocks -/
inductive IS where
  | skip
  | seq (s t : IS)
  | asg (i : Nat) (fr : Bool) (x : IE)
  | asgT (tp : TP) (x : IE)
  | par (i j : Nat) (x y : IE)
  | aug (i : Nat) (op : Operator) (x : IE)
  | setI (i : Nat) (k x : IE)
  | augI (i : Nat) (op : Operator) (k x : IE)
  | app (i : Nat) (x : IE)
  | ext (i : Nat) (x : IE)
  | iff (c : IE) (s t : IS)
  | for (tp : TP) (it : IE) (s : IS)
  | whl (c : IE) (s : IS)
  | ret (x : IE)
  | retN
  | brk
  | cnt
  | frz (i : Nat) (s : IS)
  | popA (i j : Nat)
  | pop2 (i j : Nat) (k : IE)
  | ins (i : Nat) (k x : IE)
  | rmv (i : Nat) (x : IE)
  | dnew (i : Nat) (t : Bool)
  | dnw1 (i : Nat) (t : Bool) (k x : IE)
  | dput (i : Nat) (k x : IE)
  | daug (i : Nat) (op : Operator) (k x : IE)
inductive Out where
  | nx (e : En)
  | rt (d : D)
  | bk (e : En)
  | ct (e : En)
def forGo (bd : En → Option Out) (tp : TP) : List D → En → Option Out
  | [], e => some (.nx e)
  | d :: ds, e => match bindT tp d e with
    | none => none
    | some e1 => match bd e1 with
      | some (.nx e2) => forGo bd tp ds e2
      | some (.ct e2) => forGo bd tp ds e2
      | some (.bk e2) => some (.nx e2)
      | some (.rt d) => some (.rt d)
      | none => none
def whlGo (c : En → Option D) (bd : En → Option Out) : Nat → En → Option Out
  | 0, _ => none
  | n + 1, e => match c e with
    | some (.bl true) => match bd e with
      | some (.nx e2) => whlGo c bd n e2
      | some (.ct e2) => whlGo c bd n e2
      | some (.bk e2) => some (.nx e2)
      | some (.rt d) => some (.rt d)
      | none => none
    | some (.bl false) => some (.nx e)
    | _ => none
def setD (d i x : D) : Option D := match d, i with
  | .lst l, .int k => match ixD l.length k with
    | some j => some (.lst (l.set j x))
    | none => none
  | _, _ => none
/-- x op= y of a slot -/
def augD (op : Operator) (x y : D) : Option D := match op, x, y with
  | .Add, .int i, .int j => some (.int (i + j))
  | .Sub, .int i, .int j => some (.int (i - j))
  | .Mult, .int i, .int j => if small b64 i || small b64 j then some (.int (i * j)) else none
  | .FloorDiv, .int i, .int j => if decide (0 < j) && small 1073741824 j then some (.int (i / j)) else none
  | .Add, .str a, .str b => if okLen (a ++ b) then some (.str (a ++ b)) else none
  | .Add, .tup a, .tup b => if okLen (a ++ b) then some (.tup (a ++ b)) else none
  | _, _, _ => none

def exec (F : Nat → List D → Option D) (gas : Nat) : IS → En → Option Out
  | .skip, e => some (.nx e)
  | .seq s t, e => match exec F gas s e with
    | some (.nx e1) => exec F gas t e1
    | r => r
  | .asg i fr x, e => match ev F x false e with
    | some d => if fr then (match d with
        | .lst l => some (.nx (eset e i (.ow (.lst l))))
        | _ => none) else some (.nx (eset e i (.sh d)))
    | none => none
  | .asgT tp x, e => match ev F x false e with
    | some d => (bindT tp d e).map .nx
    | none => none
  | .par i j x y, e => match ev F x false e, ev F y false e with
    | some a, some b => some (.nx (eset (eset e i (.sh a)) j (.sh b)))
    | _, _ => none
  | .aug i op x, e => match eget e i, ev F x false e with
    | .sh a, some b => (augD op a b).map fun d => .nx (eset e i (.sh d))
    | _, _ => none
  | .setI i k x, e => match ev F x false e, ev F k false e, eget e i with
    | some d, some kd, .ow l => (setD l kd d).map fun r => .nx (eset e i (.ow r))
    | _, _, _ => none
  | .augI i op k x, e => match eget e i, ev F k false e, ev F x false e with
    | .ow l, some kd, some d => match idxD l kd with
      | some old => match augD op old d with
        | some z => (setD l kd z).map fun r => .nx (eset e i (.ow r))
        | none => none
      | none => none
    | _, _, _ => none
  | .app i x, e => match ev F x false e, eget e i with
    | some d, .ow (.lst l) => if okLen l then some (.nx (eset e i (.ow (.lst (l ++ [d]))))) else none
    | _, _ => none
  | .ext i x, e => match ev F x false e, eget e i with
    | some (.lst m), .ow (.lst l) => if okLen (l ++ m) then some (.nx (eset e i (.ow (.lst (l ++ m))))) else none
    | _, _ => none
  | .iff c s t, e => match ev F c true e with
    | some (.bl true) => exec F gas s e
    | some (.bl false) => exec F gas t e
    | _ => none
  | .for tp it s, e => match ev F it false e with
    | some d => match walkD d with
      | some ds => forGo (exec F gas s) tp ds e
      | none => none
    | none => none
  | .whl c s, e => whlGo (ev F c true) (exec F gas s) gas e
  | .ret x, e => (ev F x false e).map .rt
  | .retN, _ => some (.rt .non)
  | .brk, e => some (.bk e)
  | .cnt, e => some (.ct e)
  | .popA i j, e => match eget e j with
    | .ow (.lst l) => match l[l.length - 1]? with
      | some d => some (.nx (eset (eset e j (.ow (.lst (l.take (l.length - 1))))) i (.sh d)))
      | none => none
    | _ => none
  | .pop2 i j k, e => match eget e j, ev F k false e with
    | .ow (.lst l), some (.int m) => if decide (0 ≤ m) && small b62 m then (match l[m.toNat]? with
      | some d => some (.nx (eset (eset e j (.ow (.lst (l.eraseIdx m.toNat)))) i (.sh d)))
      | none => none) else none
    | _, _ => none
  | .ins i k x, e => match eget e i, ev F k false e, ev F x false e with
    | .ow (.lst l), some (.int m), some d => if decide (0 ≤ m) && small b62 m && okLen l then some (.nx (eset e i (.ow (.lst (l.take m.toNat ++ [d] ++ l.drop m.toNat))))) else none
    | _, _, _ => none
  | .rmv i x, e => match eget e i, ev F x false e with
    | .ow (.lst l), some d => if flat 40 d && flat 40 (.lst l) then (match l.findIdx? (fun y => eqD y d) with
        | some j => some (.nx (eset e i (.ow (.lst (l.eraseIdx j)))))
        | none => none) else none
    | _, _ => none
  | .dnew i t, e => some (.nx (eset e i (.ow (.dic t []))))
  | .dnw1 i t k x, e => match ev F k false e, ev F x false e with
    | some kd, some d => if keyT t kd then some (.nx (eset e i (.ow (.dic t [(kd, d)])))) else none
    | _, _ => none
  | .dput i k x, e => match ev F x false e, ev F k false e, eget e i with
    | some d, some kd, .ow (.dic t l) => if keyT t kd && okLen l then some (.nx (eset e i (.ow (.dic t (dPut l kd d))))) else none
    | _, _, _ => none
  | .daug i op k x, e => match eget e i, ev F k false e, ev F x false e with
    | .ow (.dic t l), some kd, some d => if keyT t kd && okLen l then (match dGet l kd with
      | some old => match augD op old d with
        | some z => some (.nx (eset e i (.ow (.dic t (dPut l kd z)))))
        | none => none
      | none => none) else none
    | _, _, _ => none
  | .frz i s, e => match eget e i with
    | .ow d => exec F gas s (eset e i (.sh d))
    | .sh _ => exec F gas s e
    | .no => none

/-- a def: the number of its slots, its body -/
structure Fd where
  par : Nat
  slots : Nat
  body : IS
def entry (n : Nat) (as : List D) : En := as.map Sl.sh ++ List.replicate (n - as.length) .no
def gas0 : Nat := 100000
def run (T : List Fd) : Nat → Nat → List D → Option D
  | 0, _, _ => none
  | n + 1, k, as => match T[k]? with
    | some fd => if as.length = fd.par then
        (match exec (run T n) gas0 fd.body (entry fd.slots as) with
          | some (.rt d) => some d
          | some (.nx _) => some .non
          | _ => none)
      else none
    | none => none
end Tl

/-! T02: how plain data lies in the heap; operators, by plain data. -/
namespace Tl
open PySem L2

abbrev Ad := Addr → Prop
/-- a list that is read only: at S, or an object of the module -/
def SqR (K : PySem.W.Frag) (S : Ad) (H : Hp) (a : Addr) (vs : List V) : Prop := (S a ∧ Rd H a (.lst vs)) ∨
  ∃ (o : Obj) (its : Array Value) (n : Nat), K.lookup a = some o ∧ o.cls = .type "list" ∧ o.dict = none ∧ o.data = .seq its n ∧ its.size ≤ sizeLine ∧ Vals vs its.toList
theorem SqR.sqL {K : PySem.W.Frag} {S : Ad} {H : Hp} {a : Addr} {vs : List V} (h : SqR K S H a vs) : SqL K H a vs := by
  rcases h with h | h
  · exact .inl h.2
  · exact .inr h
/-- a def's table of code objects -/
def isTb : HO → Bool
  | .tbl _ => true
  | _ => false
/-- a key, as data -/
def kD : Key → D
  | .inl i => .int i
  | .inr x => .str x.cps.toList
/-- a dict of kind t: its keys as data, its values -/
def DK (t : Bool) (u : HO) (ks : List D) (vs : List V) : Prop := match t with
  | false => ∃ kvs : List (Key × V), u = .dK kvs ∧ ks = kvs.map (fun p => kD p.1) ∧ vs = kvs.map (·.2)
  | true => ∃ kvs : List (List Key × V), u = .dT kvs ∧ ks = kvs.map (fun p => .tup (p.1.map kD)) ∧ vs = kvs.map (·.2)
theorem DK.mut {t : Bool} {u : HO} {ks : List D} {vs : List V} (h : DK t u ks vs) : Mut (some u) := by
  cases t with
  | false => obtain ⟨kvs, rfl, _⟩ := h; exact True.intro
  | true => obtain ⟨kvs, rfl, _⟩ := h; exact True.intro
theorem DK.ntup {t : Bool} {u : HO} {ks : List D} {vs : List V} (h : DK t u ks vs) {xs : List V} (e : u = .tup xs) : False := by
  subst e
  exact h.mut
theorem DK.nlst {t : Bool} {u : HO} {ks : List D} {vs : List V} (h : DK t u ks vs) {xs : List V} (e : u = .lst xs) : False := by
  cases t with
  | false => obtain ⟨kvs, rfl, _⟩ := h; cases e
  | true => obtain ⟨kvs, rfl, _⟩ := h; cases e
theorem DK.nfrz {t : Bool} {u : HO} {ks : List D} {vs : List V} (h : DK t u ks vs) {o : Obj} {w : HO} (e : u = .frz o w) : False := by
  subst e
  exact h.mut
theorem DK.ntbl {t : Bool} {u : HO} {ks : List D} {vs : List V} (h : DK t u ks vs) : isTb u = false := by
  cases t with
  | false => obtain ⟨kvs, rfl, _⟩ := h; rfl
  | true => obtain ⟨kvs, rfl, _⟩ := h; rfl
mutual
/-- v stands for d; the lists within lie at addresses of S -/
inductive DR (K : PySem.W.Frag) (S : Ad) (H : Hp) : V → D → Prop
  | non : DR K S H .non .non
  | bl (b : Bool) : DR K S H (.bl b) (.bl b)
  | int (i : Int) : DR K S H (.int i) (.int i)
  | str (s : List Nat) : DR K S H (.str ⟨s.toArray⟩) (.str s)
  | tup {a : Addr} {vs : List V} {ds : List D} : H a = some (.tup vs) → DRs K S H vs ds → DR K S H (.ref a) (.tup ds)
  | dic {a : Addr} {t : Bool} {o : Obj} {u : HO} {vs : List V} {ds : List (D × D)} : S a → H a = some (.frz o u) → DK t u (ds.map Prod.fst) vs → DRs K S H vs (ds.map Prod.snd) → DR K S H (.ref a) (.dic t ds)
  | lst {a : Addr} {vs : List V} {ds : List D} : S a → H a = some (.lst vs) → DRs K S H vs ds → DR K S H (.ref a) (.lst ds)
  | ro {a : Addr} {vs : List V} {ds : List D} : SqR K S H a vs → DRs K S H vs ds → DR K S H (.ref a) (.ro ds)
inductive DRs (K : PySem.W.Frag) (S : Ad) (H : Hp) : List V → List D → Prop
  | nil : DRs K S H [] []
  | cons {v : V} {vs : List V} {d : D} {ds : List D} : DR K S H v d → DRs K S H vs ds → DRs K S H (v :: vs) (d :: ds)
end
/-- from H to H' what is at S, and every tuple, can be read as before -/
structure Le (S : Ad) (H : Hp) (S' : Ad) (H' : Hp) : Prop where
  sub : ∀ a, S a → S' a
  tups : ∀ a xs, H a = some (.tup xs) → H' a = some (.tup xs)
  lsts : ∀ a xs, S a → H a = some (.lst xs) → H' a = some (.lst xs)
  ros : ∀ a xs, S a → Rd H a (.lst xs) → Rd H' a (.lst xs)
  fzs : ∀ a o u, S a → H a = some (.frz o u) → H' a = some (.frz o u)
theorem Le.refl (S : Ad) (H : Hp) : Le S H S H := ⟨fun _ h => h, fun _ _ h => h, fun _ _ _ h => h, fun _ _ _ h => h, fun _ _ _ _ h => h⟩
theorem Le.trans {S S1 S2 : Ad} {H H1 H2 : Hp} (x : Le S H S1 H1) (y : Le S1 H1 S2 H2) : Le S H S2 H2 :=
  ⟨fun a h => y.sub a (x.sub a h), fun a xs h => y.tups a xs (x.tups a xs h), fun a xs s h => y.lsts a xs (x.sub a s) (x.lsts a xs s h), fun a xs s h => y.ros a xs (x.sub a s) (x.ros a xs s h), fun a o u s h => y.fzs a o u (x.sub a s) (x.fzs a o u s h)⟩
/-- all that was tracked stands; the tables may have grown -/
structure Ex (H H' : Hp) : Prop where
  to : ∀ a o, isTb o = false → H a = some o → H' a = some o
  tb : ∀ a ps, H a = some (.tbl ps) → ∃ ps', H' a = some (.tbl ps') ∧ (TriplesOk ps.toList → TriplesOk ps'.toList)
theorem Ex.app {H H' : Hp} (x : Ex H H') : ∀ a o, H a = some o → (hn : isTb o = false := by rfl) → H' a = some o := fun a o h hn => x.to a o hn h
instance {H H' : Hp} : CoeFun (Ex H H') (fun _ => ∀ a o, H a = some o → (hn : isTb o = false := by rfl) → H' a = some o) := ⟨fun x => @Ex.app H H' x⟩
theorem Ex.refl (H : Hp) : Ex H H := ⟨fun _ _ _ h => h, fun _ ps h => ⟨ps, h, fun z => z⟩⟩
theorem Ex.trans {H H1 H2 : Hp} (x : Ex H H1) (y : Ex H1 H2) : Ex H H2 := ⟨fun a o n h => y.to a o n (x.to a o n h), fun a ps h => by
  obtain ⟨p1, h1, t1⟩ := x.tb a ps h
  obtain ⟨p2, h2, t2⟩ := y.tb a p1 h1
  exact ⟨p2, h2, fun z => t2 (t1 z)⟩⟩
theorem Ex.of {H H' : Hp} (h : ∀ a o, H a = some o → H' a = some o) : Ex H H' := ⟨fun a o _ e => h a o e, fun a ps e => ⟨ps, h a _ e, fun z => z⟩⟩
theorem Ex.new {H : Hp} {p : Addr} {o : HO} (h : H p = none) : Ex H (upd H p o) := Ex.of fun a u e => by
  rw [upd_ne (ne_of_none e h)]; exact e
theorem Ex.rd {H H' : Hp} (x : Ex H H') {a : Addr} {u : HO} (h : Rd H a u) (hn : isTb u = false := by rfl) : Rd H' a u := by
  rcases h with h | ⟨o, h⟩
  · exact .inl (x.to a _ hn h)
  · exact .inr ⟨o, x.to a _ rfl h⟩
theorem Ex.le {S S' : Ad} {H H' : Hp} (x : Ex H H') (h : ∀ a, S a → S' a) : Le S H S' H' := ⟨h, fun _ _ r => x _ _ r, fun _ _ _ r => x _ _ r, fun _ _ _ r => x.rd r, fun _ _ _ _ r => x _ _ r⟩
theorem Ex.free {H H' : Hp} (x : Ex H H') {a : Addr} (h : H' a = none) : H a = none := by
  cases e : H a with
  | none => rfl
  | some o =>
    cases hn : isTb o with
    | false => rw [x.to a o hn e] at h; cases h
    | true =>
      cases o with
      | tbl ps =>
        obtain ⟨p, h1, _⟩ := x.tb a ps e
        rw [h1] at h
        cases h
      | _ => cases hn
/-- the tables that are met -/
class Tabs where
  T : List Addr
/-- they are tracked -/
def HasT [Tabs] (H : Hp) : Prop := ∀ P ∈ Tabs.T, GxR.TabG H P
theorem HasT.ex [Tabs] {H H' : Hp} (h : HasT H) (x : Ex H H') : HasT H' := fun P hP => by
  obtain ⟨ps, e, t⟩ := h P hP
  obtain ⟨ps', e', t'⟩ := x.tb P ps e
  exact ⟨ps', e', t' t⟩
theorem HasT.upd [Tabs] {H : Hp} {a : Addr} {o : HO} (h : HasT H) (ha : ∀ ps, H a ≠ some (.tbl ps)) : HasT (L2.upd H a o) := fun P hP => by
  obtain ⟨ps, e, t⟩ := h P hP
  refine ⟨ps, ?_, t⟩
  rw [upd_ne fun z => by subst z; exact ha ps e]
  exact e
theorem Ex.tabbed {H H' : Hp} {P : Addr} (hP : GxR.TabG H P) (h : GxR.Tabbed P H H') : Ex H H' := by
  obtain ⟨⟨ps', e', t'⟩, k⟩ := h
  refine ⟨fun a o n e => ?_, fun a ps e => ?_⟩
  · rw [k a fun z => ?_]
    · exact e
    · subst z
      obtain ⟨ps, e2, _⟩ := hP
      rw [e2] at e
      cases e
      cases n
  · by_cases z : a = P
    · subst z
      exact ⟨ps', e', fun _ => t'⟩
    · exact ⟨ps, by rw [k a z]; exact e, fun y => y⟩
section
variable {K : PySem.W.Frag} {S S' : Ad} {H H' : Hp}
theorem Le.sqL (x : Le S H S' H') {a : Addr} {xs : List V} (s : S a) (h : SqL K H a xs) : SqL K H' a xs := by
  rcases h with h | h
  · exact .inl (x.ros a xs s h)
  · exact .inr h
theorem Le.sqR (x : Le S H S' H') {a : Addr} {xs : List V} (h : SqR K S H a xs) : SqR K S' H' a xs := by
  rcases h with h | h
  · exact .inl ⟨x.sub _ h.1, x.ros _ _ h.1 h.2⟩
  · exact .inr h
mutual
theorem DR.mono (x : Le S H S' H') : ∀ {d : D} {v : V}, DR K S H v d → DR K S' H' v d
  | _, _, .non => .non
  | _, _, .bl b => .bl b
  | _, _, .int i => .int i
  | _, _, .str s => .str s
  | _, _, .tup h r => .tup (x.tups _ _ h) (DRs.mono x r)
  | _, _, .dic s h k r => .dic (x.sub _ s) (x.fzs _ _ _ s h) k (DRs.mono x r)
  | _, _, .lst s h r => .lst (x.sub _ s) (x.lsts _ _ s h) (DRs.mono x r)
  | _, _, .ro h r => .ro (x.sqR h) (DRs.mono x r)
theorem DRs.mono (x : Le S H S' H') : ∀ {ds : List D} {vs : List V}, DRs K S H vs ds → DRs K S' H' vs ds
  | _, _, .nil => .nil
  | _, _, .cons h r => .cons (DR.mono x h) (DRs.mono x r)
end
theorem DRs.length : ∀ {ds : List D} {vs : List V}, DRs K S H vs ds → vs.length = ds.length
  | _, _, .nil => rfl
  | _, _, .cons _ r => congrArg (· + 1) (DRs.length r)
theorem DRs.append {ds es : List D} {vs us : List V} (h : DRs K S H vs ds) (g : DRs K S H us es) : DRs K S H (vs ++ us) (ds ++ es) := by
  induction vs generalizing ds with
  | nil => cases h; exact g
  | cons v vs ih => cases h with
    | cons a b => exact .cons a (ih b)
theorem DRs.get : ∀ {ds : List D} {vs : List V} {i : Nat} {d : D}, DRs K S H vs ds → ds[i]? = some d → ∃ v, vs[i]? = some v ∧ DR K S H v d
  | _, _, _, _, .nil, h => by simp at h
  | _, _, 0, _, .cons a _, h => by simp at h; subst h; exact ⟨_, rfl, a⟩
  | _, _, i + 1, _, .cons _ r, h => by
    obtain ⟨v, e, q⟩ := DRs.get (i := i) r (by simpa using h)
    exact ⟨v, by simpa using e, q⟩
theorem DRs.get' {ds : List D} {vs : List V} {i : Nat} {v : V} (h : DRs K S H vs ds) (e : vs[i]? = some v) : ∃ d, ds[i]? = some d ∧ DR K S H v d := by
  induction vs generalizing ds i with
  | nil => simp at e
  | cons w ws ih => cases h with
    | cons a b => cases i with
      | zero => simp at e; subst e; exact ⟨_, rfl, a⟩
      | succ i =>
        obtain ⟨d, q, r⟩ := ih b (i := i) (by simpa using e)
        exact ⟨d, by simpa using q, r⟩
theorem DRs.take : ∀ {ds : List D} {vs : List V} (n : Nat), DRs K S H vs ds → DRs K S H (vs.take n) (ds.take n)
  | _, _, 0, _ => .nil
  | _, _, _ + 1, .nil => .nil
  | _, _, n + 1, .cons a r => .cons a (DRs.take n r)
theorem DRs.drop : ∀ {ds : List D} {vs : List V} (n : Nat), DRs K S H vs ds → DRs K S H (vs.drop n) (ds.drop n)
  | _, _, 0, h => h
  | _, _, _ + 1, .nil => .nil
  | _, _, n + 1, .cons _ r => DRs.drop n r
theorem DRs.set {d : D} {v : V} (q : DR K S H v d) : ∀ {ds : List D} {vs : List V} (n : Nat), DRs K S H vs ds → DRs K S H (vs.set n v) (ds.set n d)
  | _, _, _, .nil => .nil
  | _, _, 0, .cons _ r => .cons q r
  | _, _, n + 1, .cons a r => .cons a (DRs.set q n r)
theorem DRs.reverse {ds : List D} {vs : List V} (h : DRs K S H vs ds) : DRs K S H vs.reverse ds.reverse := by
  induction vs generalizing ds with
  | nil => cases h; exact .nil
  | cons v vs ih => cases h with
    | cons a b => rw [List.reverse_cons, List.reverse_cons]; exact (ih b).append (.cons a .nil)
theorem DRs.rep {ds : List D} {vs : List V} (h : DRs K S H vs ds) : ∀ k : Nat, DRs K S H (List.replicate k vs).flatten (List.replicate k ds).flatten
  | 0 => .nil
  | k + 1 => by
    rw [List.replicate_succ, List.replicate_succ, List.flatten_cons, List.flatten_cons]
    exact h.append (DRs.rep h k)
end

/-- a list of one's own at a: its items are data -/
def OW (K : PySem.W.Frag) (S : Ad) (H : Hp) (a : Addr) : D → Prop
  | .lst ds => ∃ vs, H a = some (.lst vs) ∧ DRs K S H vs ds
  | .dic t ds => ∃ u vs, H a = some u ∧ DK t u (ds.map Prod.fst) vs ∧ DRs K S H vs (ds.map Prod.snd)
  | _ => False
theorem OW.mono {K : PySem.W.Frag} {S S' : Ad} {H H' : Hp} {a : Addr} {d : D} (x : Le S H S' H') (e : ∀ o, isTb o = false → H a = some o → H' a = some o) (h : OW K S H a d) : OW K S' H' a d := by
  cases d with
  | lst ds => obtain ⟨vs, q, r⟩ := h; exact ⟨vs, e _ rfl q, r.mono x⟩
  | dic t ds => obtain ⟨u, vs, q, k, r⟩ := h; exact ⟨u, vs, e _ k.ntbl q, k, r.mono x⟩
  | _ => exact h
/-- a value, or (b) one of one's own lists -/
def DV (b : Bool) (K : PySem.W.Frag) (S : Ad) (H : Hp) (v : V) (d : D) : Prop := DR K S H v d ∨ (b = true ∧ ∃ a, v = .ref a ∧ OW K S H a d)
theorem DV.f {K : PySem.W.Frag} {S : Ad} {H : Hp} {v : V} {d : D} (h : DV false K S H v d) : DR K S H v d := by
  rcases h with h | ⟨h, _⟩
  · exact h
  · cases h
theorem DV.t {b : Bool} {K : PySem.W.Frag} {S : Ad} {H : Hp} {v : V} {d : D} (h : DV b K S H v d) : DV true K S H v d := by
  rcases h with h | ⟨_, h⟩
  · exact .inl h
  · exact .inr ⟨rfl, h⟩
theorem DV.mono {b : Bool} {K : PySem.W.Frag} {S S' : Ad} {H H' : Hp} {v : V} {d : D} (x : Ex H H') (s : ∀ a, S a → S' a) (h : DV b K S H v d) : DV b K S' H' v d := by
  rcases h with h | ⟨hb, a, e, h⟩
  · exact .inl (h.mono (x.le s))
  · exact .inr ⟨hb, a, e, h.mono (x.le s) (x.to a)⟩
theorem DV.lst {b : Bool} {K : PySem.W.Frag} {S : Ad} {H : Hp} {v : V} {ds : List D} (h : DV b K S H v (.lst ds)) : ∃ a vs, v = .ref a ∧ H a = some (.lst vs) ∧ DRs K S H vs ds := by
  rcases h with h | ⟨_, a, e, vs, h, r⟩
  · cases h with
    | lst s h r => exact ⟨_, _, rfl, h, r⟩
  · exact ⟨a, vs, e, h, r⟩
theorem DV.ro {b : Bool} {K : PySem.W.Frag} {S : Ad} {H : Hp} {v : V} {ds : List D} (h : DV b K S H v (.ro ds)) : ∃ a vs, v = .ref a ∧ SqL K H a vs ∧ DRs K S H vs ds := by
  rcases h with h | ⟨_, a, e, h⟩
  · cases h with
    | ro h r => exact ⟨_, _, rfl, h.sqL, r⟩
  · exact h.elim
theorem DV.dic {b t : Bool} {K : PySem.W.Frag} {S : Ad} {H : Hp} {v : V} {ds : List (D × D)} (h : DV b K S H v (.dic t ds)) : ∃ a u vs, v = .ref a ∧ Rd H a u ∧ DK t u (ds.map Prod.fst) vs ∧ DRs K S H vs (ds.map Prod.snd) := by
  rcases h with h | ⟨_, a, e, u, vs, h, k, r⟩
  · cases h with
    | dic s h k r => exact ⟨_, _, _, rfl, .inr ⟨_, h⟩, k, r⟩
  · exact ⟨a, u, vs, e, .inl h, k, r⟩
theorem DV.tup {b : Bool} {K : PySem.W.Frag} {S : Ad} {H : Hp} {v : V} {ds : List D} (h : DV b K S H v (.tup ds)) : ∃ a vs, v = .ref a ∧ H a = some (.tup vs) ∧ DRs K S H vs ds := by
  rcases h with h | ⟨_, a, e, h⟩
  · cases h with
    | tup h r => exact ⟨_, _, rfl, h, r⟩
  · exact h.elim
theorem DV.int {b : Bool} {K : PySem.W.Frag} {S : Ad} {H : Hp} {v : V} {i : Int} (h : DV b K S H v (.int i)) : v = .int i := by
  rcases h with h | ⟨_, a, e, h⟩
  · cases h; rfl
  · exact h.elim
theorem DV.bl {b : Bool} {K : PySem.W.Frag} {S : Ad} {H : Hp} {v : V} {i : Bool} (h : DV b K S H v (.bl i)) : v = .bl i := by
  rcases h with h | ⟨_, a, e, h⟩
  · cases h; rfl
  · exact h.elim
theorem DV.str {b : Bool} {K : PySem.W.Frag} {S : Ad} {H : Hp} {v : V} {s : List Nat} (h : DV b K S H v (.str s)) : v = .str ⟨s.toArray⟩ := by
  rcases h with h | ⟨_, a, e, h⟩
  · cases h; rfl
  · exact h.elim
theorem DV.non {b : Bool} {K : PySem.W.Frag} {S : Ad} {H : Hp} {v : V} (h : DV b K S H v .non) : v = .non := by
  rcases h with h | ⟨_, a, e, h⟩
  · cases h; rfl
  · exact h.elim
/-- what is new since H, beside S -/
def nw (S : Ad) (H : Hp) : Ad := fun a => S a ∨ H a = none
theorem nw.of {S : Ad} {H : Hp} (a : Addr) (h : S a) : nw S H a := .inl h
theorem nw.ex {S : Ad} {H H' : Hp} (x : Ex H H') : ∀ a, nw S H' a → nw S H a := fun a h => by
  rcases h with h | h
  · exact .inl h
  · exact .inr (x.free h)
theorem nw.nw {S : Ad} {H H' : Hp} (x : Ex H H') : ∀ a, Tl.nw (Tl.nw S H) H' a → Tl.nw S H a := fun a h => by
  rcases h with h | h
  · exact h
  · exact .inr (x.free h)

theorem okLen_le {α : Type} {l : List α} (h : okLen l = true) : l.length ≤ 100000 := Nat.le_of_ble_eq_true h
theorem szOf {n : Nat} (h : n ≤ 100000) : n ≤ sizeLine := Nat.le_trans h (by decide)
theorem szLt {n : Nat} (h : n ≤ 100000) : n < sizeLine := Nat.lt_of_le_of_lt h (by decide)
theorem small_of {n : Nat} {i : Int} (h : small n i = true) : i.natAbs < n := by
  unfold small at h
  rw [Nat.blt_eq] at h
  exact h
theorem small_lt {n : Nat} {i : Int} (h : small n i = true) : -(n : Int) < i ∧ i < (n : Int) := by
  have := small_of h
  omega

/-- a rule of two values, by data -/
def r2 (K : PySem.W.Frag) (f : D → D → Option D) : R2 := fun x y H Q => ∃ S dx dy d, DV true K S H x dx ∧ DV true K S H y dy ∧ f dx dy = some d ∧ ∀ v H', Ex H H' → DR K (nw S H) H' v d → Q v H'
/-- an answer that needs no new object -/
theorem ans0 {K : PySem.W.Frag} {S : Ad} {H : Hp} {Q : VK} {d : D} {v : V} (h : ∀ v H', Ex H H' → DR K (nw S H) H' v d → Q v H') (q : DR K S H v d) : Q v H := h v H (Ex.refl H) (q.mono ((Ex.refl H).le nw.of))
theorem ansT {K : PySem.W.Frag} {S : Ad} {H : Hp} {Q : VK} {ds : List D} {vs : List V} (h : ∀ v H', Ex H H' → DR K (nw S H) H' v (.tup ds) → Q v H') (q : DRs K S H vs ds) {p : Addr} (hp : H p = none) : Q (.ref p) (upd H p (.tup vs)) :=
  h _ _ (Ex.new hp) (.tup upd_same (q.mono ((Ex.new hp).le nw.of)))
theorem ansL {K : PySem.W.Frag} {S : Ad} {H : Hp} {Q : VK} {ds : List D} {vs : List V} (h : ∀ v H', Ex H H' → DR K (nw S H) H' v (.lst ds) → Q v H') (q : DRs K S H vs ds) {p : Addr} (hp : H p = none) : Q (.ref p) (upd H p (.lst vs)) :=
  h _ _ (Ex.new hp) (.lst (.inr hp) upd_same (q.mono ((Ex.new hp).le nw.of)))
theorem rd_some {H : Hp} {a : Addr} {u : HO} (h : Rd H a u) : H a ≠ none := by
  rcases h with h | ⟨o, h⟩ <;> (rw [h]; exact fun z => nomatch z)
/-- the addresses of S that are tracked -/
def trS (S : Ad) (H : Hp) : Ad := fun a => S a ∧ H a ≠ none
theorem SqR.tr {K : PySem.W.Frag} {S : Ad} {H : Hp} {a : Addr} {vs : List V} (h : SqR K S H a vs) : SqR K (trS S H) H a vs := by
  rcases h with h | h
  · exact .inl ⟨⟨h.1, rd_some h.2⟩, h.2⟩
  · exact .inr h
mutual
theorem DR.tr {K : PySem.W.Frag} {S : Ad} {H : Hp} : ∀ {d : D} {v : V}, DR K S H v d → DR K (trS S H) H v d
  | _, _, .non => .non
  | _, _, .bl b => .bl b
  | _, _, .int i => .int i
  | _, _, .str s => .str s
  | _, _, .tup h r => .tup h (DRs.tr r)
  | _, _, .dic s h k r => .dic ⟨s, by rw [h]; exact fun z => nomatch z⟩ h k (DRs.tr r)
  | _, _, .lst s h r => .lst ⟨s, by rw [h]; exact fun z => nomatch z⟩ h (DRs.tr r)
  | _, _, .ro h r => .ro h.tr (DRs.tr r)
theorem DRs.tr {K : PySem.W.Frag} {S : Ad} {H : Hp} : ∀ {ds : List D} {vs : List V}, DRs K S H vs ds → DRs K (trS S H) H vs ds
  | _, _, .nil => .nil
  | _, _, .cons h r => .cons (DR.tr h) (DRs.tr r)
end
theorem OW.tr {K : PySem.W.Frag} {S : Ad} {H : Hp} {a : Addr} {d : D} (h : OW K S H a d) : OW K (trS S H) H a d := by
  cases d with
  | lst ds => obtain ⟨vs, q, r⟩ := h; exact ⟨vs, q, r.tr⟩
  | dic t ds => obtain ⟨u, vs, q, k, r⟩ := h; exact ⟨u, vs, q, k, r.tr⟩
  | _ => exact h
end Tl

/-! H01: dicts, by data: look-ups, stores. -/
namespace Tl
open PySem L2
/-! ### keys -/
theorem kD_str (x : Str) : kD (.inr x) = .str x.cps.toList := rfl
theorem isKey_kD (k : Key) : isKey (kD k) = true := by cases k <;> rfl
theorem kD_inj : ∀ {a b : Key}, kD a = kD b → a = b
  | .inl i, .inl j, h => by cases h; rfl
  | .inr x, .inr y, h => by
    have e : x.cps.toList = y.cps.toList := by injection h
    have e2 : x.cps = y.cps := Array.toList_inj.mp e
    cases x; cases y
    simp only at e2
    subst e2
    rfl
  | .inl i, .inr x, h => by cases h
  | .inr x, .inl i, h => by cases h
theorem kDs_inj : ∀ {a b : List Key}, a.map kD = b.map kD → a = b
  | [], [], _ => rfl
  | [], _ :: _, h => by cases h
  | _ :: _, [], h => by cases h
  | x :: xs, y :: ys, h => by
    simp only [List.map_cons, List.cons.injEq] at h
    rw [kD_inj h.1, kDs_inj h.2]
theorem same_refl_key {d : D} (h : isKey d = true) : sameD d d = true := by
  cases d with
  | int i => unfold sameD; simp
  | str s => unfold sameD; simp
  | _ => cases h
theorem sames_refl_key : ∀ {l : List D}, l.all isKey = true → sameDs l l = true
  | [], _ => rfl
  | x :: xs, h => by
    rw [List.all_cons, Bool.and_eq_true] at h
    unfold sameDs
    rw [same_refl_key h.1, sames_refl_key h.2]
    rfl
theorem same_kD (a b : Key) : sameD (kD a) (kD b) = decide (a = b) := by
  by_cases h : a = b
  · subst h
    rw [same_refl_key (isKey_kD a)]
    simp
  · cases e : sameD (kD a) (kD b) with
    | true => exact absurd (kD_inj (same_eq e)) h
    | false => simp [h]
theorem all_kD (l : List Key) : (l.map kD).all isKey = true := by
  rw [List.all_map, List.all_eq_true]
  intro k _
  exact isKey_kD k
theorem same_kDs (a b : List Key) : sameD (.tup (a.map kD)) (.tup (b.map kD)) = decide (a = b) := by
  by_cases h : a = b
  · subst h
    unfold sameD
    rw [sames_refl_key (all_kD a)]
    simp
  · cases e : sameD (.tup (a.map kD)) (.tup (b.map kD)) with
    | true =>
      have := same_eq e
      injection this with this
      exact absurd (kDs_inj this) h
    | false => simp [h]
theorem key_of_D {d : D} (h : isKey d = true) : ∃ k, kD k = d := by
  cases d with
  | int i => exact ⟨.inl i, rfl⟩
  | str s => exact ⟨.inr ⟨s.toArray⟩, by show D.str (s.toArray.toList) = _; rw [List.toList_toArray]⟩
  | _ => cases h
theorem keys_of_D : ∀ {l : List D}, l.all isKey = true → ∃ ks : List Key, ks.map kD = l
  | [], _ => ⟨[], rfl⟩
  | x :: xs, h => by
    rw [List.all_cons, Bool.and_eq_true] at h
    obtain ⟨k, rfl⟩ := key_of_D h.1
    obtain ⟨ks, rfl⟩ := keys_of_D h.2
    exact ⟨k :: ks, rfl⟩
variable {K : PySem.W.Frag} {S : Ad} {H : Hp}
theorem kV_of {k : Key} {v : V} (h : DR K S H v (kD k)) : v = kV k := by
  cases k with
  | inl i => cases h; rfl
  | inr x => 
    have h' : DR K S H v (.str x.cps.toList) := h
    cases h'
    show V.str ⟨x.cps.toList.toArray⟩ = V.str x
    cases x
    simp
theorem kVs_of : ∀ {ks : List Key} {vs : List V}, DRs K S H vs (ks.map kD) → vs = ks.map kV
  | [], _, h => by cases h; rfl
  | k :: ks, _, h => by
    rw [List.map_cons] at h
    cases h with
    | cons a b => rw [kV_of a, kVs_of b]; rfl
theorem drKey (k : Key) : DR K S H (kV k) (kD k) := by
  cases k with
  | inl i => exact .int i
  | inr x => 
    have : V.str x = V.str ⟨x.cps.toList.toArray⟩ := by cases x; simp
    show DR K S H (V.str x) (.str x.cps.toList)
    rw [this]
    exact .str _
theorem drKeys : ∀ (ks : List Key), DRs K S H (ks.map kV) (ks.map kD)
  | [] => .nil
  | k :: ks => .cons (drKey k) (drKeys ks)
/-- a look-up, by values and by data -/
def LkO (K : PySem.W.Frag) (S : Ad) (H : Hp) (o : Option V) : Option D → Prop
  | none => o = none
  | some d => ∃ v, o = some v ∧ DR K S H v d
theorem look_K : ∀ {kvs : List (Key × V)} {ds : List (D × D)} (k : Key), ds.map Prod.fst = kvs.map (fun p => kD p.1) → DRs K S H (kvs.map (·.2)) (ds.map Prod.snd) → LkO K S H (valV kvs k) (dGet ds (kD k))
  | [], [], _, _, _ => rfl
  | [], _ :: _, _, h, _ => by cases h
  | _ :: _, [], _, h, _ => by cases h
  | (k', v) :: kvs, (d', w) :: ds, k, h, r => by
    simp only [List.map_cons, List.cons.injEq] at h
    obtain ⟨h1, h2⟩ := h
    subst h1
    cases r with
    | cons a b =>
      unfold dGet
      rw [same_kD]
      by_cases e : k' = k
      · rw [valV_pos (p := (k', v)) e]
        simp only [e, decide_true, if_true]
        exact ⟨v, rfl, a⟩
      · rw [valV_neg (p := (k', v)) e]
        simp only [e, decide_false, Bool.false_eq_true, if_false]
        exact look_K k h2 b
theorem look_T : ∀ {kvs : List (List Key × V)} {ds : List (D × D)} (k : List Key), ds.map Prod.fst = kvs.map (fun p => .tup (p.1.map kD)) → DRs K S H (kvs.map (·.2)) (ds.map Prod.snd) → LkO K S H (valV kvs k) (dGet ds (.tup (k.map kD)))
  | [], [], _, _, _ => rfl
  | [], _ :: _, _, h, _ => by cases h
  | _ :: _, [], _, h, _ => by cases h
  | (k', v) :: kvs, (d', w) :: ds, k, h, r => by
    simp only [List.map_cons, List.cons.injEq] at h
    obtain ⟨h1, h2⟩ := h
    subst h1
    cases r with
    | cons a b =>
      unfold dGet
      rw [same_kDs]
      by_cases e : k' = k
      · rw [valV_pos (p := (k', v)) e]
        simp only [e, decide_true, if_true]
        exact ⟨v, rfl, a⟩
      · rw [valV_neg (p := (k', v)) e]
        simp only [e, decide_false, Bool.false_eq_true, if_false]
        exact look_T k h2 b
/-- a look-up in the heap -/
theorem dget_of {t : Bool} {l : List (D × D)} {dx : D} {x y : V} (ht : keyT t dx = true) (hx : DV true K S H x dx) (hy : DV true K S H y (.dic t l)) : ∃ (a : Addr), y = .ref a ∧ ∃ o, DGet H a x o ∧ LkO K S H o (dGet l dx) := by
  obtain ⟨a, u, vs, rfl, hr, hk, r⟩ := hy.dic
  refine ⟨a, rfl, ?_⟩
  cases t with
  | false =>
    obtain ⟨kvs, rfl, h1, rfl⟩ := hk
    have hi : isKey dx = true := by cases dx <;> first | rfl | (unfold keyT at ht; simp at ht)
    obtain ⟨k, rfl⟩ := key_of_D hi
    have hxv : x = kV k := by
      cases k with
      | inl i => exact hx.int
      | inr z =>
        have := DV.str (s := z.cps.toList) hx
        rw [this]
        show V.str ⟨z.cps.toList.toArray⟩ = V.str z
        cases z
        simp
    exact ⟨valV kvs k, .inl ⟨kvs, k, hr, hxv, rfl⟩, look_K k h1 r⟩
  | true =>
    obtain ⟨kvs, rfl, h1, rfl⟩ := hk
    cases dx with
    | tup ks =>
      have hi : ks.all isKey = true := by unfold keyT at ht; simpa using ht
      obtain ⟨k, rfl⟩ := keys_of_D hi
      obtain ⟨b, ws, rfl, hb, rb⟩ := hx.tup
      have := kVs_of rb
      subst this
      exact ⟨valV kvs k, .inr ⟨kvs, k, b, hr, rfl, hb, rfl⟩, look_T k h1 r⟩
    | int _ => unfold keyT at ht; simp at ht
    | str _ => unfold keyT at ht; simp at ht
    | _ => cases ht
/-! ### stores -/
theorem any_K : ∀ {kvs : List (Key × V)} {ds : List (D × D)} (k : Key), ds.map Prod.fst = kvs.map (fun p => kD p.1) → (kvs.any fun p => decide (p.1 = k)) = ds.any fun p => sameD p.1 (kD k)
  | [], [], _, _ => rfl
  | [], _ :: _, _, h => by cases h
  | _ :: _, [], _, h => by cases h
  | (k', v) :: kvs, (d', w) :: ds, k, h => by
    simp only [List.map_cons, List.cons.injEq] at h
    obtain ⟨h1, h2⟩ := h
    subst h1
    simp only [List.any_cons, same_kD]
    rw [any_K k h2]
theorem any_T : ∀ {kvs : List (List Key × V)} {ds : List (D × D)} (k : List Key), ds.map Prod.fst = kvs.map (fun p => .tup (p.1.map kD)) → (kvs.any fun p => decide (p.1 = k)) = ds.any fun p => sameD p.1 (.tup (k.map kD))
  | [], [], _, _ => rfl
  | [], _ :: _, _, h => by cases h
  | _ :: _, [], _, h => by cases h
  | (k', v) :: kvs, (d', w) :: ds, k, h => by
    simp only [List.map_cons, List.cons.injEq] at h
    obtain ⟨h1, h2⟩ := h
    subst h1
    simp only [List.any_cons, same_kDs]
    rw [any_T k h2]
theorem repl_K {v : V} {d : D} (q : DR K S H v d) : ∀ {kvs : List (Key × V)} {ds : List (D × D)} (k : Key), ds.map Prod.fst = kvs.map (fun p => kD p.1) → DRs K S H (kvs.map (·.2)) (ds.map Prod.snd) →
    (ds.map fun p => if sameD p.1 (kD k) then (p.1, d) else p).map Prod.fst = (kvs.map fun p => if p.1 = k then (p.1, v) else p).map (fun p => kD p.1) ∧ DRs K S H ((kvs.map fun p => if p.1 = k then (p.1, v) else p).map (·.2)) ((ds.map fun p => if sameD p.1 (kD k) then (p.1, d) else p).map Prod.snd)
  | [], [], _, _, r => ⟨rfl, r⟩
  | [], _ :: _, _, h, _ => by cases h
  | _ :: _, [], _, h, _ => by cases h
  | (k', v') :: kvs, (d', w) :: ds, k, h, r => by
    simp only [List.map_cons, List.cons.injEq] at h
    obtain ⟨h1, h2⟩ := h
    subst h1
    cases r with
    | cons a b =>
      obtain ⟨i1, i2⟩ := repl_K q k h2 b
      simp only [List.map_cons, same_kD]
      by_cases e : k' = k
      · simp only [e, decide_true, if_true]
        exact ⟨by rw [i1], .cons q i2⟩
      · simp only [e, decide_false, Bool.false_eq_true, if_false]
        exact ⟨by rw [i1], .cons a i2⟩
theorem repl_T {v : V} {d : D} (q : DR K S H v d) : ∀ {kvs : List (List Key × V)} {ds : List (D × D)} (k : List Key), ds.map Prod.fst = kvs.map (fun p => .tup (p.1.map kD)) → DRs K S H (kvs.map (·.2)) (ds.map Prod.snd) →
    (ds.map fun p => if sameD p.1 (.tup (k.map kD)) then (p.1, d) else p).map Prod.fst = (kvs.map fun p => if p.1 = k then (p.1, v) else p).map (fun p => .tup (p.1.map kD)) ∧ DRs K S H ((kvs.map fun p => if p.1 = k then (p.1, v) else p).map (·.2)) ((ds.map fun p => if sameD p.1 (.tup (k.map kD)) then (p.1, d) else p).map Prod.snd)
  | [], [], _, _, r => ⟨rfl, r⟩
  | [], _ :: _, _, h, _ => by cases h
  | _ :: _, [], _, h, _ => by cases h
  | (k', v') :: kvs, (d', w) :: ds, k, h, r => by
    simp only [List.map_cons, List.cons.injEq] at h
    obtain ⟨h1, h2⟩ := h
    subst h1
    cases r with
    | cons a b =>
      obtain ⟨i1, i2⟩ := repl_T q k h2 b
      simp only [List.map_cons, same_kDs]
      by_cases e : k' = k
      · simp only [e, decide_true, if_true]
        exact ⟨by rw [i1], .cons q i2⟩
      · simp only [e, decide_false, Bool.false_eq_true, if_false]
        exact ⟨by rw [i1], .cons a i2⟩
theorem put_K {v : V} {d : D} (q : DR K S H v d) {kvs : List (Key × V)} {ds : List (D × D)} (k : Key) (h : ds.map Prod.fst = kvs.map (fun p => kD p.1)) (r : DRs K S H (kvs.map (·.2)) (ds.map Prod.snd)) :
    (dPut ds (kD k) d).map Prod.fst = (putK kvs k v).map (fun p => kD p.1) ∧ DRs K S H ((putK kvs k v).map (·.2)) ((dPut ds (kD k) d).map Prod.snd) := by
  unfold dPut putK
  rw [← any_K k h]
  by_cases e : (kvs.any fun p => decide (p.1 = k)) = true
  · rw [if_pos e, if_pos e]
    exact repl_K q k h r
  · rw [if_neg e, if_neg e]
    refine ⟨by simp [h], ?_⟩
    rw [List.map_append, List.map_append]
    exact r.append (.cons q .nil)
theorem put_T {v : V} {d : D} (q : DR K S H v d) {kvs : List (List Key × V)} {ds : List (D × D)} (k : List Key) (h : ds.map Prod.fst = kvs.map (fun p => .tup (p.1.map kD))) (r : DRs K S H (kvs.map (·.2)) (ds.map Prod.snd)) :
    (dPut ds (.tup (k.map kD)) d).map Prod.fst = (putK kvs k v).map (fun p => .tup (p.1.map kD)) ∧ DRs K S H ((putK kvs k v).map (·.2)) ((dPut ds (.tup (k.map kD)) d).map Prod.snd) := by
  unfold dPut putK
  rw [← any_T k h]
  by_cases e : (kvs.any fun p => decide (p.1 = k)) = true
  · rw [if_pos e, if_pos e]
    exact repl_T q k h r
  · rw [if_neg e, if_neg e]
    refine ⟨by simp [h], ?_⟩
    rw [List.map_append, List.map_append]
    exact r.append (.cons q .nil)
/-- a store in the heap: the dict's new content -/
theorem dput_of {t : Bool} {l : List (D × D)} {dx dv : D} {x v : V} {a : Addr} {u : HO} {vs : List V} (ht : keyT t dx = true) (hx : DV true K S H x dx) (hv : DR K S H v dv) (hu : H a = some u) (hk : DK t u (l.map Prod.fst) vs) (r : DRs K S H vs (l.map Prod.snd)) (hl : l.length < sizeLine) :
    ∃ u' vs', DPut H a x v (upd H a u') ∧ DK t u' ((dPut l dx dv).map Prod.fst) vs' ∧ DRs K S H vs' ((dPut l dx dv).map Prod.snd) := by
  have len : vs.length = l.length := by rw [r.length, List.length_map]
  cases t with
  | false =>
    obtain ⟨kvs, rfl, h1, rfl⟩ := hk
    have hi : isKey dx = true := by cases dx <;> first | rfl | (unfold keyT at ht; simp at ht)
    obtain ⟨k, rfl⟩ := key_of_D hi
    have hxv : x = kV k := by
      cases k with
      | inl i => exact hx.int
      | inr z =>
        have := DV.str (s := z.cps.toList) hx
        rw [this]
        show V.str ⟨z.cps.toList.toArray⟩ = V.str z
        cases z
        simp
    subst hxv
    obtain ⟨p1, p2⟩ := put_K hv k h1 r
    exact ⟨.dK (putK kvs k v), _, .k hu (by rw [List.length_map] at len; omega), ⟨_, rfl, p1, rfl⟩, p2⟩
  | true =>
    obtain ⟨kvs, rfl, h1, rfl⟩ := hk
    cases dx with
    | tup ks =>
      have hi : ks.all isKey = true := by unfold keyT at ht; simpa using ht
      obtain ⟨k, rfl⟩ := keys_of_D hi
      obtain ⟨b, ws, rfl, hb, rb⟩ := hx.tup
      have := kVs_of rb
      subst this
      obtain ⟨p1, p2⟩ := put_T hv k h1 r
      exact ⟨.dT (putK kvs k v), _, .t hu hb (by rw [List.length_map] at len; omega), ⟨_, rfl, p1, rfl⟩, p2⟩
    | int _ => unfold keyT at ht; simp at ht
    | str _ => unfold keyT at ht; simp at ht
    | _ => cases ht
end Tl

/-! H04: sum and sorted of tuples, of the library's level. -/
namespace H4
open PySem PySem.W PySem.Calls PyProof.Rows
section
variable {prog : Program} {w : World} {A : Around} {E : Value → Shared → Prop} {s : Shared}
theorem collect_tuple {l : Addr} {vs : List Value} {Q : List Value → Shared → Prop} (hl : s.heap.IsTuple l vs.toArray)
    (h : Q vs { s with heap := (s.heap.push (seqObj "list" #[] 0)).update s.heap.objs.size (Obj.mapSeq (· ++ vs.toArray)) }) (hsz : vs.length ≤ sizeLine) :
    wpAny (model prog w) A (collect (.ref l)) Q E s := by
  obtain ⟨o, ho, hc, n, hd⟩ := id hl
  unfold collect
  refine wpAny_bind (wpAny_runValue (codeAny_builtin entry_proto_collect' ?_))
  show wpAny _ _ (do again (.builtin "list.__iadd__" ⟨[← newList [], .ref l], []⟩)) _ _ s
  refine wpAny_bind (wpAny_newList (wpAny_pure ⟨Code.quiet_builtin _ (by decide +kernel), codeAny_builtin entry_list_iadd' ?_⟩))
  show wpAny _ _ (Builtin.List.listExtendWith (.ref s.heap.objs.size) (.ref l) (.ref s.heap.objs.size)) _ _ { s with heap := s.heap.push (seqObj "list" #[] 0) }
  unfold Builtin.List.listExtendWith
  have ho' : (s.heap.push (seqObj "list" #[] 0)).get? l = some o := Heap.get?_push_of_some _ ho
  refine wpAny_bind (wpAny_typeOf (T := "tuple") ⟨o, ho', hc⟩ ?_)
  have ht : (Value.type "tuple" == Value.type "tuple") = true := by rfl
  rw [if_pos (by rw [ht]; simp)]
  refine wpAny_bind (listItems_at ho' hd ?_)
  refine wpAny_bind (listItems_at (xs := #[]) (n := 0) (Heap.get?_push_size _ rfl) rfl ?_)
  rw [if_neg (by simp)]
  refine wpAny_bind (listUpdate_at (xs := #[]) (n := 0) (Heap.get?_push_size _ rfl) rfl ?_ (Nat.zero_le _) (by show (#[] ++ vs.toArray).size ≤ sizeLine + 1; simp only [Array.size_append, List.size_toArray, List.length_nil]; omega))
  refine wpAny_pure ?_
  show wpAny (model prog w) A (do
      let o ← load s.heap.objs.size
      match o.data with
      | .seq xs _ => pure xs.toList
      | _ => unsupported "internal:collect") Q E { s with heap := (s.heap.push (seqObj "list" #[] 0)).update s.heap.objs.size (Obj.mapSeq (· ++ vs.toArray)) }
  refine wpAny_bind (wpAny_load (get?_update_seq (Heap.get?_push_size _ rfl) _) ?_)
  show wpAny _ _ (pure ((#[] : Array Value) ++ vs.toArray).toList) Q E _
  rw [show ((#[] : Array Value) ++ vs.toArray).toList = vs by simp]
  exact wpAny_pure h
theorem sorted_of_sortT {l : Addr} {vs : List Value} {kw : List (Str × Value)} {Q : Value → Shared → Prop} (hl : s.heap.IsTuple l vs.toArray) (hL : vs.length ≤ sizeLine) (ha1 : argsOk "sorted" ⟨[.ref l], kw⟩) (ha2 : ∀ x, argsOk "list.sort" ⟨[.ref x], kw⟩)
    (body : ∀ E' : Value → Shared → Prop, wpAny (model prog w) A.in1.in1 (Builtin.«list.sort» ⟨[.ref (s.heap.objs.size + 1)], kw⟩) (fun f s' => f = .done (.ret .none) ∧ Q (.ref (s.heap.objs.size + 1)) s') E' { s with heap := copyHeap s.heap vs }) :
    wpAny (model prog w) A (call (.builtin "sorted") [.ref l] kw) Q E s := by
  refine call_function_entry_kw kind_sorted plain_sorted entry_sorted ha1 ?_
  unfold Builtin.«sorted»
  refine wpAny_bind (m := checkCount "sorted" 1 1 _) (wpAny_pure ?_)
  refine wpAny_bind (collect_tuple hl ?_ hL)
  refine wpAny_bind (wpAny_newList ?_ hL)
  have hsz : ((s.heap.push (seqObj "list" #[] 0)).update s.heap.objs.size (Obj.mapSeq (· ++ vs.toArray))).objs.size = s.heap.objs.size + 1 := by
    rw [Heap.size_update, size_push']
  show wpAny _ _ _ _ _ { s with heap := copyHeap s.heap vs }
  rw [hsz]
  refine wpAny_bind (wpAny_holding (wpAny_call_entry_kw slot_list_sort ⟨_, copyHeap_at s.heap vs, rfl⟩ entry_list_sort ?body (ha2 _)))
  case body =>
    show wpAny (model prog w) A.in1.in1 (Builtin.«list.sort» ⟨[.ref (s.heap.objs.size + 1)], kw⟩) _ _ _
    refine wpAny_mono (body _) (fun f s' hf => ?_) fun _ _ e => e
    obtain ⟨rfl, hq⟩ := hf
    exact ⟨_, rfl, wpAny_pure ⟨_, rfl, hq⟩⟩
theorem sorted_dataT {β : Type} {R : Value → β → Prop} {bs : List β} {vs : List Value} {enc : β → PyData} {l : Addr} {Q : Value → Shared → Prop} (hl : s.heap.IsTuple l vs.toArray) (e : EachIs R vs bs) (er : EachIs (fun v b => ∃ as, Reads s.heap v (enc b) as) vs bs) (hal : AllAlike (bs.map enc)) (hk : Sortable (bs.map enc)) (hL : bs.length ≤ sizeLine)
    (hu : ∀ b, b ∈ bs → A.units + 2 + (enc b).depth < cLine) (h : ∀ out, out.length = bs.length → EachIs R out (bs.mergeSort (dataLe false enc)) → Q (.ref (s.heap.objs.size + 1)) { s with heap := sortedAll s.heap vs (List.toArray out) }) :
    wpAny (model prog w) A (call (.builtin "sorted") [.ref l]) Q E s := by
  have er' : EachIs (fun v b => ∃ as, Reads (sortingHeap (copyHeap s.heap vs) (s.heap.objs.size + 1) vs) v (enc b) as) vs bs := er.mono fun _ _ ⟨as, r⟩ => ⟨as, PyProof.Rows.Reads.keeps (fun _ _ => sorting_copy_old) r⟩
  have S := SortsAt.data (prog := prog) (w := w) (A := A.in1.in1) (s := { s with heap := sortingHeap (copyHeap s.heap vs) (s.heap.objs.size + 1) vs }) (each_map (R := fun v d => ∃ as, Reads (sortingHeap (copyHeap s.heap vs) (s.heap.objs.size + 1) vs) v d as) enc er') hal hk (bound_map hu)
  have hL2 : vs.length ≤ sizeLine := by rw [e.length]; exact hL
  exact sorted_of_sortT hl hL2 (args_sorted1 _) (fun _ => args_list_sort _) fun _ => list_sort_vals (s := { s with heap := copyHeap s.heap vs }) (copyHeap_at s.heap vs) S hL2 ⟨rfl, h _ (by rw [sortVals_length false rfl]; exact e.length) (sortVals_data false e er' hal)⟩
/-- sum of a tuple of ints -/
theorem sum_rawT {l : Addr} {its : List Value} {ns : List Int} {Q : Value → Shared → Prop} (hh : A.handled = none) (hl : s.heap.IsTuple l its.toArray) (hi : IntsAre its ns)
    (h : ∀ h' tk t', (∀ b o, s.heap.get? b = some o → h'.get? b = some o) → Q (.int ns.sum t') { s with heap := h', toks := tk }) : wpAny (model prog w) A (call (.builtin "sum") [.ref l]) Q E s := by
  obtain ⟨xs, e⟩ := hi.allInts.items
  have hn : numsOf (intItems xs).toList = ns := by rw [← e]; exact hi.numsOf
  rw [nums_intItems] at hn
  rw [e] at hl
  have hlt : l < s.heap.objs.size := by obtain ⟨_, e, _⟩ := hl; exact Heap.lt_size e
  refine call_sum_walkG (wpAny_pyIter_tuple hl ⟨_, _, _, _, _, _, numAt xs, rfl, Walks.tuple (A := A.in1) hh _ l (Nat.ne_of_lt hlt) (intItems xs), ⟨⟨_, Heap.get?_push_size _ rfl, rfl, rfl⟩, hl.push _⟩, fun b hb => ?_, (fun _ _ => intItems_at), fun h' tk t' hk => ?_⟩)
  · show b < (s.heap.push _).objs.size
    rw [Heap.size_push]
    simp only [List.mem_cons, List.not_mem_nil, or_false] at hb
    rcases hb with rfl | rfl
    · exact Nat.lt_succ_self _
    · exact Nat.lt_succ_of_lt hlt
  · have hk2 : ∀ b o, s.heap.get? b = some o → h'.get? b = some o := fun b o q => by
      refine hk b o ?_ (Heap.get?_push_of_some _ q)
      simp only [List.mem_singleton]
      exact Nat.ne_of_lt (Heap.lt_size q)
    have := h h' tk t' hk2
    rw [← hn] at this
    have e2 : preSum (numAt xs) xs.size = (xs.toList.map (·.1)).sum := by rw [preSum_eq, List.take_of_length_le (by simp)]
    rw [← e2] at this
    simpa [intItems] using this
end
end H4

/-! G13: sorted(xs) where the items are tuples, () among them. -/
namespace SrtE
open PySem PySem.W PySem.Calls PyProof.Rows PySem.SeqAt
def Sortable2 (ds : List PyData) : Prop := Sortable ds ∨ ∀ d, d ∈ ds → ∃ xs, d = .tuple xs
def TupAt (h : Heap) (v : Value) (f : Option Value) : Prop := ∃ a o xs n, v = .ref a ∧ h.get? a = some o ∧ o.cls = .type "tuple" ∧ o.data = .seq xs n ∧ xs[0]? = f
section
variable {prog : Program} {w : World} {A : Around} {E : Value → Shared → Prop} {s : Shared}
theorem oneLt_tuple {xs ys : List PyData} {a b : Value} {as bs : List Addr} {Q : Bool → Shared → Prop} (ra : Reads s.heap a (.tuple xs) as) (rb : Reads s.heap b (.tuple ys) bs) (h : alike (.tuple xs) (.tuple ys) = true)
    (hu : A.units + min (PyData.tuple xs).depth (PyData.tuple ys).depth < cLine) (hq : Q (dataLt (.tuple xs) (.tuple ys)) s) : wpAny (model prog w) A (oneLt' true a b) Q E s := by
  have hal : alikeAll xs ys = true := by simpa [alike] using h
  cases ra with
  | @tuple l o vs n _ as₁ h1 h2 h3 h4 =>
    cases rb with
    | @tuple l' o' vs' n' _ bs₁ k1 k2 k3 k4 =>
      have n1 : vs.size = xs.length := by simpa using ReadsAll.length _ _ _ h4
      have n2 : vs'.size = ys.length := by simpa using ReadsAll.length _ _ _ k4
      rw [dataLt_tuple, ← firstLt_toks xs ys hal, ← n1, ← n2] at hq
      rw [oneLt'_eq]
      simp only [if_true]
      refine wpAny_bind (wpAny_cRoomFor (room_here hu) ?_)
      obtain ⟨cls, dd, data, sl⟩ := o
      obtain ⟨cls2, dd2, data2, sl2⟩ := o'
      simp only at h2 h3 k2 k3
      subst h2 h3 k2 k3
      refine wpAny_bind (wpAny_callSpecialIfBound?_slot (T := "tuple") ⟨_, h1, rfl⟩ F.slot_tuple_lt (call_meets F.slot_tuple_lt ⟨_, h1, rfl⟩ F.entry_tuple_lt (F.args_tuple_lt_2 _ _)
        (tuple_ltAt l l' vs vs' n n' dd dd2 sl sl2 (pairEq xs ys) fun j => dataLt (xs.getD j .none) (ys.getD j .none)) ⟨h1, k1, fun j j1 j2 => ?_, fun j j1 j2 hj => ?_, ?_⟩))
      · have := eqAt_alikeAll xs ys A.in1 s vs.toList vs'.toList _ _ h4 k4 hal (room_in hu) j (by simpa using j1) (by simpa using j2)
        simpa using this
      · have := rcLt_alikeAll xs ys A.in1 s vs.toList vs'.toList _ _ h4 k4 hal (room_in hu) j (by simpa using j1) (by simpa using j2) hj
        simpa using this
      · exact wpAny_truthy_bool hq
theorem firsts {M : Model} : ∀ (vs : List Value) (fs : List (Option Value)) {Q : List (Option Value) → Shared → Prop}, EachIs (TupAt s.heap) vs fs → Q fs s → wpAny M A (vs.mapM firstOfTuple') Q E s
  | _, _, _, .nil, h => by rw [List.mapM_nil]; exact wpAny_pure h
  | _, _, Q, .cons (a := v) (as := vs) (b := f) (bs := fs) t r, h => by
    obtain ⟨a, o, xs, n, rfl, ho, hc, hd, hf⟩ := t
    rw [List.mapM_cons]
    refine wpAny_bind ?_
    rw [kas_first_eq]
    refine wpAny_bind (Looks.here (show Looks M s.heap (typeOf (.ref a)) o.cls from (Looks.ld ho).andThen .now) ?_)
    rw [hc, if_neg (by first | decide | simp)]
    refine wpAny_bind (listItems_at ho hd (wpAny_pure ?_))
    rw [hf]
    exact wpAny_bind (firsts vs fs (Q := fun bs s' => wpAny M A (pure (f :: bs)) Q E s') r (wpAny_pure h))
theorem kindE {M : Model} {vs : List Value} {fs : List (Option Value)} {Q : SortKind → Shared → Prop} (h2 : 2 ≤ vs.length) (t : EachIs (TupAt s.heap) vs (none :: fs)) (h : Q oneType' s) : wpAny M A (keyKind' vs.toArray) Q E s := by
  have hT : ∀ v ∈ vs, Looks M s.heap (typeOf v) (Value.type "tuple") := fun v hv => by
    obtain ⟨f, _, a, o, xs, n, rfl, ho, hc, hd, hf⟩ := t.left v hv
    exact hc ▸ (Looks.ld ho).andThen .now
  rw [keyKind'_eq, List.mapM_toArray, map_eq_pure_bind]
  refine wpAny_bind (wpAny_bind (firsts vs _ t (wpAny_pure ?_)))
  rw [if_neg (by simp), if_neg (by simp)]
  rw [oneTypeOnly'_eq, List.mapM_toArray, map_eq_pure_bind]
  refine wpAny_bind (wpAny_bind (wpAny_bind (kas_mapM (r := Value.type "tuple") _ (fun v hv Q' hq => (hT v hv).here hq) (wpAny_pure ?_))))
  have hall : ((List.map (fun _ => Value.type "tuple") vs).toArray.all fun x => x == Value.type "tuple") = true := by
    simp only [List.all_toArray, List.all_map, List.all_eq_true]
    intro _ _
    rfl
  have h0 : (List.map (fun _ => Value.type "tuple") vs).toArray[0]? = some (Value.type "tuple") := by
    match vs, h2 with
    | v :: r, _ => simp
  rw [h0]
  simp only [hall, if_true]
  exact wpAny_pure (wpAny_pure h)
theorem kindG {M : Model} {vs : List Value} {f : Value} {fs : List (Option Value)} {Q : SortKind → Shared → Prop} (hn : none ∈ fs) (t : EachIs (TupAt s.heap) vs (some f :: fs)) (h : Q general' s) : wpAny M A (keyKind' vs.toArray) Q E s := by
  rw [keyKind'_eq, List.mapM_toArray, map_eq_pure_bind]
  refine wpAny_bind (wpAny_bind (firsts vs _ t (wpAny_pure ?_)))
  have hall : ((some f :: fs).toArray.all fun x => x.isSome) = false := by
    rw [List.all_toArray, List.all_eq_false]
    exact ⟨none, List.mem_cons_of_mem _ hn, by simp⟩
  rw [if_neg (by rw [hall]; exact Bool.false_ne_true), if_pos (by simp)]
  exact wpAny_pure h
theorem keyLt_gen (x y : Value) : keyLt' general' x y = oneLt' false x y := rfl
theorem each_tup {h : Heap} : ∀ {vs : List Value} {ds : List PyData}, EachIs (fun v d => ∃ as, Reads h v d as) vs ds → (∀ d, d ∈ ds → ∃ xs, d = .tuple xs) → ∃ fs, EachIs (TupAt h) vs fs ∧ (.tuple [] ∈ ds → none ∈ fs) ∧ (∀ r, ds = .tuple [] :: r → ∃ gs, fs = none :: gs) ∧ ∀ x xs r, ds = .tuple (x :: xs) :: r → ∃ f gs, fs = some f :: gs ∧ (.tuple [] ∈ r → none ∈ gs)
  | _, _, .nil, _ => ⟨[], .nil, (fun h => by simp at h), (fun r hr => nomatch hr), fun x xs r hr => nomatch hr⟩
  | _, _, .cons (b := d) (bs := ds) ⟨as, r⟩ t, ht => by
    obtain ⟨gs, h1, h2, _, _⟩ := each_tup t fun d hd => ht d (List.mem_cons_of_mem _ hd)
    obtain ⟨xs, rfl⟩ := ht d (List.mem_cons_self ..)
    cases r with
    | @tuple a o vs n _ _ ho hc hd hr =>
      generalize q : vs.toList = ws at hr
      refine ⟨vs[0]? :: gs, .cons ⟨a, o, vs, n, rfl, ho, hc, hd, rfl⟩ h1, fun hm => ?_, fun r hr2 => ?_, fun x xs' r hr2 => ?_⟩
      · rcases List.mem_cons.mp hm with hm | hm
        · injection hm with hm
          subst hm
          cases hr
          rw [← Array.getElem?_toList, q]; simp
        · exact List.mem_cons_of_mem _ (h2 hm)
      · cases hr2
        cases hr
        exact ⟨gs, by rw [← Array.getElem?_toList, q]; rfl⟩
      · cases hr2
        cases hr with
        | @cons v d vs' ds' as' bs' r1 r2 =>
          exact ⟨v, gs, by rw [← Array.getElem?_toList, q]; rfl, h2⟩
theorem data2 {vs : List Value} {ds : List PyData} (e : EachIs (fun v d => ∃ as, Reads s.heap v d as) vs ds) (hal : AllAlike ds) (hk : Sortable2 ds) (hu : ∀ d, d ∈ ds → A.units + d.depth < cLine) : SortsAt prog w A s (dataKind s.heap ds) vs := by
  rcases hk with hk | ht
  · exact SortsAt.data e hal hk hu
  · have room : ∀ {d d' : PyData}, d ∈ ds → A.units + min d.depth d'.depth < cLine := fun {d d'} hd => Nat.lt_of_le_of_lt (Nat.add_le_add_left (Nat.min_le_left _ _) _) (hu d hd)
    by_cases hne : .tuple [] ∈ ds
    · have keys : ∀ v, v ∈ vs → ∃ a, (dataKind s.heap ds).keyOf v = some a := fun v hv => by
        obtain ⟨d, hd, as, r⟩ := e.left v hv
        exact ⟨_, dataKind_some hal hd r⟩
      obtain ⟨fs, t, hm, hf, hg⟩ := each_tup e ht
      match ds, hne with
      | d0 :: r0, hne =>
        obtain ⟨x0, hx0⟩ := ht d0 (List.mem_cons_self ..)
        cases x0 with
        | nil =>
          subst hx0
          refine ⟨keys, oneType', ?_, fun h2 E Q hq => ?_⟩
          · intro E x y a b Q ha hb hq
            obtain ⟨d, as, hd, ra, rfl⟩ := dataKind_inv ha
            obtain ⟨d', as', hd', rb, rfl⟩ := dataKind_inv hb
            have hdd := hal d hd d' hd'
            have hroom := room (d' := d') hd
            obtain ⟨xs, rfl⟩ := ht d hd
            obtain ⟨ys, rfl⟩ := ht d' hd'
            rw [keyLt'_oneType]
            exact oneLt_tuple ra rb hdd hroom hq
          · obtain ⟨gs, rfl⟩ := hf r0 rfl
            exact kindE h2 t hq
        | cons x1 x2 =>
          subst hx0
          refine ⟨keys, general', ?_, fun h2 E Q hq => ?_⟩
          · intro E x y a b Q ha hb hq
            obtain ⟨d, as, hd, ra, rfl⟩ := dataKind_inv ha
            obtain ⟨d', as', hd', rb, rfl⟩ := dataKind_inv hb
            rw [keyLt_gen]
            obtain ⟨xs, hxs⟩ := ht d hd
            exact oneLt_alike (f := false) (fun h => nomatch h) ra rb (hal d hd d' hd') (by rw [hxs]; exact fun h => nomatch h) (room hd) hq
          · obtain ⟨f, gs, rfl, hgs⟩ := hg x1 x2 r0 rfl
            refine kindG (hgs ?_) t hq
            rcases List.mem_cons.mp hne with h | h
            · injection h with h; cases h
            · exact h
    · exact SortsAt.data e hal (.inl fun d hd => by
        obtain ⟨xs, rfl⟩ := ht d hd
        cases xs with
        | nil => exact absurd hd hne
        | cons x r => exact ⟨x, r, rfl⟩) hu
section
variable {β : Type} {vs : List Value} {bs : List β} {enc : β → PyData} {R : Value → β → Prop}
theorem sorted_data2 {l : Addr} {Q : Value → Shared → Prop} (hl : s.heap.IsList l vs.toArray) (e : EachIs R vs bs) (er : EachIs (fun v b => ∃ as, Reads s.heap v (enc b) as) vs bs) (hal : AllAlike (bs.map enc)) (hk : Sortable2 (bs.map enc)) (hL : bs.length ≤ sizeLine)
    (hu : ∀ b, b ∈ bs → A.units + 2 + (enc b).depth < cLine) (h : ∀ out, out.length = bs.length → EachIs R out (bs.mergeSort (dataLe false enc)) → Q (.ref (s.heap.objs.size + 1)) { s with heap := sortedAll s.heap vs (List.toArray out) }) :
    wpAny (model prog w) A (call (.builtin "sorted") [.ref l]) Q E s := by
  have er' : EachIs (fun v b => ∃ as, Reads (sortingHeap (copyHeap s.heap vs) (s.heap.objs.size + 1) vs) v (enc b) as) vs bs := er.mono fun _ _ ⟨as, r⟩ => ⟨as, PyProof.Rows.Reads.keeps (fun _ _ => sorting_copy_old) r⟩
  exact sorted_vals hl (data2 (s := { s with heap := sortingHeap (copyHeap s.heap vs) (s.heap.objs.size + 1) vs }) (each_map (R := fun v d => ∃ as, Reads (sortingHeap (copyHeap s.heap vs) (s.heap.objs.size + 1) vs) v d as) enc er') hal hk (bound_map hu)) (by rw [e.length]; exact hL)
    (h _ (by rw [sortVals_length false rfl]; exact e.length) (sortVals_data false e er' hal))
theorem sorted_dataT2 {l : Addr} {Q : Value → Shared → Prop} (hl : s.heap.IsTuple l vs.toArray) (e : EachIs R vs bs) (er : EachIs (fun v b => ∃ as, Reads s.heap v (enc b) as) vs bs) (hal : AllAlike (bs.map enc)) (hk : Sortable2 (bs.map enc)) (hL : bs.length ≤ sizeLine)
    (hu : ∀ b, b ∈ bs → A.units + 2 + (enc b).depth < cLine) (h : ∀ out, out.length = bs.length → EachIs R out (bs.mergeSort (dataLe false enc)) → Q (.ref (s.heap.objs.size + 1)) { s with heap := sortedAll s.heap vs (List.toArray out) }) :
    wpAny (model prog w) A (call (.builtin "sorted") [.ref l]) Q E s := by
  have er' : EachIs (fun v b => ∃ as, Reads (sortingHeap (copyHeap s.heap vs) (s.heap.objs.size + 1) vs) v (enc b) as) vs bs := er.mono fun _ _ ⟨as, r⟩ => ⟨as, PyProof.Rows.Reads.keeps (fun _ _ => sorting_copy_old) r⟩
  have S := data2 (prog := prog) (w := w) (A := A.in1.in1) (s := { s with heap := sortingHeap (copyHeap s.heap vs) (s.heap.objs.size + 1) vs }) (each_map (R := fun v d => ∃ as, Reads (sortingHeap (copyHeap s.heap vs) (s.heap.objs.size + 1) vs) v d as) enc er') hal hk (bound_map hu)
  have hL2 : vs.length ≤ sizeLine := by rw [e.length]; exact hL
  exact H4.sorted_of_sortT hl hL2 (args_sorted1 _) (fun _ => args_list_sort _) fun _ => list_sort_vals (s := { s with heap := copyHeap s.heap vs }) (copyHeap_at s.heap vs) S hL2 ⟨rfl, h _ (by rw [sortVals_length false rfl]; exact e.length) (sortVals_data false e er' hal)⟩
end
end
end SrtE

/-! H05: tuple * int, the int 1 or less. -/
namespace L2
open PySem PySem.Spec PyProof.Rows
theorem tuple_mul0 (l : Addr) (items : Array Value) (n : Nat) (dd : Option Addr) (sl : Array (Option Value)) (x : Int) (u : Tok) (c0 : (decide (x < -(2 ^ 63)) || decide (x ≥ 2 ^ 63)) = false) (c1 : (items.isEmpty || x == 1) = false) (c2 : (decide (x ≤ 0) || items.isEmpty) = true) :
    Meets (Builtin.«tuple.__mul__» ⟨[.ref l, .int x u], []⟩) (fun _ R s => s.heap.get? l = some { cls := .type "tuple", dict := dd, data := .seq items n, slots := sl } ∧
      R (.ok (.ret (Value.ref s.heap.objs.size))) { s with heap := s.heap.push { cls := Value.type "tuple", data := Data.seq #[] }, toks := s.toks }) :=
  .of_wp fun prog w A R s h => by
    obtain ⟨hp, g, d, tk, os⟩ := s
    obtain ⟨hl, h⟩ := h
    have f1 := AutoSeq1.idx_int
    wp_walk using wpAny_loadPart' hl
    repeat (first
      | (refine wpAny_ite_false (decide_eq_false (by rw [c0]; exact Bool.false_ne_true)) ?_; wp_walk using wpAny_loadPart' hl)
      | (refine wpAny_ite_false (decide_eq_false (by rw [c1]; exact Bool.false_ne_true)) ?_; wp_walk using wpAny_loadPart' hl)
      | (refine wpAny_ite_true (decide_eq_true (by rw [c2])) ?_; wp_walk using wpAny_loadPart' hl))
    all_goals first | exact ⟨_, rfl, h⟩ | skip
theorem tuple_mul1 (l : Addr) (items : Array Value) (n : Nat) (dd : Option Addr) (sl : Array (Option Value)) (x : Int) (u : Tok) (c0 : (decide (x < -(2 ^ 63)) || decide (x ≥ 2 ^ 63)) = false) (c1 : (items.isEmpty || x == 1) = true) :
    Meets (Builtin.«tuple.__mul__» ⟨[.ref l, .int x u], []⟩) (fun _ R s => s.heap.get? l = some { cls := .type "tuple", dict := dd, data := .seq items n, slots := sl } ∧
      R (.ok (.ret (Value.ref l))) s) :=
  .of_wp fun prog w A R s h => by
    obtain ⟨hp, g, d, tk, os⟩ := s
    obtain ⟨hl, h⟩ := h
    have f1 := AutoSeq1.idx_int
    wp_walk using wpAny_loadPart' hl
    repeat (first
      | (refine wpAny_ite_false (decide_eq_false (by rw [c0]; exact Bool.false_ne_true)) ?_; wp_walk using wpAny_loadPart' hl)
      | (refine wpAny_ite_true (decide_eq_true (by rw [c1])) ?_; wp_walk using wpAny_loadPart' hl))
    all_goals first | exact ⟨_, rfl, h⟩ | skip
section
variable {X : Cx}
/-- t * k, k from 0 -/
def rRepA (K : PySem.W.Frag) : R2 := fun x y H Q => ∃ l k xs, x = .ref l ∧ y = .int k ∧ SqT K H l xs ∧ 0 ≤ k ∧ k ≤ 1000 ∧ xs.length ≤ 1000 ∧ (xs = [] ∨ k = 1 → Q (.ref l) H) ∧ (¬ (xs = [] ∨ k = 1) → ∀ p, H p = none → Q (.ref p) (upd H p (.tup (List.replicate k.toNat xs).flatten)))
theorem op_repA : OpR X (binaryOp .Mult) (rRepA X.K) := by
  intro pins s σ H x y v u Q I rx ry h
  obtain ⟨l, k, xs, rfl, rfl, hT, h1, h2, hz, qa, qb⟩ := h
  by_cases big : xs ≠ [] ∧ 2 ≤ k
  · exact op_repT pins s σ H _ _ v u Q I rx ry ⟨l, k, xs, rfl, rfl, hT, big.1, big.2, h2, hz, qb (fun z => by rcases z with z | z; exact big.1 z; omega)⟩
  cases rx
  obtain ⟨t, rfl⟩ := ry
  obtain ⟨its, r, ⟨⟨cls, dd, data, sl⟩, ho, hc, n, hd⟩, hs⟩ := I.tuple hT
  simp only at hc hd
  subst hc hd
  have hle : its.length = xs.length := r.length.symm
  have hie : its.toArray.isEmpty = decide (xs = []) := by
    cases its with
    | nil => cases xs with
      | nil => rfl
      | cons _ _ => simp at hle
    | cons a b => cases xs with
      | nil => simp at hle
      | cons _ _ => simp
  have c0 : (decide (k < -(2 ^ 63)) || decide (k ≥ 2 ^ 63)) = false := by
    rw [decide_eq_false (by omega), decide_eq_false (by omega)] <;> rfl
  have gen : ∀ P : PySem.Fin → Shared → Prop, wpAny (model X.prog X.w) X.A.in1 (Builtin.«tuple.__mul__» ⟨[.ref l, .int k t], []⟩) P X.xe s → True := fun _ _ => trivial
  by_cases c : xs = [] ∨ k = 1
  · have c1 : (its.toArray.isEmpty || k == 1) = true := by
      rw [hie, Bool.or_eq_true, decide_eq_true_iff, beq_iff_eq]; exact c
    refine wpAny_binaryOp_repeat_ref (T := "tuple") (U := "int") (by decide) ⟨_, ho, rfl⟩ (fun s' => typeIs_int s' k t) noFill_tuple_mul F.fills_int_mul F.slot_int_rmul repeat_tuple F.slot_int_index.lookup
      (call_meets F.slot_int_rmul (typeIs_int s k t) F.entry_int_rmul (F.args_int_rmul_2 _ _) (int_rmul_tuple k t l its.toArray n dd sl)
        ⟨ho, rfl, ⟨_, ho, rfl⟩, call_meets F.slot_tuple_mul ⟨_, ho, rfl⟩ F.entry_tuple_mul (F.args_tuple_mul_2 _ _) (tuple_mul1 l its.toArray n dd sl k t c0 c1) ⟨ho, ?_⟩⟩)
    exact ⟨.ref l, H, I, rfl, qa c⟩
  · have hk : k = 0 := by
      have : xs ≠ [] := fun z => c (.inl z)
      have : ¬ 2 ≤ k := fun z => big ⟨this, z⟩
      have : k ≠ 1 := fun z => c (.inr z)
      omega
    subst hk
    have hne : xs ≠ [] := fun z => c (.inl z)
    have c1 : (its.toArray.isEmpty || (0 : Int) == 1) = false := by rw [hie, decide_eq_false hne]; rfl
    have c2 : (decide ((0 : Int) ≤ 0) || its.toArray.isEmpty) = true := rfl
    refine wpAny_binaryOp_repeat_ref (T := "tuple") (U := "int") (by decide) ⟨_, ho, rfl⟩ (fun s' => typeIs_int s' 0 t) noFill_tuple_mul F.fills_int_mul F.slot_int_rmul repeat_tuple F.slot_int_index.lookup
      (call_meets F.slot_int_rmul (typeIs_int s 0 t) F.entry_int_rmul (F.args_int_rmul_2 _ _) (int_rmul_tuple 0 t l its.toArray n dd sl)
        ⟨ho, rfl, ⟨_, ho, rfl⟩, call_meets F.slot_tuple_mul ⟨_, ho, rfl⟩ F.entry_tuple_mul (F.args_tuple_mul_2 _ _) (tuple_mul0 l its.toArray n dd sl 0 t c0 c1 c2) ⟨ho, ?_⟩⟩)
    have q := qb c s.heap.objs.size (I.hok.fresh (Nat.le_refl _))
    refine ⟨.ref s.heap.objs.size, _, I.laid (t' := s.toks) (o := .tup []) (fun b ob q => Heap.get?_push_of_some _ q) (Nat.le_refl _) ?_, rfl, q⟩
    exact ⟨Nat.zero_le _, [], .nil, IsTup.new _ _⟩
end
end L2

/-! G08: text * int. -/
namespace L2
open PySem PySem.Spec PyProof.Rows
def rRepS : R2 := fun x y H Q => ∃ (s : List Nat) (k : Int), x = .str ⟨s.toArray⟩ ∧ y = .int k ∧ -(2 ^ 63) ≤ k ∧ k < 2 ^ 63 ∧ s.length * k.toNat ≤ sizeLine ∧ Q (.str ⟨(List.replicate k.toNat s).flatten.toArray⟩) H
section
variable {X : Cx}
theorem fold_str (s : List Nat) : ∀ (m : Nat) (acc : List Nat), (List.replicate m s.toArray).foldl (· ++ ·) acc.toArray = (acc ++ (List.replicate m s).flatten).toArray
  | 0, acc => by simp
  | m + 1, acc => by
    rw [List.replicate_succ, List.foldl_cons, List.append_toArray, fold_str s m (acc ++ s), List.replicate_succ, List.flatten_cons, List.append_assoc]
theorem op_repS : OpR X (binaryOp .Mult) rRepS := by
  intro pins st σ H x y v u Q I rx ry h
  obtain ⟨s, k, rfl, rfl, h1, h2, hz, q⟩ := h
  obtain ⟨t, rfl⟩ := rx
  obtain ⟨t', rfl⟩ := ry
  have hlen : (⟨s.toArray⟩ : Str).length = s.length := by unfold Str.length; simp
  have hcap : (sizeLine : Nat) ≤ 1000000000000 := by decide
  refine P.mul_str ?_ (fun hk hc => ?_) (fun hk hc => ?_) ?_
  · rw [decide_eq_false (by omega), decide_eq_false (by omega)]
    rfl
  · rw [hlen]
    intro hgt
    have hk2 : 0 < k := by omega
    have : ((s.length : Nat) : Int) * k ≤ 1000000000000 := by
      have e : ((s.length : Nat) : Int) * k = ((s.length * k.toNat : Nat) : Int) := by
        rw [Int.natCast_mul, Int.toNat_of_nonneg (by omega)]
      rw [e]
      omega
    have h3 := Int.le_ediv_of_mul_le hk2 (show ((s.length : Nat) : Int) * k ≤ 2 ^ 63 - 1 by omega)
    omega
  · rw [hlen]
    unfold Builtin.Str.tooLong
    exact decide_eq_false (by omega)
  · by_cases hk : k < 1
    · rw [if_pos hk]
      have e : k.toNat = 0 := by omega
      rw [e] at q
      exact ⟨by decide, .str Str.empty, H, I.tok _, ⟨_, rfl⟩, q⟩
    · rw [if_neg hk]
      by_cases hc : (k == 1 || (⟨s.toArray⟩ : Str).length == 0) = true
      · rw [if_pos hc]
        have e : (List.replicate k.toNat s).flatten = s := by
          rw [Bool.or_eq_true, beq_iff_eq, beq_iff_eq, hlen] at hc
          rcases hc with rfl | hc
          · simp
          · have : s = [] := List.eq_nil_of_length_eq_zero hc
            subst this
            simp
        rw [e] at q
        exact ⟨.str ⟨s.toArray⟩, H, I, ⟨_, rfl⟩, q⟩
      · rw [if_neg hc]
        have e : (List.replicate k.toNat s.toArray).foldl (· ++ ·) #[] = (List.replicate k.toNat s).flatten.toArray := by
          have := fold_str s k.toNat []
          rw [List.nil_append] at this
          exact this
        rw [e]
        refine ⟨?_, .str ⟨(List.replicate k.toNat s).flatten.toArray⟩, H, I.tok _, ⟨_, rfl⟩, q⟩
        unfold Str.length
        rw [List.size_toArray, PyProof.Rows.lm_len_rep_flat, Nat.mul_comm]
        exact hz
end
end L2

/-! T03: operators and comparisons over plain data. -/
namespace Tl
open PySem L2

theorem rvOf {a b : Str} (h : a = b) : V.str a = V.str b := congrArg V.str h
theorem strAp (x y : List Nat) : ((⟨x.toArray⟩ : Str) ++ ⟨y.toArray⟩) = ⟨(x ++ y).toArray⟩ := by
  show Str.append _ _ = _
  unfold Str.append
  simp
theorem strLen (x : List Nat) : Str.length ⟨x.toArray⟩ = x.length := by
  unfold Str.length
  simp
section
variable {X : Cx}
theorem DRs.nil_iff {K : PySem.W.Frag} {S : Ad} {H : Hp} {vs : List V} {ds : List D} (h : DRs K S H vs ds) : vs = [] ↔ ds = [] := by
  cases h with
  | nil => simp
  | cons _ _ => simp
theorem op_bin (hc : X.calm = true) (op : Operator) : OpR X (binaryOp op) (r2 X.K (binD op)) := by
  intro pins s σ H x y v u Q I rx ry h
  obtain ⟨S, dx, dy, d, hx, hy, hf, q⟩ := h
  unfold binD at hf
  split at hf
  · cases hf
    exact op_add pins s σ H x y v u Q I rx ry ⟨_, _, hx.int, hy.int, ans0 q (.int _)⟩
  · rename_i a b
    split at hf
    · rename_i hl
      cases hf
      have e := hx.str
      have e2 := hy.str
      refine op_add_str pins s σ H x y v u Q I rx ry ⟨_, _, e, e2, ?_, ?_⟩
      · rw [strLen, strLen]
        have := okLen_le hl
        rw [List.length_append] at this
        exact szOf this
      · rw [strAp]
        exact ans0 q (.str _)
    · cases hf
  · rename_i a b
    split at hf
    · rename_i hl
      cases hf
      obtain ⟨p, vs, e, hs, r⟩ := hx.tup
      obtain ⟨p2, ws, e2, hs2, r2⟩ := hy.tup
      refine op_catA pins s σ H x y v u Q I rx ry ⟨p, p2, vs, ws, e, e2, .of hs, .of hs2, ?_, ?_, ?_, ?_⟩
      · have := okLen_le hl
        rw [List.length_append] at this
        rw [r.length, r2.length]
        exact szOf this
      · intro z
        have z2 := r.nil_iff.mp z
        subst z2
        rw [List.nil_append] at q
        exact ans0 q (.tup hs2 r2)
      · intro _ z
        have z2 := r2.nil_iff.mp z
        subst z2
        rw [List.append_nil] at q
        exact ans0 q (.tup hs r)
      · intro _ _ p hp
        exact ansT q (r.append r2) hp
    · cases hf
  · rename_i a b
    split at hf
    · rename_i hl
      cases hf
      obtain ⟨p, vs, e, hs, r⟩ := hx.lst
      obtain ⟨p2, ws, e2, hs2, r2⟩ := hy.lst
      refine op_cat pins s σ H x y v u Q I rx ry ⟨p, p2, vs, ws, e, e2, hs, hs2, ?_, fun p hp => ansL q (r.append r2) hp⟩
      have := okLen_le hl
      rw [List.length_append] at this
      rw [r.length, r2.length]
      exact szOf this
    · cases hf
  · cases hf
    exact op_sub pins s σ H x y v u Q I rx ry ⟨_, _, hx.int, hy.int, ans0 q (.int _)⟩
  · rename_i i j
    split at hf
    · rename_i hl
      cases hf
      refine op_mul pins s σ H x y v u Q I rx ry ⟨_, _, hx.int, hy.int, ?_, ans0 q (.int _)⟩
      rw [Bool.or_eq_true] at hl
      rcases hl with hl | hl
      · exact .inl (small_lt hl)
      · exact .inr (small_lt hl)
    · cases hf
  · rename_i l k
    split at hf
    · rename_i hl
      cases hf
      simp only [Bool.and_eq_true] at hl
      obtain ⟨p, vs, e, hs, r⟩ := hx.lst
      have h1 := small_lt hl.1.2
      have hlim : ((lim : Nat) : Int) = 100000 := rfl
      rw [hlim] at h1
      refine op_rep pins s σ H x y v u Q I rx ry ⟨p, k, vs, e, hy.int, hs, by omega, by omega, ?_, fun p hp => ansL q (r.rep _) hp⟩
      have h2 := okLen_le hl.2
      rw [PyProof.Rows.lm_len_rep_flat, Nat.mul_comm] at h2
      rw [r.length]
      exact szOf h2
    · cases hf
  · rename_i l k
    split at hf
    · rename_i hl
      cases hf
      simp only [Bool.and_eq_true] at hl
      have h1 := small_lt hl.1.2
      have hlim : ((lim : Nat) : Int) = 100000 := rfl
      rw [hlim] at h1
      have h2 := okLen_le hl.2
      rw [PyProof.Rows.lm_len_rep_flat, Nat.mul_comm] at h2
      exact op_repS pins s σ H x y v u Q I rx ry ⟨l, k, hx.str, hy.int, by omega, by omega, szOf h2, ans0 q (.str _)⟩
    · cases hf
  · rename_i l k
    split at hf
    · rename_i hl
      cases hf
      simp only [Bool.and_eq_true, decide_eq_true_eq] at hl
      obtain ⟨⟨g1, g2⟩, g3⟩ := hl
      obtain ⟨p, vs, e, hs, r⟩ := hx.tup
      have hlen := r.length
      refine op_repA pins s σ H x y v u Q I rx ry ⟨p, k, vs, e, hy.int, .of hs, g2, g3, by rw [hlen]; exact Nat.le_of_ble_eq_true g1, fun z => ?_, fun _ p hp => ansT q (r.rep _) hp⟩
      rcases z with z | z
      · have z2 := r.nil_iff.mp z
        subst z2
        have : (List.replicate k.toNat ([] : List D)).flatten = [] := by
          induction k.toNat with
          | zero => rfl
          | succ m ih => rw [List.replicate_succ, List.flatten_cons, ih]; rfl
        rw [this] at q
        exact ans0 q (.tup hs r)
      · subst z
        have : ∀ l : List D, (List.replicate (1 : Int).toNat l).flatten = l := fun l => by simp
        rw [this] at q
        exact ans0 q (.tup hs r)
    · cases hf
  · rename_i i j
    split at hf
    · rename_i hl
      cases hf
      simp only [Bool.and_eq_true, decide_eq_true_eq] at hl
      have h1 := small_lt hl.2
      exact op_fdiv pins s σ H x y v u Q I rx ry ⟨_, _, hx.int, hy.int, ⟨hl.1, h1.2⟩, ans0 q (.int _)⟩
    · cases hf
  · rename_i i j
    split at hf
    · rename_i hl
      cases hf
      exact op_mod pins s σ H x y v u Q I rx ry ⟨_, _, hx.int, hy.int, of_decide_eq_true hl, ans0 q (.int _)⟩
    · cases hf
  · rename_i i j
    split at hf
    · rename_i hl
      cases hf
      simp only [Bool.and_eq_true, decide_eq_true_eq] at hl
      have h1 := small_lt hl.1.2
      have h2 := small_of hl.2
      exact op_pow pins s σ H x y v u Q I rx ry ⟨_, _, hx.int, hy.int, ⟨hl.1.1, Int.le_of_lt h1.2, h2⟩, ans0 q (.int _)⟩
    · cases hf
  · cases hf

/-! ### == as the library says it -/
theorem flats_tail {n : Nat} {d : D} {ds : List D} (h : flats n (d :: ds) = true) : flat n d = true ∧ flats n ds = true := by
  unfold flats at h
  rw [Bool.and_eq_true] at h
  exact h
mutual
theorem dpE {K : PySem.W.Frag} {S : Ad} {H : Hp} : ∀ (d : D) {v : V}, DR K S H v d → ∀ n, flat n d = true → Dp K H v (toP d)
  | .non, v, h, n, e => by cases h; exact .non
  | .bl b, v, h, n, e => by cases h; exact .bl b
  | .int i, v, h, n, e => by cases h; exact .int i
  | .str s, v, h, n, e => by cases h; exact .str _
  | .tup l, v, h, n, e => by
    cases h with
    | tup h r =>
      cases n with
      | zero => unfold flat at e; cases e
      | succ n => exact .tup (.of h) (dpsE l r n (by unfold flat at e; exact e))
  | .lst l, v, h, n, e => by
    cases h with
    | lst s h r =>
      cases n with
      | zero => unfold flat at e; cases e
      | succ n => exact .lst (.of h) (dpsE l r n (by unfold flat at e; exact e))
  | .ro l, v, h, n, e => by unfold flat at e; cases e
  | .dic t l, v, h, n, e => by unfold flat at e; cases e
  | .st l, v, h, n, e => by unfold flat at e; cases e
  | .fn k, v, h, n, e => by unfold flat at e; cases e
theorem dpsE {K : PySem.W.Frag} {S : Ad} {H : Hp} : ∀ (ds : List D) {vs : List V}, DRs K S H vs ds → ∀ n, flats n ds = true → DpAll K H vs (toPs ds)
  | [], vs, h, _, _ => by cases h; exact .nil
  | d :: ds, vs, h, n, e => by
    cases h with
    | cons h r => exact .cons (dpE d h n (flats_tail e).1) (dpsE ds r n (flats_tail e).2)
end
theorem dp_of {K : PySem.W.Frag} {S : Ad} {H : Hp} {d : D} {v : V} (h : DR K S H v d) : ∀ n, flat n d = true → Dp K H v (toP d) := dpE d h
theorem dps_of {K : PySem.W.Frag} {S : Ad} {H : Hp} {ds : List D} {vs : List V} (h : DRs K S H vs ds) : ∀ n, flats n ds = true → DpAll K H vs (toPs ds) := dpsE ds h
theorem dv_dp {b : Bool} {K : PySem.W.Frag} {S : Ad} {H : Hp} {v : V} {d : D} (h : DV b K S H v d) {n : Nat} (e : flat n d = true) : Dp K H v (toP d) := by
  rcases h with h | ⟨_, a, rfl, h⟩
  · exact dpE d h n e
  · cases d with
    | lst ds =>
      obtain ⟨vs, h1, h2⟩ := h
      cases n with
      | zero => unfold flat at e; cases e
      | succ n => exact .lst (.of h1) (dpsE ds h2 n (by unfold flat at e; exact e))
    | dic t l => cases n <;> (unfold flat at e; cases e)
    | _ => exact h.elim
mutual
theorem eqP : ∀ (x y : D) (n m : Nat), flat n x = true → flat m y = true → PyData.eqv (toP x) (toP y) = eqD x y
  | .non, y, n, m, hx, hy => by cases y <;> simp_all [toP, PyData.eqv, eqD, flat]
  | .bl a, y, n, m, hx, hy => by cases y <;> simp_all [toP, PyData.eqv, eqD, flat]
  | .int i, y, n, m, hx, hy => by cases y <;> simp_all [toP, PyData.eqv, eqD, flat]
  | .str s, y, n, m, hx, hy => by
    cases y <;> simp_all [toP, PyData.eqv, eqD, flat]
    rename_i t
    rw [Bool.eq_iff_iff]
    simp
  | .tup l, y, n, m, hx, hy => by
    cases n with
    | zero => simp [flat] at hx
    | succ n =>
      cases y with
      | tup k =>
        cases m with
        | zero => simp [flat] at hy
        | succ m =>
          unfold flat at hx hy
          simp only [toP, PyData.eqv, eqD]
          exact eqPs l k n m hx hy
      | _ => simp_all [toP, PyData.eqv, eqD, flat]
  | .lst l, y, n, m, hx, hy => by
    cases n with
    | zero => simp [flat] at hx
    | succ n =>
      cases y with
      | lst k =>
        cases m with
        | zero => simp [flat] at hy
        | succ m =>
          unfold flat at hx hy
          simp only [toP, PyData.eqv, eqD]
          exact eqPs l k n m hx hy
      | _ => simp_all [toP, PyData.eqv, eqD, flat]
  | .dic _ l, y, n, m, hx, hy => by cases n <;> simp [flat] at hx
  | .st l, y, n, m, hx, hy => by cases n <;> simp [flat] at hx
  | .fn l, y, n, m, hx, hy => by cases n <;> simp [flat] at hx
  | .ro l, y, n, m, hx, hy => by cases n <;> simp [flat] at hx
theorem eqPs : ∀ (x y : List D) (n m : Nat), flats n x = true → flats m y = true → PyData.eqvAll (toPs x) (toPs y) = eqDs x y
  | [], [], n, m, hx, hy => by simp [toPs, PyData.eqvAll, eqDs]
  | [], _ :: _, n, m, hx, hy => by simp [toPs, PyData.eqvAll, eqDs]
  | _ :: _, [], n, m, hx, hy => by simp [toPs, PyData.eqvAll, eqDs]
  | a :: as, b :: bs, n, m, hx, hy => by
    have h1 := flats_tail hx
    have h2 := flats_tail hy
    simp only [toPs, PyData.eqvAll, eqDs]
    rw [eqP a b n m h1.1 h2.1, eqPs as bs n m h1.2 h2.2]
end
mutual
theorem canP : ∀ (x : D) (n : Nat), flat n x = true → (toP x).canLay0 = true
  | .non, n, h => by simp [toP, PyData.canLay0]
  | .bl _, n, h => by simp [toP, PyData.canLay0]
  | .int _, n, h => by simp [toP, PyData.canLay0]
  | .str s, n, h => by
    unfold flat at h
    simp only [toP, PyData.canLay0]
    unfold PyData.strOk
    rw [List.all_eq_true] at h
    simp only [Array.all_eq_true_iff_forall_mem, List.mem_toArray, decide_eq_true_eq]
    intro c hc
    have := h c hc
    rw [Nat.blt_eq] at this
    exact this
  | .tup l, 0, h => by simp [flat] at h
  | .tup l, n + 1, h => by
    unfold flat at h
    simp only [toP, PyData.canLay0]
    exact canPs l n h
  | .lst l, 0, h => by simp [flat] at h
  | .lst l, n + 1, h => by
    unfold flat at h
    simp only [toP, PyData.canLay0]
    exact canPs l n h
  | .dic _ l, n, h => by cases n <;> simp [flat] at h
  | .st l, n, h => by cases n <;> simp [flat] at h
  | .fn l, n, h => by cases n <;> simp [flat] at h
  | .ro l, n, h => by cases n <;> simp [flat] at h
theorem canPs : ∀ (x : List D) (n : Nat), flats n x = true → PyData.canLayAll0 (toPs x) = true
  | [], n, h => by simp [toPs, PyData.canLayAll0]
  | a :: as, n, h => by
    have h1 := flats_tail h
    simp only [toPs, PyData.canLayAll0]
    rw [canP a n h1.1, canPs as n h1.2]
    rfl
end
mutual
theorem depP : ∀ (x : D) (n : Nat), flat n x = true → (toP x).depth ≤ n
  | .non, n, h => by simp [toP, PyData.depth]
  | .bl _, n, h => by simp [toP, PyData.depth]
  | .int _, n, h => by simp [toP, PyData.depth]
  | .str s, n, h => by simp [toP, PyData.depth]
  | .tup l, 0, h => by simp [flat] at h
  | .tup l, n + 1, h => by
    unfold flat at h
    simp only [toP, PyData.depth]
    exact Nat.succ_le_succ (depPs l n h)
  | .lst l, 0, h => by simp [flat] at h
  | .lst l, n + 1, h => by
    unfold flat at h
    simp only [toP, PyData.depth]
    exact Nat.succ_le_succ (depPs l n h)
  | .dic _ l, n, h => by cases n <;> simp [flat] at h
  | .st l, n, h => by cases n <;> simp [flat] at h
  | .fn l, n, h => by cases n <;> simp [flat] at h
  | .ro l, n, h => by cases n <;> simp [flat] at h
theorem depPs : ∀ (x : List D) (n : Nat), flats n x = true → PyData.depthAll (toPs x) ≤ n
  | [], n, h => by simp [toPs, PyData.depthAll]
  | a :: as, n, h => by
    have h1 := flats_tail h
    simp only [toPs, PyData.depthAll]
    exact Nat.max_le.mpr ⟨depP a n h1.1, depPs as n h1.2⟩
end
theorem shapedP {x : D} (h : flat 40 x = true) : SeqAt.shaped (toP x) = true := by
  unfold SeqAt.shaped
  rw [canP x 40 h, Bool.true_and]
  exact decide_eq_true (Nat.le_trans (depP x 40 h) (by decide))

/-! ### x in a list, a tuple -/
theorem flat_mem {n : Nat} : ∀ {ds : List D} {d : D}, flats n ds = true → d ∈ ds → flat n d = true
  | _ :: _, _, h, .head _ => (flats_tail h).1
  | _ :: _, _, h, .tail _ m => flat_mem (flats_tail h).2 m
theorem flats_of_mem {n : Nat} : ∀ {ds : List D}, (∀ d ∈ ds, flat n d = true) → flats n ds = true
  | [], _ => rfl
  | d :: ds, h => by
    unfold flats
    rw [h d (by simp), flats_of_mem fun e he => h e (by simp [he])]
    rfl
theorem any_toPs {x : D} {n : Nat} (hx : flat n x = true) : ∀ {ds : List D}, flats n ds = true → ((toPs ds).any fun y => PyData.eqv y (toP x)) = ds.any fun y => eqD y x
  | [], _ => rfl
  | d :: ds, h => by
    have h1 := flats_tail h
    show (PyData.eqv (toP d) (toP x) || (toPs ds).any fun y => PyData.eqv y (toP x)) = _
    rw [eqP d x n n h1.1 hx, any_toPs hx h1.2]
    rfl
theorem isIn_iff (x : List Nat) : ∀ y : List Nat, isIn x y = true ↔ ∃ i, i + x.length ≤ y.length ∧ (y.drop i).take x.length = x
  | [] => by
    unfold isIn
    constructor
    · intro h
      have : x = [] := by simpa using h
      subst this
      exact ⟨0, by simp⟩
    · rintro ⟨i, h, _⟩
      have h2 : x.length = 0 := by
        rw [List.length_nil] at h
        omega
      have : x = [] := List.eq_nil_of_length_eq_zero h2
      subst this
      rfl
  | c :: cs => by
    unfold isIn
    rw [Bool.or_eq_true, isIn_iff x cs]
    constructor
    · rintro (h | ⟨i, h1, h2⟩)
      · have := List.isPrefixOf_iff_prefix.mp h
        obtain ⟨t, e⟩ := this
        refine ⟨0, ?_, ?_⟩
        · rw [← e]; simp
        · rw [← e]; simp
      · exact ⟨i + 1, by simp; omega, by simpa using h2⟩
    · rintro ⟨i, h1, h2⟩
      cases i with
      | zero =>
        left
        rw [List.isPrefixOf_iff_prefix]
        refine ⟨(c :: cs).drop x.length, ?_⟩
        conv => lhs; lhs; rw [← h2]
        simp
      | succ i =>
        right
        exact ⟨i, by simp at h1; omega, by simpa using h2⟩
theorem subAt_iff (y x : List Nat) (i : Nat) (h : i + x.length ≤ y.length) : Builtin.Str.subAt (⟨y.toArray⟩ : Str) ⟨x.toArray⟩ i = true ↔ (y.drop i).take x.length = x := by
  unfold Builtin.Str.subAt
  rw [beq_iff_eq]
  show y.toArray.extract i (i + Str.length ⟨x.toArray⟩) = x.toArray ↔ _
  rw [strLen, List.extract_toArray]
  constructor
  · intro e
    have := congrArg Array.toList e
    simpa [List.extract_eq_take_drop] using this
  · intro e
    rw [List.extract_eq_take_drop, Nat.add_sub_cancel_left, e]
theorem found_isIn (x y : List Nat) : (!(Builtin.Str.occurrences (⟨y.toArray⟩ : Str) ⟨x.toArray⟩ 0 (Str.length ⟨y.toArray⟩) 1).isEmpty) = isIn x y := by
  rw [Bool.eq_iff_iff, PySem.StrLaws.found_iff, isIn_iff]
  rw [strLen, strLen]
  constructor
  · rintro ⟨i, h1, h2⟩
    exact ⟨i, h1, (subAt_iff y x i h1).mp h2⟩
  · rintro ⟨i, h1, h2⟩
    exact ⟨i, h1, (subAt_iff y x i h1).mpr h2⟩
theorem ltL_iff : ∀ x y : List Nat, ltL x y = decide (x < y)
  | [], [] => by simp [ltL]
  | [], _ :: _ => by simp [ltL]
  | _ :: _, [] => by simp [ltL]
  | a :: x, b :: y => by
    unfold ltL
    rw [ltL_iff x y, Bool.eq_iff_iff]
    simp [List.cons_lt_cons_iff, Nat.blt_eq]
/-- a comparison, by data -/
def rC (K : PySem.W.Frag) (op : CmpOp) : R2 := fun x y H Q => ∃ S dx dy b, DV true K S H x dx ∧ DV true K S H y dy ∧ cmpD op dx dy = some b ∧ Q (.bl b) H
theorem isN_dv {K : PySem.W.Frag} {S : Ad} {H : Hp} {v : V} {d : D} (h : DV true K S H v d) : decide (v = .non) = (match d with | .non => true | _ => false) := by
  rcases h with h | ⟨_, a, rfl, h⟩
  · cases h <;> simp
  · cases d with
    | lst _ => simp
    | dic _ _ => simp
    | _ => exact h.elim
def rC0 (K : PySem.W.Frag) (op : CmpOp) : R2 := fun x y H Q => ∃ S dx dy b, DV true K S H x dx ∧ DV true K S H y dy ∧ cmpD0 op dx dy = some b ∧ Q (.bl b) H
theorem ordK_of {x y : D} (h : ordK x y = true) : toP x ≠ .none ∧ flat 40 x = true ∧ flat 40 y = true ∧ PySem.W.alike (toP x) (toP y) = true := by
  unfold ordK at h
  split at h
  · rw [Bool.and_eq_true, Bool.and_eq_true] at h
    exact ⟨fun z => (by unfold toP at z; cases z), h.1.1, h.1.2, h.2⟩
  · rw [Bool.and_eq_true] at h
    exact ⟨fun z => (by unfold toP at z; cases z), h.1, h.2, by unfold toP; rfl⟩
  · cases h
theorem op_cmp0 (hu : X.A.units + 65 < cLine) (op : CmpOp) : OpR X (compareOp op) (rC0 X.K op) := by
  intro pins s σ H x y v u Q I rx ry h
  obtain ⟨S, dx, dy, b, hx, hy, hf, q⟩ := h
  unfold cmpD0 at hf
  split at hf
  · cases hf
    refine op_eq pins s σ H x y v u Q I rx ry ?_
    rw [hx.str, hy.str]
    refine ⟨rfl, ?_⟩
    rw [dec_str]
    have e : ∀ a b : List Nat, ((⟨a.toArray⟩ : Str) == ⟨b.toArray⟩) = (a == b) := fun a b => by rw [Bool.eq_iff_iff]; simp
    rw [e]
    exact q
  · cases hf
    refine op_ne pins s σ H x y v u Q I rx ry ?_
    rw [hx.str, hy.str]
    refine ⟨rfl, ?_⟩
    rw [dec_str]
    have e : ∀ a b : List Nat, ((⟨a.toArray⟩ : Str) == ⟨b.toArray⟩) = (a == b) := fun a b => by rw [Bool.eq_iff_iff]; simp
    rw [e]
    exact q
  · split at hf
    · rename_i hl
      cases hf
      rw [Bool.and_eq_true] at hl
      refine op_eqD (by omega) pins s σ H x y v u Q I rx ry ⟨_, _, dv_dp hx hl.1, dv_dp hy hl.2, shapedP hl.1, shapedP hl.2, ?_⟩
      rw [eqP _ _ _ _ hl.1 hl.2]
      exact q
    · cases hf
  · split at hf
    · rename_i hl
      cases hf
      rw [Bool.and_eq_true] at hl
      refine op_neD (by omega) pins s σ H x y v u Q I rx ry ⟨_, _, dv_dp hx hl.1, dv_dp hy hl.2, shapedP hl.1, shapedP hl.2, ?_⟩
      rw [eqP _ _ _ _ hl.1 hl.2]
      exact q
    · cases hf
  · cases hf; exact op_lt pins s σ H x y v u Q I rx ry ⟨_, _, hx.int, hy.int, q⟩
  · cases hf; exact op_le pins s σ H x y v u Q I rx ry ⟨_, _, hx.int, hy.int, q⟩
  · cases hf; exact op_gt pins s σ H x y v u Q I rx ry ⟨_, _, hx.int, hy.int, q⟩
  · cases hf; exact op_ge pins s σ H x y v u Q I rx ry ⟨_, _, hx.int, hy.int, q⟩
  · cases hf
    refine op_lt_str pins s σ H x y v u Q I rx ry ⟨_, _, hx.str, hy.str, ?_⟩
    rw [ltL_iff] at q
    exact q
  · cases hf
    refine op_isN pins s σ H x y v u Q I rx ry ⟨hy.non, ?_⟩
    rw [isN_dv hx]; exact q
  · cases hf
    refine op_notN pins s σ H x y v u Q I rx ry ⟨hy.non, ?_⟩
    rw [isN_dv hx]; exact q
  · cases hf
    rename_i hne
    refine op_isN pins s σ H x y v u Q I rx ry ⟨hy.non, ?_⟩
    rw [isN_dv hx]
    cases dx <;> first | exact q | exact (hne rfl).elim
  · cases hf
    rename_i hne
    refine op_notN pins s σ H x y v u Q I rx ry ⟨hy.non, ?_⟩
    rw [isN_dv hx]
    cases dx <;> first | exact q | exact (hne rfl).elim
  · cases hf
    refine op_in_str pins s σ H x y v u Q I rx ry ⟨_, _, hx.str, hy.str, ?_⟩
    rw [found_isIn]
    exact q
  · cases hf
    refine op_notin_str pins s σ H x y v u Q I rx ry ⟨_, _, hx.str, hy.str, ?_⟩
    rw [found_isIn]
    exact q
  · split at hf
    · rename_i hl
      cases hf
      rw [Bool.and_eq_true] at hl
      obtain ⟨p, vs, rfl, hs, r⟩ := hy.tup
      have d1 : Dp X.K H (.ref p) (.tuple (toPs _)) := .tup (.of hs) (dpsE _ r 40 hl.2)
      obtain ⟨as, r1⟩ := Dp.reads I _ _ _ d1 ry
      obtain ⟨bs, r2⟩ := Dp.reads I _ _ _ (dv_dp hx hl.1) rx
      refine SeqAt.in_tuple_reads r1 r2 (canPs _ 40 hl.2) (canP _ 40 hl.1) (PyProof.Rows.room_in_shaped (shapedP hl.1) hu) ?_
      rw [any_toPs hl.1 hl.2]
      exact ⟨.bl _, H, I, rfl, q⟩
    · cases hf
  · split at hf
    · rename_i hl
      cases hf
      rw [Bool.and_eq_true] at hl
      obtain ⟨p, vs, rfl, hs, r⟩ := hy.lst
      have d1 : Dp X.K H (.ref p) (.list (toPs _)) := .lst (.of hs) (dpsE _ r 40 hl.2)
      obtain ⟨as, r1⟩ := Dp.reads I _ _ _ d1 ry
      obtain ⟨bs, r2⟩ := Dp.reads I _ _ _ (dv_dp hx hl.1) rx
      refine SeqAt.in_list_reads r1 r2 (canPs _ 40 hl.2) (canP _ 40 hl.1) (PyProof.Rows.room_in_shaped (shapedP hl.1) hu) ?_
      rw [any_toPs hl.1 hl.2]
      exact ⟨.bl _, H, I, rfl, q⟩
    · cases hf
  · split at hf
    · rename_i hl
      cases hf
      rw [Bool.and_eq_true] at hl
      obtain ⟨p, vs, rfl, hs, r⟩ := hy.tup
      have d1 : Dp X.K H (.ref p) (.tuple (toPs _)) := .tup (.of hs) (dpsE _ r 40 hl.2)
      obtain ⟨as, r1⟩ := Dp.reads I _ _ _ d1 ry
      obtain ⟨bs, r2⟩ := Dp.reads I _ _ _ (dv_dp hx hl.1) rx
      refine SeqAt.notIn_tuple_reads r1 r2 (canPs _ 40 hl.2) (canP _ 40 hl.1) (PyProof.Rows.room_in_shaped (shapedP hl.1) hu) ?_
      rw [any_toPs hl.1 hl.2]
      exact ⟨.bl _, H, I, rfl, q⟩
    · cases hf
  · split at hf
    · rename_i hl
      cases hf
      rw [Bool.and_eq_true] at hl
      obtain ⟨p, vs, rfl, hs, r⟩ := hy.lst
      have d1 : Dp X.K H (.ref p) (.list (toPs _)) := .lst (.of hs) (dpsE _ r 40 hl.2)
      obtain ⟨as, r1⟩ := Dp.reads I _ _ _ d1 ry
      obtain ⟨bs, r2⟩ := Dp.reads I _ _ _ (dv_dp hx hl.1) rx
      refine SeqAt.notIn_list_reads r1 r2 (canPs _ 40 hl.2) (canP _ 40 hl.1) (PyProof.Rows.room_in_shaped (shapedP hl.1) hu) ?_
      rw [any_toPs hl.1 hl.2]
      exact ⟨.bl _, H, I, rfl, q⟩
    · cases hf
  all_goals first
    | (split at hf
       · rename_i hl
         cases hf
         obtain ⟨n1, f1, f2, al⟩ := ordK_of hl
         obtain ⟨as, r1⟩ := Dp.reads I _ _ _ (dv_dp hx f1) rx
         obtain ⟨bs, r2⟩ := Dp.reads I _ _ _ (dv_dp hy f2) ry
         have room : X.A.units + min (toP dx).depth (toP dy).depth < cLine := by have := depP dx 40 f1; omega
         first
           | exact PySem.W.lt_data r1 r2 al n1 room ⟨.bl _, H, I, rfl, q⟩
           | exact PySem.W.gt_data r1 r2 al n1 room ⟨.bl _, H, I, rfl, q⟩
           | exact PySem.W.le_data r1 r2 al n1 room ⟨.bl _, H, I, rfl, q⟩
           | exact PySem.W.ge_data r1 r2 al n1 room ⟨.bl _, H, I, rfl, q⟩
       · cases hf)
    | cases hf
theorem op_cmp (hu : X.A.units + 65 < cLine) (op : CmpOp) : OpR X (compareOp op) (rC X.K op) := by
  intro pins s σ H x y v u Q I rx ry h
  obtain ⟨S, dx, dy, b, hx, hy, hf, q⟩ := h
  have key : ∀ t l, cmpK op dx t l = some b → dy = .dic t l → ∃ (a : Addr) (o : Option V), y = .ref a ∧ DGet H a x o ∧ ((op = .In ∧ b = o.isSome) ∨ (op = .NotIn ∧ b = !o.isSome)) := fun t l e ey => by
    subst ey
    have ht : keyT t dx = true := by
      unfold cmpK at e
      split at e <;> first | (cases e; done) | (split at e; assumption; cases e)
    obtain ⟨a, rfl, o, g, ro⟩ := dget_of ht hx hy
    refine ⟨a, o, rfl, g, ?_⟩
    have eo : (dGet l dx).isSome = o.isSome := by
      cases hdl : dGet l dx with
      | none => rw [hdl] at ro; have ro : o = none := ro; rw [ro]; rfl
      | some d => rw [hdl] at ro; obtain ⟨v, e, _⟩ := ro; rw [e]; rfl
    unfold cmpK at e
    split at e
    · rw [if_pos ht] at e; cases e; exact .inl ⟨rfl, eo⟩
    · rw [if_pos ht] at e; cases e; exact .inr ⟨rfl, by rw [eo]⟩
    · cases e
  cases dy with
  | dic t l =>
    obtain ⟨a, o, rfl, g, hc⟩ := key t l hf rfl
    cases ry
    rcases hc with ⟨rfl, rfl⟩ | ⟨rfl, rfl⟩
    · exact d_in (by omega) I g rx fun s3 I3 => ⟨.bl o.isSome, H, I3, rfl, q⟩
    · exact d_notIn (by omega) I g rx fun s3 I3 => ⟨.bl (!o.isSome), H, I3, rfl, q⟩
  | _ => exact op_cmp0 hu op pins s σ H x y v u Q I rx ry ⟨S, dx, _, b, hx, hy, hf, q⟩
end
end Tl

/-! G07: min, max of two values, by their data. -/
namespace PySem.W
open PySem PySem.Spec PyProof PyProof.Rows
section
variable {prog : Program} {w : World} {A : Around} {E : Value → Shared → Prop} {s : Shared}
theorem g7_min_two {a b : Value} {Q : Value → Shared → Prop}
    (h : wpAny (model prog w) A.in1 (pyIter (.ref s.heap.objs.size)) (fun it s₂ => ∃ I fp wr G n P St H bt, it = .ref I ∧ WalksS prog w A.in1 I fp wr G n P St ∧ St 0 s₂ ∧ (∀ b ∈ fp, b < s₂.heap.objs.size) ∧ 0 < n ∧
      (∀ b o, H.get? b = some o → b ∉ wr) ∧ (∀ b o, H.get? b = some o → s₂.heap.get? b = some o) ∧ CmpIn prog w A.in1 .Lt H P bt ∧ ∀ v s', P (argBest bt (n - 1)) v → Moved wr G s₂ s' → Q v s') E
      { s with heap := s.heap.push { cls := .type "tuple", data := .seq #[a, b] } }) :
    wpAny (model prog w) A (call (.builtin "min") [a, b]) Q E s := by
  have hname : (toString "min" ++ toString ".loop" : String) = "min.loop" := by decide
  refine call_function_tree F.kind_min F.plain_min F.entry_min (F.args_min2 _ _) ?_
  show wpAny _ A.in1 (Builtin.Builtins.bindParams "min" ["key", "default"] 0 ⟨[], []⟩ >>= _) _ _ s
  refine wpAny_bind (wpAny_of_eq (show Builtin.Builtins.bindParams "min" ["key", "default"] 0 ⟨[], []⟩ = pure [none, none] from rfl) ?_)
  show wpAny _ A.in1 (newTuple [a, b] >>= _) _ _ s
  refine wpAny_bind (wpAny_newObj_type ?_)
  refine wpAny_bind (wpAny_mono h (fun it s₂ h₂ => ?_) fun _ _ e => e)
  obtain ⟨I, fp, wr, G, n, P, St, H, bt, rfl, W, hst, hfp, hn, hw, hkeep, hcmp, hQ⟩ := h₂
  refine wpAny_bind (wpAny_newObj_type ?_)
  have hSf : s₂.heap.objs.size ∉ fp := fun hm => Nat.lt_irrefl _ (hfp _ hm)
  rw [hname]
  refine wpAny_pure ⟨plainId_quiet F.plain_min_loop _, codeAny_min_loop_firstH W H hw bt hcmp s₂.heap.objs.size hSf (fresh_in hkeep) _ hn (fun b o e => Heap.get?_push_of_some _ (hkeep b o e)) (W.frame 0 s₂ _ s₂.toks hst (Nat.le_refl _) fun b _ o e => Heap.get?_push_of_some _ e) (Heap.get?_push_size _ rfl) fun v s' hP hm => ?_⟩
  exact hQ v s' hP (Moved.drop_new (tk := s₂.toks) hm (Nat.le_refl _))
theorem min_two_data {a b : Value} {x y : PyData} {as : List Addr} {Q : Value → Shared → Prop} (hh : A.handled = none) (hr : ReadsAll s.heap [a, b] [x, y] as) (ha : AlikeAll [x, y]) (hu : A.units + 1 + PyData.depthAll [x, y] < cLine)
    (h : ∀ h' tk, (∀ b o, s.heap.get? b = some o → h'.get? b = some o) → Q (if dataLt y x = true then b else a) { s with heap := h', toks := tk }) :
    wpAny (model prog w) A (call (.builtin "min") [a, b]) Q E s := by
  have hT : (s.heap.push { cls := .type "tuple", data := .seq #[a, b] }).IsTuple s.heap.objs.size #[a, b] := ⟨_, Heap.get?_push_size _ rfl, rfl, 0, rfl⟩
  have hsz : (s.heap.push { cls := .type "tuple", data := .seq #[a, b] }).objs.size = s.heap.objs.size + 1 := Heap.size_push ..
  refine g7_min_two (iter_tupleW (A := A.in1) (s := { s with heap := s.heap.push { cls := .type "tuple", data := .seq #[a, b] } }) hh hT fun s₂ e W st hfp hw hk => ?_)
  refine ⟨_, _, _, _, _, _, _, s.heap, _, rfl, W, st, hfp, (show 0 < (#[a, b] : Array Value).size from Nat.zero_lt_succ _), fun c o e2 hc => hw c o (Heap.get?_push_of_some _ e2) hc, fun c o e2 => hk c o (Heap.get?_push_of_some _ e2), cmpIn_lt (A := A.in1) (s := s) (vs := #[a, b]) hr ha (by show A.units + 1 + _ < _; exact hu), fun v s' hP m => ?_⟩
  obtain ⟨h', tk, rfl, hk'⟩ := moved_old e rfl m
  have hq := h h' tk fun c o e2 => hk' c o (Heap.get?_push_of_some _ e2)
  have hv : v = if dataLt y x = true then b else a := by
    have hP' : (#[a, b] : Array Value)[argBest (fun i j => dataLt ([x, y].getD i .none) ([x, y].getD j .none)) 1]? = some v := hP
    by_cases c : dataLt y x = true
    · have e : argBest (fun i j => dataLt ([x, y].getD i .none) ([x, y].getD j .none)) 1 = 1 := by simp [argBest, c]
      rw [e] at hP'
      simpa [c] using hP'.symm
    · have e : argBest (fun i j => dataLt ([x, y].getD i .none) ([x, y].getD j .none)) 1 = 0 := by simp [argBest, c]
      rw [e] at hP'
      simpa [c] using hP'.symm
  rw [hv]
  exact hq
theorem g7_max_two {a b : Value} {Q : Value → Shared → Prop}
    (h : wpAny (model prog w) A.in1 (pyIter (.ref s.heap.objs.size)) (fun it s₂ => ∃ I fp wr G n P St H bt, it = .ref I ∧ WalksS prog w A.in1 I fp wr G n P St ∧ St 0 s₂ ∧ (∀ b ∈ fp, b < s₂.heap.objs.size) ∧ 0 < n ∧
      (∀ b o, H.get? b = some o → b ∉ wr) ∧ (∀ b o, H.get? b = some o → s₂.heap.get? b = some o) ∧ CmpIn prog w A.in1 .Gt H P bt ∧ ∀ v s', P (argBest bt (n - 1)) v → Moved wr G s₂ s' → Q v s') E
      { s with heap := s.heap.push { cls := .type "tuple", data := .seq #[a, b] } }) :
    wpAny (model prog w) A (call (.builtin "max") [a, b]) Q E s := by
  have hname : (toString "max" ++ toString ".loop" : String) = "max.loop" := by decide
  refine call_function_tree F.kind_max F.plain_max F.entry_max (F.args_max2 _ _) ?_
  show wpAny _ A.in1 (Builtin.Builtins.bindParams "max" ["key", "default"] 0 ⟨[], []⟩ >>= _) _ _ s
  refine wpAny_bind (wpAny_of_eq (show Builtin.Builtins.bindParams "max" ["key", "default"] 0 ⟨[], []⟩ = pure [none, none] from rfl) ?_)
  show wpAny _ A.in1 (newTuple [a, b] >>= _) _ _ s
  refine wpAny_bind (wpAny_newObj_type ?_)
  refine wpAny_bind (wpAny_mono h (fun it s₂ h₂ => ?_) fun _ _ e => e)
  obtain ⟨I, fp, wr, G, n, P, St, H, bt, rfl, W, hst, hfp, hn, hw, hkeep, hcmp, hQ⟩ := h₂
  refine wpAny_bind (wpAny_newObj_type ?_)
  have hSf : s₂.heap.objs.size ∉ fp := fun hm => Nat.lt_irrefl _ (hfp _ hm)
  rw [hname]
  refine wpAny_pure ⟨plainId_quiet F.plain_max_loop _, codeAny_max_loop_firstH W H hw bt hcmp s₂.heap.objs.size hSf (fresh_in hkeep) _ hn (fun b o e => Heap.get?_push_of_some _ (hkeep b o e)) (W.frame 0 s₂ _ s₂.toks hst (Nat.le_refl _) fun b _ o e => Heap.get?_push_of_some _ e) (Heap.get?_push_size _ rfl) fun v s' hP hm => ?_⟩
  exact hQ v s' hP (Moved.drop_new (tk := s₂.toks) hm (Nat.le_refl _))
theorem max_two_data {a b : Value} {x y : PyData} {as : List Addr} {Q : Value → Shared → Prop} (hh : A.handled = none) (hr : ReadsAll s.heap [a, b] [x, y] as) (ha : AlikeAll [x, y]) (hu : A.units + 1 + PyData.depthAll [x, y] < cLine)
    (h : ∀ h' tk, (∀ b o, s.heap.get? b = some o → h'.get? b = some o) → Q (if dataLt x y = true then b else a) { s with heap := h', toks := tk }) :
    wpAny (model prog w) A (call (.builtin "max") [a, b]) Q E s := by
  have hT : (s.heap.push { cls := .type "tuple", data := .seq #[a, b] }).IsTuple s.heap.objs.size #[a, b] := ⟨_, Heap.get?_push_size _ rfl, rfl, 0, rfl⟩
  have hsz : (s.heap.push { cls := .type "tuple", data := .seq #[a, b] }).objs.size = s.heap.objs.size + 1 := Heap.size_push ..
  refine g7_max_two (iter_tupleW (A := A.in1) (s := { s with heap := s.heap.push { cls := .type "tuple", data := .seq #[a, b] } }) hh hT fun s₂ e W st hfp hw hk => ?_)
  refine ⟨_, _, _, _, _, _, _, s.heap, _, rfl, W, st, hfp, (show 0 < (#[a, b] : Array Value).size from Nat.zero_lt_succ _), fun c o e2 hc => hw c o (Heap.get?_push_of_some _ e2) hc, fun c o e2 => hk c o (Heap.get?_push_of_some _ e2), cmpIn_gt (A := A.in1) (s := s) (vs := #[a, b]) hr ha (by show A.units + 1 + _ < _; exact hu), fun v s' hP m => ?_⟩
  obtain ⟨h', tk, rfl, hk'⟩ := moved_old e rfl m
  have hq := h h' tk fun c o e2 => hk' c o (Heap.get?_push_of_some _ e2)
  have hv : v = if dataLt x y = true then b else a := by
    have hP' : (#[a, b] : Array Value)[argBest (fun i j => dataLt ([x, y].getD j .none) ([x, y].getD i .none)) 1]? = some v := hP
    by_cases c : dataLt x y = true
    · have e : argBest (fun i j => dataLt ([x, y].getD j .none) ([x, y].getD i .none)) 1 = 1 := by simp [argBest, c]
      rw [e] at hP'
      simpa [c] using hP'.symm
    · have e : argBest (fun i j => dataLt ([x, y].getD j .none) ([x, y].getD i .none)) 1 = 0 := by simp [argBest, c]
      rw [e] at hP'
      simpa [c] using hP'.symm
  rw [hv]
  exact hq
end
end PySem.W

/-! T04: subscripts, slices, built-ins, methods over plain data. -/
namespace Tl
open PySem L2

/-! ### subscripts, slices -/
section
variable {X : Cx}
theorem ix_imp {r r' : R2} (h : IxR X r) (g : ∀ x y H Q, r' x y H Q → r x y H Q) : IxR X r' := fun value slice pins s σ H x y v u Q I rx ry q hs => h value slice pins s σ H x y v u Q I rx ry (g x y H Q q) hs
theorem sl_imp {r r' : V → Option Int → Option Int → Hp → VK → Prop} (h : SlR X r) (g : ∀ x lo hi H Q, r' x lo hi H Q → r x lo hi H Q) : SlR X r' :=
  fun pins s σ H x v vl vu lo hi sl Q I rx hs pl pu q => h pins s σ H x v vl vu lo hi sl Q I rx hs pl pu (g x lo hi H Q q)
theorem ixD_eq (n : Nat) (i : Int) : ixD n i = ixN n i := rfl
theorem atI_of {K : PySem.W.Frag} {S : Ad} {H : Hp} {vs : List V} {ds : List D} {i : Int} {d : D} (r : DRs K S H vs ds) (h : ((ixD ds.length i).bind fun j => ds[j]?) = some d) : ∃ v, atI vs i = some v ∧ DR K S H v d := by
  rw [Option.bind_eq_some_iff] at h
  obtain ⟨j, h1, h2⟩ := h
  obtain ⟨v, e, q⟩ := r.get h2
  refine ⟨v, ?_, q⟩
  unfold atI
  rw [r.length, ← ixD_eq, h1]
  exact e
open PySem.Spec PyProof.Rows in
theorem ix_dict (hu : X.A.units + 65 < cLine) : IxR X (fun x y H Q => ∃ S t l dy d, DV true X.K S H x (.dic t l) ∧ DV true X.K S H y dy ∧ keyT t dy = true ∧ dGet l dy = some d ∧ ∀ v H', Ex H H' → DR X.K (nw S H) H' v d → Q v H') := by
  intro value slice pins s σ H x y v u Q I rx ry h hs
  obtain ⟨S, t, l, dy, d, hx, hy, hk, hg, q⟩ := h
  obtain ⟨a, rfl, o, g, ro⟩ := dget_of hk hy hx
  rw [hg] at ro
  obtain ⟨w, rfl, rd⟩ := ro
  cases rx
  have hT := dict_typeIs I g
  have rest : wpAny (model X.prog X.w) X.A (operate [.ref a, u] (getItem (.ref a) u)) (fun r s₃ => wpAny (model X.prog X.w) X.A (letTemporaryGo value (.ref a) r >>= fun _ => pure r) (EP X pins σ Q) X.xe s₃) X.xe s := by
    refine wpAny_operating (d_getItem (by omega) I g ry fun w' s3 I3 rw' => wpAny_bind (wpAny_letTemporaryGo (wpAny_pure ?_)))
    exact ⟨w, H, I3, rw', ans0 q rd⟩
  unfold subscriptTail
  refine wpAny_bind ?_
  rw [getitemInPython_of_ne hT.not_modules]
  refine wpAny_bind (wpAny_specialOf hT PySem.F.slot_dict_getitem.lookup ?_)
  have fin : wpAny (model X.prog X.w) X.A (subscripted slice false (.ref a) u) (fun r s₃ => wpAny (model X.prog X.w) X.A (letTemporaryGo value (.ref a) r >>= fun _ => pure r) (EP X pins σ Q) X.xe s₃) X.xe s := by
    rw [hs]
    exact rest
  first
    | exact wpAny_pure (wpAny_bind fin)
    | exact wpAny_bind (wpAny_pure (wpAny_bind fin))
    | exact wpAny_bind fin
theorem ix_D (hu : X.A.units + 65 < cLine) : IxR X (r2 X.K idxD) := by
  have big := (ix_dict (X := X) hu).or ix_seq
  refine ix_imp big ?_
  rintro x y H Q ⟨S, dx, dy, d, hx, hy, hf, q⟩
  unfold idxD at hf
  split at hf
  · obtain ⟨p, vs, rfl, hs, r⟩ := hx.tup
    obtain ⟨v, e, qd⟩ := atI_of r hf
    exact .inr (.inr (.inl ⟨p, vs, _, v, rfl, hy.int, .of hs, e, ans0 q qd⟩))
  · obtain ⟨p, vs, rfl, hs, r⟩ := hx.lst
    obtain ⟨v, e, qd⟩ := atI_of r hf
    exact .inr (.inl ⟨p, vs, _, v, rfl, hy.int, .of hs, e, ans0 q qd⟩)
  · obtain ⟨p, vs, rfl, hs, r⟩ := hx.ro
    obtain ⟨v, e, qd⟩ := atI_of r hf
    exact .inr (.inl ⟨p, vs, _, v, rfl, hy.int, hs, e, ans0 q qd⟩)
  · split at hf
    · rename_i s i hl
      rw [Option.map_eq_some_iff] at hf
      obtain ⟨c, hf, rfl⟩ := hf
      refine .inr (.inr (.inr ⟨_, _, c, hx.str, hy.int, ?_, ?_, ans0 q (.str [c])⟩))
      · rw [strLen]; exact szOf (okLen_le hl)
      · exact hf
    · cases hf
  · rename_i t l
    split at hf
    · rename_i hk
      exact .inl ⟨S, t, l, dy, d, hx, hy, hk, hf, q⟩
    · cases hf
  · cases hf
theorem sIx_eq (n d : Nat) (o : Option Int) : sIx n d o = HT.sIx n d o := by
  cases o <;> rfl
/-- a slice, by data -/
def rSl (K : PySem.W.Frag) : V → Option Int → Option Int → Hp → VK → Prop := fun x lo hi H Q => ∃ S dx d, DV true K S H x dx ∧ slcD dx lo hi = some d ∧ ∀ v H', Ex H H' → DR K (nw S H) H' v d → Q v H'
theorem cut_rs {K : PySem.W.Frag} {S : Ad} {H : Hp} {vs : List V} {ds : List D} (r : DRs K S H vs ds) (lo hi : Option Int) : DRs K S H (cutV vs lo hi) (cutL ds lo hi) := by
  unfold cutV cutL
  rw [r.length, sIx_eq, sIx_eq]
  exact (r.drop _).take _
theorem cut_all {α : Type} (l : List α) (lo hi : Option Int) (h1 : HT.sIx l.length 0 lo = 0) (h2 : HT.sIx l.length l.length hi = l.length) : cutL l lo hi = l := by
  unfold cutL
  rw [sIx_eq, sIx_eq, h1, h2]
  simp
theorem sl_D : SlR X (rSl X.K) := by
  refine sl_imp ((sl_list (X := X)).or ((sl_tupA (X := X)).or (sl_str (X := X)))) ?_
  rintro x lo hi H Q ⟨S, dx, d, hx, hf, q⟩
  unfold slcD at hf
  split at hf
  · cases hf
    obtain ⟨p, vs, rfl, hs, r⟩ := hx.lst
    exact .inl ⟨p, vs, rfl, .of hs, fun p hp => ansL q (cut_rs r _ _) hp⟩
  · cases hf
    obtain ⟨p, vs, rfl, hs, r⟩ := hx.tup
    refine .inr (.inl ⟨p, vs, rfl, .of hs, fun h => ?_, fun _ p hp => ansT q (cut_rs r _ _) hp⟩)
    have e := r.length
    rw [e] at h
    rw [cut_all _ _ _ h.1 h.2] at q
    exact ans0 q (.tup hs r)
  · split at hf
    · rename_i l hl
      cases hf
      refine .inr (.inr ⟨_, hx.str, ?_, ?_⟩)
      · rw [strLen]; exact szOf (okLen_le hl)
      · have e : cutS ⟨l.toArray⟩ lo hi = ⟨(cutL l lo hi).toArray⟩ := by
          unfold cutS cutL
          rw [strLen, sIx_eq, sIx_eq]
        rw [e]
        exact ans0 q (.str _)
    · cases hf
  · cases hf
end

/-! ### lists of arguments -/
inductive DVs (b : Bool) (K : PySem.W.Frag) (S : Ad) (H : Hp) : List V → List D → Prop
  | nil : DVs b K S H [] []
  | cons {v : V} {vs : List V} {d : D} {ds : List D} : DV b K S H v d → DVs b K S H vs ds → DVs b K S H (v :: vs) (d :: ds)
section
variable {b : Bool} {K : PySem.W.Frag} {S S' : Ad} {H H' : Hp}
theorem DVs.mono (x : Ex H H') (s : ∀ a, S a → S' a) {vs : List V} {ds : List D} (h : DVs b K S H vs ds) : DVs b K S' H' vs ds := by
  induction h with
  | nil => exact .nil
  | cons a r ih => exact .cons (a.mono x s) ih
theorem DVs.t {vs : List V} {ds : List D} (h : DVs b K S H vs ds) : DVs true K S H vs ds := by
  induction h with
  | nil => exact .nil
  | cons a r ih => exact .cons a.t ih
theorem DVs.f {vs : List V} {ds : List D} (h : DVs false K S H vs ds) : DRs K S H vs ds := by
  induction h with
  | nil => exact .nil
  | cons a r ih => exact .cons a.f ih
theorem DVs.one {vs : List V} {d : D} (h : DVs b K S H vs [d]) : ∃ v, vs = [v] ∧ DV b K S H v d := by
  cases h with
  | cons a r => cases r; exact ⟨_, rfl, a⟩
theorem DVs.two {vs : List V} {d e : D} (h : DVs b K S H vs [d, e]) : ∃ v u, vs = [v, u] ∧ DV b K S H v d ∧ DV b K S H u e := by
  cases h with
  | cons a r => cases r with
    | cons a2 r => cases r; exact ⟨_, _, rfl, a, a2⟩
theorem DVs.length {vs : List V} {ds : List D} (h : DVs b K S H vs ds) : vs.length = ds.length := by
  induction h with
  | nil => rfl
  | cons _ _ ih => exact congrArg (· + 1) ih
end
theorem ints_of {K : PySem.W.Frag} {S : Ad} {H : Hp} : ∀ {ds : List D} {vs : List V} {ns : List Int}, DRs K S H vs ds → intsOf ds = some ns → vs = ns.map V.int
  | [], _, _, .nil, h => by cases h; rfl
  | .int i :: ds, _, _, .cons a r, h => by
    unfold intsOf at h
    rw [Option.map_eq_some_iff] at h
    obtain ⟨ns, h, rfl⟩ := h
    cases a
    rw [ints_of r h]
    rfl
  | .non :: _, _, _, _, h => by cases h
  | .bl _ :: _, _, _, _, h => by cases h
  | .str _ :: _, _, _, _, h => by cases h
  | .tup _ :: _, _, _, _, h => by cases h
  | .lst _ :: _, _, _, _, h => by cases h
  | .dic _ _ :: _, _, _, _, h => by cases h
  | .st _ :: _, _, _, _, h => by cases h
  | .fn _ :: _, _, _, _, h => by cases h
  | .ro _ :: _, _, _, _, h => by cases h
theorem bls_of {K : PySem.W.Frag} {S : Ad} {H : Hp} : ∀ {ds : List D} {vs : List V} {ns : List Bool}, DRs K S H vs ds → bsOf ds = some ns → vs = ns.map V.bl
  | [], _, _, .nil, h => by cases h; rfl
  | .bl i :: ds, _, _, .cons a r, h => by
    unfold bsOf at h
    rw [Option.map_eq_some_iff] at h
    obtain ⟨ns, h, rfl⟩ := h
    cases a
    rw [bls_of r h]
    rfl
  | .non :: _, _, _, _, h => by cases h
  | .int _ :: _, _, _, _, h => by cases h
  | .str _ :: _, _, _, _, h => by cases h
  | .tup _ :: _, _, _, _, h => by cases h
  | .lst _ :: _, _, _, _, h => by cases h
  | .dic _ _ :: _, _, _, _, h => by cases h
  | .st _ :: _, _, _, _, h => by cases h
  | .fn _ :: _, _, _, _, h => by cases h
  | .ro _ :: _, _, _, _, h => by cases h
def toStr (s : List Nat) : Str := ⟨s.toArray⟩
theorem txts_of {K : PySem.W.Frag} {S : Ad} {H : Hp} : ∀ {ds : List D} {vs : List V} {ns : List (List Nat)}, DRs K S H vs ds → strsOf ds = some ns → vs = (ns.map toStr).map V.str
  | [], _, _, .nil, h => by cases h; rfl
  | .str i :: ds, _, _, .cons a r, h => by
    unfold strsOf at h
    rw [Option.map_eq_some_iff] at h
    obtain ⟨ns, h, rfl⟩ := h
    cases a
    rw [txts_of r h]
    rfl
  | .non :: _, _, _, _, h => by cases h
  | .int _ :: _, _, _, _, h => by cases h
  | .bl _ :: _, _, _, _, h => by cases h
  | .tup _ :: _, _, _, _, h => by cases h
  | .lst _ :: _, _, _, _, h => by cases h
  | .dic _ _ :: _, _, _, _, h => by cases h
  | .st _ :: _, _, _, _, h => by cases h
  | .fn _ :: _, _, _, _, h => by cases h
  | .ro _ :: _, _, _, _, h => by cases h
theorem most_ok : ∀ (ns : List Int) (n : Int), mostOf n ns ∈ n :: ns ∧ ∀ y ∈ n :: ns, y ≤ mostOf n ns
  | [], n => by simp [mostOf]
  | x :: r, n => by
    unfold mostOf
    have ih := most_ok r (if x > n then x else n)
    constructor
    · have := ih.1
      split at this <;> simp_all <;> grind
    · intro y hy
      have h2 := ih.2 _ List.mem_cons_self
      rcases List.mem_cons.mp hy with rfl | hy
      · split at h2 <;> split <;> simp_all <;> omega
      · rcases List.mem_cons.mp hy with rfl | hy
        · split at h2 <;> split <;> simp_all <;> omega
        · exact ih.2 y (List.mem_cons_of_mem _ hy)
theorem least_ok : ∀ (ns : List Int) (n : Int), leastOf n ns ∈ n :: ns ∧ ∀ y ∈ n :: ns, leastOf n ns ≤ y
  | [], n => by simp [leastOf]
  | x :: r, n => by
    unfold leastOf
    have ih := least_ok r (if x < n then x else n)
    constructor
    · have := ih.1
      split at this <;> simp_all <;> grind
    · intro y hy
      have h2 := ih.2 _ List.mem_cons_self
      rcases List.mem_cons.mp hy with rfl | hy
      · split at h2 <;> split <;> simp_all <;> omega
      · rcases List.mem_cons.mp hy with rfl | hy
        · split at h2 <;> split <;> simp_all <;> omega
        · exact ih.2 y (List.mem_cons_of_mem _ hy)

/-! ### built-ins -/
def biV : BI → Value
  | .len => .builtin "len"
  | .abs => .builtin "abs"
  | .int => .type "int"
  | .tuple => .type "tuple"
  | .list => .type "list"
  | .sum => .builtin "sum"
  | .max => .builtin "max"
  | .min => .builtin "min"
  | .all => .builtin "all"
  | .any => .builtin "any"
  | .sorted => .builtin "sorted"
def rB (K : PySem.W.Frag) (f : List D → Option D) : List V → Hp → VK → Prop := fun vs H Q => ∃ S ds d, DVs true K S H vs ds ∧ f ds = some d ∧ ∀ v H', Ex H H' → DR K (nw S H) H' v d → Q v H'
theorem each_of {K : PySem.W.Frag} {S : Ad} {H : Hp} : ∀ {ds : List D} {vs : List V} {us : List Value}, DRs K S H vs ds → Vals vs us → PySem.W.EachIs (fun (u : Value) (p : V × D) => RelV p.1 u ∧ DR K S H p.1 p.2) us (vs.zip ds)
  | _, _, _, .nil, .nil => .nil
  | _, _, _, .cons h r, .cons a b => .cons ⟨a, h⟩ (each_of r b)
theorem of_each {K : PySem.W.Frag} {S : Ad} {H : Hp} : ∀ {us : List Value} {ps : List (V × D)}, PySem.W.EachIs (fun (u : Value) (p : V × D) => RelV p.1 u ∧ DR K S H p.1 p.2) us ps → Vals (ps.map (·.1)) us ∧ DRs K S H (ps.map (·.1)) (ps.map (·.2))
  | _, _, .nil => ⟨.nil, .nil⟩
  | _, _, .cons h t => ⟨.cons h.1 (of_each t).1, .cons h.2 (of_each t).2⟩
theorem like_all {l : List D} (h : likeOk l = true) {x y : D} (hx : x ∈ l) (hy : y ∈ l) : PySem.W.alike (toP x) (toP y) = true := by
  unfold likeOk at h
  simp only [Bool.or_eq_true] at h
  rcases h with (h | h) | h
  · have a := List.all_eq_true.mp h x hx
    have b := List.all_eq_true.mp h y hy
    cases x <;> first | (cases a; done) | (cases y <;> first | (cases b; done) | rfl)
  · have a := List.all_eq_true.mp h x hx
    have b := List.all_eq_true.mp h y hy
    cases x <;> first | (cases a; done) | (cases y <;> first | (cases b; done) | rfl)
  · exact List.all_eq_true.mp (List.all_eq_true.mp h _ hx) _ hy
section
variable {X : Cx}
theorem cr_sort (hu : X.A.units + 65 < cLine) : CallR X (.builtin "sorted") (rB X.K sortB) := by
  intro pins s σ H xs us Q I rx h
  obtain ⟨S, ds, d, hx, hf, q⟩ := h
  unfold sortB at hf
  split at hf
  · rename_i l
    split at hf
    · rename_i hc
      cases hf
      simp only [Bool.and_eq_true, Bool.or_eq_true] at hc
      obtain ⟨⟨⟨h1, h2⟩, h3⟩, h4⟩ := hc
      obtain ⟨v, rfl, hv⟩ := hx.one
      obtain ⟨p, vs, rfl, hs, r⟩ := hv.lst
      obtain ⟨its, rv, hl, hz⟩ := I.list (.of hs)
      rw [Vals.ref1 rx]
      have e := each_of r rv
      have hlen : (vs.zip l).length = l.length := by rw [List.length_zip, r.length, Nat.min_self]
      have snd : (vs.zip l).map (·.2) = l := by
        rw [List.map_snd_zip]
        rw [r.length]
        exact Nat.le_refl _
      have mem : ∀ b ∈ vs.zip l, b.2 ∈ l := fun b hb => by
        have := List.mem_map_of_mem (f := (·.2)) hb
        rw [snd] at this
        exact this
      have fl : ∀ x ∈ l, flat 40 x = true := by
        have : ∀ (n : Nat) (l : List D), flats n l = true → ∀ x ∈ l, flat n x = true := fun n l => by
          induction l with
          | nil => intro _ x hx; simp at hx
          | cons a l ih =>
            intro h x hx
            obtain ⟨g1, g2⟩ := flats_tail h
            rcases List.mem_cons.mp hx with rfl | hx
            · exact g1
            · exact ih g2 x hx
        exact this 40 l h1
      have hal : PySem.W.AllAlike ((vs.zip l).map fun b => toP b.2) := by
        intro d hd d' hd'
        obtain ⟨b, hb, rfl⟩ := List.mem_map.mp hd
        obtain ⟨b', hb', rfl⟩ := List.mem_map.mp hd'
        exact like_all h3 (mem b hb) (mem b' hb')
      have hk : SrtE.Sortable2 ((vs.zip l).map fun b => toP b.2) := by
        rcases h4 with h4 | h4 | h4
        · refine .inl (.inl ?_)
          intro d hd
          obtain ⟨b, hb, rfl⟩ := List.mem_map.mp hd
          have := List.all_eq_true.mp h4 _ (mem b hb)
          cases hb2 : b.2 with
          | tup k => cases k with
            | nil => rw [hb2] at this; cases this
            | cons x r => exact ⟨toP x, toPs r, rfl⟩
          | _ => rw [hb2] at this; cases this
        · refine .inl (.inr ?_)
          intro d hd
          obtain ⟨b, hb, rfl⟩ := List.mem_map.mp hd
          have := List.all_eq_true.mp h4 _ (mem b hb)
          have hf := fl _ (mem b hb)
          cases hb2 : b.2 <;> rw [hb2] at this hf <;> first | (cases this; done) | (simp [flat] at hf; done) | exact ⟨by simp [toP], fun xs => by simp [toP]⟩
        · right
          have e2 : ((vs.zip l).map fun b => toP b.2) = l.map toP := by
            rw [← snd, List.map_map]
            rw [snd]
            rfl
          rw [e2]
          intro d hd
          obtain ⟨x, hx, rfl⟩ := List.mem_map.mp hd
          have := List.all_eq_true.mp h4 x hx
          cases x with
          | tup k => exact ⟨toPs k, rfl⟩
          | _ => cases this
      have er : PySem.W.EachIs (fun v b => ∃ as, PySem.Reads s.heap v (toP b.2) as) its (vs.zip l) := by
        have : ∀ {us : List Value} {ps : List (V × D)}, PySem.W.EachIs (fun (u : Value) (p : V × D) => RelV p.1 u ∧ DR X.K S H p.1 p.2) us ps → (∀ b ∈ ps, flat 40 b.2 = true) → PySem.W.EachIs (fun v b => ∃ as, PySem.Reads s.heap v (toP b.2) as) us ps := by
          intro us ps h
          induction h with
          | nil => intro _; exact .nil
          | cons a t ih => intro g; exact .cons (Dp.reads I _ _ _ (dp_of a.2 40 (g _ (by simp))) a.1) (ih fun b hb => g b (by simp [hb]))
        exact this (each_of (S := S) (r.mono ((Ex.refl H).le fun _ z => z)) rv) fun b hb => fl _ (mem b hb)
      have hb := fun b (hb : b ∈ vs.zip l) => depP b.2 40 (fl _ (mem b hb))
      have hol := okLen_le h2
      refine SrtE.sorted_data2 (enc := fun b : V × D => toP b.2) hl.isList e er hal hk (by rw [hlen]; exact szOf hol) (fun b hb' => by have := hb b hb'; show X.A.units + 2 + (toP b.2).depth < cLine; omega) fun out ho eo => ?_
      obtain ⟨o1, o2⟩ := of_each eo
      have em : (((vs.zip l).mergeSort (PySem.W.dataLe false fun b : V × D => toP b.2)).map (·.2)) = l.mergeSort leD := by
        have := List.map_mergeSort (r := PySem.W.dataLe false fun b : V × D => toP b.2) (s := leD) (f := fun b : V × D => b.2) (l := vs.zip l) (fun a _ b _ => rfl)
        rw [this, snd]
      rw [em] at o2
      obtain ⟨ep, he'⟩ := PyProof.Rows.sortedAll_at s.heap its out.toArray
      have hlen2 : (((vs.zip l).mergeSort (PySem.W.dataLe false fun b : V × D => toP b.2)).map (·.1)).length ≤ sizeLine := by
        rw [List.length_map, List.length_mergeSort, hlen]
        exact szOf hol
      have hp : H (s.heap.objs.size + 1) = none := I.hok.fresh (Nat.le_succ _)
      refine ⟨.ref _, upd H (s.heap.objs.size + 1) (.lst (((vs.zip l).mergeSort (PySem.W.dataLe false fun b : V × D => toP b.2)).map (·.1))), I.laid (t' := s.toks) (fun _ _ => PyProof.Rows.sortedAll_old) (Nat.le_succ _) ⟨hlen2, out, ep, o1, he'⟩, rfl, ansL q o2 hp⟩
    · cases hf
  · rename_i l
    split at hf
    · rename_i hc
      cases hf
      simp only [Bool.and_eq_true, Bool.or_eq_true] at hc
      obtain ⟨⟨⟨h1, h2⟩, h3⟩, h4⟩ := hc
      obtain ⟨v, rfl, hv⟩ := hx.one
      obtain ⟨p, vs, rfl, hs, r⟩ := hv.tup
      obtain ⟨its, rv, hl, hz⟩ := I.tuple (.of hs)
      rw [Vals.ref1 rx]
      have e := each_of r rv
      have hlen : (vs.zip l).length = l.length := by rw [List.length_zip, r.length, Nat.min_self]
      have snd : (vs.zip l).map (·.2) = l := by
        rw [List.map_snd_zip]
        rw [r.length]
        exact Nat.le_refl _
      have mem : ∀ b ∈ vs.zip l, b.2 ∈ l := fun b hb => by
        have := List.mem_map_of_mem (f := (·.2)) hb
        rw [snd] at this
        exact this
      have fl : ∀ x ∈ l, flat 40 x = true := by
        have : ∀ (n : Nat) (l : List D), flats n l = true → ∀ x ∈ l, flat n x = true := fun n l => by
          induction l with
          | nil => intro _ x hx; simp at hx
          | cons a l ih =>
            intro h x hx
            obtain ⟨g1, g2⟩ := flats_tail h
            rcases List.mem_cons.mp hx with rfl | hx
            · exact g1
            · exact ih g2 x hx
        exact this 40 l h1
      have hal : PySem.W.AllAlike ((vs.zip l).map fun b => toP b.2) := by
        intro d hd d' hd'
        obtain ⟨b, hb, rfl⟩ := List.mem_map.mp hd
        obtain ⟨b', hb', rfl⟩ := List.mem_map.mp hd'
        exact like_all h3 (mem b hb) (mem b' hb')
      have hk : SrtE.Sortable2 ((vs.zip l).map fun b => toP b.2) := by
        rcases h4 with h4 | h4 | h4
        · refine .inl (.inl ?_)
          intro d hd
          obtain ⟨b, hb, rfl⟩ := List.mem_map.mp hd
          have := List.all_eq_true.mp h4 _ (mem b hb)
          cases hb2 : b.2 with
          | tup k => cases k with
            | nil => rw [hb2] at this; cases this
            | cons x r => exact ⟨toP x, toPs r, rfl⟩
          | _ => rw [hb2] at this; cases this
        · refine .inl (.inr ?_)
          intro d hd
          obtain ⟨b, hb, rfl⟩ := List.mem_map.mp hd
          have := List.all_eq_true.mp h4 _ (mem b hb)
          have hf := fl _ (mem b hb)
          cases hb2 : b.2 <;> rw [hb2] at this hf <;> first | (cases this; done) | (simp [flat] at hf; done) | exact ⟨by simp [toP], fun xs => by simp [toP]⟩
        · right
          have e2 : ((vs.zip l).map fun b => toP b.2) = l.map toP := by
            rw [← snd, List.map_map]
            rw [snd]
            rfl
          rw [e2]
          intro d hd
          obtain ⟨x, hx, rfl⟩ := List.mem_map.mp hd
          have := List.all_eq_true.mp h4 x hx
          cases x with
          | tup k => exact ⟨toPs k, rfl⟩
          | _ => cases this
      have er : PySem.W.EachIs (fun v b => ∃ as, PySem.Reads s.heap v (toP b.2) as) its (vs.zip l) := by
        have : ∀ {us : List Value} {ps : List (V × D)}, PySem.W.EachIs (fun (u : Value) (p : V × D) => RelV p.1 u ∧ DR X.K S H p.1 p.2) us ps → (∀ b ∈ ps, flat 40 b.2 = true) → PySem.W.EachIs (fun v b => ∃ as, PySem.Reads s.heap v (toP b.2) as) us ps := by
          intro us ps h
          induction h with
          | nil => intro _; exact .nil
          | cons a t ih => intro g; exact .cons (Dp.reads I _ _ _ (dp_of a.2 40 (g _ (by simp))) a.1) (ih fun b hb => g b (by simp [hb]))
        exact this (each_of (S := S) (r.mono ((Ex.refl H).le fun _ z => z)) rv) fun b hb => fl _ (mem b hb)
      have hb := fun b (hb : b ∈ vs.zip l) => depP b.2 40 (fl _ (mem b hb))
      have hol := okLen_le h2
      refine SrtE.sorted_dataT2 (enc := fun b : V × D => toP b.2) (show s.heap.IsTuple p its.toArray from hl) e er hal hk (by rw [hlen]; exact szOf hol) (fun b hb' => by have := hb b hb'; show X.A.units + 2 + (toP b.2).depth < cLine; omega) fun out ho eo => ?_
      obtain ⟨o1, o2⟩ := of_each eo
      have em : (((vs.zip l).mergeSort (PySem.W.dataLe false fun b : V × D => toP b.2)).map (·.2)) = l.mergeSort leD := by
        have := List.map_mergeSort (r := PySem.W.dataLe false fun b : V × D => toP b.2) (s := leD) (f := fun b : V × D => b.2) (l := vs.zip l) (fun a _ b _ => rfl)
        rw [this, snd]
      rw [em] at o2
      obtain ⟨ep, he'⟩ := PyProof.Rows.sortedAll_at s.heap its out.toArray
      have hlen2 : (((vs.zip l).mergeSort (PySem.W.dataLe false fun b : V × D => toP b.2)).map (·.1)).length ≤ sizeLine := by
        rw [List.length_map, List.length_mergeSort, hlen]
        exact szOf hol
      have hp : H (s.heap.objs.size + 1) = none := I.hok.fresh (Nat.le_succ _)
      refine ⟨.ref _, upd H (s.heap.objs.size + 1) (.lst (((vs.zip l).mergeSort (PySem.W.dataLe false fun b : V × D => toP b.2)).map (·.1))), I.laid (t' := s.toks) (fun _ _ => PyProof.Rows.sortedAll_old) (Nat.le_succ _) ⟨hlen2, out, ep, o1, he'⟩, rfl, ansL q o2 hp⟩
    · cases hf
  · cases hf
end
theorem toPs_map : ∀ l : List D, toPs l = l.map toP
  | [] => rfl
  | _ :: r => congrArg (_ :: ·) (toPs_map r)
mutual
theorem toP_inj : ∀ (x y : D) (n m : Nat), flat n x = true → flat m y = true → toP x = toP y → x = y
  | .non, y, n, m, _, hy, e => by cases y <;> first | rfl | (simp [toP] at e; done) | (cases m <;> simp [flat] at hy)
  | .bl a, y, n, m, _, hy, e => by cases y <;> first | (simp [toP] at e; subst e; rfl) | (simp [toP] at e; done)
  | .int a, y, n, m, _, hy, e => by cases y <;> first | (simp [toP] at e; subst e; rfl) | (simp [toP] at e; done)
  | .str a, y, n, m, _, hy, e => by
    cases y <;> first | (simp [toP] at e; done) | skip
    simp only [toP, PyData.str.injEq, Str.mk.injEq] at e
    have := congrArg Array.toList e
    simp at this
    rw [this]
  | .tup a, y, n, m, hx, hy, e => by
    cases y <;> first | (simp [toP] at e; done) | skip
    cases n with
    | zero => simp [flat] at hx
    | succ n => cases m with
      | zero => simp [flat] at hy
      | succ m =>
        unfold flat at hx hy
        simp only [toP, PyData.tuple.injEq] at e
        rw [toPs_inj _ _ n m hx hy e]
  | .lst a, y, n, m, hx, hy, e => by
    cases y <;> first | (simp [toP] at e; done) | skip
    cases n with
    | zero => simp [flat] at hx
    | succ n => cases m with
      | zero => simp [flat] at hy
      | succ m =>
        unfold flat at hx hy
        simp only [toP, PyData.list.injEq] at e
        rw [toPs_inj _ _ n m hx hy e]
  | .dic _ _, _, n, _, hx, _, _ => by cases n <;> simp [flat] at hx
  | .st _, _, n, _, hx, _, _ => by cases n <;> simp [flat] at hx
  | .fn _, _, n, _, hx, _, _ => by cases n <;> simp [flat] at hx
  | .ro _, _, n, _, hx, _, _ => by cases n <;> simp [flat] at hx
theorem toPs_inj : ∀ (x y : List D) (n m : Nat), flats n x = true → flats m y = true → toPs x = toPs y → x = y
  | [], [], _, _, _, _, _ => rfl
  | [], _ :: _, _, _, _, _, e => by simp [toPs] at e
  | _ :: _, [], _, _, _, _, e => by simp [toPs] at e
  | x :: xs, y :: ys, n, m, hx, hy, e => by
    have h1 := flats_tail hx
    have h2 := flats_tail hy
    simp only [toPs, List.cons.injEq] at e
    rw [toP_inj x y n m h1.1 h2.1 e.1, toPs_inj xs ys n m h1.2 h2.2 e.2]
end
theorem minL_is : ∀ (xs : List D) (x : D), PySem.W.minD (toP x) (toPs xs) = toP (minL x xs)
  | [], _ => rfl
  | y :: ys, x => by
    have := minL_is ys (if ltP y x then y else x)
    unfold PySem.W.minD at this ⊢
    unfold minL at this ⊢
    rw [toPs, List.foldl_cons, List.foldl_cons, ← this]
    congr 1
    unfold ltP
    split <;> rfl
theorem maxL_is : ∀ (xs : List D) (x : D), PySem.W.maxD (toP x) (toPs xs) = toP (maxL x xs)
  | [], _ => rfl
  | y :: ys, x => by
    have := maxL_is ys (if ltP x y then y else x)
    unfold PySem.W.maxD at this ⊢
    unfold maxL at this ⊢
    rw [toPs, List.foldl_cons, List.foldl_cons, ← this]
    congr 1
    unfold ltP
    split <;> rfl
theorem minL_mem : ∀ (xs : List D) (x : D), minL x xs ∈ x :: xs
  | [], _ => by simp [minL]
  | y :: ys, x => by
    have := minL_mem ys (if ltP y x then y else x)
    have e : minL x (y :: ys) = minL (if ltP y x then y else x) ys := rfl
    rw [e]
    rcases List.mem_cons.mp this with h | h
    · rw [h]
      split <;> simp
    · simp [h]
theorem maxL_mem : ∀ (xs : List D) (x : D), maxL x xs ∈ x :: xs
  | [], _ => by simp [maxL]
  | y :: ys, x => by
    have := maxL_mem ys (if ltP x y then y else x)
    have e : maxL x (y :: ys) = maxL (if ltP x y then y else x) ys := rfl
    rw [e]
    rcases List.mem_cons.mp this with h | h
    · rw [h]
      split <;> simp
    · simp [h]
theorem flats_mem : ∀ (n : Nat) (l : List D), flats n l = true → ∀ x ∈ l, flat n x = true
  | n, [], _, x, hx => by simp at hx
  | n, a :: l, h, x, hx => by
    obtain ⟨g1, g2⟩ := flats_tail h
    rcases List.mem_cons.mp hx with rfl | hx
    · exact g1
    · exact flats_mem n l g2 x hx
theorem alike_all_of {l : List D} (h : likeOk l = true) (hn : l.all notNon = true) (hf : flats 40 l = true) : PySem.W.AlikeAll (toPs l) := by
  rw [toPs_map]
  refine ⟨fun x hx y hy => ?_, fun x hx => ?_⟩
  · obtain ⟨a, ha, rfl⟩ := List.mem_map.mp hx
    obtain ⟨b, hb, rfl⟩ := List.mem_map.mp hy
    exact like_all h ha hb
  · obtain ⟨a, ha, rfl⟩ := List.mem_map.mp hx
    have := List.all_eq_true.mp hn a ha
    have hf := flats_mem 40 l hf a ha
    cases a <;> first | (cases this; done) | (simp [flat] at hf; done) | (simp [toP])
section
variable {X : Cx}
theorem pick_of {pins : List (Addr × Obj)} {s : Shared} {σ : St} {H : Hp} {S : Ad} {l : List D} {m : D} {vs : List V} {its : List Value} {i : Nat} {v : Value} {h' : Heap} {tk : Nat} {bs : List Addr} {Q : VK} (I : Inv X pins σ H s) (r : DRs X.K S H vs l) (rv : Vals vs its) (hf : flats 40 l = true) (hlk : likeOk l = true) (hm : m ∈ l)
    (hi : its.toArray[i]? = some v) (hr : Reads h' v (toP m) bs) (hk : ∀ b o, s.heap.get? b = some o → h'.get? b = some o) (q : ∀ v H', Ex H H' → DR X.K (nw S H) H' v m → Q v H') : EP X pins σ Q v { s with heap := h', toks := tk } := by
  have hi' : its[i]? = some v := by simpa using hi
  have hlt : i < vs.length := by rw [rv.length]; exact (List.getElem?_eq_some_iff.mp hi').1
  obtain ⟨w, hw, rw'⟩ := rv.get (List.getElem?_eq_getElem hlt)
  rw [hi'] at hw
  cases hw
  obtain ⟨d, hd, rd⟩ := r.get' (List.getElem?_eq_getElem hlt)
  have hdl := List.mem_of_getElem? hd
  obtain ⟨as, hrd⟩ := Dp.reads I _ _ _ (dp_of rd 40 (flats_mem 40 l hf d hdl)) rw'
  have e := PySem.W.alike_unique _ _ _ _ _ (like_all hlk hdl hm) (PyProof.Rows.Reads.keeps hk hrd) hr
  have e2 := toP_inj d m 40 40 (flats_mem 40 l hf d hdl) (flats_mem 40 l hf m hm) e
  subst e2
  exact ⟨_, H, I.kept (h' := h') (t' := tk) hk, rw', ans0 q rd⟩
theorem cr_minL (hc : X.calm = true) (hu : X.A.units + 65 < cLine) : CallR X (.builtin "min") (rB X.K minB) := by
  intro pins s σ H xs us Q I rx h
  obtain ⟨S, ds, d, hx, hf, q⟩ := h
  unfold minB at hf
  split at hf
  · rename_i x l
    split at hf
    · rename_i hcd
      cases hf
      simp only [Bool.and_eq_true] at hcd
      obtain ⟨⟨h1, h2⟩, h3⟩ := hcd
      obtain ⟨v, rfl, hv⟩ := hx.one
      obtain ⟨p, vs, rfl, hs, r⟩ := hv.lst
      obtain ⟨its, rv, hl, hz⟩ := I.list (.of hs)
      rw [Vals.ref1 rx]
      obtain ⟨as, hra⟩ := Dp.readsAll I (toPs (x :: l)) _ _ (dps_of r 40 h1) rv
      refine PySem.W.min_list_data (I.ok.hd hc) hl.isList hra (alike_all_of h2 h3 h1) (by have := depPs (x :: l) 40 h1; show X.A.units + 1 + PyData.depthAll (toPs (x :: l)) < cLine; omega) fun i v h' tk bs hi hr hk => ?_
      rw [minL_is] at hr
      exact pick_of I r rv h1 h2 (minL_mem l x) hi hr hk q
    · cases hf
  · rename_i x l
    split at hf
    · rename_i hcd
      cases hf
      simp only [Bool.and_eq_true] at hcd
      obtain ⟨⟨h1, h2⟩, h3⟩ := hcd
      obtain ⟨v, rfl, hv⟩ := hx.one
      obtain ⟨p, vs, rfl, hs, r⟩ := hv.tup
      obtain ⟨its, rv, hl, _⟩ := I.tuple (.of hs)
      rw [Vals.ref1 rx]
      obtain ⟨as, hra⟩ := Dp.readsAll I (toPs (x :: l)) _ _ (dps_of r 40 h1) rv
      refine PySem.W.min_tuple_data (I.ok.hd hc) (show s.heap.IsTuple p its.toArray from hl) hra (alike_all_of h2 h3 h1) (by have := depPs (x :: l) 40 h1; show X.A.units + 1 + PyData.depthAll (toPs (x :: l)) < cLine; omega) fun i v h' tk bs hi hr hk => ?_
      rw [minL_is] at hr
      exact pick_of I r rv h1 h2 (minL_mem l x) hi hr hk q
    · cases hf
  · rename_i x y
    split at hf
    · rename_i h1
      cases hf
      obtain ⟨v, u, rfl, hv, hu2⟩ := hx.two
      rw [hv.str, hu2.str] at rx
      obtain ⟨a, b, rfl, ra, rb⟩ := vals2 rx
      obtain ⟨t1, rfl⟩ := ra
      obtain ⟨t2, rfl⟩ := rb
      refine PySem.W.min_two_data (x := toP (.str x)) (y := toP (.str y)) (I.ok.hd hc) (.cons (.str _ _) (.cons (.str _ _) .nil)) (alike_all_of (l := [.str x, .str y]) rfl rfl h1) (by have := depPs [.str x, .str y] 40 h1; show X.A.units + 1 + PyData.depthAll (toPs [.str x, .str y]) < cLine; omega) fun h' tk hk => ?_
      by_cases hlt : ltP (.str y) (.str x) = true
      · rw [if_pos hlt] at q
        rw [if_pos (show PySem.W.dataLt _ _ = true from hlt)]
        exact ⟨.str ⟨y.toArray⟩, H, I.kept (h' := h') (t' := tk) hk, ⟨t2, rfl⟩, ans0 q (.str y)⟩
      · rw [if_neg hlt] at q
        rw [if_neg (show ¬ PySem.W.dataLt _ _ = true from hlt)]
        exact ⟨.str ⟨x.toArray⟩, H, I.kept (h' := h') (t' := tk) hk, ⟨t1, rfl⟩, ans0 q (.str x)⟩
    · cases hf
  · cases hf
theorem cr_maxL (hc : X.calm = true) (hu : X.A.units + 65 < cLine) : CallR X (.builtin "max") (rB X.K maxB) := by
  intro pins s σ H xs us Q I rx h
  obtain ⟨S, ds, d, hx, hf, q⟩ := h
  unfold maxB at hf
  split at hf
  · rename_i x l
    split at hf
    · rename_i hcd
      cases hf
      simp only [Bool.and_eq_true] at hcd
      obtain ⟨⟨h1, h2⟩, h3⟩ := hcd
      obtain ⟨v, rfl, hv⟩ := hx.one
      obtain ⟨p, vs, rfl, hs, r⟩ := hv.lst
      obtain ⟨its, rv, hl, hz⟩ := I.list (.of hs)
      rw [Vals.ref1 rx]
      obtain ⟨as, hra⟩ := Dp.readsAll I (toPs (x :: l)) _ _ (dps_of r 40 h1) rv
      refine PySem.W.max_list_data (I.ok.hd hc) hl.isList hra (alike_all_of h2 h3 h1) (by have := depPs (x :: l) 40 h1; show X.A.units + 1 + PyData.depthAll (toPs (x :: l)) < cLine; omega) fun i v h' tk bs hi hr hk => ?_
      rw [maxL_is] at hr
      exact pick_of I r rv h1 h2 (maxL_mem l x) hi hr hk q
    · cases hf
  · rename_i x l
    split at hf
    · rename_i hcd
      cases hf
      simp only [Bool.and_eq_true] at hcd
      obtain ⟨⟨h1, h2⟩, h3⟩ := hcd
      obtain ⟨v, rfl, hv⟩ := hx.one
      obtain ⟨p, vs, rfl, hs, r⟩ := hv.tup
      obtain ⟨its, rv, hl, _⟩ := I.tuple (.of hs)
      rw [Vals.ref1 rx]
      obtain ⟨as, hra⟩ := Dp.readsAll I (toPs (x :: l)) _ _ (dps_of r 40 h1) rv
      refine PySem.W.max_tuple_data (I.ok.hd hc) (show s.heap.IsTuple p its.toArray from hl) hra (alike_all_of h2 h3 h1) (by have := depPs (x :: l) 40 h1; show X.A.units + 1 + PyData.depthAll (toPs (x :: l)) < cLine; omega) fun i v h' tk bs hi hr hk => ?_
      rw [maxL_is] at hr
      exact pick_of I r rv h1 h2 (maxL_mem l x) hi hr hk q
    · cases hf
  · rename_i x y
    split at hf
    · rename_i h1
      cases hf
      obtain ⟨v, u, rfl, hv, hu2⟩ := hx.two
      rw [hv.str, hu2.str] at rx
      obtain ⟨a, b, rfl, ra, rb⟩ := vals2 rx
      obtain ⟨t1, rfl⟩ := ra
      obtain ⟨t2, rfl⟩ := rb
      refine PySem.W.max_two_data (x := toP (.str x)) (y := toP (.str y)) (I.ok.hd hc) (.cons (.str _ _) (.cons (.str _ _) .nil)) (alike_all_of (l := [.str x, .str y]) rfl rfl h1) (by have := depPs [.str x, .str y] 40 h1; show X.A.units + 1 + PyData.depthAll (toPs [.str x, .str y]) < cLine; omega) fun h' tk hk => ?_
      by_cases hlt : ltP (.str x) (.str y) = true
      · rw [if_pos hlt] at q
        rw [if_pos (show PySem.W.dataLt _ _ = true from hlt)]
        exact ⟨.str ⟨y.toArray⟩, H, I.kept (h' := h') (t' := tk) hk, ⟨t2, rfl⟩, ans0 q (.str y)⟩
      · rw [if_neg hlt] at q
        rw [if_neg (show ¬ PySem.W.dataLt _ _ = true from hlt)]
        exact ⟨.str ⟨x.toArray⟩, H, I.kept (h' := h') (t' := tk) hk, ⟨t1, rfl⟩, ans0 q (.str x)⟩
    · cases hf
  · cases hf
/-- what max (mx), min with default= asks -/
def rMD (K : PySem.W.Frag) (mx : Bool) : List V → List V → Hp → VK → Prop := fun xs zs H Q => ∃ S l df d, DVs true K S H xs [l] ∧ DVs false K S H zs [df] ∧ mmF mx l df = some d ∧ ∀ v H', Ex H H' → DR K (nw S H) H' v d → Q v H'
theorem kept_at {pins : List (Addr × Obj)} {s : Shared} {σ : St} {H : Hp} {S : Ad} {v : V} {w : Value} {d : D} {h' : Heap} {tk : Nat} {Q : VK} (I : Inv X pins σ H s) (r : RelV v w) (rd : DR X.K S H v d) (hk : ∀ b o, s.heap.get? b = some o → h'.get? b = some o) (q : ∀ v H', Ex H H' → DR X.K (nw S H) H' v d → Q v H') : EP X pins σ Q w { s with heap := h', toks := tk } :=
  ⟨_, H, I.kept (h' := h') (t' := tk) hk, r, ans0 q rd⟩
theorem cr_minD (hc : X.calm = true) (hu : X.A.units + 65 < cLine) : CallRK X (.builtin "min") ["default"] (rMD X.K false) := by
  intro pins s σ H xs zs us ws Q I rx rz h
  obtain ⟨S, l, df, d, hx, hz, hf, q⟩ := h
  obtain ⟨v, rfl, hv⟩ := hx.one
  obtain ⟨z, rfl, hdf⟩ := hz.one
  cases rz with
  | cons rz0 rz1 =>
    cases rz1
    unfold mmF at hf
    split at hf
    · cases hf
      obtain ⟨p, vs, rfl, hs, r⟩ := hv.lst
      obtain ⟨its, rv, hl, _⟩ := I.list (.of hs)
      rw [Vals.ref1 rx]
      obtain ⟨as, hra⟩ := Dp.readsAll I (toPs []) _ _ (dps_of r 40 rfl) rv
      exact PySem.W.min_list_default (I.ok.hd hc) hl.isList hra (alike_all_of (l := []) rfl rfl rfl) (by have := depPs [] 40 rfl; show X.A.units + 1 + PyData.depthAll (toPs []) < cLine; omega)
        (fun _ h' tk hk => kept_at I rz0 hdf.f hk q) fun y ys i v h' tk bs e => by cases e
    · cases hf
      obtain ⟨p, vs, rfl, hs, r⟩ := hv.tup
      obtain ⟨its, rv, hl, _⟩ := I.tuple (.of hs)
      rw [Vals.ref1 rx]
      obtain ⟨as, hra⟩ := Dp.readsAll I (toPs []) _ _ (dps_of r 40 rfl) rv
      exact PySem.W.min_tuple_default (I.ok.hd hc) (show s.heap.IsTuple p its.toArray from hl) hra (alike_all_of (l := []) rfl rfl rfl) (by have := depPs [] 40 rfl; show X.A.units + 1 + PyData.depthAll (toPs []) < cLine; omega)
        (fun _ h' tk hk => kept_at I rz0 hdf.f hk q) fun y ys i v h' tk bs e => by cases e
    · rename_i x l
      simp only [Bool.false_eq_true, if_false] at hf
      unfold minB at hf
      simp only at hf
      split at hf
      · rename_i hcd
        cases hf
        simp only [Bool.and_eq_true] at hcd
        obtain ⟨⟨h1, h2⟩, h3⟩ := hcd
        obtain ⟨p, vs, rfl, hs, r⟩ := hv.lst
        obtain ⟨its, rv, hl, _⟩ := I.list (.of hs)
        rw [Vals.ref1 rx]
        obtain ⟨as, hra⟩ := Dp.readsAll I (toPs (x :: l)) _ _ (dps_of r 40 h1) rv
        refine PySem.W.min_list_default (I.ok.hd hc) hl.isList hra (alike_all_of h2 h3 h1) (by have := depPs (x :: l) 40 h1; show X.A.units + 1 + PyData.depthAll (toPs (x :: l)) < cLine; omega)
          (fun e => by cases e) fun y ys i v h' tk bs e hi hr hk => ?_
        cases e
        rw [minL_is] at hr
        exact pick_of I r rv h1 h2 (minL_mem l x) hi hr hk q
      · cases hf
    · rename_i x l
      simp only [Bool.false_eq_true, if_false] at hf
      unfold minB at hf
      simp only at hf
      split at hf
      · rename_i hcd
        cases hf
        simp only [Bool.and_eq_true] at hcd
        obtain ⟨⟨h1, h2⟩, h3⟩ := hcd
        obtain ⟨p, vs, rfl, hs, r⟩ := hv.tup
        obtain ⟨its, rv, hl, _⟩ := I.tuple (.of hs)
        rw [Vals.ref1 rx]
        obtain ⟨as, hra⟩ := Dp.readsAll I (toPs (x :: l)) _ _ (dps_of r 40 h1) rv
        refine PySem.W.min_tuple_default (I.ok.hd hc) (show s.heap.IsTuple p its.toArray from hl) hra (alike_all_of h2 h3 h1) (by have := depPs (x :: l) 40 h1; show X.A.units + 1 + PyData.depthAll (toPs (x :: l)) < cLine; omega)
          (fun e => by cases e) fun y ys i v h' tk bs e hi hr hk => ?_
        cases e
        rw [minL_is] at hr
        exact pick_of I r rv h1 h2 (minL_mem l x) hi hr hk q
      · cases hf
    · cases hf
theorem cr_maxD (hc : X.calm = true) (hu : X.A.units + 65 < cLine) : CallRK X (.builtin "max") ["default"] (rMD X.K true) := by
  intro pins s σ H xs zs us ws Q I rx rz h
  obtain ⟨S, l, df, d, hx, hz, hf, q⟩ := h
  obtain ⟨v, rfl, hv⟩ := hx.one
  obtain ⟨z, rfl, hdf⟩ := hz.one
  cases rz with
  | cons rz0 rz1 =>
    cases rz1
    unfold mmF at hf
    split at hf
    · cases hf
      obtain ⟨p, vs, rfl, hs, r⟩ := hv.lst
      obtain ⟨its, rv, hl, _⟩ := I.list (.of hs)
      rw [Vals.ref1 rx]
      obtain ⟨as, hra⟩ := Dp.readsAll I (toPs []) _ _ (dps_of r 40 rfl) rv
      exact PySem.W.max_list_default (I.ok.hd hc) hl.isList hra (alike_all_of (l := []) rfl rfl rfl) (by have := depPs [] 40 rfl; show X.A.units + 1 + PyData.depthAll (toPs []) < cLine; omega)
        (fun _ h' tk hk => kept_at I rz0 hdf.f hk q) fun y ys i v h' tk bs e => by cases e
    · cases hf
      obtain ⟨p, vs, rfl, hs, r⟩ := hv.tup
      obtain ⟨its, rv, hl, _⟩ := I.tuple (.of hs)
      rw [Vals.ref1 rx]
      obtain ⟨as, hra⟩ := Dp.readsAll I (toPs []) _ _ (dps_of r 40 rfl) rv
      exact PySem.W.max_tuple_default (I.ok.hd hc) (show s.heap.IsTuple p its.toArray from hl) hra (alike_all_of (l := []) rfl rfl rfl) (by have := depPs [] 40 rfl; show X.A.units + 1 + PyData.depthAll (toPs []) < cLine; omega)
        (fun _ h' tk hk => kept_at I rz0 hdf.f hk q) fun y ys i v h' tk bs e => by cases e
    · rename_i x l
      simp only [if_true] at hf
      unfold maxB at hf
      simp only at hf
      split at hf
      · rename_i hcd
        cases hf
        simp only [Bool.and_eq_true] at hcd
        obtain ⟨⟨h1, h2⟩, h3⟩ := hcd
        obtain ⟨p, vs, rfl, hs, r⟩ := hv.lst
        obtain ⟨its, rv, hl, _⟩ := I.list (.of hs)
        rw [Vals.ref1 rx]
        obtain ⟨as, hra⟩ := Dp.readsAll I (toPs (x :: l)) _ _ (dps_of r 40 h1) rv
        refine PySem.W.max_list_default (I.ok.hd hc) hl.isList hra (alike_all_of h2 h3 h1) (by have := depPs (x :: l) 40 h1; show X.A.units + 1 + PyData.depthAll (toPs (x :: l)) < cLine; omega)
          (fun e => by cases e) fun y ys i v h' tk bs e hi hr hk => ?_
        cases e
        rw [maxL_is] at hr
        exact pick_of I r rv h1 h2 (maxL_mem l x) hi hr hk q
      · cases hf
    · rename_i x l
      simp only [if_true] at hf
      unfold maxB at hf
      simp only at hf
      split at hf
      · rename_i hcd
        cases hf
        simp only [Bool.and_eq_true] at hcd
        obtain ⟨⟨h1, h2⟩, h3⟩ := hcd
        obtain ⟨p, vs, rfl, hs, r⟩ := hv.tup
        obtain ⟨its, rv, hl, _⟩ := I.tuple (.of hs)
        rw [Vals.ref1 rx]
        obtain ⟨as, hra⟩ := Dp.readsAll I (toPs (x :: l)) _ _ (dps_of r 40 h1) rv
        refine PySem.W.max_tuple_default (I.ok.hd hc) (show s.heap.IsTuple p its.toArray from hl) hra (alike_all_of h2 h3 h1) (by have := depPs (x :: l) 40 h1; show X.A.units + 1 + PyData.depthAll (toPs (x :: l)) < cLine; omega)
          (fun e => by cases e) fun y ys i v h' tk bs e hi hr hk => ?_
        cases e
        rw [maxL_is] at hr
        exact pick_of I r rv h1 h2 (maxL_mem l x) hi hr hk q
      · cases hf
    · cases hf
end
section
variable {X : Cx}
theorem call_imp {f : Value} {r r' : List V → Hp → VK → Prop} (h : CallR X f r) (g : ∀ xs H Q, r' xs H Q → r xs H Q) : CallR X f r' := fun pins s σ H xs us Q I rx q => h pins s σ H xs us Q I rx (g xs H Q q)
theorem cr_sumT (hc : X.calm = true) : CallR X (.builtin "sum") (fun vs H Q => ∃ (a : Addr) (ns : List Int), vs = [V.ref a] ∧ H a = some (.tup (ns.map V.int)) ∧ Q (.int ns.sum) H) := by
  intro pins s σ H vs us Q I r h
  obtain ⟨a, ns, rfl, hs, q⟩ := h
  obtain ⟨its, rv, hl, _⟩ := I.tuple (.of hs)
  rw [Vals.ref1 r]
  exact H4.sum_rawT (I.ok.hd hc) (show s.heap.IsTuple a its.toArray from hl) rv.ints fun h' tk t' hk => ⟨.int _, H, I.kept hk, ⟨_, rfl⟩, q⟩
theorem call_lenD : CallR X (.builtin "len") (fun xs H Q => ∃ (a : Addr) (kvs : List (Key × V)), xs = [.ref a] ∧ Rd H a (.dK kvs) ∧ Q (.int kvs.length) H) := by
  intro pins s σ H xs us Q I r q
  obtain ⟨a, kvs, ex, hd, q⟩ := q
  subst ex
  obtain ⟨u, eu, rx⟩ := vals1 r
  subst eu
  cases rx
  exact d_len I hd fun t s' I' => ⟨.int kvs.length, H, I', ⟨t, rfl⟩, q⟩
theorem cr_listS (hc : X.calm = true) : CallR X (.type "list") (fun xs H Q => ∃ s : List Nat, xs = [V.str ⟨s.toArray⟩] ∧ s.length ≤ sizeLine ∧ ∀ l, H l = none → Q (.ref l) (upd H l (.lst (s.map fun c => V.str ⟨[c].toArray⟩)))) := by
  intro pins s σ H xs us Q I r h
  obtain ⟨x, rfl, hz, q⟩ := h
  obtain ⟨u, rfl, rx⟩ := vals1 r
  obtain ⟨t, rfl⟩ := rx
  refine PySem.call_list_str (I.ok.hd hc) ⟨x.toArray⟩ t (fun h' tk acc' c' kp e it => ?_) (by show x.toArray.size ≤ sizeLine; rw [List.size_toArray]; exact hz)
  have hl : acc'.toList.length = x.length := by
    have := it.1
    rw [Array.length_toList, this]
    show x.toArray.size = _
    rw [List.size_toArray]
  have rv : Vals (x.map fun c => V.str ⟨[c].toArray⟩) acc'.toList := by
    refine vals_of_at (by rw [List.length_map, hl]) fun j a b h1 h2 => ?_
    obtain ⟨c, t2, hc2, rfl⟩ := it.2 j b (by rw [← Array.getElem?_toList]; exact h2)
    have hc3 : x[j]? = some c := by
      have : x.toArray[j]? = some c := hc2
      simpa using this
    rw [List.getElem?_map, hc3] at h1
    cases h1
    exact ⟨t2, rfl⟩
  exact ⟨.ref s.heap.objs.size, _, I.laid (t' := tk) (o := .lst (x.map fun c => V.str ⟨[c].toArray⟩)) kp (Nat.le_refl _) (show ObjOk X.prog X.w _ h' _ (.lst (x.map fun c => V.str ⟨[c].toArray⟩)) from ⟨by rw [List.length_map]; exact hz, acc'.toList, c', rv, by rw [Array.toArray_toList]; exact e⟩), rfl, q _ (I.hok.fresh (Nat.le_refl _))⟩
theorem chars_dr {K : PySem.W.Frag} {S : Ad} {H : Hp} : ∀ s : List Nat, DRs K S H (s.map fun c => V.str ⟨[c].toArray⟩) (s.map fun c => D.str [c])
  | [] => .nil
  | _ :: r => .cons (.str _) (chars_dr r)
theorem bi_ok (hc : X.calm = true) (hu : X.A.units + 65 < cLine) (f : BI) : CallR X (biV f) (rB X.K (biD f)) := by
  cases f with
  | len =>
    refine call_imp ((call_len_seq.or call_len_str).or call_lenD) ?_
    rintro xs H Q ⟨S, ds, d, hx, hf, q⟩
    unfold biD at hf
    split at hf <;> try (exact (BI.noConfusion (by assumption)))
    · cases hf
      obtain ⟨v, rfl, h⟩ := hx.one
      obtain ⟨p, vs, rfl, hs, r⟩ := h.lst
      rw [← r.length] at q
      exact .inl (.inl ⟨p, vs, rfl, .inl (.of hs), ans0 q (.int _)⟩)
    · cases hf
      obtain ⟨v, rfl, h⟩ := hx.one
      obtain ⟨p, vs, rfl, hs, r⟩ := h.tup
      rw [← r.length] at q
      exact .inl (.inl ⟨p, vs, rfl, .inr (.of hs), ans0 q (.int _)⟩)
    · cases hf
      obtain ⟨v, rfl, h⟩ := hx.one
      obtain ⟨p, vs, rfl, hs, r⟩ := h.ro
      rw [← r.length] at q
      exact .inl (.inl ⟨p, vs, rfl, .inl hs, ans0 q (.int _)⟩)
    · rename_i t l _
      cases t with
      | true => cases hf
      | false =>
        cases hf
        obtain ⟨v, rfl, h⟩ := hx.one
        obtain ⟨p, u, vs, rfl, hs, ⟨kvs, rfl, h1, rfl⟩, r⟩ := h.dic
        have el : l.length = kvs.length := by have := congrArg List.length h1; simpa using this
        rw [el] at q
        exact .inr ⟨p, kvs, rfl, hs, ans0 q (.int _)⟩
    · split at hf
      · rename_i hl
        cases hf
        obtain ⟨v, rfl, h⟩ := hx.one
        refine .inl (.inr ⟨_, by rw [h.str], ?_, ?_⟩)
        · rw [strLen]; exact szOf (okLen_le hl)
        · rw [strLen]; exact ans0 q (.int _)
      · cases hf
    · cases hf
  | abs =>
    refine call_imp call_abs ?_
    rintro xs H Q ⟨S, ds, d, hx, hf, q⟩
    unfold biD at hf
    split at hf <;> try (exact (BI.noConfusion (by assumption)))
    · cases hf
      obtain ⟨v, rfl, h⟩ := hx.one
      exact ⟨_, by rw [h.int], ans0 q (.int _)⟩
    · cases hf
  | int =>
    refine call_imp call_int1 ?_
    rintro xs H Q ⟨S, ds, d, hx, hf, q⟩
    unfold biD at hf
    split at hf <;> try (exact (BI.noConfusion (by assumption)))
    · cases hf
      obtain ⟨v, rfl, h⟩ := hx.one
      exact .inl ⟨_, by rw [h.int], ans0 q (.int _)⟩
    · cases hf
  | tuple =>
    refine call_imp call_tuple_of ?_
    rintro xs H Q ⟨S, ds, d, hx, hf, q⟩
    unfold biD at hf
    split at hf <;> try (exact (BI.noConfusion (by assumption)))
    · cases hf
      obtain ⟨v, rfl, h⟩ := hx.one
      obtain ⟨p, vs, rfl, hs, r⟩ := h.lst
      exact ⟨p, vs, rfl, .inl ⟨.of hs, fun p hp => ansT q r hp⟩⟩
    · cases hf
      obtain ⟨v, rfl, h⟩ := hx.one
      obtain ⟨p, vs, rfl, hs, r⟩ := h.tup
      exact ⟨p, vs, rfl, .inr ⟨.of hs, ans0 q (.tup hs r)⟩⟩
    · cases hf
  | list =>
    refine call_imp (CallR.or call_list_of (cr_listS hc)) ?_
    rintro xs H Q ⟨S, ds, d, hx, hf, q⟩
    unfold biD at hf
    split at hf <;> try (exact (BI.noConfusion (by assumption)))
    · cases hf
      obtain ⟨v, rfl, h⟩ := hx.one
      obtain ⟨p, vs, rfl, hs, r⟩ := h.lst
      exact .inl ⟨p, vs, rfl, .inl (.of hs), fun p hp => ansL q r hp⟩
    · cases hf
      obtain ⟨v, rfl, h⟩ := hx.one
      obtain ⟨p, vs, rfl, hs, r⟩ := h.tup
      exact .inl ⟨p, vs, rfl, .inr (.of hs), fun p hp => ansL q r hp⟩
    · split at hf
      · rename_i hok
        cases hf
        obtain ⟨v, rfl, h⟩ := hx.one
        have hv := h.str
        subst hv
        exact .inr ⟨_, rfl, szOf (okLen_le hok), fun p hp => ansL q (chars_dr _) hp⟩
      · cases hf
    · cases hf
  | sum =>
    refine call_imp ((cr_sum hc).or (cr_sumT hc)) ?_
    rintro xs H Q ⟨S, ds, d, hx, hf, q⟩
    unfold biD at hf
    split at hf <;> try (exact (BI.noConfusion (by assumption)))
    · obtain ⟨v, rfl, h⟩ := hx.one
      obtain ⟨p, vs, rfl, hs, r⟩ := h.lst
      rw [Option.map_eq_some_iff] at hf
      obtain ⟨ns, hf, rfl⟩ := hf
      have e := ints_of r hf
      subst e
      exact .inl ⟨p, ns, rfl, .of hs, ans0 q (.int _)⟩
    · obtain ⟨v, rfl, h⟩ := hx.one
      obtain ⟨p, vs, rfl, hs, r⟩ := h.tup
      rw [Option.map_eq_some_iff] at hf
      obtain ⟨ns, hf, rfl⟩ := hf
      have e := ints_of r hf
      subst e
      exact .inr ⟨p, ns, rfl, hs, ans0 q (.int _)⟩
    · cases hf
  | max =>
    refine call_imp (((cr_max hc).or (call_max2 hc)).or (cr_maxL hc hu)) ?_
    rintro xs H Q ⟨S, ds, d, hx, hf, q⟩
    unfold biD at hf
    split at hf <;> try (exact (BI.noConfusion (by assumption)))
    · obtain ⟨v, rfl, h⟩ := hx.one
      obtain ⟨p, vs, rfl, hs, r⟩ := h.lst
      split at hf
      · rename_i n ns hi
        cases hf
        have e := ints_of r hi
        subst e
        refine .inl (.inl ⟨p, n :: ns, rfl, .of hs, by simp, fun m h1 h2 => ?_⟩)
        have hm := most_ok ns n
        have : m = mostOf n ns := Int.le_antisymm (hm.2 m h1) (h2 _ hm.1)
        subst this
        exact ans0 q (.int _)
      · exact .inr ⟨S, _, d, hx, hf, q⟩
    · exact .inr ⟨S, _, d, hx, hf, q⟩
    · cases hf
      obtain ⟨v, u, rfl, h, h2⟩ := hx.two
      exact .inl (.inr ⟨_, _, by rw [h.int, h2.int], ans0 q (.int _)⟩)
    · exact .inr ⟨S, _, d, hx, hf, q⟩
    · cases hf
  | min =>
    refine call_imp (((cr_min hc).or (call_min2 hc)).or (cr_minL hc hu)) ?_
    rintro xs H Q ⟨S, ds, d, hx, hf, q⟩
    unfold biD at hf
    split at hf <;> try (exact (BI.noConfusion (by assumption)))
    · obtain ⟨v, rfl, h⟩ := hx.one
      obtain ⟨p, vs, rfl, hs, r⟩ := h.lst
      split at hf
      · rename_i n ns hi
        cases hf
        have e := ints_of r hi
        subst e
        refine .inl (.inl ⟨p, n :: ns, rfl, .of hs, by simp, fun m h1 h2 => ?_⟩)
        have hm := least_ok ns n
        have : m = leastOf n ns := Int.le_antisymm (h2 _ hm.1) (hm.2 m h1)
        subst this
        exact ans0 q (.int _)
      · exact .inr ⟨S, _, d, hx, hf, q⟩
    · exact .inr ⟨S, _, d, hx, hf, q⟩
    · cases hf
      obtain ⟨v, u, rfl, h, h2⟩ := hx.two
      exact .inl (.inr ⟨_, _, by rw [h.int, h2.int], ans0 q (.int _)⟩)
    · exact .inr ⟨S, _, d, hx, hf, q⟩
    · cases hf
  | all =>
    refine call_imp (cr_all hc) ?_
    rintro xs H Q ⟨S, ds, d, hx, hf, q⟩
    unfold biD at hf
    split at hf <;> try (exact (BI.noConfusion (by assumption)))
    · obtain ⟨v, rfl, h⟩ := hx.one
      obtain ⟨p, vs, rfl, hs, r⟩ := h.lst
      rw [Option.map_eq_some_iff] at hf
      obtain ⟨ns, hf, rfl⟩ := hf
      have e := bls_of r hf
      subst e
      exact ⟨p, ns, rfl, .of hs, ans0 q (.bl _)⟩
    · cases hf
  | any =>
    refine call_imp (cr_any hc) ?_
    rintro xs H Q ⟨S, ds, d, hx, hf, q⟩
    unfold biD at hf
    split at hf <;> try (exact (BI.noConfusion (by assumption)))
    · obtain ⟨v, rfl, h⟩ := hx.one
      obtain ⟨p, vs, rfl, hs, r⟩ := h.lst
      rw [Option.map_eq_some_iff] at hf
      obtain ⟨ns, hf, rfl⟩ := hf
      have e := bls_of r hf
      subst e
      exact ⟨p, ns, rfl, .of hs, ans0 q (.bl _)⟩
    · cases hf
  | sorted => exact cr_sort hu
end
end Tl

/-! T05: when an expression of the small language is an expression of the program, and what then holds. -/
namespace Tl
open PySem L2

variable [Tabs]
/-! ### slots -/
structure SR (K : PySem.W.Frag) (S : Ad) (H : Hp) (σ : L2.St) (e : En) : Prop where
  tab : HasT H
  len : σ.length = e.length
  at_ : ∀ i, match eget e i with
    | .no => True
    | .sh d => ∃ v, σ[i]? = some (some v) ∧ DR K S H v d
    | .ow d => ∃ a, σ[i]? = some (some (.ref a)) ∧ ¬ S a ∧ OW K S H a d
  sep : ∀ i j d d' a, eget e i = .ow d → eget e j = .ow d' → σ[i]? = some (some (.ref a)) → σ[j]? = some (some (.ref a)) → i = j
theorem eget_lt : ∀ {e : En} {i : Nat}, eget e i ≠ .no → i < e.length
  | [], _, h => absurd rfl h
  | _ :: _, 0, _ => Nat.succ_pos _
  | _ :: r, i + 1, h => Nat.succ_lt_succ (eget_lt (e := r) h)
theorem eset_len : ∀ (e : En) (i : Nat) (x : Sl), (eset e i x).length = e.length
  | [], _, _ => rfl
  | _ :: _, 0, _ => rfl
  | _ :: r, i + 1, x => congrArg (· + 1) (eset_len r i x)
theorem eget_same : ∀ {e : En} {i : Nat} {x : Sl}, i < e.length → eget (eset e i x) i = x
  | _ :: _, 0, _, _ => rfl
  | _ :: r, i + 1, x, h => eget_same (e := r) (i := i) (x := x) (Nat.lt_of_succ_lt_succ h)
theorem eget_ne : ∀ {e : En} {i j : Nat} {x : Sl}, i ≠ j → eget (eset e i x) j = eget e j
  | [], _, _, _, _ => rfl
  | _ :: _, 0, 0, _, h => absurd rfl h
  | _ :: _, 0, _ + 1, _, _ => rfl
  | _ :: _, _ + 1, 0, _, _ => rfl
  | _ :: r, i + 1, j + 1, x, h => eget_ne (e := r) (i := i) (j := j) fun q => h (congrArg _ q)
section
variable {K : PySem.W.Frag} {S S' : Ad} {H H' : Hp} {σ : L2.St} {e : En}
theorem SR.sh {i : Nat} {d : D} (h : SR K S H σ e) (g : eget e i = .sh d) : ∃ v, σ[i]? = some (some v) ∧ DR K S H v d := by
  have := h.at_ i
  rw [g] at this
  exact this
theorem SR.ow {i : Nat} {d : D} (h : SR K S H σ e) (g : eget e i = .ow d) : ∃ a, σ[i]? = some (some (.ref a)) ∧ ¬ S a ∧ OW K S H a d := by
  have := h.at_ i
  rw [g] at this
  exact this
theorem SR.ex (x : Ex H H') (h : SR K S H σ e) : SR K S H' σ e := by
  refine ⟨h.tab.ex x, h.len, fun i => ?_, h.sep⟩
  have := h.at_ i
  cases g : eget e i with
  | no => trivial
  | sh d =>
    obtain ⟨v, q, r⟩ := h.sh g
    exact ⟨v, q, r.mono (x.le fun _ z => z)⟩
  | ow d =>
    obtain ⟨a, q, n, r⟩ := h.ow g
    exact ⟨a, q, n, r.mono (x.le fun _ z => z) (x.to a)⟩
end

/-! ### readings -/
abbrev Fn := Nat → List D → Option D
def tE (K : PySem.W.Frag) (F : Fn) (b : Bool) (x : IE) : TE := fun σ H Q => ∃ S e d, SR K S H σ e ∧ ev F x false e = some d ∧ ∀ v H', Ex H H' → DV b K (nw S H) H' v d → Q v H'
def tTs (K : PySem.W.Frag) (F : Fn) (x : IE) : TT := fun σ H Q => ∃ S e c, SR K S H σ e ∧ ev F x true e = some (.bl c) ∧ ∀ H', Ex H H' → Q c H'
def tAs (K : PySem.W.Frag) (F : Fn) (b : Bool) (x : IE) : TA := fun σ H Q => ∃ S e ds, SR K S H σ e ∧ ev F x false e = some (.tup ds) ∧ ∀ vs H', Ex H H' → DVs b K (nw S H) H' vs ds → Q vs H'
section
variable {K : PySem.W.Frag} {F : Fn} {b : Bool} {x : IE} {S : Ad} {H H1 : Hp} {σ : L2.St} {e : En} {d : D} {Q : VK}
theorem tE_at (hs : SR K S H σ e) (ex : Ex H H1) (h : ev F x false e = some d) (q : ∀ v H', Ex H1 H' → DV b K (nw S H) H' v d → Q v H') : tE K F b x σ H1 Q :=
  ⟨S, e, d, hs.ex ex, h, fun v H' x r => q v H' x (r.mono (Ex.refl _) (nw.ex ex))⟩
theorem tT_at {c : Bool} {Q : Bool → Hp → Prop} (hs : SR K S H σ e) (ex : Ex H H1) (h : ev F x true e = some (.bl c)) (q : ∀ H', Ex H1 H' → Q c H') : tTs K F x σ H1 Q :=
  ⟨S, e, c, hs.ex ex, h, q⟩
theorem tA_at {ds : List D} {Q : List V → Hp → Prop} (hs : SR K S H σ e) (ex : Ex H H1) (h : ev F x false e = some (.tup ds)) (q : ∀ vs H', Ex H1 H' → DVs b K (nw S H) H' vs ds → Q vs H') : tAs K F b x σ H1 Q :=
  ⟨S, e, ds, hs.ex ex, h, fun v H' x r => q v H' x (r.mono (Ex.refl _) (nw.ex ex))⟩
end
section
variable {X : Cx} {e : Expr} {st : Stmt}
theorem pe_imp {t t' : TE} (h : PE X e t) (g : ∀ σ H Q, t' σ H Q → t σ H Q) : PE X e t' := ⟨fun pins s σ H Q I q => h.run pins s σ H Q I (g σ H Q q)⟩
theorem pt_imp {t t' : TT} (h : PT X e t) (g : ∀ σ H Q, t' σ H Q → t σ H Q) : PT X e t' := ⟨fun pins s σ H Q I q => h.run pins s σ H Q I (g σ H Q q)⟩
theorem pw_imp {t t' : TT} (h : PW X e t) (g : ∀ σ H Q, t' σ H Q → t σ H Q) : PW X e t' := ⟨fun wh pins s σ H Q I q => h.run wh pins s σ H Q I (g σ H Q q)⟩
theorem pa_imp {es : List Expr} {t t' : TA} (h : PA X es t) (g : ∀ σ H Q, t' σ H Q → t σ H Q) : PA X es t' := ⟨fun pos pins s σ H Q I q => h.run pos pins s σ H Q I (g σ H Q q)⟩
end

/-! ### the program's expression -/
structure CC where
  N : List Str
  G : List Str
  C : List (Str × D)
  gc : Bool
  /-- generator expressions may stand here -/
  ge : Bool := true
/-- within a generator expression -/
def CC.inGen (c : CC) : CC := { c with ge := false }
def isStar : Expr → Bool
  | .Starred .. => true
  | _ => false
def isSetE : Expr → Bool
  | .Set .. => true
  | _ => false
def isTupE : Expr → Bool
  | .Tuple .. => true
  | _ => false
def isSlice : Expr → Bool
  | .Slice .. => true
  | _ => false
def isCall0 : Expr → Bool
  | .Call .. => true
  | _ => false
def notOdd (x : Str) : Bool := !(x == ("__debug__" : Str)) && !(x == ("__classdict__" : Str)) && !(x == ("__name__" : Str))
def visB (sc : Scope) (x : Str) : Bool := match sc.names.lookup x with
  | some .local => true
  | some .cell => true
  | some .free => true
  | _ => false
def locK (fl : Str → Bool) (sc : Scope) (x : Str) : Bool := match sc.names.lookup x with
  | some .local => true
  | some .cell => fl x
  | _ => false
def glB (sc : Scope) (x : Str) : Bool := match sc.names.lookup x with
  | some .globalImplicit => true
  | _ => false
def nmB (c : CC) (sc : Scope) (i : Nat) (x : Str) : Bool := decide (c.N[i]? = some x) && visB sc x && notOdd x
def biS : BI → Str
  | .len => "len"
  | .abs => "abs"
  | .int => "int"
  | .tuple => "tuple"
  | .list => "list"
  | .sum => "sum"
  | .max => "max"
  | .min => "min"
  | .all => "all"
  | .any => "any"
  | .sorted => "sorted"
def tyS : TY → Str
  | .int => "int"
  | .bool => "bool"
  | .str => "str"
  | .tuple => "tuple"
  | .list => "list"
def tyN : TY → String
  | .int => "int"
  | .bool => "bool"
  | .str => "str"
  | .tuple => "tuple"
  | .list => "list"
def meS : ME → Str
  | .join => "join"
  | .index => "index"
  | .rstrip => "rstrip"
  | .count => "count"
  | .startswith => "startswith"
  | .endswith => "endswith"
  | .lindex => "index"
/-- the built-in names that are met -/
def bltNames : List Str := ["reversed", "set", "enumerate", "zip", "len", "abs", "int", "tuple", "list", "sum", "max", "min", "all", "any", "sorted", "isinstance", "bool", "str", "range"]
inductive Mo where
  | val | test | iter
  deriving DecidableEq
/-- targets of a tuple -/
def ckTPs (c : CC) (fl : Str → Bool) (sc : Scope) : TP → List Expr → Bool
  | .tn, [] => true
  | .tc (.one i) ps, .Name x _ :: es => decide (c.N[i]? = some x) && locK fl sc x && ckTPs c fl sc ps es
  | _, _ => false
def ckT (c : CC) (fl : Str → Bool) (sc : Scope) (tp : TP) (e : Expr) : Bool := match tp, e with
  | .one i, .Name x _ => decide (c.N[i]? = some x) && locK fl sc x
  | tp, .Tuple es _ _ => ckTPs c fl sc tp es
  | _, _ => false
def tpS : TP → List Nat
  | .one i => [i]
  | .tn => []
  | .tc p ps => tpS p ++ tpS ps
def ownOf (c : CC) : List Nat → List (Str × Nat)
  | [] => []
  | i :: r => match c.N[i]? with
    | some x => (x, i) :: ownOf c r
    | none => ownOf c r

def lrS (tu : Bool) : Str := if tu then "tuple" else "list"
/-- f(elt for tg in iter) -/
def gexOf : Expr → Option (Str × Expr × Expr × Expr × Scope)
  | .Call (.Name nm _) [.GeneratorExp elt [⟨tg, iter, [], 0⟩] scope _] [] _ => some (nm, elt, tg, iter, scope)
  | _ => none
/-- f(elt for tg in iter if g) -/
def gxiOf : Expr → Option (Str × Expr × Expr × Expr × Expr × Scope)
  | .Call (.Name nm _) [.GeneratorExp elt [⟨tg, iter, [g], 0⟩] scope _] [] _ => some (nm, elt, tg, iter, g, scope)
  | _ => none
/-- f(g(..)) -/
def lrgOf : Expr → Option (Str × Str × List Expr)
  | .Call (.Name nm _) [.Call (.Name r _) es [] _] [] _ => some (nm, r, es)
  | _ => none
/-- super(): what an attribute treats in a way of its own -/
def isSup : Expr → Bool
  | .Call (.Name _ _) [] [] _ => true
  | _ => false
def ssS (so : Bool) : Str := if so then "sorted" else "len"
/-- f(g(a)) -/
def stsOf : Expr → Option (Str × Str × Expr)
  | .Call (.Name nm _) [.Call (.Name r _) [a] [] _] [] _ => some (nm, r, a)
  | _ => none
def mmS (mx : Bool) : Str := if mx then "max" else "min"
/-- f(a, k=v) -/
def mmdOf : Expr → Option (Str × Expr × Str × Expr)
  | .Call (.Name nm _) [a] [⟨some k, v, _⟩] _ => some (nm, a, k, v)
  | _ => none
def gexS (al : Bool) : Str := if al then "all" else "any"
def isLst : Expr → Bool
  | .List .. => true
  | _ => false
/-- a generator expression's names -/
def gblkB (N : List Str) (sc scope : Scope) (own : List (Str × Nat)) : Bool := blkC N sc scope own && scope.names.all (fun y => !decide (y.2 = .cell)) && !scope.isCoroutine && decide (scope.names.lookup (".0" : Str) = some NameKind.local)
def Mo.tv : Mo → Mo
  | .test => .test
  | _ => .val
def constB (d : D) (k : Const) : Bool := match d, k with
  | .non, .none => true
  | .bl x, .bool y => x == y
  | .int i, .int j => decide (i = j)
  | .str s, .str z => decide (z = ⟨s.toArray⟩)
  | _, _ => false
def constOk (C : List (Str × D)) (j : Nat) (d : D) (x : Str) : Bool := match C[j]? with
  | some (y, d') => decide (x = y) && sameD d d' && notDic d'
  | none => false
/-- a written dict of the module -/
def kdOk (C : List (Str × D)) (j : Nat) (l : List (D × D)) (x : Str) : Bool := match C[j]? with
  | some (y, .dic false l') => decide (x = y) && sameDs (l.map fun p => .tup [p.1, p.2]) (l'.map fun p => .tup [p.1, p.2])
  | _ => false
mutual
/-- a written constant: a number, a text, a tuple of such -/
def ckV : D → Expr → Bool
  | .tup ds, .Tuple es _ _ => decide (es.length ≤ 1000) && ckVs ds es
  | .int i, .UnaryOp .USub (.Constant k _ _) _ => constB (.int (-i)) k
  | d, .Constant k _ _ => constB d k
  | _, _ => false
def ckVs : List D → List Expr → Bool
  | [], [] => true
  | d :: ds, e :: es => !isStar e && ckV d e && ckVs ds es
  | _, _ => false
end
/-- a display of constants -/
def dcOk : List (D × D) → List (Option Expr) → List Expr → Bool
  | [], [], [] => true
  | p :: l, some a :: ks, a2 :: vs => isKey p.1 && ckV p.1 a && ckV p.2 a2 && (l.all fun q => !sameD q.1 p.1) && dcOk l ks vs
  | _, _, _ => false
def ck (c : CC) : Scope → Bool → Mo → IE → List Expr → Bool
  | _, _, _, .c d, [.Constant k _ _] => constB d k
  | sc, _, _, .v i, [.Name x _] => nmB c sc i x
  | sc, b, t, .b i, [.Name x _] => (b || decide (t = .test)) && nmB c sc i x
  | sc, _, _, .bin op x y, [.BinOp a op' b' _] => decide (op = op') && ck c sc true .val x [a] && ck c sc true .val y [b']
  | sc, _, _, .neg x, [.UnaryOp .USub a _] => ck c sc false .val x [a]
  | sc, _, t, .nt x, [.UnaryOp .Not a _] => if t = .test then ck c sc false .test x [a] else ck c sc true .val x [a]
  | sc, _, _, .cmp op x y, [.Compare a [op'] [b'] _] => decide (op = op') && ck c sc true .val x [a] && ck c sc true .val y [b'] && !isSetE b'
  | sc, _, _, .chn op op2 x y z, [.Compare a [o1, o2] [b', c'] _] => decide (op = o1) && decide (op2 = o2) && ck c sc true .val x [a] && ck c sc true .val y [b'] && ck c sc true .val z [c'] && !isSetE c'
  | sc, _, t, .and x y, [.BoolOp .And [a, b'] _] => ck c sc false t.tv x [a] && ck c sc false t.tv y [b']
  | sc, _, t, .and x y, [.BoolOp .And (a :: b' :: r) p] => ck c sc false t.tv x [a] && ck c sc false t.tv y [.BoolOp .And (b' :: r) p]
  | sc, _, t, .or x y, [.BoolOp .Or [a, b'] _] => ck c sc false t.tv x [a] && ck c sc false t.tv y [b']
  | sc, _, t, .or x y, [.BoolOp .Or (a :: b' :: r) p] => ck c sc false t.tv x [a] && ck c sc false t.tv y [.BoolOp .Or (b' :: r) p]
  | sc, _, t, .ife g x y, [.IfExp a b' c' _] => decide (t ≠ .test) && ck c sc false .test g [a] && ck c sc false .val x [b'] && ck c sc false .val y [c']
  | sc, _, _, .tup as, [.Tuple es _ _] => Nat.ble es.length 100000 && ck c sc false .val as es
  | sc, _, _, .lst as, [.List es _] => Nat.ble es.length 100000 && ck c sc false .val as es
  | _, _, _, .an, [] => true
  | sc, b, _, .ac x as, e :: es => !isStar e && ck c sc b .val x [e] && ck c sc b .val as es
  | sc, _, _, .idx x i, [.Subscript a b' _] => !isSlice b' && ck c sc true .val x [a] && ck c sc false .val i [b']
  | sc, _, _, .slst x lo hi k, [.Subscript a (.Slice l h (some s) _) _] => ck c sc true .val x [a] && ck c sc false .val lo l.toList && ck c sc false .val hi h.toList && ck c sc false .val k [s] && !isNo k
  | sc, _, _, .slc x lo hi, [.Subscript a (.Slice l h none _) _] => ck c sc true .val x [a] && ck c sc false .val lo l.toList && ck c sc false .val hi h.toList
  | _, _, _, .no, [] => true
  | _, _, t, .yes, [] => decide (t = .test)
  | sc, _, _, .lc2 own own1 tp tp1 it it1 g x, [.ListComp elt [⟨tg, iter, [], asy⟩, ⟨tg1, iter1, ifs1, asy1⟩] scope _] => decide (asy = 0) && decide (asy1 = 0) && (!isTupIt it || isTupE tg) && (!isTupIt it1 || isTupE tg1) && ck c sc true .iter it [iter] && !isSetE iter && !isSetE iter1 && blkC c.N sc scope (ownOf c own) && decide (own.length = (ownOf c own).length) &&
      ckT c (fun x => scope.names.lookup x == some .cell) (relS scope sc) tp tg && (tpS tp).all (fun i => decide (i ∈ own)) && own1.all (fun i => decide (i ∈ own)) && ckT c (fun x => scope.names.lookup x == some .cell) (relS scope sc) tp1 tg1 && (tpS tp1).all (fun i => decide (i ∈ own1)) &&
      ck c (relS scope sc) false .iter it1 [iter1] && decide (ifs1.length ≤ 1) && ck c (relS scope sc) false .test g ifs1 && ck c (relS scope sc) false .val x [elt]
  | sc, b, t, .enm x, [.Call (.Name nm _) [a] [] _] => decide (t = .iter) && decide (nm = ("enumerate" : Str)) && glB sc nm && !isStar a && ck c sc b .val x [a]
  | sc, b, t, .zip x y, [.Call (.Name nm _) [a, a2] [] _] => decide (t = .iter) && decide (nm = ("zip" : Str)) && glB sc nm && !isStar a && !isStar a2 && ck c sc b .val x [a] && ck c sc b .val y [a2]
  | sc, _, _, .gex al own tp it x, [e] => match gexOf e with
    | some (nm, elt, tg, iter, scope) => c.ge && decide (nm = gexS al) && glB sc nm && (!isTupIt it || isTupE tg) && ck c sc true .iter it [iter] && !isSetE iter && !isLst iter && gblkB c.N sc scope (ownOf c own) && decide (own.length = (ownOf c own).length) &&
      ckT c.inGen (fun _ => false) scope tp tg && (tpS tp).all (fun i => decide (i ∈ own)) && ck c.inGen scope false .val x [elt]
    | none => false
  | sc, _, _, .gxi al own tp it g x, [e] => match gxiOf e with
    | some (nm, elt, tg, iter, cd, scope) => c.ge && decide (nm = gexS al) && glB sc nm && (!isTupIt it || isTupE tg) && ck c sc true .iter it [iter] && !isSetE iter && !isLst iter && gblkB c.N sc scope (ownOf c own) && decide (own.length = (ownOf c own).length) &&
      ckT c.inGen (fun _ => false) scope tp tg && (tpS tp).all (fun i => decide (i ∈ own)) && ck c.inGen scope false .test g [cd] && ck c.inGen scope false .val x [elt]
    | none => false
  | sc, _, _, .lrg tu x y, [e] => match lrgOf e with
    | some (nm, r, [a]) => decide (nm = lrS tu) && glB sc nm && decide (r = ("range" : Str)) && glB sc r && isNo x && !isStar a && ck c sc false .val x [] && ck c sc false .val y [a]
    | some (nm, r, [a, a2]) => decide (nm = lrS tu) && glB sc nm && decide (r = ("range" : Str)) && glB sc r && !isNo x && !isStar a && !isStar a2 && ck c sc false .val x [a] && ck c sc false .val y [a2]
    | _ => false
  | sc, _, _, .mmd mx x y, [e] => match mmdOf e with
    | some (nm, a, k, v) => decide (nm = mmS mx) && glB sc nm && decide (k = ("default" : Str)) && !isStar a && ck c sc true .val x [a] && ck c sc false .val y [v]
    | none => false
  | sc, _, _, .sts so x, [e] => match stsOf e with
    | some (nm, r, a) => decide (nm = ssS so) && glB sc nm && decide (r = ("set" : Str)) && glB sc r && !isStar a && ck c sc true .val x [a]
    | none => false
  | _, _, t, .dnw _, [.Dict [] [] _] => decide (t ≠ .iter)
  | _, _, t, .dcn l, [.Dict ks vs _] => decide (t ≠ .iter) && decide (1 ≤ l.length) && decide (l.length ≤ 15) && dcOk l ks vs
  | sc, _, t, .dsp k v, [.Dict [some a] [a2] _] => decide (t ≠ .iter) && ck c sc true .val k [a] && ck c sc false .val v [a2]
  | sc, _, _, .dgt x k y, [.Call (.Attribute o nm ap) (e :: es) [] cp] => decide (nm = ("get" : Str)) && (ap.endLine == cp.line) && !isSup o && !isStar e && decide (es.length ≤ 1) && es.all (fun e' => !isStar e') && ck c sc true .val x [o] && ck c sc true .val k [e] && ck c sc false .val y es
  | sc, _, t, .kys x, [e] => decide (t = .iter) && ck c sc false .val x [e]
  | sc, _, t, .vls x, [.Call (.Attribute o nm ap) [] [] cp] => decide (t = .iter) && decide (nm = ("values" : Str)) && (ap.endLine == cp.line) && !isSup o && ck c sc false .val x [o]
  | sc, _, t, .itm x, [.Call (.Attribute o nm ap) [] [] cp] => decide (t = .iter) && decide (nm = ("items" : Str)) && (ap.endLine == cp.line) && !isSup o && ck c sc false .val x [o]
  | sc, b, t, .rvd x, [.Call (.Name nm _) [a] [] _] => decide (t = .iter) && decide (nm = ("reversed" : Str)) && glB sc nm && !isStar a && ck c sc b .val x [a]
  | sc, _, t, .rn3 as, [.Call (.Name x _) es [] _] => decide (t = .iter) && decide (x = ("range" : Str)) && glB sc x && decide (es.length = 3) && ck c sc false .val as es
  | sc, b, t, .lck _ x, [e] => decide (t = .val) && ck c sc b .val x [e]
  | sc, _, _, .dso x, [.Call (.Name nm _) [a] [] _] => decide (nm = ("sorted" : Str)) && glB sc nm && !isStar a && ck c sc true .val x [a]
  | sc, _, _, .dls x, [.Call (.Name nm _) [a] [] _] => decide (nm = ("list" : Str)) && glB sc nm && !isStar a && ck c sc true .val x [a]
  | sc, _, _, .kdx j l x, [.Subscript (.Name nm _) b' _] => kdOk c.C j l nm && glB sc nm && notOdd nm && !isSlice b' && ck c sc false .val x [b']
  | sc, _, _, .kdi neg j l x, [.Compare a [op] [.Name nm _] _] => decide (op = if neg then .NotIn else .In) && kdOk c.C j l nm && glB sc nm && notOdd nm && ck c sc true .val x [a]
  | sc, _, _, .upr x, [.Call (.Attribute o nm ap) [] [] cp] => decide (nm = ("upper" : Str)) && (ap.endLine == cp.line) && !isCall0 o && ck c sc true .val x [o]
  | sc, _, _, .gc j d, [.Name x _] => constOk c.C j d x && glB sc x && notOdd x
  | sc, _, _, .gcd as, [.Call (.Name x _) (e :: es) [] _] => c.gc && decide (x = ("gcd" : Str)) && glB sc x && ck c sc true .val as (e :: es)
  | sc, _, _, .rvs x, [.Subscript a (.Slice none none (some (.UnaryOp .USub (.Constant (.int j) _ _) _)) _) _] => decide (j = 1) && ck c sc true .val x [a]
  | sc, _, _, .call k as, [.Call (.Name x _) es [] _] => decide (c.G[k]? = some x) && glB sc x && notOdd x && ck c sc (hasB as) .val as es
  | sc, _, _, .bi f as, [.Call (.Name x _) (e :: es) [] _] => decide (x = biS f) && glB sc x && ck c sc true .val as (e :: es)
  | sc, _, _, .isi ty x, [.Call (.Name f _) [a, .Name g _] [] _] => decide (f = ("isinstance" : Str)) && decide (g = tyS ty) && glB sc f && glB sc g && !isStar a && ck c sc true .val x [a]
  | sc, _, _, .me m x as, [.Call (.Attribute o nm ap) (e :: es) [] cp] => decide (nm = meS m) && (ap.endLine == cp.line) && !isCall0 o && decide (es.length < 20) && ck c sc true .val x [o] && ck c sc true .val as (e :: es)
  | sc, _, t, .rng as, [.Call (.Name x _) es [] _] => decide (t = .iter) && decide (x = ("range" : Str)) && glB sc x && decide (es.length = 1 ∨ es.length = 2) && ck c sc false .val as es
  | sc, _, t, .lc own tp it g x, [.ListComp elt [⟨tg, iter, ifs, asy⟩] scope _] => decide (asy = 0) && (!isTupIt it || isTupE tg) && ck c sc true .iter it [iter] && !isSetE iter && blkC c.N sc scope (ownOf c own) && decide (own.length = (ownOf c own).length) && ckT c (fun x => scope.names.lookup x == some .cell) (relS scope sc) tp tg && (tpS tp).all (fun i => decide (i ∈ own)) &&
      decide (ifs.length ≤ 1) && ck c (relS scope sc) false .test g ifs && ck c (relS scope sc) false .val x [elt]
  | _, _, _, _, _ => false
end Tl

/-! T06: expressions, one by one. -/
namespace Tl
open PySem L2

variable [Tabs]
/-- what a def promises: from data to data -/
def spF (K : PySem.W.Frag) (F : Fn) (k : Nat) : Sp := fun vs H Q _ => HasT H ∧ ∃ S ds d, DRs K S H vs ds ∧ F k ds = some d ∧ ∀ v H', Ex H H' → DR K (nw S H) H' v d → Q v H'
/-- a written dict of the module: text keys -/
def KD (K : PySem.W.Frag) (w : World) (mg : Str → Option Value) (x : Str) (l : List (D × D)) : Prop := ∃ d es n, mg x = some (.ref d) ∧ KDict K w d es n ∧
  ∀ z : List Nat, match dGet l (.str z) with
    | some dv => ∃ u v, PySem.W.nsIn K d ⟨z.toArray⟩ = some (some u) ∧ RelV v u ∧ ∀ S H, DR K S H v dv
    | none => PySem.W.nsIn K d ⟨z.toArray⟩ = some none
/-- where an expression stands -/
structure GX (c : CC) (F : Fn) (n : Nat) (sc : Scope) (X : Cx) : Prop where
  hN : X.N = c.N
  nd : c.N.Nodup
  hsc : X.env.scope = sc
  calm : X.calm = true
  room : Room (2 * n) X.A
  gen : c.ge = true → ∃ cd P, X.env.code = .ref cd ∧ GxR.TabB X.base X.mg cd P ∧ P ∈ Tabs.T ∧ Room (2 * n + 1) X.A
  nox : X.xe = fun _ _ => False
  blt : ∀ x ∈ bltNames, X.mg x = none
  cons : ∀ (j : Nat) (x : Str) (d : D), c.C[j]? = some (x, d) → notDic d = true → ∃ u v, X.mg x = some u ∧ RelV v u ∧ ∀ S H, DR X.K S H v d
  dics : ∀ (j : Nat) (x : Str) (t : Bool) (l : List (D × D)), c.C[j]? = some (x, .dic t l) → KD X.K X.w X.mg x l
  gcd : c.gc = true → X.mg "gcd" = some (.builtin "math.gcd")
  fns : ∀ k x, c.G[k]? = some x → ∃ f fd ps, X.mg x = some (.ref f) ∧ PySem.W.keepIn X.K (.ref f) = true ∧ Binds X.K fd ps [] ∧ FnOk X.prog X.w X.K X.mg X.base CX0 (2 * n) f fd ps (spF X.K F k)
section
variable {c : CC} {F : Fn} {n : Nat} {sc : Scope} {X : Cx}
theorem GX.vis (g : GX c F n sc X) {x : Str} (h : visB sc x = true) : Vis X.env.scope x := by
  rw [g.hsc]
  unfold visB at h
  split at h
  · exact .inl (by assumption)
  · exact .inr (.inl (by assumption))
  · exact .inr (.inr (by assumption))
  · cases h
theorem GX.gl (g : GX c F n sc X) {x : Str} (h : glB sc x = true) : Gl X x := by
  unfold glB at h
  split at h
  · show X.env.scope.names.lookup x = _
    rw [g.hsc]
    assumption
  · cases h
theorem GX.loc (g : GX c F n sc X) {fl : Str → Bool} {x : Str} (hf : ∀ x, fl x = true → X.fn x = true) (h : locK fl sc x = true) : Loc X.env.scope x ∧ (X.fn x = true ∨ X.env.scope.names.lookup x = some .local) := by
  rw [g.hsc]
  unfold locK at h
  split at h
  · rename_i e
    exact ⟨.inl e, .inr e⟩
  · rename_i e
    exact ⟨.inr e, .inl (hf x h)⟩
  · cases h
theorem odd_of {x : Str} (h : notOdd x = true) : (x == ("__debug__" : Str)) = false ∧ (x == ("__classdict__" : Str)) = false ∧ x ≠ "__name__" := by
  unfold notOdd at h
  simp only [Bool.and_eq_true, Bool.not_eq_true'] at h
  exact ⟨h.1.1, h.1.2, fun e => by rw [e] at h; simp at h⟩
theorem GX.hu (g : GX c F n sc X) : X.A.units + 65 < cLine := by have := g.room.un; omega

/-! ### names, constants -/
theorem GX.nm (g : GX c F n sc X) {i : Nat} {x : Str} {p : Pos} (h : nmB c sc i x = true) : PE X (.Name x p) (tVar i) := by
  unfold nmB at h
  simp only [Bool.and_eq_true, decide_eq_true_eq] at h
  obtain ⟨o1, o2, _⟩ := odd_of h.2
  exact pe_var (by rw [g.hN]; exact h.1.1) (g.vis h.1.2) o1 o2
theorem se_v (g : GX c F n sc X) {i : Nat} {x : Str} {p : Pos} {b : Bool} (h : nmB c sc i x = true) : PE X (.Name x p) (tE X.K F b (.v i)) := by
  refine pe_imp (g.nm h) ?_
  rintro σ H Q ⟨S, e, d, hs, hf, q⟩
  unfold ev fin at hf
  split at hf
  · rename_i d' he
    simp only [Bool.false_eq_true, if_false, Option.some.injEq] at hf
    subst hf
    split at he
    · rename_i d2 hg
      cases he
      obtain ⟨v, e1, r⟩ := hs.sh hg
      exact ⟨v, e1, q v H (Ex.refl H) (.inl (r.mono ((Ex.refl H).le nw.of)))⟩
    · cases he
  · cases hf
theorem se_b (g : GX c F n sc X) {i : Nat} {x : Str} {p : Pos} (h : nmB c sc i x = true) : PE X (.Name x p) (tE X.K F true (.b i)) := by
  refine pe_imp (g.nm h) ?_
  rintro σ H Q ⟨S, e, d, hs, hf, q⟩
  unfold ev fin at hf
  split at hf
  · rename_i d' he
    simp only [Bool.false_eq_true, if_false, Option.some.injEq] at hf
    subst hf
    split at he
    · rename_i d2 hg
      cases he
      obtain ⟨v, e1, r⟩ := hs.sh hg
      exact ⟨v, e1, q v H (Ex.refl H) (.inl (r.mono ((Ex.refl H).le nw.of)))⟩
    · rename_i d2 hg
      cases he
      obtain ⟨a, e1, _, r⟩ := hs.ow hg
      exact ⟨_, e1, q _ H (Ex.refl H) (.inr ⟨rfl, a, rfl, r.mono ((Ex.refl H).le nw.of) fun _ _ z => z⟩)⟩
    · cases he
  · cases hf
theorem fin_f {o : Option D} {d : D} (h : fin false o = some d) : o = some d := by
  unfold fin at h
  split at h
  · simpa using h
  · cases h
theorem fin_t {o : Option D} {d : D} (h : fin true o = some d) : ∃ x b, o = some x ∧ truD x = some b ∧ d = .bl b := by
  unfold fin at h
  split at h
  · rename_i x
    simp only [if_true] at h
    split at h
    · rename_i b hb
      cases h
      exact ⟨x, b, rfl, hb, rfl⟩
    · cases h
  · cases h
/-- a constant -/
theorem se_c {d : D} {k : Const} {j : Nat} {p : Pos} {b : Bool} (h : constB d k = true) : PE X (.Constant k j p) (tE X.K F b (.c d)) := by
  unfold constB at h
  split at h
  · refine pe_imp pe_non ?_
    rintro σ H Q ⟨S, e, d, hs, hf, q⟩
    have := fin_f hf
    cases this
    exact q _ H (Ex.refl H) (.inl .non)
  · have e := eq_of_beq h
    subst e
    refine pe_imp pe_bl ?_
    rintro σ H Q ⟨S, e, d, hs, hf, q⟩
    have := fin_f hf
    cases this
    exact q _ H (Ex.refl H) (.inl (.bl _))
  · have e := of_decide_eq_true h
    subst e
    refine pe_imp pe_int ?_
    rintro σ H Q ⟨S, e, d, hs, hf, q⟩
    have := fin_f hf
    cases this
    exact q _ H (Ex.refl H) (.inl (.int _))
  · have e := of_decide_eq_true h
    subst e
    refine pe_imp pe_str ?_
    rintro σ H Q ⟨S, e, d, hs, hf, q⟩
    have := fin_f hf
    cases this
    exact q _ H (Ex.refl H) (.inl (.str _))
  · cases h

/-- a module's constant -/
theorem se_gc (g : GX c F n sc X) {j : Nat} {d : D} {x : Str} {p : Pos} {b : Bool} (h : constOk c.C j d x = true) (hg : glB sc x = true) (ho : notOdd x = true) : PE X (.Name x p) (tE X.K F b (.gc j d)) := by
  unfold constOk at h
  split at h
  · rename_i y d' hj
    rw [Bool.and_eq_true, Bool.and_eq_true, decide_eq_true_eq] at h
    obtain ⟨⟨rfl, h⟩, hnd⟩ := h
    have := same_eq h
    subst this
    obtain ⟨u, v, hm, hr, hd⟩ := g.cons j _ _ hj hnd
    refine pe_imp (pe_glob (g.gl hg) hm hr (odd_of ho).1) ?_
    rintro σ H Q ⟨S, e, d', hs, hf, q⟩
    have := fin_f hf
    cases this
    exact q _ H (Ex.refl H) (.inl (hd _ _))
  · cases h
/-! ### operators -/
variable {a a2 a3 : Expr} {x y z : IE} {p : Pos} {b : Bool}
theorem se_bin (g : GX c F n sc X) (op : Operator) (hx : PE X a (tE X.K F true x)) (hy : PE X a2 (tE X.K F true y)) : PE X (.BinOp a op a2 p) (tE X.K F b (.bin op x y)) := by
  refine pe_imp (pe_op (op_bin g.calm op) hx hy) ?_
  rintro σ H Q ⟨S, e, d, hs, hf, q⟩
  have hf := fin_f hf
  split at hf
  · rename_i u w hu hw
    refine tE_at hs (Ex.refl H) hu fun v1 H1 x1 r1 => ?_
    refine tE_at hs x1 hw fun v2 H2 x2 r2 => ?_
    refine ⟨nw S H, u, w, d, r1.mono x2 (fun _ z => z), r2, hf, fun v H3 x3 r3 => ?_⟩
    exact q v H3 ((x1.trans x2).trans x3) (.inl (r3.mono ((Ex.refl _).le (nw.nw (x1.trans x2)))))
  · cases hf
theorem se_neg (hx : PE X a (tE X.K F false x)) : PE X (.UnaryOp .USub a p) (tE X.K F b (.neg x)) := by
  refine pe_imp (pe_un un_neg hx) ?_
  rintro σ H Q ⟨S, e, d, hs, hf, q⟩
  have hf := fin_f hf
  split at hf
  · rename_i i hi
    cases hf
    refine tE_at hs (Ex.refl H) hi fun v1 H1 x1 r1 => ?_
    exact ⟨_, r1.int, q _ H1 x1 (.inl (.int _))⟩
  · cases hf
theorem tru_of {K : PySem.W.Frag} {S : Ad} {H : Hp} {v : V} {d : D} {k : Bool} (h : DV true K S H v d) (e : truD d = some k) : TruV K v H k := by
  cases d with
  | non => rw [h.non]; cases e; rfl
  | bl b => rw [h.bl]; cases e; rfl
  | int i => rw [h.int]; cases e; rfl
  | str s =>
    rw [h.str]
    unfold truD at e
    simp only at e
    split at e
    · rename_i hl
      cases e
      refine ⟨by rw [strLen]; exact szOf (okLen_le hl), ?_⟩
      rw [strLen]
      cases s with
      | nil => rfl
      | cons c cs =>
        simp only [List.isEmpty_cons, Bool.not_false, List.length_cons]
        symm
        rw [bne_iff_ne]
        omega
    · cases e
  | tup l =>
    obtain ⟨p, vs, rfl, hs, r⟩ := h.tup
    cases e
    refine .inr (.inl ⟨vs, .of hs, ?_⟩)
    cases r <;> rfl
  | lst l =>
    obtain ⟨p, vs, rfl, hs, r⟩ := h.lst
    cases e
    refine .inl ⟨vs, .of hs, ?_⟩
    cases r <;> rfl
  | ro l =>
    obtain ⟨p, vs, rfl, hs, r⟩ := h.ro
    cases e
    refine .inl ⟨vs, hs, ?_⟩
    cases r <;> rfl
  | dic t l => cases e
  | st l => 
    rcases h with h | ⟨_, a, _, h⟩
    · cases h
    · exact h.elim
  | fn l => cases e
/-- an expression by its truth -/
theorem st_plain (hx : PE X a (tE X.K F true x)) (he : ∀ whole, isTrue a X.env whole = (do let v ← whole; standAt a.pos; holding [v] (truthy v)))
    (hv : ∀ e k, ev F x true e = some (.bl k) → ∃ d, ev F x false e = some d ∧ truD d = some k) : PT X a (tTs X.K F x) := by
  refine pt_imp (pt_truth hx he) ?_
  rintro σ H Q ⟨S, e, k, hs, hf, q⟩
  obtain ⟨d, h1, h2⟩ := hv e k hf
  exact tE_at hs (Ex.refl H) h1 fun v H1 x1 r1 => ⟨k, tru_of r1 h2, q H1 x1⟩
theorem se_not (hx : PE X a (tE X.K F true x)) : PE X (.UnaryOp .Not a p) (tE X.K F b (.nt x)) := by
  refine pe_imp (pe_notT hx) ?_
  rintro σ H Q ⟨S, e, d, hs, hf, q⟩
  unfold ev at hf
  split at hf
  · rename_i k hk
    cases hf
    simp only [Bool.false_eq_true, if_false] at hk
    obtain ⟨d, k', h1, h2, h3⟩ := fin_t hk
    cases h3
    exact tE_at hs (Ex.refl H) h1 fun v H1 x1 r1 => ⟨k, tru_of r1 h2, q _ H1 x1 (.inl (.bl _))⟩
  · cases hf
theorem st_not (hx : PT X a (tTs X.K F x)) : PT X (.UnaryOp .Not a p) (tTs X.K F (.nt x)) := by
  refine pt_imp (pt_not hx) ?_
  rintro σ H Q ⟨S, e, k, hs, hf, q⟩
  unfold ev at hf
  split at hf
  · rename_i k' hk
    cases hf
    simp only [if_true] at hk
    exact tT_at hs (Ex.refl H) hk fun H1 x1 => q H1 x1
  · cases hf
theorem notSet {b : Expr} (h : isSetE b = false) (op : CmpOp) : behindInMarks op b = false := by
  cases b <;> first | rfl | cases h
theorem cmp_t {op : CmpOp} {e : En} {k : Bool} (h : ev F (.cmp op x y) true e = some (.bl k)) : ev F (.cmp op x y) false e = some (.bl k) := h
theorem rd_cmp {op : CmpOp} {σ : L2.St} {H : Hp} {Q : VK} (h : ∃ S e d, SR X.K S H σ e ∧ ev F (.cmp op x y) false e = some d ∧ ∀ H', Ex H H' → ∀ k, d = .bl k → Q (.bl k) H') :
    tOp (rC X.K op) (tE X.K F true x) (tE X.K F true y) σ H Q := by
  obtain ⟨S, e, d, hs, hf, q⟩ := h
  unfold ev at hf
  split at hf
  · rename_i u w hu hw
    rw [Option.map_eq_some_iff] at hf
    obtain ⟨k, hf, rfl⟩ := hf
    refine tE_at hs (Ex.refl H) hu fun v1 H1 x1 r1 => ?_
    refine tE_at hs x1 hw fun v2 H2 x2 r2 => ?_
    exact ⟨nw S H, u, w, k, r1.mono x2 (fun _ z => z), r2, hf, q H2 (x1.trans x2) k rfl⟩
  · cases hf
theorem cmp_bl {op : CmpOp} {e : En} {d : D} (h : ev F (.cmp op x y) false e = some d) : ∃ k, d = .bl k := by
  unfold ev at h
  split at h
  · rw [Option.map_eq_some_iff] at h
    obtain ⟨k, _, rfl⟩ := h
    exact ⟨k, rfl⟩
  · cases h
theorem se_cmp (g : GX c F n sc X) (op : CmpOp) (hx : PE X a (tE X.K F true x)) (hy : PE X a2 (tE X.K F true y)) (hn : isSetE a2 = false) : PE X (.Compare a [op] [a2] p) (tE X.K F b (.cmp op x y)) := by
  refine pe_imp (pe_cmpR (op_cmp g.hu op) hx hy (notSet hn op)) ?_
  rintro σ H Q ⟨S, e, d, hs, hf, q⟩
  refine rd_cmp ⟨S, e, d, hs, hf, fun H' x' k hk => ?_⟩
  subst hk
  exact q _ H' x' (.inl (.bl _))
theorem st_cmp (g : GX c F n sc X) (op : CmpOp) (hx : PE X a (tE X.K F true x)) (hy : PE X a2 (tE X.K F true y)) (hn : isSetE a2 = false) : PT X (.Compare a [op] [a2] p) (tTs X.K F (.cmp op x y)) := by
  refine pt_imp (pt_cmpR (op_cmp g.hu op) hx hy (notSet hn op)) ?_
  rintro σ H Q ⟨S, e, k, hs, hf, q⟩
  refine rd_cmp ⟨S, e, _, hs, cmp_t hf, fun H' x' k' hk => ⟨k', rfl, ?_⟩⟩
  cases hk
  exact q H' x'
theorem lastM {o1 o2 : CmpOp} {b c : Expr} (h : isSetE c = false) : lastMarks [o1, o2] [b, c] = false := by
  show behindInMarks o2 c = false
  exact notSet h o2
theorem rd_chn {op op2 : CmpOp} {σ : L2.St} {H : Hp} {Q : VK} (h : ∃ S e d, SR X.K S H σ e ∧ ev F (.chn op op2 x y z) false e = some d ∧ ∀ H', Ex H H' → ∀ k, d = .bl k → Q (.bl k) H') :
    tChain (rC X.K op) (rC X.K op2) (tE X.K F true x) (tE X.K F true y) (tE X.K F true z) σ H Q := by
  obtain ⟨S, e, d, hs, hf, q⟩ := h
  unfold ev at hf
  split at hf
  · rename_i u w hu hw
    refine tE_at hs (Ex.refl H) hu fun v1 H1 x1 r1 => ?_
    refine tE_at hs x1 hw fun v2 H2 x2 r2 => ?_
    split at hf
    · rename_i hk
      split at hf
      · rename_i t ht
        rw [Option.map_eq_some_iff] at hf
        obtain ⟨k, hf, rfl⟩ := hf
        refine ⟨nw S H, u, w, true, r1.mono x2 (fun _ z => z), r2, hk, true, rfl, ?_⟩
        rw [if_pos rfl]
        refine tE_at hs (x1.trans x2) ht fun v3 H3 x3 r3 => ?_
        exact ⟨nw S H, w, t, k, r2.mono x3 (fun _ z => z), r3, hf, q H3 ((x1.trans x2).trans x3) k rfl⟩
      · cases hf
    · rename_i hk
      cases hf
      refine ⟨nw S H, u, w, false, r1.mono x2 (fun _ z => z), r2, hk, false, rfl, ?_⟩
      rw [if_neg Bool.false_ne_true]
      exact q H2 (x1.trans x2) false rfl
    · cases hf
  · cases hf
theorem se_chn (g : GX c F n sc X) (op op2 : CmpOp) (hx : PE X a (tE X.K F true x)) (hy : PE X a2 (tE X.K F true y)) (hz : PE X a3 (tE X.K F true z)) (hn : isSetE a3 = false) :
    PE X (.Compare a [op, op2] [a2, a3] p) (tE X.K F b (.chn op op2 x y z)) := by
  refine pe_imp (pe_chain (op_cmp g.hu op) (op_cmp g.hu op2) hx hy hz (lastM hn)) ?_
  rintro σ H Q ⟨S, e, d, hs, hf, q⟩
  refine rd_chn ⟨S, e, d, hs, hf, fun H' x' k hk => ?_⟩
  subst hk
  exact q _ H' x' (.inl (.bl _))
theorem st_chn (g : GX c F n sc X) (op op2 : CmpOp) (hx : PE X a (tE X.K F true x)) (hy : PE X a2 (tE X.K F true y)) (hz : PE X a3 (tE X.K F true z)) (hn : isSetE a3 = false) :
    PT X (.Compare a [op, op2] [a2, a3] p) (tTs X.K F (.chn op op2 x y z)) := by
  refine pt_imp (pt_chain (op_cmp g.hu op) (op_cmp g.hu op2) hx hy hz (lastM hn)) ?_
  rintro σ H Q ⟨S, e, k, hs, hf, q⟩
  refine rd_chn ⟨S, e, _, hs, hf, fun H' x' k' hk => ⟨k', rfl, ?_⟩⟩
  cases hk
  exact q H' x'

/-! ### and, or, if -/
variable {r : List Expr}
theorem se_and (hx : PE X a (tE X.K F false x)) (hy : PE X (.BoolOp .And (a2 :: r) p) (tE X.K F false y)) : PE X (.BoolOp .And (a :: a2 :: r) p) (tE X.K F b (.and x y)) := by
  refine pe_imp (pe_and hx hy) ?_
  rintro σ H Q ⟨S, e, d, hs, hf, q⟩
  unfold ev at hf
  split at hf
  · rename_i hk
    refine tE_at hs (Ex.refl H) hk fun v1 H1 x1 r1 => ⟨true, r1.bl, ?_⟩
    rw [if_pos rfl]
    exact tE_at hs x1 hf fun v2 H2 x2 r2 => q v2 H2 (x1.trans x2) (.inl r2.f)
  · rename_i hk
    cases hf
    refine tE_at hs (Ex.refl H) hk fun v1 H1 x1 r1 => ⟨false, r1.bl, ?_⟩
    rw [if_neg Bool.false_ne_true]
    exact q _ H1 x1 (.inl (.bl _))
  · cases hf
theorem se_or (hx : PE X a (tE X.K F false x)) (hy : PE X (.BoolOp .Or (a2 :: r) p) (tE X.K F false y)) : PE X (.BoolOp .Or (a :: a2 :: r) p) (tE X.K F b (.or x y)) := by
  refine pe_imp (pe_or hx hy) ?_
  rintro σ H Q ⟨S, e, d, hs, hf, q⟩
  unfold ev at hf
  split at hf
  · rename_i hk
    refine tE_at hs (Ex.refl H) hk fun v1 H1 x1 r1 => ⟨false, r1.bl, ?_⟩
    rw [if_neg Bool.false_ne_true]
    exact tE_at hs x1 hf fun v2 H2 x2 r2 => q v2 H2 (x1.trans x2) (.inl r2.f)
  · rename_i hk
    cases hf
    refine tE_at hs (Ex.refl H) hk fun v1 H1 x1 r1 => ⟨true, r1.bl, ?_⟩
    rw [if_pos rfl]
    exact q _ H1 x1 (.inl (.bl _))
  · cases hf
theorem sw_and (hx : PT X a (tTs X.K F x)) (hy : PW X (.BoolOp .And (a2 :: r) p) (tTs X.K F y)) : PW X (.BoolOp .And (a :: a2 :: r) p) (tTs X.K F (.and x y)) := by
  refine pw_imp (pw_and hx hy) ?_
  rintro σ H Q ⟨S, e, k, hs, hf, q⟩
  unfold ev at hf
  split at hf
  · rename_i hk
    refine tT_at hs (Ex.refl H) hk fun H1 x1 => ?_
    rw [if_pos rfl]
    exact tT_at hs x1 hf fun H2 x2 => q H2 (x1.trans x2)
  · rename_i hk
    cases hf
    refine tT_at hs (Ex.refl H) hk fun H1 x1 => ?_
    rw [if_neg Bool.false_ne_true]
    exact q H1 x1
  · cases hf
theorem sw_or (hx : PT X a (tTs X.K F x)) (hy : PW X (.BoolOp .Or (a2 :: r) p) (tTs X.K F y)) : PW X (.BoolOp .Or (a :: a2 :: r) p) (tTs X.K F (.or x y)) := by
  refine pw_imp (pw_or hx hy) ?_
  rintro σ H Q ⟨S, e, k, hs, hf, q⟩
  unfold ev at hf
  split at hf
  · rename_i hk
    refine tT_at hs (Ex.refl H) hk fun H1 x1 => ?_
    rw [if_neg Bool.false_ne_true]
    exact tT_at hs x1 hf fun H2 x2 => q H2 (x1.trans x2)
  · rename_i hk
    cases hf
    refine tT_at hs (Ex.refl H) hk fun H1 x1 => ?_
    rw [if_pos rfl]
    exact q H1 x1
  · cases hf
theorem se_ife (hz : PT X a3 (tTs X.K F z)) (hx : PE X a (tE X.K F false x)) (hy : PE X a2 (tE X.K F false y)) : PE X (.IfExp a3 a a2 p) (tE X.K F b (.ife z x y)) := by
  refine pe_imp (pe_ifExp hz hx hy) ?_
  rintro σ H Q ⟨S, e, d, hs, hf, q⟩
  have hf := fin_f hf
  split at hf
  · rename_i hk
    refine tT_at hs (Ex.refl H) hk fun H1 x1 => ?_
    rw [if_pos rfl]
    exact tE_at hs x1 hf fun v2 H2 x2 r2 => q v2 H2 (x1.trans x2) (.inl r2.f)
  · rename_i hk
    refine tT_at hs (Ex.refl H) hk fun H1 x1 => ?_
    rw [if_neg Bool.false_ne_true]
    exact tE_at hs x1 hf fun v2 H2 x2 r2 => q v2 H2 (x1.trans x2) (.inl r2.f)
  · cases hf

/-! ### arguments, displays, calls -/
variable {es : List Expr}
theorem star_of {e : Expr} (h : isStar e = false) (es : List Expr) (env : PySem.Env) : starEach (e :: es) env = (false, eval e env) :: starEach es env := by
  cases e <;> first | rfl | cases h
theorem sa_nil : PA X [] (tAs X.K F b .an) := by
  refine pa_imp pa_nil ?_
  rintro σ H Q ⟨S, e, ds, hs, hf, q⟩
  cases hf
  exact q [] H (Ex.refl H) .nil
theorem sa_cons (hn : isStar a = false) (hx : PE X a (tE X.K F b x)) (hy : PA X es (tAs X.K F b y)) : PA X (a :: es) (tAs X.K F b (.ac x y)) := by
  refine pa_imp (pa_cons hx hy (star_of hn es X.env)) ?_
  rintro σ H Q ⟨S, e, ds, hs, hf, q⟩
  unfold ev at hf
  split at hf
  · rename_i d l hd hl
    cases hf
    refine tE_at hs (Ex.refl H) hd fun v1 H1 x1 r1 => ?_
    refine tA_at hs x1 hl fun vs H2 x2 r2 => ?_
    exact q _ H2 (x1.trans x2) (.cons (r1.mono x2 fun _ z => z) r2)
  · cases hf
theorem fewArgs {F : Fn} : True := trivial
theorem se_tup (hx : PA X es (tAs X.K F false x)) (hl : es.length ≤ 100000) (hln : ∀ e ds, ev F x false e = some (.tup ds) → ds.length = es.length) (hd : ∀ e d, ev F x false e = some d → ∃ ds, d = .tup ds) : PE X (.Tuple es k p) (tE X.K F b (.tup x)) := by
  refine pe_imp (pe_tup hx) ?_
  rintro σ H Q ⟨S, e, d, hs, hf, q⟩
  have hf := fin_f hf
  obtain ⟨ds, rfl⟩ := hd e d hf
  refine tA_at hs (Ex.refl H) hf fun vs H1 x1 r1 => ?_
  refine ⟨by rw [r1.length, hln e ds hf]; exact szOf hl, fun p hp => ?_⟩
  exact q _ _ (x1.trans (Ex.new hp)) (.inl (.tup upd_same (r1.f.mono ((Ex.new hp).le fun _ z => z))))
theorem se_lst (hx : PA X es (tAs X.K F false x)) (hl : es.length ≤ 100000) (hln : ∀ e ds, ev F x false e = some (.tup ds) → ds.length = es.length) : PE X (.List es p) (tE X.K F b (.lst x)) := by
  refine pe_imp (pe_lst hx) ?_
  rintro σ H Q ⟨S, e, d, hs, hf, q⟩
  have hf := fin_f hf
  split at hf
  · rename_i ds hf2
    cases hf
    refine tA_at hs (Ex.refl H) hf2 fun vs H1 x1 r1 => ?_
    refine ⟨by rw [r1.length, hln e ds hf2]; exact szOf hl, fun p hp => ?_⟩
    exact q _ _ (x1.trans (Ex.new hp)) (.inl (.lst (.inr (x1.free hp)) upd_same (r1.f.mono ((Ex.new hp).le fun _ z => z))))
  · cases hf
theorem noSlice {e : Expr} (h : isSlice e = false) : PlainIx e := by
  intro o i
  cases e <;> first | rfl | cases h
theorem se_idx (g : GX c F n sc X) (hn : isSlice a2 = false) (hx : PE X a (tE X.K F true x)) (hy : PE X a2 (tE X.K F false y)) : PE X (.Subscript a a2 p) (tE X.K F b (.idx x y)) := by
  refine pe_imp (pe_ix (ix_D g.hu) hx hy (noSlice hn)) ?_
  rintro σ H Q ⟨S, e, d, hs, hf, q⟩
  have hf := fin_f hf
  split at hf
  · rename_i u w hu hw
    refine tE_at hs (Ex.refl H) hu fun v1 H1 x1 r1 => ?_
    refine tE_at hs x1 hw fun v2 H2 x2 r2 => ?_
    refine ⟨nw S H, u, w, d, r1.mono x2 (fun _ z => z), r2.t, hf, fun v H3 x3 r3 => ?_⟩
    exact q v H3 ((x1.trans x2).trans x3) (.inl (r3.mono ((Ex.refl _).le (nw.nw (x1.trans x2)))))
  · cases hf
end
end Tl

/-! G03: a tuple turned round by [::-1]. -/
namespace TrR
open PySem PySem.Spec PyProof.Rows HT L2
section
variable {prog : Program} {w : World} {A : Around} {E : Value → Shared → Prop} {s : Shared}
theorem adjust_rev (n : Nat) : Builtin.Slice.sliceAdjust none none (-1) (n : Int) = ((n : Int) - 1, -1) := by
  unfold Builtin.Slice.sliceAdjust
  simp
theorem places_rev (n : Nat) : Builtin.Slice.slicePlaces ((n : Int) - 1) (-1) (-1) = n := by
  unfold Builtin.Slice.slicePlaces
  rw [if_neg (by decide)]
  by_cases h : n = 0
  · subst h; rfl
  · rw [if_pos (by omega), show (- -1 : Int) = 1 by decide, Int.ediv_one]
    omega
theorem sliceApplied_rev {sl : Addr} {vl vu vs : Value} {n : Nat} {Q : Int × Int × Nat → Shared → Prop} (hs : s.heap.IsSliceOf sl vl vu vs) (pl : IsPart vl none) (pu : IsPart vu none) (ps : IsPart vs (some (-1)))
    (h : Q ((n : Int) - 1, -1, n) s) : wpAny (model prog w) A (Builtin.Slice.sliceApplied (.ref sl) (pure (n : Int))) Q E s := by
  obtain ⟨os, hos, hcs, hds⟩ := id hs
  unfold Builtin.Slice.sliceApplied Builtin.Slice.sliceFields
  refine wpAny_bind (wpAny_bind (wpAny_field hos hds (x := vl) rfl (wpAny_bind (wpAny_field hos hds (x := vu) rfl (wpAny_bind (wpAny_field hos hds (x := vs) rfl (wpAny_pure ?_)))))))
  refine wpAny_bind (slicePart_ ps ?_)
  show wpAny _ _ (if ((-1 : Int) == 0) = true then _ else _) _ _ s
  rw [if_neg (by decide)]
  refine wpAny_bind (slicePart_ pl (wpAny_bind (slicePart_ pu (wpAny_bind (wpAny_pure ?_)))))
  show wpAny _ _ (match Builtin.Slice.sliceAdjust none none (-1) (n : Int) with | (lo, hi) => pure (lo, (-1 : Int), Builtin.Slice.slicePlaces lo hi (-1))) _ _ s
  rw [adjust_rev]
  show wpAny _ _ (pure ((n : Int) - 1, (-1 : Int), Builtin.Slice.slicePlaces ((n : Int) - 1) (-1) (-1))) _ _ s
  rw [places_rev]
  exact wpAny_pure h
theorem fm_congr {α β : Type} {f g : α → Option β} : ∀ {l : List α}, (∀ x ∈ l, f x = g x) → l.filterMap f = l.filterMap g
  | [], _ => rfl
  | x :: r, h => by
    rw [List.filterMap_cons, List.filterMap_cons, h x (by simp), fm_congr fun y hy => h y (by simp [hy])]
theorem pick_rev (xs : Array Value) : ((List.range xs.size).filterMap fun (m : Nat) => xs[((xs.size : Int) - 1 + (m : Int) * (-1)).toNat]?).toArray = xs.toList.reverse.toArray := by
  have e : (List.range xs.size).filterMap (fun (m : Nat) => xs[((xs.size : Int) - 1 + (m : Int) * (-1)).toNat]?) = ((List.range xs.size).map fun k => xs.size - 1 - k).filterMap (xs[·]?) := by
    rw [List.filterMap_map]
    apply fm_congr
    intro m hm
    have hm := List.mem_range.mp hm
    have e : ((xs.size : Int) - 1 + (m : Int) * (-1)).toNat = xs.size - 1 - m := by omega
    show xs[((xs.size : Int) - 1 + (m : Int) * (-1)).toNat]? = xs[xs.size - 1 - m]?
    rw [e]
  rw [e, PySem.W.krv_range, List.filterMap_reverse, PySem.W.krv_all]
theorem getItem_tuple_rev {t sl : Addr} {items : Array Value} {vl vu vs : Value} {Q : Value → Shared → Prop} (ht : IsTup s.heap t items) (hs : s.heap.IsSliceOf sl vl vu vs) (pl : IsPart vl none) (pu : IsPart vu none) (ps : IsPart vs (some (-1)))
    (h : Q (.ref s.heap.objs.size) { s with heap := s.heap.push { cls := .type "tuple", data := .seq items.toList.reverse.toArray } })
    (hsz : items.size ≤ sizeLine) : wpAny (model prog w) A (getItem (.ref t) (.ref sl)) Q E s := by
  have htake : sizeOk (.seq items.toList.reverse.toArray) := by
    show items.toList.reverse.toArray.size ≤ sizeLine
    rw [List.size_toArray, List.length_reverse, Array.length_toList]
    exact hsz
  obtain ⟨os, hos, hcs, hds⟩ := id hs
  have hTs : s.TypeIs (.ref sl) "slice" := ⟨os, hos, hcs⟩
  unfold getItem
  try with_reducible refine wpAny_holding ?_
  first | refine wpAny_bind (wpAny_pure ?_) | skip
  refine wpAny_bind (wpAny_sequenceKey ht.typeIs (by decide) ?_)
  refine wpAny_bind (wpAny_callSpecial?_slot (name := Str.ofString "__getitem__") ht.typeIs PyProof.Rows.slot_tuple_getitem
    (wpAny_call_entry PyProof.Rows.slot_tuple_getitem ht.typeIs entry_tuple_getitem ?_ (args_tuple_getitem _ _)))
  show wpAny _ _ (Builtin.Tuple.tupleItemsOf (.ref t) >>= _) _ _ s
  refine wpAny_bind (tupleItemsOf_ ht ?_)
  refine wpAny_bind (wpAny_typeOf hTs ?_)
  rw [if_pos (by decide)]
  refine wpAny_bind (sliceApplied_rev hs pl pu ps ?_)
  have hno : ¬ ((((items.size : Int) - 1) == 0 && (-1 : Int) == 1 && items.size == items.size) = true) := by
    intro q
    rw [Bool.and_eq_true, Bool.and_eq_true] at q
    exact absurd q.1.2 (by decide)
  show wpAny _ _ (if (((items.size : Int) - 1) == 0 && (-1 : Int) == 1 && items.size == items.size) = true then _ else _) _ _ s
  rw [if_neg hno, pick_rev]
  first
    | exact wpAny_bind (m := Builtin.Tuple.tupleExact _) (wpAny_newObj_type (wpAny_pure ⟨_, rfl, wpAny_pure h⟩) htake)
    | exact wpAny_bind (m := Builtin.Tuple.tupleExact _) (wpAny_newObj_type (wpAny_bind (wpAny_pure (wpAny_pure ⟨_, rfl, wpAny_pure h⟩))) htake)
    | exact wpAny_bind (wpAny_bind (m := Builtin.Tuple.tupleExact _) (wpAny_newObj_type (wpAny_pure (wpAny_pure ⟨_, rfl, wpAny_pure h⟩)) htake))
    | exact wpAny_bind (wpAny_bind (m := Builtin.Tuple.tupleExact _) (wpAny_newObj_type (wpAny_pure ⟨_, rfl, wpAny_pure h⟩) htake))
end
end TrR

/-! G14: slices with a step > 0, of tuples and lists. -/
namespace TrR
open PySem PySem.Spec PyProof.Rows HT L2
theorem adj_bounds (lo hi : Option Int) (k : Int) (n : Nat) (hk : 0 < k) : Builtin.Slice.sliceAdjust lo hi k n = ((sliceBounds lo hi (some k) n).1, (sliceBounds lo hi (some k) n).2.1) := by
  unfold Builtin.Slice.sliceAdjust sliceBounds
  simp only [Option.getD_some, gt_iff_lt, hk, if_true, if_neg (show ¬ k < 0 by omega)]
  congr 1
  · cases lo with
    | none => rfl
    | some v => dsimp only; split <;> omega
  · cases hi with
    | none => rfl
    | some v => dsimp only; split <;> omega
theorem places_count (a b k : Int) (hk : 0 < k) : Builtin.Slice.slicePlaces a b k = (if k > 0 then (if a < b then (b - a + k - 1) / k else 0) else (if a > b then (a - b - k - 1) / (-k) else 0)).toNat := by
  unfold Builtin.Slice.slicePlaces
  simp only [gt_iff_lt, hk, if_true]
  split
  · congr 1
    have e : b - a + k - 1 = (b - a - 1) + 1 * k := by omega
    rw [e, Int.add_mul_ediv_right _ _ (by omega)]
  · rfl
theorem pick_stp (xs : Array Value) (lo hi : Option Int) (k : Int) (hk : 0 < k) :
    ((List.range (Builtin.Slice.slicePlaces (sliceBounds lo hi (some k) xs.size).1 (sliceBounds lo hi (some k) xs.size).2.1 k)).filterMap fun (m : Nat) => xs[((sliceBounds lo hi (some k) xs.size).1 + (m : Int) * k).toNat]?).toArray = (Tl.stpL xs.toList lo hi k).toArray := by
  unfold Tl.stpL sliceRange
  rw [places_count _ _ _ hk, Array.length_toList, List.filterMap_map]
  congr 1
  congr 1
  funext m
  show xs[_]? = xs.toList[_]?
  rw [Array.getElem?_toList, Int.mul_comm]
theorem pick_list (xs : Array Value) (lo hi : Option Int) (k : Int) : slicePick xs lo hi (some k) = (Tl.stpL xs.toList lo hi k).toArray := by
  unfold slicePick Tl.stpL
  rw [Array.length_toList]
  congr 1
  show List.filterMap (fun i => xs[i]?) _ = List.filterMap (fun i => xs.toList[i]?) _
  simp only [Array.getElem?_toList]
  rfl
theorem stp_len {α : Type} (l : List α) (lo hi : Option Int) (k : Int) (hk : 0 < k) : (Tl.stpL l lo hi k).length ≤ l.length := by
  unfold Tl.stpL
  refine Nat.le_trans (List.length_filterMap_le _ _) (sliceRange_length_le _ _ _ _ (fun _ => ?_) fun h => absurd hk h)
  simp only [sliceBounds, Option.getD_some, gt_iff_lt, hk, if_true]
  constructor
  · cases lo with
    | none => simp
    | some i => dsimp only; omega
  · cases hi with
    | none => simp
    | some i => dsimp only; omega
section
variable {prog : Program} {w : World} {A : Around} {E : Value → Shared → Prop} {s : Shared}
theorem sliceApplied_stp {sl : Addr} {vl vu vs : Value} {lo hi : Option Int} {k : Int} {n : Nat} {Q : Int × Int × Nat → Shared → Prop} (hk : 0 < k) (hs : s.heap.IsSliceOf sl vl vu vs) (pl : IsPart vl lo) (pu : IsPart vu hi) (ps : IsPart vs (some k))
    (h : Q ((sliceBounds lo hi (some k) n).1, k, Builtin.Slice.slicePlaces (sliceBounds lo hi (some k) n).1 (sliceBounds lo hi (some k) n).2.1 k) s) : wpAny (model prog w) A (Builtin.Slice.sliceApplied (.ref sl) (pure (n : Int))) Q E s := by
  obtain ⟨os, hos, hcs, hds⟩ := id hs
  unfold Builtin.Slice.sliceApplied Builtin.Slice.sliceFields
  refine wpAny_bind (wpAny_bind (wpAny_field hos hds (x := vl) rfl (wpAny_bind (wpAny_field hos hds (x := vu) rfl (wpAny_bind (wpAny_field hos hds (x := vs) rfl (wpAny_pure ?_)))))))
  refine wpAny_bind (slicePart_ ps ?_)
  show wpAny _ _ (if (k == 0) = true then _ else _) _ _ s
  rw [if_neg (by simp; omega)]
  refine wpAny_bind (slicePart_ pl (wpAny_bind (slicePart_ pu (wpAny_bind (wpAny_pure ?_)))))
  show wpAny _ _ (match Builtin.Slice.sliceAdjust lo hi k n with | (lo, hi) => pure (lo, k, Builtin.Slice.slicePlaces lo hi k)) _ _ s
  rw [adj_bounds _ _ _ _ hk]
  exact wpAny_pure h
theorem whole_stp (xs : Array Value) (lo hi : Option Int) (h1 : (sliceBounds lo hi (some 1) xs.size).1 = 0) (h2 : Builtin.Slice.slicePlaces (sliceBounds lo hi (some 1) xs.size).1 (sliceBounds lo hi (some 1) xs.size).2.1 1 = xs.size) : Tl.stpL xs.toList lo hi 1 = xs.toList := by
  have e := pick_stp xs lo hi 1 (by omega)
  rw [h1] at h2 e
  rw [h2] at e
  have e := congrArg Array.toList e
  rw [List.toList_toArray, List.toList_toArray] at e
  rw [← e]
  have q : (fun (m : Nat) => xs[(0 + (m : Int) * 1).toNat]?) = fun m => xs[m]? := by
    funext m
    rw [show (0 + (m : Int) * 1).toNat = m by omega]
  rw [q]
  exact PySem.W.krv_all xs
theorem getItem_tuple_stp {t sl : Addr} {items : Array Value} {vl vu vs : Value} {lo hi : Option Int} {k : Int} {Q : Value → Shared → Prop} (hk : 0 < k) (ht : IsTup s.heap t items) (hs : s.heap.IsSliceOf sl vl vu vs) (pl : IsPart vl lo) (pu : IsPart vu hi) (ps : IsPart vs (some k))
    (h0 : Tl.stpL items.toList lo hi k = items.toList → Q (.ref t) s)
    (h : Q (.ref s.heap.objs.size) { s with heap := s.heap.push { cls := .type "tuple", data := .seq (Tl.stpL items.toList lo hi k).toArray } })
    (hsz : items.size ≤ sizeLine) : wpAny (model prog w) A (getItem (.ref t) (.ref sl)) Q E s := by
  have htake : sizeOk (.seq (Tl.stpL items.toList lo hi k).toArray) := by
    show (Tl.stpL items.toList lo hi k).toArray.size ≤ sizeLine
    rw [List.size_toArray]
    have h1 := stp_len items.toList lo hi k hk
    have h2 : items.toList.length = items.size := Array.length_toList
    exact Nat.le_trans h1 (by rw [h2]; exact hsz)
  obtain ⟨os, hos, hcs, hds⟩ := id hs
  have hTs : s.TypeIs (.ref sl) "slice" := ⟨os, hos, hcs⟩
  unfold getItem
  try with_reducible refine wpAny_holding ?_
  first | refine wpAny_bind (wpAny_pure ?_) | skip
  refine wpAny_bind (wpAny_sequenceKey ht.typeIs (by decide) ?_)
  refine wpAny_bind (wpAny_callSpecial?_slot (name := Str.ofString "__getitem__") ht.typeIs PyProof.Rows.slot_tuple_getitem
    (wpAny_call_entry PyProof.Rows.slot_tuple_getitem ht.typeIs entry_tuple_getitem ?_ (args_tuple_getitem _ _)))
  show wpAny _ _ (Builtin.Tuple.tupleItemsOf (.ref t) >>= _) _ _ s
  refine wpAny_bind (tupleItemsOf_ ht ?_)
  refine wpAny_bind (wpAny_typeOf hTs ?_)
  rw [if_pos (by decide)]
  refine wpAny_bind (sliceApplied_stp hk hs pl pu ps ?_)
  by_cases hc : (((sliceBounds lo hi (some k) items.size).1 == 0 && k == 1 && Builtin.Slice.slicePlaces (sliceBounds lo hi (some k) items.size).1 (sliceBounds lo hi (some k) items.size).2.1 k == items.size) = true)
  · show wpAny _ _ (if ((sliceBounds lo hi (some k) items.size).1 == 0 && k == 1 && Builtin.Slice.slicePlaces (sliceBounds lo hi (some k) items.size).1 (sliceBounds lo hi (some k) items.size).2.1 k == items.size) = true then _ else _) _ _ s
    rw [if_pos hc]
    rw [Bool.and_eq_true, Bool.and_eq_true] at hc
    have k1 : k = 1 := by simpa using hc.1.2
    subst k1
    have w := h0 (whole_stp items lo hi (by simpa using hc.1.1) (by simpa using hc.2))
    refine wpAny_bind ?_
    show wpAny _ _ (typeOf (.ref t) >>= fun T => pure (T == .type "tuple")) _ _ s
    refine wpAny_bind (wpAny_typeOf ht.typeIs (wpAny_pure ?_))
    first
      | rw [if_pos (by decide)]
      | simp only [beq_self_eq_true, if_true]
    first
      | exact wpAny_bind (wpAny_rule (wpAny_pure ⟨_, rfl, wpAny_pure w⟩))
      | exact wpAny_bind (wpAny_rule (wpAny_bind (wpAny_pure (wpAny_pure ⟨_, rfl, wpAny_pure w⟩))))
  · show wpAny _ _ (if ((sliceBounds lo hi (some k) items.size).1 == 0 && k == 1 && Builtin.Slice.slicePlaces (sliceBounds lo hi (some k) items.size).1 (sliceBounds lo hi (some k) items.size).2.1 k == items.size) = true then _ else _) _ _ s
    rw [if_neg hc, pick_stp _ _ _ _ hk]
    first
      | exact wpAny_bind (m := Builtin.Tuple.tupleExact _) (wpAny_newObj_type (wpAny_pure ⟨_, rfl, wpAny_pure h⟩) htake)
      | exact wpAny_bind (m := Builtin.Tuple.tupleExact _) (wpAny_newObj_type (wpAny_bind (wpAny_pure (wpAny_pure ⟨_, rfl, wpAny_pure h⟩))) htake)
      | exact wpAny_bind (wpAny_bind (m := Builtin.Tuple.tupleExact _) (wpAny_newObj_type (wpAny_pure (wpAny_pure ⟨_, rfl, wpAny_pure h⟩)) htake))
      | exact wpAny_bind (wpAny_bind (m := Builtin.Tuple.tupleExact _) (wpAny_newObj_type (wpAny_pure ⟨_, rfl, wpAny_pure h⟩) htake))
end
end TrR

/-! T07: slices, calls, loops' sources, comprehensions. -/
namespace Tl
open PySem L2
variable [Tabs]
section
variable {c : CC} {F : Fn} {n : Nat} {sc : Scope} {X : Cx} {a a2 a3 : Expr} {x y z : IE} {p : Pos} {b : Bool} {es : List Expr}

/-! ### slices -/
theorem so_none : PO X none (tNoPart) := po_none
def tOs (K : PySem.W.Frag) (F : Fn) (x : IE) : TO := fun σ H Q => ∃ S e d o, SR K S H σ e ∧ ev F x false e = some d ∧ parD (isNo x) d = some o ∧ ∀ H', Ex H H' → Q o H'
theorem so_some (hx : PE X a (tE X.K F false x)) (hn : isNo x = false) : PO X (some a) (tOs X.K F x) := by
  refine ⟨?_⟩
  intro pins s σ H Q I h
  obtain ⟨S, e, d, o, hs, hf, ho, q⟩ := h
  unfold parD at ho
  rw [hn, if_neg Bool.false_ne_true] at ho
  split at ho
  · cases ho
    exact (po_some hx).run pins s σ H Q I (tE_at hs (Ex.refl H) hf fun v H1 x1 r1 => ⟨_, r1.int, q H1 x1⟩)
  · cases ho
theorem so_none' : PO X none (tOs X.K F .no) := by
  refine ⟨?_⟩
  intro pins s σ H Q I h
  obtain ⟨S, e, d, o, hs, hf, ho, q⟩ := h
  cases hf
  cases ho
  exact po_none.run pins s σ H Q I (q H (Ex.refl H))
theorem se_slc {p2 : Pos} {l h : Option Expr} (hx : PE X a (tE X.K F true x)) (hl : PO X l (tOs X.K F y)) (hh : PO X h (tOs X.K F z)) : PE X (.Subscript a (.Slice l h none p2) p) (tE X.K F b (.slc x y z)) := by
  refine pe_imp (pe_slice sl_D hx hl hh) ?_
  rintro σ H Q ⟨S, e, d, hs, hf, q⟩
  have hf := fin_f hf
  split at hf
  · rename_i u w t hu hw ht
    split at hf
    · rename_i lo hi h1 h2
      refine tE_at hs (Ex.refl H) hu fun v1 H1 x1 r1 => ?_
      refine ⟨S, e, w, lo, hs.ex x1, hw, h1, fun H2 x2 => ?_⟩
      refine ⟨S, e, t, hi, hs.ex (x1.trans x2), ht, h2, fun H3 x3 => ?_⟩
      refine ⟨nw S H, u, d, r1.mono (x2.trans x3) (fun _ z => z), hf, fun v H4 x4 r4 => ?_⟩
      exact q v H4 (((x1.trans x2).trans x3).trans x4) (.inl (r4.mono ((Ex.refl _).le (nw.nw ((x1.trans x2).trans x3)))))
    · cases hf
  · cases hf
/-- [::-1] of a list or a text -/
def tRev (K : PySem.W.Frag) (te : TE) : TE := fun σ H Q => te σ H fun x H1 => (∃ a xs, x = .ref a ∧ SqL K H1 a xs ∧ ∀ p, H1 p = none → Q (.ref p) (upd H1 p (.lst xs.reverse))) ∨
  (∃ w : Str, x = .str w ∧ w.length ≤ sizeLine ∧ Q (.str ⟨w.cps.toList.reverse.toArray⟩) H1) ∨ ∃ a xs, x = .ref a ∧ SqT K H1 a xs ∧ ∀ p, H1 p = none → Q (.ref p) (upd H1 p (.tup xs.reverse))
theorem rev_pick (w : Str) : ((Builtin.Str.strSliceIndices none none (-1) w.length).filterMap (w.cps[·]?)).toArray = w.cps.toList.reverse.toArray := by
  rw [PyProof.Rows.picked_rev, PyProof.Rows.filterMap_get, List.map_map]
  · congr 1
    apply List.ext_getElem
    · simp [Str.length]
    · intro i h1 h2
      have h3 : i < w.cps.size := by simpa using h2
      have h4 : w.cps.size - 1 - i < w.cps.size := by omega
      simp only [List.getElem_map, List.getElem_range, Function.comp, List.getElem_reverse, Str.length, Array.getD, Array.length_toList, Array.getElem_toList]
      rw [dif_pos h4]
      rfl
  · intro i hi
    obtain ⟨k, hk, rfl⟩ := List.mem_map.mp hi
    have hk' : k < w.length := List.mem_range.mp hk
    show w.length - 1 - k < w.cps.size
    have : w.length = w.cps.size := rfl
    omega
open PySem.Spec PyProof.Rows in
theorem pe_revD {te : TE} {k : Nat} {p1 p2 p3 : Pos} (he : PE X a te) : PE X (.Subscript a (.Slice none none (some (.UnaryOp .USub (.Constant (.int 1) k p1) p2)) p3) p) (tRev X.K te) := by
  refine ⟨fun pins s σ H Q I h => ?_⟩
  refine PyProof.Rows.Subscript_ (thn (he.run pins s σ H _ I h) fun v s1 ⟨x, H1, I1, r1, q1⟩ => ?_)
  have hst : PO X (some (.UnaryOp .USub (.Constant (.int 1) k p1) p2)) (tPart (tUn (rU fun i => .int (-i)) (tC (.int 1)))) := po_some (pe_un un_neg pe_int)
  refine wpAny_Slice (thn (po_none.run pins s1 σ H1 (fun o H2 => o = none ∧ H2 = H1) I1 ⟨rfl, rfl⟩) fun vl s2 ⟨l, H2, I2, pl, el, e2⟩ => ?_)
  subst el e2
  refine thn (po_none.run pins s2 σ H2 (fun o H3 => o = none ∧ H3 = H2) I2 ⟨rfl, rfl⟩) fun vu s3 ⟨u, H3, I3, pu, eu, e3⟩ => ?_
  subst eu e3
  refine thn (hst.run pins s3 σ H3 (fun o H4 => o = some (-1) ∧ H4 = H3) I3 ⟨1, rfl, -1, rfl, rfl, rfl⟩) fun vs s4 ⟨o, H4, I4, ps, eo, e4⟩ => ?_
  subst eo e4
  have I5 : Inv X pins σ H4 { s4 with heap := s4.heap.push { cls := .type "slice", data := .fields #[vl, vu, vs] } } := I4.kept (t' := s4.toks) fun b ob q => Heap.get?_push_of_some _ q
  show wpAny (model X.prog X.w) X.A (subscriptTail a (.Slice none none (some (.UnaryOp .USub (.Constant (.int 1) k p1) p2)) p3) v (.ref s4.heap.objs.size)) (EP X pins σ Q) X.xe { s4 with heap := s4.heap.push { cls := .type "slice", data := .fields #[vl, vu, vs] } }
  rcases q1 with ⟨a', xs, ex, hx, q⟩ | ⟨w, ex, hz, q⟩ | ⟨a', xs, ex, hx, q⟩
  · subst ex
    cases r1
    obtain ⟨its, r, ht, hz⟩ := I5.list hx
    have hlen := r.length
    refine tail_any (ops := [.ref a', .ref s4.heap.objs.size]) ht.isList.typeIs (PySem.slot_list_getitem.lookup) ?_ (by with_unfolding_all rfl)
    refine wpAny_getItem_list_slice ht.isList (Heap.IsSliceOf.new _ vl vu vs) pl pu ps (by decide) ?_ (by rw [List.size_toArray]; omega)
    rw [PySem.W.krv_pick]
    refine ⟨.ref _, _, I5.laid (t' := s4.toks) (o := .lst xs.reverse) (fun b ob q => Heap.get?_push_of_some _ q) (Nat.le_refl _) ?_, rfl, q _ (I5.hok.fresh (Nat.le_refl _))⟩
    exact ⟨by rw [List.length_reverse]; exact hz, _, 0, r.reverse, Heap.get?_push_size _ rfl⟩
  · subst ex
    obtain ⟨t, rfl⟩ := r1
    obtain ⟨os, hos, hcs, hds⟩ := Heap.IsSliceOf.new s4.heap vl vu vs
    obtain ⟨l, rfl, el⟩ := IsPart.raw pl
    obtain ⟨u, rfl, eu⟩ := IsPart.raw pu
    obtain ⟨st, rfl, est⟩ := IsPart.raw ps
    refine tail_any (ops := [.str w t, .ref s4.heap.objs.size]) (typeIs_str _ _ _) PySem.F.slot_str_getitem.lookup ?_ (by with_unfolding_all rfl)
    refine wpAny_getItem_str_slice (l := l) (u := u) (st := st) ⟨os, hos, hcs, hds⟩ (by rw [est]; rfl) ?_
    have h0 : l = none := by
      cases l with
      | none => rfl
      | some _ => cases el
    have h1 : u = none := by
      cases u with
      | none => rfl
      | some _ => cases eu
    subst h0 h1
    show Made.post (if (((st.map (·.1)).getD 1 == 1) && (Builtin.Str.strSliceIndices none none ((st.map (·.1)).getD 1) w.length).length == w.length) = true then Made.val (.str w t)
      else Made.str ⟨((Builtin.Str.strSliceIndices none none ((st.map (·.1)).getD 1) w.length).filterMap (w.cps[·]?)).toArray⟩) (EP X pins σ Q) _
    rw [est]
    show Made.post (if (false && _) = true then _ else Made.str ⟨((Builtin.Str.strSliceIndices none none (-1) w.length).filterMap (w.cps[·]?)).toArray⟩) (EP X pins σ Q) _
    rw [Bool.false_and, if_neg Bool.false_ne_true, rev_pick]
    refine ⟨?_, .str _, _, I5.tok _, ⟨_, rfl⟩, q⟩
    show (w.cps.toList.reverse.toArray).size ≤ sizeLine
    rw [List.size_toArray, List.length_reverse, Array.length_toList]
    exact hz
  · subst ex
    cases r1
    obtain ⟨its, r, ht, hz⟩ := I5.tuple hx
    have hlen := r.length
    refine tail_any (ops := [.ref a', .ref s4.heap.objs.size]) (show _ from (id ht).typeIs) (PyProof.Rows.slot_tuple_getitem.lookup) ?_ (by with_unfolding_all rfl)
    refine TrR.getItem_tuple_rev ht (Heap.IsSliceOf.new _ vl vu vs) pl pu ps ?_ (by rw [List.size_toArray]; omega)
    refine ⟨.ref _, _, I5.laid (t' := s4.toks) (o := .tup xs.reverse) (fun b ob q => Heap.get?_push_of_some _ q) (Nat.le_refl _) ?_, rfl, q _ (I5.hok.fresh (Nat.le_refl _))⟩
    exact ⟨by rw [List.length_reverse]; exact hz, _, r.reverse, PyProof.Rows.IsTup.new _ _⟩
theorem se_rvs {k : Nat} {p1 p2 p3 : Pos} (hx : PE X a (tE X.K F true x)) : PE X (.Subscript a (.Slice none none (some (.UnaryOp .USub (.Constant (.int 1) k p1) p2)) p3) p) (tE X.K F b (.rvs x)) := by
  refine pe_imp (pe_revD hx) ?_
  rintro σ H Q ⟨S, e, d, hs, hf, q⟩
  have hf := fin_f hf
  split at hf
  · rename_i s hs2
    split at hf
    · rename_i hl
      cases hf
      refine tE_at hs (Ex.refl H) hs2 fun v1 H1 x1 r1 => .inr (.inl ⟨_, r1.str, ?_, q _ H1 x1 (.inl (.str _))⟩)
      rw [strLen]; exact szOf (okLen_le hl)
    · cases hf
  · rename_i l hl
    cases hf
    refine tE_at hs (Ex.refl H) hl fun v1 H1 x1 r1 => .inl ?_
    obtain ⟨p, vs, rfl, hv, r⟩ := r1.lst
    exact ⟨p, vs, rfl, .of hv, fun p hp => q _ _ (x1.trans (Ex.new hp)) (.inl (.lst (.inr (x1.free hp)) upd_same (r.reverse.mono ((Ex.new hp).le fun _ z => z))))⟩
  · rename_i l hl
    cases hf
    refine tE_at hs (Ex.refl H) hl fun v1 H1 x1 r1 => .inr (.inr ?_)
    obtain ⟨p, vs, rfl, hv, r⟩ := r1.tup
    exact ⟨p, vs, rfl, .of hv, fun p hp => q _ _ (x1.trans (Ex.new hp)) (.inl (.tup upd_same (r.reverse.mono ((Ex.new hp).le fun _ z => z))))⟩
  · cases hf

/-- x[lo:hi:k] of a list or a tuple -/
def tStp (K : PySem.W.Frag) (te : TE) (tl th ts : TO) : TE := fun σ H Q => te σ H fun x H1 => tl σ H1 fun lo H2 => th σ H2 fun hi H3 => ts σ H3 fun st H4 => ∃ k, st = some k ∧ 0 < k ∧
  ((∃ a xs, x = .ref a ∧ SqL K H4 a xs ∧ ∀ p, H4 p = none → Q (.ref p) (upd H4 p (.lst (stpL xs lo hi k)))) ∨
  ∃ a xs, x = .ref a ∧ SqT K H4 a xs ∧ (stpL xs lo hi k = xs → Q (.ref a) H4) ∧ ∀ p, H4 p = none → Q (.ref p) (upd H4 p (.tup (stpL xs lo hi k))))
theorem vals_idx {xs : List V} {us : List Value} (h : Vals xs us) : ∀ (is : List Nat), Vals (is.filterMap (xs[·]?)) (is.filterMap (us[·]?))
  | [] => .nil
  | i :: is => by
    have hl := h.length
    rcases hx : xs[i]? with _ | x
    · have hu : us[i]? = none := by
        rw [List.getElem?_eq_none_iff] at hx ⊢
        omega
      rw [List.filterMap_cons_none hx, List.filterMap_cons_none hu]
      exact vals_idx h is
    · obtain ⟨u, hu, r⟩ := h.get hx
      rw [List.filterMap_cons_some hx, List.filterMap_cons_some hu]
      exact .cons r (vals_idx h is)
theorem vals_unique : ∀ {xs ys : List V} {us : List Value}, Vals xs us → Vals ys us → xs = ys
  | _, _, _, .nil, .nil => rfl
  | _, _, _, .cons a r, .cons b q => by
    have e := a.abs.symm.trans b.abs
    cases e
    rw [vals_unique r q]
theorem stpD_inv {u kd d : D} {lo hi : Option Int} (h : stpD u lo hi kd = some d) : ∃ k, kd = .int k ∧ 0 < k ∧ ((∃ l, u = .lst l ∧ d = .lst (stpL l lo hi k)) ∨ ∃ l, u = .tup l ∧ d = .tup (stpL l lo hi k)) := by
  cases u with
  | lst l =>
    cases kd with
    | int k =>
      have h : (if 0 < k then some (D.lst (stpL l lo hi k)) else none) = some d := h
      by_cases hk : 0 < k
      · rw [if_pos hk] at h
        cases h
        exact ⟨k, rfl, hk, .inl ⟨l, rfl, rfl⟩⟩
      · rw [if_neg hk] at h; cases h
    | _ => cases h
  | tup l =>
    cases kd with
    | int k =>
      have h : (if 0 < k then some (D.tup (stpL l lo hi k)) else none) = some d := h
      by_cases hk : 0 < k
      · rw [if_pos hk] at h
        cases h
        exact ⟨k, rfl, hk, .inr ⟨l, rfl, rfl⟩⟩
      · rw [if_neg hk] at h; cases h
    | _ => cases h
  | _ => cases h
theorem vals_stp {xs : List V} {us : List Value} (h : Vals xs us) (lo hi : Option Int) (k : Int) : Vals (stpL xs lo hi k) (stpL us lo hi k) := by
  unfold stpL
  rw [show us.length = xs.length from h.length.symm]
  exact vals_idx h _
theorem drs_stp {K : PySem.W.Frag} {S : Ad} {H : Hp} {ds : List D} {vs : List V} (h : DRs K S H vs ds) (lo hi : Option Int) (k : Int) : DRs K S H (stpL vs lo hi k) (stpL ds lo hi k) := by
  unfold stpL
  rw [h.length]
  generalize PySem.sliceRange _ _ _ = is
  induction is with
  | nil => exact .nil
  | cons i is ih =>
    have hl := h.length
    rcases hx : ds[i]? with _ | x
    · have hu : vs[i]? = none := by
        rw [List.getElem?_eq_none_iff] at hx ⊢
        omega
      rw [List.filterMap_cons_none hx, List.filterMap_cons_none hu]
      exact ih
    · obtain ⟨u, hu, r⟩ := h.get hx
      rw [List.filterMap_cons_some hx, List.filterMap_cons_some hu]
      exact .cons r ih
open PySem.Spec PyProof.Rows in
theorem pe_stpD {te : TE} {tl th ts : TO} {l h : Option Expr} {st : Expr} {p3 : Pos} (he : PE X a te) (hl : PO X l tl) (hh : PO X h th) (hst : PO X (some st) ts) : PE X (.Subscript a (.Slice l h (some st) p3) p) (tStp X.K te tl th ts) := by
  refine ⟨fun pins s σ H Q I h => ?_⟩
  refine PyProof.Rows.Subscript_ (thn (he.run pins s σ H _ I h) fun v s1 ⟨x, H1, I1, r1, q1⟩ => ?_)
  refine wpAny_Slice (thn (hl.run pins s1 σ H1 _ I1 q1) fun vl s2 ⟨lo, H2, I2, pl, q2⟩ => ?_)
  refine thn (hh.run pins s2 σ H2 _ I2 q2) fun vu s3 ⟨hi, H3, I3, pu, q3⟩ => ?_
  refine thn (hst.run pins s3 σ H3 _ I3 q3) fun vs s4 ⟨o, H4, I4, ps, k, eo, hk, q4⟩ => ?_
  subst eo
  have I5 : Inv X pins σ H4 { s4 with heap := s4.heap.push { cls := .type "slice", data := .fields #[vl, vu, vs] } } := I4.kept (t' := s4.toks) fun b ob q => Heap.get?_push_of_some _ q
  show wpAny (model X.prog X.w) X.A (subscriptTail a _ v (.ref s4.heap.objs.size)) (EP X pins σ Q) X.xe { s4 with heap := s4.heap.push { cls := .type "slice", data := .fields #[vl, vu, vs] } }
  rcases q4 with ⟨a', xs, ex, hx, q⟩ | ⟨a', xs, ex, hx, q0, q⟩
  · subst ex
    cases r1
    obtain ⟨its, r, ht, hz⟩ := I5.list hx
    have hlen := r.length
    refine tail_any (ops := [.ref a', .ref s4.heap.objs.size]) ht.isList.typeIs (PySem.slot_list_getitem.lookup) ?_ (by with_unfolding_all rfl)
    refine wpAny_getItem_list_slice ht.isList (Heap.IsSliceOf.new _ vl vu vs) pl pu ps (by intro e; cases e; omega) ?_ (by rw [List.size_toArray]; omega)
    rw [TrR.pick_list]
    refine ⟨.ref _, _, I5.laid (t' := s4.toks) (o := .lst (stpL xs lo hi k)) (fun b ob q => Heap.get?_push_of_some _ q) (Nat.le_refl _) ?_, rfl, q _ (I5.hok.fresh (Nat.le_refl _))⟩
    exact ⟨Nat.le_trans (TrR.stp_len _ _ _ _ hk) hz, _, 0, vals_stp r lo hi k, Heap.get?_push_size _ rfl⟩
  · subst ex
    cases r1
    obtain ⟨its, r, ht, hz⟩ := I5.tuple hx
    have hlen := r.length
    refine tail_any (ops := [.ref a', .ref s4.heap.objs.size]) (show _ from (id ht).typeIs) (PyProof.Rows.slot_tuple_getitem.lookup) ?_ (by with_unfolding_all rfl)
    refine TrR.getItem_tuple_stp hk ht (Heap.IsSliceOf.new _ vl vu vs) pl pu ps (fun e => ?_) ?_ (by rw [List.size_toArray]; omega)
    · have e2 : stpL xs lo hi k = xs := by
        have e1 := vals_stp r lo hi k
        rw [show stpL its lo hi k = its from e] at e1
        exact vals_unique e1 r
      exact ⟨.ref a', _, I5, rfl, q0 e2⟩
    refine ⟨.ref _, _, I5.laid (t' := s4.toks) (o := .tup (stpL xs lo hi k)) (fun b ob q => Heap.get?_push_of_some _ q) (Nat.le_refl _) ?_, rfl, q _ (I5.hok.fresh (Nat.le_refl _))⟩
    exact ⟨Nat.le_trans (TrR.stp_len _ _ _ _ hk) hz, _, vals_stp r lo hi k, PyProof.Rows.IsTup.new _ _⟩
theorem se_slst {p2 : Pos} {l h : Option Expr} {st : Expr} {k : IE} (hx : PE X a (tE X.K F true x)) (hl : PO X l (tOs X.K F y)) (hh : PO X h (tOs X.K F z)) (hk : PE X st (tE X.K F false k)) (hn : isNo k = false) : PE X (.Subscript a (.Slice l h (some st) p2) p) (tE X.K F b (.slst x y z k)) := by
  refine pe_imp (pe_stpD hx hl hh (so_some hk hn)) ?_
  rintro σ H Q ⟨S, e, d, hs, hf, q⟩
  have hf := fin_f hf
  split at hf
  · rename_i u w t kd hu hw ht hkd
    split at hf
    · rename_i lo hi h1 h2
      refine tE_at hs (Ex.refl H) hu fun v1 H1 x1 r1 => ?_
      refine ⟨S, e, w, lo, hs.ex x1, hw, h1, fun H2 x2 => ?_⟩
      refine ⟨S, e, t, hi, hs.ex (x1.trans x2), ht, h2, fun H3 x3 => ?_⟩
      obtain ⟨k, rfl, hk0, ⟨l, rfl, rfl⟩ | ⟨l, rfl, rfl⟩⟩ := stpD_inv hf
      · refine ⟨S, e, .int k, some k, hs.ex ((x1.trans x2).trans x3), hkd, by unfold parD; rw [hn]; rfl, fun H4 x4 => ?_⟩
        have x5 := (x2.trans x3).trans x4
        obtain ⟨p, vs, rfl, hv, r⟩ := (r1.mono x5 (fun _ z => z)).lst
        refine ⟨k, rfl, hk0, .inl ⟨p, vs, rfl, .of hv, fun p hp => ?_⟩⟩
        exact q _ _ ((x1.trans x5).trans (Ex.new hp)) (.inl (.lst (.inr ((x1.trans x5).free hp)) upd_same (drs_stp (r.mono ((Ex.new hp).le fun _ z => z)) lo hi k)))
      · refine ⟨S, e, .int k, some k, hs.ex ((x1.trans x2).trans x3), hkd, by unfold parD; rw [hn]; rfl, fun H4 x4 => ?_⟩
        have x5 := (x2.trans x3).trans x4
        obtain ⟨p, vs, rfl, hv, r⟩ := (r1.mono x5 (fun _ z => z)).tup
        refine ⟨k, rfl, hk0, .inr ⟨p, vs, rfl, .of hv, fun e => ?_, fun p hp => ?_⟩⟩
        · have e1 := drs_stp r lo hi k
          rw [e] at e1
          exact q _ _ (x1.trans x5) (.inl (.tup hv e1))
        · exact q _ _ ((x1.trans x5).trans (Ex.new hp)) (.inl (.tup upd_same (drs_stp (r.mono ((Ex.new hp).le fun _ z => z)) lo hi k)))
    · cases hf
  · cases hf

/-! ### calls -/
theorem noStars (h : ∀ e ∈ es, isStar e = false) (env : PySem.Env) (pos : Pos) : (backTo pos (starEach es env)).any (·.1) = false := by
  induction es with
  | nil => rfl
  | cons e es ih =>
    rw [star_of (h e (by simp)) es env]
    show (false || (backTo pos (starEach es env)).any (·.1)) = false
    rw [ih fun e he => h e (by simp [he])]
    rfl
mutual
theorem immE {K : PySem.W.Frag} {S S' : Ad} {H : Hp} : ∀ (d : D) {v : V}, imm d = true → DR K S H v d → DR K S' H v d
  | .non, _, _, h => by cases h; exact .non
  | .bl _, _, _, h => by cases h; exact .bl _
  | .int _, _, _, h => by cases h; exact .int _
  | .str _, _, _, h => by cases h; exact .str _
  | .tup l, _, e, h => by cases h with | tup h r => exact .tup h (immsE l (by unfold imm at e; exact e) r)
  | .lst _, _, e, _ => by unfold imm at e; cases e
  | .ro _, _, e, _ => by unfold imm at e; cases e
  | .dic _ _, _, e, _ => by unfold imm at e; cases e
  | .st _, _, _, h => by cases h
  | .fn _, _, _, h => by cases h
theorem immsE {K : PySem.W.Frag} {S S' : Ad} {H : Hp} : ∀ (ds : List D) {vs : List V}, immAll ds = true → DRs K S H vs ds → DRs K S' H vs ds
  | [], _, _, h => by cases h; exact .nil
  | d :: ds, _, e, h => by
    unfold immAll at e
    rw [Bool.and_eq_true] at e
    cases h with
    | cons h r => exact .cons (immE d e.1 h) (immsE ds e.2 r)
end
theorem imm_DR {K : PySem.W.Frag} {S S' : Ad} {H : Hp} {d : D} {v : V} (e : imm d = true) (h : DR K S H v d) : DR K S' H v d := immE d e h
theorem le_top {S : Ad} {H : Hp} : Le S H (fun _ => True) H := ⟨fun _ _ => trivial, fun _ _ z => z, fun _ _ _ z => z, fun _ _ _ z => z, fun _ _ _ _ z => z⟩
theorem DV.all {K : PySem.W.Frag} {S : Ad} {H : Hp} {v : V} {d : D} (h : DV b K S H v d) (n : notDic d = true) : DR K (fun _ => True) H v d := by
  rcases h with h | ⟨_, a, rfl, h⟩
  · exact h.mono le_top
  · cases d with
    | lst ds =>
      obtain ⟨vs, h1, h2⟩ := h
      exact .lst trivial h1 (h2.mono le_top)
    | dic _ _ => cases n
    | _ => exact h.elim
theorem DVs.all {K : PySem.W.Frag} {S : Ad} {H : Hp} {vs : List V} {ds : List D} (h : DVs b K S H vs ds) (n : ds.all notDic = true) : DRs K (fun _ => True) H vs ds := by
  induction h with
  | nil => exact .nil
  | cons a r ih =>
    rw [List.all_cons, Bool.and_eq_true] at n
    exact .cons (a.all n.1) (ih n.2)
/-- a row of arguments as the check lets it through -/
structure Args (es : List Expr) : Prop where
  ns : ∀ e ∈ es, isStar e = false
theorem plainArgs (h : ∀ e ∈ es, isStar e = false) {e : Expr} {r : List Expr} (he : es = e :: r) : starEach (e :: r) X.env = (false, eval e X.env) :: starEach r X.env ∧ (backTo p (starEach r X.env)).any (·.1) = false := by
  subst he
  exact ⟨star_of (h e (by simp)) r X.env, noStars (fun e' he' => h e' (by simp [he'])) X.env p⟩
theorem se_call (g : GX c F n sc X) {k : Nat} {nm : Str} {p1 : Pos} (hG : c.G[k]? = some nm) (hgl : glB sc nm = true) (ho : notOdd nm = true) (hx : PA X es (tAs X.K F (hasB x) x)) (hst : ∀ e ∈ es, isStar e = false) (h0 : es = [] → x = .an) :
    PE X (.Call (.Name nm p1) es [] p) (tE X.K F b (.call k x)) := by
  obtain ⟨f, fd, ps, hm, hk, hb, ok⟩ := g.fns k nm hG
  have body : ∀ σ H Q, tE X.K F b (.call k x) σ H Q → tCall (spF X.K F k) [] E0 (tAs X.K F (hasB x) x) σ H Q := by
    rintro σ H Q ⟨S, e, d, hs, hf, q⟩
    have hf := fin_f hf
    split at hf
    · rename_i ds hds
      refine tA_at hs (Ex.refl H) hds fun vs H1 x1 r1 => ?_
      rw [List.append_nil]
      split at hf
      · rename_i r hr
        cases hB : hasB x with
        | false =>
          rw [hB] at r1 hf
          simp only [Bool.false_eq_true, if_false, Option.some.injEq] at hf
          subst hf
          exact ⟨hs.tab.ex x1, nw S H, ds, _, r1.f, hr, fun v H2 x2 r2 => q v H2 (x1.trans x2) (.inl (r2.mono ((Ex.refl _).le (nw.nw x1))))⟩
        | true =>
          rw [hB] at hf
          simp only [if_true] at hf
          split at hf
          · rename_i him
            cases hf
            rw [Bool.and_eq_true] at him
            exact ⟨hs.tab.ex x1, fun _ => True, ds, _, r1.all him.2, hr, fun v H2 x2 r2 => q v H2 (x1.trans x2) (.inl (imm_DR him.1 r2))⟩
          · cases hf
      · cases hf
    · cases hf
  cases es with
  | nil =>
    refine pe_imp (pe_call0 ok g.room (g.gl hgl) hm hk hb .nil pass0 (odd_of ho).1) ?_
    rintro σ H Q ⟨S, e, d, hs, hf, q⟩
    have hx0 := h0 rfl
    subst hx0
    have hf := fin_f hf
    simp only [ev, hasB, Bool.false_eq_true, if_false] at hf
    split at hf
    · rename_i r hr
      cases hf
      exact ⟨hs.tab, nw S H, [], _, .nil, hr, fun v H2 x2 r2 => q v H2 x2 (.inl (r2.mono ((Ex.refl _).le (nw.nw (Ex.refl H)))))⟩
    · cases hf
  | cons e r =>
    obtain ⟨h1, h2⟩ := plainArgs (X := X) (p := p) hst rfl
    exact pe_imp (pe_call ok g.room (g.gl hgl) hm hk hb .nil pass0 hx (odd_of ho).1 h1 h2) body
end
end Tl

/-! G04: set(l), set(t) of ints and texts: its length, its members in a list. -/
namespace SetX
open PySem PySem.Spec PyProof.Rows L2
/-- which key a value is -/
def valKey : Value → Key
  | .int k _ => .inl k
  | .str x _ => .inr x
  | _ => .inl 0
theorem valKey_of {k : Key} {v : Value} (h : keyIs k v = true) : valKey v = k := by
  rcases keyIs_shape h with ⟨i, t, rfl, rfl⟩ | ⟨x, t, rfl, rfl⟩ <;> rfl
theorem scan_of {k : Key} {v : Value} (h : keyIs k v = true) : v.scannable = true := by
  rcases keyIs_shape h with ⟨i, t, rfl, rfl⟩ | ⟨x, t, rfl, rfl⟩ <;> rfl
/-- an entry that stands as it should -/
def Fine (w : World) (e : Int × Value) : Prop := keyIs (valKey e.2) e.2 = true ∧ e.1 = keyH w (valKey e.2)
abbrev vk (e : Int × Value) : Key := valKey e.2
/-- the set at a has the members ks, in some order -/
def Mem (w : World) (h : Heap) (a : Addr) (ks : List Key) : Prop :=
  ∃ o es ep t, h.get? a = some o ∧ o.ExactSet ∧ o.data = .set es ep t ∧ (∀ e ∈ es.toList, Fine w e) ∧ (es.toList.map vk).Perm ks ∧ ks.Nodup ∧ es.size < scanBound ∧ t.fits es.size = true ∧
    Ris t.place.toList ∧ (w.params.followText "set-order" = true ∨ t.led = true)
section
variable {P : Program} {w : World} {h h' : Heap} {a : Addr} {ks : List Key}
theorem Mem.at (M : Mem w h a ks) (k : ∀ o, h.get? a = some o → h'.get? a = some o) : Mem w h' a ks := by
  obtain ⟨o, es, ep, t, ho, r⟩ := M
  exact ⟨o, es, ep, t, k o ho, r⟩
theorem fine_elems {l : List (Int × Value)} (g : ∀ e ∈ l, Fine w e) : ElemsOf (mixKind P w) l := fun e he =>
  ⟨⟨valKey e.2, (g e he).1, (g e he).2⟩, scan_of (g e he).1⟩
theorem fine_is {e : Int × Value} (g : Fine w e) (k : Key) : (mixKind P w).is k e.2 = true ↔ vk e = k :=
  ⟨fun q => valKey_of q, fun q => q ▸ g.1⟩
theorem Mem.len (M : Mem w h a ks) : ks.length < scanBound := by
  obtain ⟨o, es, ep, t, _, _, _, _, pm, _, hb, _⟩ := M
  rw [← pm.length_eq, List.length_map, Array.length_toList]
  exact hb
end
section
variable {P : Program} {w : World} {A : Around} {E : Value → Shared → Prop} {s : Shared} {a : Addr} {ks : List Key}
/-- the new entries are stored; the table may grow -/
theorem stored {g : Bool → Sem Unit} (hg : ∀ (b : Bool) (z : Shared) (Z : Unit → Shared → Prop), Z () z → wpAny (model P w) A (g b) Z E z)
    {o : Obj} {es : Array (Int × Value)} {ep : Nat} {t : SetTable} (ho : s.heap.get? a = some o) (hex : o.ExactSet) (hd : o.data = .set es ep t)
    {fs : Array (Int × Value)} {u : SetTable} (gf : ∀ e ∈ fs.toList, Fine w e) (pf : (fs.toList.map vk).Perm ks) (nd : ks.Nodup)
    (hb : fs.size < scanBound) (hf : u.fits fs.size = true) (hr : Ris u.place.toList) (hl : w.params.followText "set-order" = true ∨ u.led = true) {dm : Bool} {R : Option Bool → Shared → Prop}
    (hR : ∀ h', Heap.SameBut a s.heap h' → Mem w h' a ks → R (some true) { s with heap := h' }) :
    wpAny (model P w) A (do
        storeSet a fs u
        if (!dm && u.tooFull) = true then do
            g (relayAll u fs (SetTable.grown fs.size)).2.2
            storeSet a (relayAll u fs (SetTable.grown fs.size)).1 (relayAll u fs (SetTable.grown fs.size)).2.1
            pure (some true)
          else pure (some true)) R E s := by
  have at1 := store_at (es' := fs) (t' := u) ho hd
  have sb := Heap.SameBut.update s.heap a (Obj.putSet fs u)
  refine wpAny_bind (wpAny_storeSet_of ho hd ?_ (fits_of_scanBound hb))
  by_cases hc : (!dm && u.tooFull) = true
  · rw [if_pos hc]
    have q1 := relayAll_perm u fs (SetTable.grown fs.size)
    have q2 := relayAll_fits u fs (SetTable.grown fs.size)
    have q3 := relayAll_ris u fs (SetTable.grown fs.size)
    have q4 := relayAll_led u fs (SetTable.grown fs.size)
    generalize relayAll u fs (SetTable.grown fs.size) = Z at q1 q2 q3 q4 ⊢
    obtain ⟨gs, v, y⟩ := Z
    dsimp only at q1 q2 q3 q4 ⊢
    have sz : gs.size = fs.size := by rw [← Array.length_toList, q1.length_eq, Array.length_toList]
    have hb2 : gs.size < scanBound := sz ▸ hb
    refine wpAny_bind (hg _ _ _ ?_)
    refine wpAny_bind (wpAny_storeSet_of at1 rfl ?_ (fits_of_scanBound hb2))
    have at2 := store_at (es' := gs) (t' := v) at1 rfl
    refine wpAny_pure (hR _ (sb.trans (Heap.SameBut.update _ a _)) ⟨_, gs, _, v, at2, hex, rfl, fun e he => gf e (q1.mem_iff.mp he), (q1.map vk).trans pf, nd, hb2, q2, q3, ?_⟩)
    rcases hl with hl | hl
    · exact .inl hl
    · exact .inr (by rw [q4]; exact hl)
  · rw [if_neg hc]
    exact wpAny_pure (hR _ sb ⟨_, fs, _, u, at1, hex, rfl, gf, pf, nd, hb, hf, hr, hl⟩)
/-- one value more -/
theorem add_one {k : Key} {x : Value} {Q : Bool → Shared → Prop} (M : Mem w s.heap a ks) (hx : keyIs k x = true) (room : ks.length + 1 < scanBound)
    (old : k ∈ ks → Q false s) (new : k ∉ ks → ∀ h', Heap.SameBut a s.heap h' → Mem w h' a (k :: ks) → Q true { s with heap := h' }) :
    wpAny (model P w) A (setAddHashed a x ((mixKind P w).hash k)) Q E s := by
  obtain ⟨o, es, ep, t, ho, hex, hd, g, pm, nd, hb, hf, hr, hl⟩ := M
  have hkey : (mixKind P w).is k x = true := hx
  have hsc := scan_of hx
  have hel : ElemsOf (mixKind P w) es.toList := fine_elems g
  unfold setAddHashed setAddHashedIn
  refine wpAny_holding (wpAny_bind (wpAny_setState_of ho hd hf ?_))
  dsimp only
  rw [byScan_of hsc hb hel]
  simp only [↓reduceIte]
  unfold setAddByScan
  refine wpAny_bind (wpAny_bind (wpAny_rule ?_))
  refine wpAny_bind (wpAny_setScan_of hkey ho hd hf hel ?_)
  cases hfi : List.findIdx? (fun e => (mixKind P w).is k e.2) es.toList with
  | some j =>
    dsimp only
    obtain ⟨hj, pj, _⟩ := List.findIdx?_eq_some_iff_getElem.mp hfi
    have hm : k ∈ es.toList.map vk := List.mem_map.mpr ⟨_, List.getElem_mem hj, (fine_is (P := P) (g _ (List.getElem_mem hj)) k).mp pj⟩
    exact wpAny_pure (wpAny_pure (old (pm.mem_iff.mp hm)))
  | none =>
    dsimp only
    have hno : k ∉ ks := fun z => by
      obtain ⟨e, he, q⟩ := List.mem_map.mp (pm.mem_iff.mpr z)
      have c := List.findIdx?_eq_none_iff.mp hfi e he
      rw [(fine_is (P := P) (g e he) k).mpr q] at c
      cases c
    have give : ∀ (b : Bool) {z : Shared} {Z : Unit → Shared → Prop}, Z () z → wpAny (model P w) A (match b with | true => rule "set.scan.the-table-gave-way" | false => pure ()) Z E z :=
      fun b z Z q => by cases b <;> first | exact wpAny_pure q | exact wpAny_rule q
    have q1 := layNew_perm t es ((mixKind P w).hash k) x
    have q2 := layNew_fits t es ((mixKind P w).hash k) x
    have q3 := layNew_ris t es ((mixKind P w).hash k) x hr
    have q4 := layNew_led t es ((mixKind P w).hash k) x
    generalize layNew t es ((mixKind P w).hash k) x = Z at q1 q2 q3 q4 ⊢
    obtain ⟨fs, u, dm, gave⟩ := Z
    dsimp only at q1 q2 q3 q4 ⊢
    rw [Array.toList_push] at q1
    have qc : fs.toList.Perm (((mixKind P w).hash k, x) :: es.toList) := q1.trans (List.perm_append_singleton _ _)
    have ekx : vk ((mixKind P w).hash k, x) = k := valKey_of hx
    have pf : (fs.toList.map vk).Perm (k :: ks) := by
      have z := qc.map vk
      rw [List.map_cons, ekx] at z
      exact z.trans (pm.cons k)
    have gf : ∀ e ∈ fs.toList, Fine w e := fun e he => by
      rcases List.mem_cons.mp (qc.mem_iff.mp he) with z | z
      · rw [z]
        refine ⟨?_, ?_⟩
        · show keyIs (valKey x) x = true
          rw [valKey_of hx]; exact hx
        · show keyH w k = keyH w (valKey x)
          rw [valKey_of hx]
      · exact g e z
    have sz : fs.size = ks.length + 1 := by
      have z := pf.length_eq
      rw [List.length_map, Array.length_toList, List.length_cons] at z
      exact z
    have hb2 : fs.size < scanBound := sz ▸ room
    have hled : w.params.followText "set-order" = true ∨ u.led = true := by
      rcases hl with z | z
      · exact .inl z
      · exact .inr (by rw [q4]; exact z)
    have fin := new hno
    refine wpAny_bind (give _ ?_)
    split
    · refine wpAny_bind ?_
      rw [hashByValue_scannable 8 hsc]
      refine wpAny_pure (stored ?_ ho hex hd gf pf (List.nodup_cons.mpr ⟨hno, nd⟩) hb2 ?_ ?_ ?_ fun h' sb r => ?_)
      · intro b z Z q; cases b <;> first | exact wpAny_pure q | exact wpAny_rule q
      · first | (split <;> first | exact q2 | exact SetTable.fits_plain_off q2) | exact q2
      · first | (split <;> exact q3) | exact q3
      · first | (split <;> exact hled) | exact hled
      · dsimp only; exact wpAny_pure (fin h' sb r)
    · refine wpAny_bind (wpAny_pure ?_)
      simp only [↓reduceIte]
      refine stored ?_ ho hex hd gf pf (List.nodup_cons.mpr ⟨hno, nd⟩) hb2 q2 q3 hled fun h' sb r => ?_
      · intro b z Z q; cases b <;> first | exact wpAny_pure q | exact wpAny_rule q
      · dsimp only; exact wpAny_pure (fin h' sb r)
end
section
variable {P : Program} {w : World} {A : Around} {E : Value → Shared → Prop} {s : Shared}
theorem update_go {I : Addr} {fp wr : List Addr} {G : Array GenState → Array GenState → Prop} {n : Nat} {Pv : Nat → Value → Prop} {St : Nat → Shared → Prop} {R : Result → Shared → Prop}
    (W : WalksS P w A.in1 I fp wr G n Pv St) (S : Addr) (hSf : S ∉ fp) (l : List Key) (hn : n = l.length) (hb : l.length + 1 < scanBound) (hval : ∀ i v, Pv i v → ∃ k, l[i]? = some k ∧ keyIs k v = true) :
    ∀ (m i : Nat) (s : Shared) (ks : List Key), i + m = n → St i s → Mem w s.heap S ks → ks.length ≤ i → (∀ k, k ∈ ks ↔ k ∈ l.take i) →
      (∀ s' ks', Moved (S :: wr) G s s' → Mem w s'.heap S ks' → (∀ k, k ∈ ks' ↔ k ∈ l) → R (.ok (.ret .none)) s') →
      codeAny (model P w) A (.builtin "set.update.loop" ⟨[.ref S, .ref I], []⟩) R s := by
  have hSw : S ∉ wr := fun h => hSf (W.sub _ h)
  have wide : ∀ b ∈ wr, b ∈ S :: wr := fun b hb => List.mem_cons_of_mem _ hb
  intro m
  induction m with
  | zero =>
    intro i s ks hi hst M hk hks hR
    have hin : i = n := hi
    subst hin
    refine codeAny_builtin F.entry_set_update_loop ?_
    rw [Around.under_plainId F.plain_set_update_loop _]
    show wpAny _ A.in1 (pyNext (.ref I) >>= _) _ _ s
    refine wpAny_bind (W.done s _ _ hst fun s' hm => ?_)
    show wpAny _ A.in1 (ret Value.none) _ _ s'
    refine wpAny_pure (hR s' ks (hm.mono wide) (M.at fun o e => hm.heap S o hSw e) fun k => ?_)
    rw [hks k, List.take_of_length_le (Nat.le_of_eq hn.symm)]
  | succ m ih =>
    intro i s ks hi hst M hk hks hR
    have hlt : i < n := by omega
    refine codeAny_builtin F.entry_set_update_loop ?_
    rw [Around.under_plainId F.plain_set_update_loop _]
    show wpAny _ A.in1 (pyNext (.ref I) >>= _) _ _ s
    refine wpAny_bind (W.item i s _ _ hlt hst fun v s' hP hst' hm => ?_)
    obtain ⟨k, hki, hkv⟩ := hval i v hP
    have M' : Mem w s'.heap S ks := M.at fun o e => hm.heap S o hSw e
    have step : ∀ (j : Key), j ∈ l.take (i + 1) ↔ j ∈ l.take i ∨ j = k := fun j => by
      rw [List.take_add_one, hki]
      simp [List.mem_append]
    show wpAny _ A.in1 (holding [v] (setAdd S v) >>= _) _ _ s'
    refine wpAny_bind (wpAny_holding ?_)
    unfold setAdd
    refine wpAny_holding (wpAny_bind ((mixKind P w).pyHash (k := k) hkv ?_))
    refine add_one (s := { s' with toks := s'.toks + 1 }) M' hkv (by omega) (fun hin => ?_) fun hno h' hsb M2 => ?_
    · refine wpAny_pure ⟨plainId_quiet F.plain_set_update_loop _, ih (i + 1) _ ks (by omega) (W.frame _ s' _ _ hst' (Nat.le_succ _) fun b _ o e => e) M' (by omega) (fun j => ?_) fun s'' ks' hm'' M'' hks'' => ?_⟩
      · rw [step j, hks j]
        exact ⟨.inl, fun z => z.elim id fun e => e ▸ (hks k).mp hin⟩
      · exact hR s'' ks' (Moved.trans W.gtrans ((hm.mono wide).then_heap (Nat.le_succ _) fun b o hb e => e) hm'') M'' hks''
    · refine wpAny_pure ⟨plainId_quiet F.plain_set_update_loop _, ih (i + 1) _ (k :: ks) (by omega) (W.frame _ s' _ _ hst' (Nat.le_succ _) fun b hb o e => ?_) M2 (by rw [List.length_cons]; omega) (fun j => ?_) fun s'' ks' hm'' M'' hks'' => ?_⟩
      · rw [hsb.2 b (fun h : b = S => hSf (by rw [← h]; exact hb))]; exact e
      · rw [step j, List.mem_cons, hks j]
        exact Or.comm
      · refine hR s'' ks' (Moved.trans W.gtrans ((hm.mono wide).then_heap (Nat.le_succ _) fun b o hb e => ?_) hm'') M'' hks''
        rw [hsb.2 b (fun h : b = S => hb (by rw [h]; exact List.mem_cons_self))]; exact e
theorem fresh_mem {h : Heap} {a : Addr} (ho : h.get? a = some { cls := .type "set", dict := none, data := .set #[] 0 (.fresh 0 0 (!w.params.followText "set-order")) }) : Mem w h a [] := by
  refine ⟨_, #[], 0, _, ho, ⟨rfl, rfl, rfl⟩, rfl, (fun e he => by simp at he), List.Perm.refl _, List.nodup_nil, by decide, rfl, List.Pairwise.nil, ?_⟩
  show _ ∨ (!w.params.followText "set-order") = true
  cases w.params.followText "set-order" <;> simp
/-- set(x) of a list -/
theorem call_set_list {l : Addr} {items : Array Value} (ks : List Key) {Q : Value → Shared → Prop} (hh : A.handled = none) (hl : s.heap.IsList l items) (hsz : items.size = ks.length) (hb : ks.length + 1 < scanBound)
    (hval : ∀ (i : Nat) (v : Value), items[i]? = some v → ∃ k, ks[i]? = some k ∧ keyIs k v = true)
    (h : ∀ (h' : Heap) (tk : Nat) (ms : List Key), Mem w h' s.heap.objs.size ms → (∀ k, k ∈ ms ↔ k ∈ ks) → (∀ b o, s.heap.get? b = some o → h'.get? b = some o) → Q (.ref s.heap.objs.size) { s with heap := h', toks := tk }) :
    wpAny (model P w) A (call (.type "set") [.ref l]) Q E s := by
  obtain ⟨c, more, hmro⟩ := F.called_set.mro
  have hmade := F.called_set.made
  have hsub := F.called_set.sub
  have z1 := F.called_set.notType
  have z2 := F.called_set.canCreate
  have z3 := F.typeCall_set_1 (.ref l)
  refine wpAny_call (codeAny_of_tree ?_)
  show wpAny _ _ (callAny (.type "set") _) _ _ _
  refine wpAny_pure ⟨Code.quiet_builtin _ (by decide +kernel), codeAny_builtin F.entry_type_call ?_⟩
  rw [Around.under_plain (weight_type_call_type "set" [.ref l] []) rfl]
  repeat (any_goals (first | assumption | wp_step))
  have new := Heap.get?_push_size s.heap (o := { cls := .type "set", dict := none, data := .set #[] 0 (.fresh 0 0 (!w.params.followText "set-order")) }) rfl
  refine codeAny_mono (code_set_led1 (.ref l) (E := E) (Q₁ := fun obj z => obj = .ref s.heap.objs.size ∧ z = { s with heap := s.heap.push { cls := .type "set", dict := none, data := .set #[] 0 (.fresh 0 0 (!w.params.followText "set-order")) } }) ⟨rfl, rfl⟩) fun r z hr => ?_
  rcases r with e | fl
  · exact hr
  · cases fl with
    | ret obj =>
      obtain ⟨rfl, rfl⟩ := hr
      have hT : Shared.TypeIs { s with heap := s.heap.push { cls := .type "set", dict := none, data := .set #[] 0 (.fresh 0 0 (!w.params.followText "set-order")) } } (.ref s.heap.objs.size) "set" := ⟨_, new, rfl⟩
      have z4 := F.called_set.init.lookup
      have z5 := F.called_set.init.bind (.ref s.heap.objs.size)
      repeat (any_goals (first | assumption | wp_step))
      refine codeAny_mono (codeAny_call_builtin (R := wants (fun r s₂ => r = .none ∧ ∃ h' tk ms, s₂ = { s with heap := h', toks := tk } ∧ Mem w h' s.heap.objs.size ms ∧ (∀ k, k ∈ ms ↔ k ∈ ks) ∧ (∀ b o, s.heap.get? b = some o → h'.get? b = some o)) E)
        F.called_set.init.plain F.entry_set_init (check_set_init_1 hT ?_)) fun r₂ s₂ hr₂ => ?_
      · obtain ⟨⟨ocls, odict, odata, oslots⟩, hol, hcl, nl, hdl⟩ := hl
        simp only at hcl hdl
        subst hcl; subst hdl
        have y1 := F.sub_list_set
        have y2 := F.sub_list_frozenset
        have y3 : (Value.type "list" == Value.type "dict") = false := by decide
        have hol' : (s.heap.push { cls := .type "set", dict := none, data := .set #[] 0 (.fresh 0 0 (!w.params.followText "set-order")) }).get? l = some { cls := .type "list", dict := odict, data := .seq items nl, slots := oslots } := Heap.get?_push_of_some _ hol
        have hl1 : (s.heap.push { cls := .type "set", dict := none, data := .set #[] 0 (.fresh 0 0 (!w.params.followText "set-order")) }).IsList l items := ⟨_, hol', rfl, nl, rfl⟩
        have low : l < s.heap.objs.size := Heap.lt_size hol
        unfold Builtin.«set.__init__» noKeywords Builtin.Frozenset.updateFrom
        generalize hPI : pyIter = PI
        wp_walk
        subst hPI

        refine wpAny_pyIter_list hl1 (wpAny_bind (wpAny_runValue ?_))
        have hh3 : A.in1.in1.in1.handled = none := by simp [hh]
        have one : (s.heap.push { cls := .type "set", dict := none, data := .set #[] 0 (.fresh 0 0 (!w.params.followText "set-order")) }).objs.size = s.heap.objs.size + 1 := Heap.size_push ..
        have apart : l ≠ (s.heap.push { cls := .type "set", dict := none, data := .set #[] 0 (.fresh 0 0 (!w.params.followText "set-order")) }).objs.size := by
          rw [one]; exact Nat.ne_of_lt (Nat.lt_succ_of_lt low)
        have out : s.heap.objs.size ∉ [(s.heap.push { cls := .type "set", dict := none, data := .set #[] 0 (.fresh 0 0 (!w.params.followText "set-order")) }).objs.size, l] := by
          rw [one]
          intro z
          rcases List.mem_cons.mp z with z | z
          · exact absurd z (Nat.ne_of_lt (Nat.lt_succ_self _))
          · exact absurd (List.mem_singleton.mp z) (Nat.ne_of_gt low)
        have got : ((s.heap.push { cls := .type "set", dict := none, data := .set #[] 0 (.fresh 0 0 (!w.params.followText "set-order")) }).push { cls := .type "list_iterator", data := .fields #[.ref l, .int 0 0] }).get? s.heap.objs.size
              = some { cls := .type "set", dict := none, data := .set #[] 0 (.fresh 0 0 (!w.params.followText "set-order")) } := Heap.get?_push_of_some _ new
        refine update_go ((Walks.list hh3 _ l apart items).toS) s.heap.objs.size out ks hsz hb hval items.size 0 _ [] (Nat.zero_add _)
          ⟨⟨_, Heap.get?_push_size _ rfl, rfl, rfl⟩, (hl1.push _)⟩ (fresh_mem got) (Nat.le_refl _) (fun k => by simp) ?last
        case last =>
          intro s' ms hm M hms
          obtain ⟨h', g2, d', tk', os'⟩ := s'
          have eg : g2 = s.gens := hm.gens
          have ed : d' = s.drawn := hm.drawn
          have eo : os' = s.os := hm.os
          subst eg; subst ed; subst eo
          show wpAny _ _ _ _ _ _
          refine wpAny_pure ?_
          show wpAny _ _ (ret Value.none) _ _ _
          refine wpAny_pure ⟨rfl, h', tk', ms, rfl, M, hms, fun b o e => ?_⟩
          have b0 : b < s.heap.objs.size := Heap.lt_size e
          refine hm.heap b o (fun z => ?_) (Heap.get?_push_of_some _ (Heap.get?_push_of_some _ e))
          rcases List.mem_cons.mp z with z | z
          · exact absurd z (Nat.ne_of_lt b0)
          · have z := List.mem_singleton.mp z
            rw [one] at z
            exact absurd z (Nat.ne_of_lt (Nat.lt_succ_of_lt b0))
      · rcases r₂ with e | fl₂
        · exact hr₂
        · cases fl₂ with
          | ret r =>
            obtain ⟨rfl, h', tk, ms, rfl, M, hms, hk'⟩ := hr₂
            repeat (any_goals (first | assumption | wp_step))
            exact h _ _ _ M hms hk'
          | _ => exact hr₂.elim
    | _ => exact hr.elim
/-- set(x) of a tuple -/
theorem call_set_tuple {l : Addr} {items : Array Value} (ks : List Key) {Q : Value → Shared → Prop} (hh : A.handled = none) (hl : s.heap.IsTuple l items) (hsz : items.size = ks.length) (hb : ks.length + 1 < scanBound)
    (hval : ∀ (i : Nat) (v : Value), items[i]? = some v → ∃ k, ks[i]? = some k ∧ keyIs k v = true)
    (h : ∀ (h' : Heap) (tk : Nat) (ms : List Key), Mem w h' s.heap.objs.size ms → (∀ k, k ∈ ms ↔ k ∈ ks) → (∀ b o, s.heap.get? b = some o → h'.get? b = some o) → Q (.ref s.heap.objs.size) { s with heap := h', toks := tk }) :
    wpAny (model P w) A (call (.type "set") [.ref l]) Q E s := by
  obtain ⟨c, more, hmro⟩ := F.called_set.mro
  have hmade := F.called_set.made
  have hsub := F.called_set.sub
  have z1 := F.called_set.notType
  have z2 := F.called_set.canCreate
  have z3 := F.typeCall_set_1 (.ref l)
  refine wpAny_call (codeAny_of_tree ?_)
  show wpAny _ _ (callAny (.type "set") _) _ _ _
  refine wpAny_pure ⟨Code.quiet_builtin _ (by decide +kernel), codeAny_builtin F.entry_type_call ?_⟩
  rw [Around.under_plain (weight_type_call_type "set" [.ref l] []) rfl]
  repeat (any_goals (first | assumption | wp_step))
  have new := Heap.get?_push_size s.heap (o := { cls := .type "set", dict := none, data := .set #[] 0 (.fresh 0 0 (!w.params.followText "set-order")) }) rfl
  refine codeAny_mono (code_set_led1 (.ref l) (E := E) (Q₁ := fun obj z => obj = .ref s.heap.objs.size ∧ z = { s with heap := s.heap.push { cls := .type "set", dict := none, data := .set #[] 0 (.fresh 0 0 (!w.params.followText "set-order")) } }) ⟨rfl, rfl⟩) fun r z hr => ?_
  rcases r with e | fl
  · exact hr
  · cases fl with
    | ret obj =>
      obtain ⟨rfl, rfl⟩ := hr
      have hT : Shared.TypeIs { s with heap := s.heap.push { cls := .type "set", dict := none, data := .set #[] 0 (.fresh 0 0 (!w.params.followText "set-order")) } } (.ref s.heap.objs.size) "set" := ⟨_, new, rfl⟩
      have z4 := F.called_set.init.lookup
      have z5 := F.called_set.init.bind (.ref s.heap.objs.size)
      repeat (any_goals (first | assumption | wp_step))
      refine codeAny_mono (codeAny_call_builtin (R := wants (fun r s₂ => r = .none ∧ ∃ h' tk ms, s₂ = { s with heap := h', toks := tk } ∧ Mem w h' s.heap.objs.size ms ∧ (∀ k, k ∈ ms ↔ k ∈ ks) ∧ (∀ b o, s.heap.get? b = some o → h'.get? b = some o)) E)
        F.called_set.init.plain F.entry_set_init (check_set_init_1 hT ?_)) fun r₂ s₂ hr₂ => ?_
      · obtain ⟨⟨ocls, odict, odata, oslots⟩, hol, hcl, nl, hdl⟩ := hl
        simp only at hcl hdl
        subst hcl; subst hdl
        have y1 := F.sub_tuple_set
        have y2 := F.sub_tuple_frozenset
        have y3 : (Value.type "tuple" == Value.type "dict") = false := by decide
        have hol' : (s.heap.push { cls := .type "set", dict := none, data := .set #[] 0 (.fresh 0 0 (!w.params.followText "set-order")) }).get? l = some { cls := .type "tuple", dict := odict, data := .seq items nl, slots := oslots } := Heap.get?_push_of_some _ hol
        have hl1 : (s.heap.push { cls := .type "set", dict := none, data := .set #[] 0 (.fresh 0 0 (!w.params.followText "set-order")) }).IsTuple l items := ⟨_, hol', rfl, nl, rfl⟩
        have low : l < s.heap.objs.size := Heap.lt_size hol
        unfold Builtin.«set.__init__» noKeywords Builtin.Frozenset.updateFrom
        generalize hPI : pyIter = PI
        wp_walk
        subst hPI

        refine wpAny_pyIter_tuple hl1 (wpAny_bind (wpAny_runValue ?_))
        have hh3 : A.in1.in1.in1.handled = none := by simp [hh]
        have one : (s.heap.push { cls := .type "set", dict := none, data := .set #[] 0 (.fresh 0 0 (!w.params.followText "set-order")) }).objs.size = s.heap.objs.size + 1 := Heap.size_push ..
        have apart : l ≠ (s.heap.push { cls := .type "set", dict := none, data := .set #[] 0 (.fresh 0 0 (!w.params.followText "set-order")) }).objs.size := by
          rw [one]; exact Nat.ne_of_lt (Nat.lt_succ_of_lt low)
        have out : s.heap.objs.size ∉ [(s.heap.push { cls := .type "set", dict := none, data := .set #[] 0 (.fresh 0 0 (!w.params.followText "set-order")) }).objs.size, l] := by
          rw [one]
          intro z
          rcases List.mem_cons.mp z with z | z
          · exact absurd z (Nat.ne_of_lt (Nat.lt_succ_self _))
          · exact absurd (List.mem_singleton.mp z) (Nat.ne_of_gt low)
        have got : ((s.heap.push { cls := .type "set", dict := none, data := .set #[] 0 (.fresh 0 0 (!w.params.followText "set-order")) }).push { cls := .type "tuple_iterator", data := .fields #[.ref l, .int 0 0] }).get? s.heap.objs.size
              = some { cls := .type "set", dict := none, data := .set #[] 0 (.fresh 0 0 (!w.params.followText "set-order")) } := Heap.get?_push_of_some _ new
        refine update_go ((Walks.tuple hh3 _ l apart items).toS) s.heap.objs.size out ks hsz hb hval items.size 0 _ [] (Nat.zero_add _)
          ⟨⟨_, Heap.get?_push_size _ rfl, rfl, rfl⟩, (hl1.push _)⟩ (fresh_mem got) (Nat.le_refl _) (fun k => by simp) ?last
        case last =>
          intro s' ms hm M hms
          obtain ⟨h', g2, d', tk', os'⟩ := s'
          have eg : g2 = s.gens := hm.gens
          have ed : d' = s.drawn := hm.drawn
          have eo : os' = s.os := hm.os
          subst eg; subst ed; subst eo
          show wpAny _ _ _ _ _ _
          refine wpAny_pure ?_
          show wpAny _ _ (ret Value.none) _ _ _
          refine wpAny_pure ⟨rfl, h', tk', ms, rfl, M, hms, fun b o e => ?_⟩
          have b0 : b < s.heap.objs.size := Heap.lt_size e
          refine hm.heap b o (fun z => ?_) (Heap.get?_push_of_some _ (Heap.get?_push_of_some _ e))
          rcases List.mem_cons.mp z with z | z
          · exact absurd z (Nat.ne_of_lt b0)
          · have z := List.mem_singleton.mp z
            rw [one] at z
            exact absurd z (Nat.ne_of_lt (Nat.lt_succ_of_lt b0))
      · rcases r₂ with e | fl₂
        · exact hr₂
        · cases fl₂ with
          | ret r =>
            obtain ⟨rfl, h', tk, ms, rfl, M, hms, hk'⟩ := hr₂
            repeat (any_goals (first | assumption | wp_step))
            exact h _ _ _ M hms hk'
          | _ => exact hr₂.elim
    | _ => exact hr.elim
/-- the members out -/
theorem members {a : Addr} {ks : List Key} {Q : List Value → Shared → Prop} (hh : A.handled = none) (M : Mem w s.heap a ks)
    (hQ : ∀ s' out, (∀ b o, s.heap.get? b = some o → s'.heap.get? b = some o) → s.heap.objs.size ≤ s'.heap.objs.size → s'.gens = s.gens → s'.os = s.os → (∀ v ∈ out, keyIs (valKey v) v = true) → (out.map valKey).Perm ks → Q out s') :
    wpAny (model P w) A (collect (.ref a)) Q E s := by
  obtain ⟨o, es, ep, t, ho, hex, hd, g, pm, nd, hb, hf, hr, hl⟩ := M
  refine collect_set hh ⟨o, ho, hex.1, hd⟩ hf hb hr hl fun s' out k1 k2 k3 k4 k5 => hQ s' out k1 k2 k3 k4 (fun v hv => ?_) ?_
  · obtain ⟨e, he, q⟩ := List.mem_map.mp (k5.mem_iff.mp hv)
    rw [← q]
    exact (g e he).1
  · have z := k5.map valKey
    rw [List.map_map] at z
    exact z.trans pm
/-- len(set) -/
theorem len_set {a : Addr} {ks : List Key} {Q : Value → Shared → Prop} (M : Mem w s.heap a ks) (h : ∀ tk, Q (.int ks.length (s.toks + 1)) { s with toks := tk }) : wpAny (model P w) A (call (.builtin "len") [.ref a]) Q E s := by
  obtain ⟨o, es, ep, t, ho, hex, hd, g, pm, nd, hb, hf, hr, hl⟩ := M
  have e : es.size = ks.length := by rw [← pm.length_eq, List.length_map, Array.length_toList]
  refine call_len_set ho hex hd hf (by unfold scanBound at hb; omega) ?_
  rw [e]
  exact h _
end
end SetX

/-! G05: len(set(x)), sorted(set(x)) of a list or tuple of ints or texts, as expressions. -/
namespace SetX
open PySem PySem.Spec PyProof.Rows L2
def keyP : Key → PyData
  | .inl i => .int i
  | .inr x => .str x
def kle (a b : Key) : Bool := PySem.W.dataLe false keyP a b
def allInts (l : List Key) : Bool := l.all fun k => match k with | .inl _ => true | .inr _ => false
def allStrs (l : List Key) : Bool := l.all fun k => match k with | .inl _ => false | .inr _ => true
theorem reads_key {h : Heap} {k : Key} {v : Value} (e : keyIs k v = true) : PySem.Reads h v (keyP k) [] := by
  rcases keyIs_shape e with ⟨i, t, rfl, rfl⟩ | ⟨x, t, rfl, rfl⟩
  · exact .int i t
  · exact .str x t
theorem kv_is {k : Key} {v : Value} (r : RelV (kV k) v) : keyIs k v = true := by
  cases k with
  | inl i => obtain ⟨t, e⟩ := (show ∃ t, v = Value.int i t from r); subst e; exact keyIs_int i t
  | inr x => obtain ⟨t, e⟩ := (show ∃ t, v = Value.str x t from r); subst e; exact keyIs_str x t
theorem is_kv {k : Key} {v : Value} (e : keyIs k v = true) : RelV (kV k) v := by
  rcases keyIs_shape e with ⟨i, t, rfl, rfl⟩ | ⟨x, t, rfl, rfl⟩
  · exact ⟨t, rfl⟩
  · exact ⟨t, rfl⟩
theorem each_vals : ∀ {us : List Value} {ks : List Key}, PySem.W.EachIs (fun (v : Value) (k : Key) => keyIs k v = true) us ks → Vals (ks.map kV) us
  | _, _, .nil => .nil
  | _, _, .cons a t => .cons (is_kv a) (each_vals t)
theorem vals_at {ks : List Key} {its : List Value} (r : Vals (ks.map kV) its) (i : Nat) (v : Value) (h : its.toArray[i]? = some v) : ∃ k, ks[i]? = some k ∧ keyIs k v = true := by
  have hv : its[i]? = some v := by simpa using h
  have hl : i < ks.length := by
    have := r.length
    rw [List.length_map] at this
    rw [this]
    exact (List.getElem?_eq_some_iff.mp hv).1
  obtain ⟨u, hu, ru⟩ := r.get (x := kV ks[i]) (by rw [List.getElem?_map, List.getElem?_eq_getElem hl]; rfl)
  rw [hv] at hu
  cases hu
  exact ⟨ks[i], List.getElem?_eq_getElem hl, kv_is ru⟩
section
variable {X : Cx} {a : Expr} {ta : TE} {p p2 q pos : Pos}
/-- what a row of keys is: a list or a tuple -/
def Row (K : PySem.W.Frag) (x : V) (H : Hp) (ks : List Key) : Prop := ∃ l, x = .ref l ∧ (SqL K H l (ks.map kV) ∨ SqT K H l (ks.map kV)) ∧ ks.length + 1 < scanBound
theorem set_of {pins : List (Addr × Obj)} {σ : L2.St} {H : Hp} {s : Shared} {x : V} {v : Value} {ks : List Key} {Q : Value → Shared → Prop} (hc : X.calm = true) (I : Inv X pins σ H s) (rx : RelV x v) (R : Row X.K x H ks)
    (h : ∀ (S : Addr) (h' : Heap) (tk : Nat) (ms : List Key), Mem X.w h' S ms → (∀ k, k ∈ ms ↔ k ∈ ks) → Inv X pins σ H { s with heap := h', toks := tk } → Q (.ref S) { s with heap := h', toks := tk }) :
    wpAny (model X.prog X.w) X.A (call (.type "set") [v]) Q X.xe s := by
  obtain ⟨l, rfl, hq, hb⟩ := R
  cases rx
  rcases hq with hq | hq
  · obtain ⟨its, r, pl, hz⟩ := I.list hq
    have hsz : its.toArray.size = ks.length := by rw [List.size_toArray, ← r.length, List.length_map]
    exact call_set_list ks (I.ok.hd hc) pl.isList hsz hb (vals_at r) fun h' tk ms M hms hk => h _ h' tk ms M hms (I.kept (t' := tk) fun b o e => hk b o e)
  · obtain ⟨its, r, pl, hz⟩ := I.tuple hq
    have hsz : its.toArray.size = ks.length := by rw [List.size_toArray, ← r.length, List.length_map]
    exact call_set_tuple ks (I.ok.hd hc) (show s.heap.IsTuple l its.toArray from pl) hsz hb (vals_at r) fun h' tk ms M hms hk => h _ h' tk ms M hms (I.kept (t' := tk) fun b o e => hk b o e)
def tLenS (K : PySem.W.Frag) (ta : TE) : TE := fun σ H Q => ta σ H fun x H1 => ∃ ks, Row K x H1 ks ∧ ∀ ms : List Key, ms.Nodup → (∀ k, k ∈ ms ↔ k ∈ ks) → Q (.int ms.length) H1
theorem Mem.nd {w : World} {h : Heap} {a : Addr} {ks : List Key} (M : Mem w h a ks) : ks.Nodup := by
  obtain ⟨_, _, _, _, _, _, _, _, _, nd, _⟩ := M
  exact nd
theorem pe_lenS (hc : X.calm = true) (hg : Gl X "len") (hm : X.mg "len" = none) (hg2 : Gl X "set") (hm2 : X.mg "set" = none) (ha : PE X a ta)
    (na : starEach [a] X.env = (false, eval a X.env) :: starEach [] X.env := by rfl) : PE X (.Call (.Name "len" p) [.Call (.Name "set" p2) [a] [] q] [] pos) (tLenS X.K ta) := by
  refine ⟨fun pins s σ H Q I h => ?_⟩
  refine Call_ (ld_blt I hg hm boot_len (PyProof.Rows.callWith_builtin1 (PyProof.Rows.args_cons ?_ rfl) rfl rfl))
  refine Call_ (ld_blt I hg2 hm2 boot_set (PyProof.Rows.callWith_type1 (PyProof.Rows.args_cons (thn (ha.run pins s σ H _ I h) fun v s1 ⟨x, H1, I1, r1, q1⟩ => PyProof.Rows.args_nil ?_) na) na rfl))
  obtain ⟨ks, hR, q1⟩ := q1
  refine set_of hc I1 r1 hR fun S h' tk ms M hms I2 => PyProof.Rows.args_nil ?_
  refine len_set (s := { s1 with heap := h', toks := tk }) M fun tk2 => ?_
  exact ⟨.int ms.length, H1, I2.tok _, ⟨_, rfl⟩, q1 ms M.nd hms⟩
def tSortS (K : PySem.W.Frag) (ta : TE) : TE := fun σ H Q => ta σ H fun x H1 => ∃ ks, Row K x H1 ks ∧ (allInts ks || allStrs ks) = true ∧
  ∀ (bs : List Key) (p : Addr), bs.Nodup → (∀ k, k ∈ bs ↔ k ∈ ks) → H1 p = none → Q (.ref p) (upd H1 p (.lst ((bs.mergeSort kle).map kV)))
theorem alike_keys {ks bs : List Key} (hs : (allInts ks || allStrs ks) = true) (hm : ∀ k ∈ bs, k ∈ ks) : PySem.W.AllAlike (bs.map keyP) ∧ PySem.W.Sortable (bs.map keyP) := by
  rw [Bool.or_eq_true] at hs
  constructor
  · intro d hd d' hd'
    obtain ⟨k, hk, rfl⟩ := List.mem_map.mp hd
    obtain ⟨k', hk', rfl⟩ := List.mem_map.mp hd'
    rcases hs with hs | hs
    · have a := List.all_eq_true.mp hs k (hm k hk)
      have b := List.all_eq_true.mp hs k' (hm k' hk')
      cases k <;> cases k' <;> first | rfl | (cases a; done) | (cases b; done)
    · have a := List.all_eq_true.mp hs k (hm k hk)
      have b := List.all_eq_true.mp hs k' (hm k' hk')
      cases k <;> cases k' <;> first | rfl | (cases a; done) | (cases b; done)
  · right
    intro d hd
    obtain ⟨k, _, rfl⟩ := List.mem_map.mp hd
    cases k <;> exact ⟨by simp [keyP], fun xs => by simp [keyP]⟩
theorem each_of : ∀ {out : List Value}, (∀ v ∈ out, keyIs (valKey v) v = true) → PySem.W.EachIs (fun (v : Value) (k : Key) => keyIs k v = true) out (out.map valKey)
  | [], _ => .nil
  | v :: r, h => .cons (h v (by simp)) (each_of fun x hx => h x (by simp [hx]))
theorem each_reads {hh : Heap} {n : Nat} : ∀ {out : List Value}, (∀ v ∈ out, keyIs (valKey v) v = true) → PySem.W.EachIs (fun (v : Value) (k : Key) => ∃ as, PySem.Reads hh v (keyP k) as ∧ n ∉ as) out (out.map valKey)
  | [], _ => .nil
  | v :: r, h => .cons ⟨[], reads_key (h v (by simp)), by simp⟩ (each_reads fun x hx => h x (by simp [hx]))
theorem keyP_depth (b : Key) : (keyP b).depth ≤ 1 := by cases b <;> simp [keyP, PyData.depth]
theorem pe_sortS (hc : X.calm = true) (hu : X.A.units + 65 < cLine) (hg : Gl X "sorted") (hm : X.mg "sorted" = none) (hg2 : Gl X "set") (hm2 : X.mg "set" = none) (ha : PE X a ta)
    (na : starEach [a] X.env = (false, eval a X.env) :: starEach [] X.env := by rfl) : PE X (.Call (.Name "sorted" p) [.Call (.Name "set" p2) [a] [] q] [] pos) (tSortS X.K ta) := by
  refine ⟨fun pins s σ H Q I h => ?_⟩
  refine Call_ (ld_blt I hg hm boot_sorted (PyProof.Rows.callWith_builtin1 (PyProof.Rows.args_cons ?_ rfl) rfl rfl))
  refine Call_ (ld_blt I hg2 hm2 boot_set (PyProof.Rows.callWith_type1 (PyProof.Rows.args_cons (thn (ha.run pins s σ H _ I h) fun v s1 ⟨x, H1, I1, r1, q1⟩ => PyProof.Rows.args_nil ?_) na) na rfl))
  obtain ⟨ks, hR, hal, q1⟩ := q1
  refine set_of hc I1 r1 hR fun S h' tk ms M hms I2 => PyProof.Rows.args_nil ?_
  refine Calls.call_function_entry kind_sorted plain_sorted entry_sorted (args_sorted1 _) ?_
  unfold Builtin.«sorted»
  refine wpAny_bind (m := checkCount "sorted" 1 1 _) (wpAny_pure ?_)
  refine wpAny_bind (members (A := X.A.in1) (s := { s1 with heap := h', toks := tk }) (I2.ok.hd hc) M fun s3 out k1 hz g1 o1 hvals pm => ?_)
  have hbl : (out.map valKey).length < scanBound := by rw [pm.length_eq]; exact M.len
  have hol : out.length < scanBound := by rw [List.length_map] at hbl; exact hbl
  have hin : ∀ k ∈ out.map valKey, k ∈ ks := fun k hk => (hms k).mp (pm.mem_iff.mp hk)
  obtain ⟨al, so⟩ := alike_keys hal hin
  refine wpAny_bind (wpAny_newList ?_ (fits_of_scanBound hol))
  have hoL : (s3.heap.push (seqObj "list" out.toArray 0)).get? s3.heap.objs.size = some (seqObj "list" out.toArray 0) := Heap.get?_push_size _ rfl
  have e : PySem.W.EachIs (fun (v : Value) (k : Key) => keyIs k v = true) out (out.map valKey) := each_of hvals
  have er : PySem.W.EachIs (fun (v : Value) (k : Key) => ∃ as, PySem.Reads (s3.heap.push (seqObj "list" out.toArray 0)) v (keyP k) as ∧ s3.heap.objs.size ∉ as) out (out.map valKey) := each_reads hvals
  refine wpAny_bind (wpAny_holding ?_)
  refine PySem.W.list_sort_data (s := { s3 with heap := s3.heap.push (seqObj "list" out.toArray 0) }) (enc := keyP) hoL e er al so (fits_of_scanBound hbl) (fun b _ => by
    have := keyP_depth b
    show X.A.units + 1 + 1 + (keyP b).depth < cLine
    omega) fun out2 ho2 eo => ?_
  obtain ⟨c, hcell⟩ := sortedHeap_at (vs := out) (out := out2.toArray) hoL
  have hlen : (((out.map valKey).mergeSort (PySem.W.dataLe false keyP)).map kV).length ≤ sizeLine := by
    rw [List.length_map, List.length_mergeSort]
    exact fits_of_scanBound hbl
  have hn : H1 s3.heap.objs.size = none := I2.hok.fresh hz
  have kk : ∀ b u, s1.heap.get? b = some u → True := fun _ _ _ => trivial
  have k3 : ∀ b u, h'.get? b = some u → (sortedHeap (s3.heap.push (seqObj "list" out.toArray 0)) s3.heap.objs.size out out2.toArray).get? b = some u := fun b u z => by
    have z1 := k1 b u z
    have lt := Heap.lt_size z1
    rw [sortedHeap_old (Nat.ne_of_lt lt) (by rw [size_push']; exact Nat.lt_succ_of_lt lt)]
    exact Heap.get?_push_of_some _ z1
  have J : Inv X pins σ (upd H1 s3.heap.objs.size (.lst (((out.map valKey).mergeSort (PySem.W.dataLe false keyP)).map kV))) { s1 with heap := sortedHeap (s3.heap.push (seqObj "list" out.toArray 0)) s3.heap.objs.size out out2.toArray, gens := s3.gens, drawn := s3.drawn, toks := s3.toks } :=
    I2.call (s := { s1 with heap := h', toks := tk }) (ch := []) (Un.laid k3 hz hn) (I2.hok.laid k3 hz ⟨hlen, out2, c, each_vals eo, hcell⟩) (by rw [g1]; exact I2.bare) (fun _ z => nomatch z)
  have es : ({ s3 with heap := sortedHeap (s3.heap.push (seqObj "list" out.toArray 0)) s3.heap.objs.size out out2.toArray } : Shared) = { s1 with heap := sortedHeap (s3.heap.push (seqObj "list" out.toArray 0)) s3.heap.objs.size out out2.toArray, gens := s3.gens, drawn := s3.drawn, toks := s3.toks } := by
    cases s3
    cases s1
    cases o1
    rfl
  refine wpAny_pure ⟨_, rfl, ?_⟩
  have fin : EP X pins σ Q (.ref s3.heap.objs.size) { s1 with heap := sortedHeap (s3.heap.push (seqObj "list" out.toArray 0)) s3.heap.objs.size out out2.toArray, gens := s3.gens, drawn := s3.drawn, toks := s3.toks } :=
    ⟨.ref s3.heap.objs.size, _, J, rfl, q1 (out.map valKey) _ (pm.nodup_iff.mpr M.nd) (fun k => pm.mem_iff.trans (hms k)) hn⟩
  rw [← es] at fin
  exact fin
end
end SetX

/-! G06: data and the members of a set. -/
namespace Tl
open PySem L2 SetX
def keyOf : D → Key
  | .int i => .inl i
  | .str s => .inr ⟨s.toArray⟩
  | _ => .inl 0
def keyD : Key → D
  | .inl i => .int i
  | .inr s => .str s.cps.toList
def hom (l : List D) : Bool := l.all isI || l.all isS
def isK : D → Bool
  | .int _ => true
  | .str _ => true
  | _ => false
theorem isK_of {l : List D} (h : hom l = true) : ∀ d ∈ l, isK d = true := by
  unfold hom at h
  rw [Bool.or_eq_true] at h
  intro d hd
  rcases h with h | h
  · have := List.all_eq_true.mp h d hd
    cases d <;> first | rfl | (cases this; done)
  · have := List.all_eq_true.mp h d hd
    cases d <;> first | rfl | (cases this; done)
theorem kd_key {d : D} (h : isK d = true) : keyD (keyOf d) = d := by
  cases d <;> first | rfl | (cases h; done)
theorem eqD_key {x y : D} (hx : isK x = true) (hy : isK y = true) : eqD x y = true ↔ keyOf x = keyOf y := by
  cases x <;> first | (cases hx; done) | skip
  all_goals cases y <;> first | (cases hy; done) | skip
  · simp [eqD, keyOf]
  · simp [eqD, keyOf]
  · simp [eqD, keyOf]
  · simp [eqD, keyOf]
theorem keyP_toP {d : D} (h : isK d = true) : keyP (keyOf d) = toP d := by
  cases d <;> first | rfl | (cases h; done)
theorem uniq_sub : ∀ (l : List D) d, d ∈ uniq l → d ∈ l
  | [], _, h => h
  | x :: r, d, h => by
    unfold uniq at h
    split at h
    · exact List.mem_cons_of_mem _ (uniq_sub r d h)
    · rcases List.mem_cons.mp h with rfl | h
      · exact List.mem_cons_self
      · exact List.mem_cons_of_mem _ (uniq_sub r d h)
theorem uniq_mem : ∀ (l : List D), (∀ d ∈ l, isK d = true) → ∀ k, k ∈ (uniq l).map keyOf ↔ k ∈ l.map keyOf
  | [], _, _ => Iff.rfl
  | x :: r, h, k => by
    have ih := uniq_mem r (fun d hd => h d (List.mem_cons_of_mem _ hd)) k
    unfold uniq
    split
    · rename_i ha
      obtain ⟨y, hy, e⟩ := List.any_eq_true.mp ha
      have e2 := (eqD_key (h x List.mem_cons_self) (h y (List.mem_cons_of_mem _ hy))).mp e
      rw [ih, List.map_cons, List.mem_cons]
      constructor
      · exact .inr
      · rintro (rfl | z)
        · rw [e2]
          exact List.mem_map_of_mem hy
        · exact z
    · rw [List.map_cons, List.map_cons, List.mem_cons, List.mem_cons, ih]
theorem uniq_nd : ∀ (l : List D), (∀ d ∈ l, isK d = true) → ((uniq l).map keyOf).Nodup
  | [], _ => List.nodup_nil
  | x :: r, h => by
    have h' : ∀ d ∈ r, isK d = true := fun d hd => h d (List.mem_cons_of_mem _ hd)
    have ih := uniq_nd r h'
    unfold uniq
    split
    · exact ih
    · rename_i ha
      rw [List.map_cons, List.nodup_cons]
      refine ⟨fun z => ha ?_, ih⟩
      rw [uniq_mem r h'] at z
      obtain ⟨y, hy, e⟩ := List.mem_map.mp z
      exact List.any_eq_true.mpr ⟨y, hy, (eqD_key (h x List.mem_cons_self) (h' y hy)).mpr e.symm⟩
theorem perm_uniq {l : List D} {ms : List Key} (h : ∀ d ∈ l, isK d = true) (nd : ms.Nodup) (m : ∀ k, k ∈ ms ↔ k ∈ l.map keyOf) : ms.Perm ((uniq l).map keyOf) :=
  (List.perm_ext_iff_of_nodup nd (uniq_nd l h)).mpr fun k => (m k).trans (uniq_mem l h k).symm
/-- lists of keys alike, in order: one only -/
theorem sort_perm {as bs : List Key} (p : as.Perm bs) (h : (allInts as || allStrs as) = true) : as.mergeSort kle = bs.mergeSort kle := by
  rw [Bool.or_eq_true] at h
  rcases h with h | h
  · have ex : ∀ cs : List Key, (∀ k ∈ cs, ∃ i : Int, k = .inl i) → ∃ is : List Int, cs = is.map Sum.inl := by
      intro cs
      induction cs with
      | nil => exact fun _ => ⟨[], rfl⟩
      | cons c r ih =>
        intro g
        obtain ⟨i, rfl⟩ := g c List.mem_cons_self
        obtain ⟨is, rfl⟩ := ih fun k hk => g k (List.mem_cons_of_mem _ hk)
        exact ⟨i :: is, rfl⟩
    have ha : ∀ k ∈ as, ∃ i : Int, k = .inl i := fun k hk => by
      have := List.all_eq_true.mp h k hk
      cases k with
      | inl i => exact ⟨i, rfl⟩
      | inr s => cases this
    obtain ⟨is, rfl⟩ := ex as ha
    obtain ⟨js, rfl⟩ := ex bs fun k hk => ha k (p.mem_iff.mpr hk)
    have p2 : is.Perm js := by
      have := p.map (fun k : Key => match k with | .inl i => i | .inr _ => 0)
      simpa [List.map_map, Function.comp_def] using this
    have e : ∀ zs : List Int, (zs.map (Sum.inl : Int → Key)).mergeSort kle = (zs.mergeSort fun a b => decide (a ≤ b)).map Sum.inl := fun zs =>
      (List.map_mergeSort (r := fun a b : Int => decide (a ≤ b)) (s := kle) (f := (Sum.inl : Int → Key)) (l := zs) (fun a _ b _ => (congrFun (congrFun (PySem.W.dataLe_int (fun i : Int => i)) a) b).symm)).symm
    rw [e, e]
    congr 1
    have so := fun zs : List Int => List.pairwise_mergeSort (le := fun a b : Int => decide (a ≤ b)) (fun a b c h1 h2 => decide_eq_true (Int.le_trans (of_decide_eq_true h1) (of_decide_eq_true h2))) (fun a b => by
      rw [Bool.or_eq_true, decide_eq_true_eq, decide_eq_true_eq]
      exact Int.le_total a b) zs
    exact List.Perm.eq_of_pairwise (le := fun a b : Int => decide (a ≤ b) = true) (fun a b _ _ h1 h2 => Int.le_antisymm (of_decide_eq_true h1) (of_decide_eq_true h2)) (so is) (so js) ((List.mergeSort_perm _ _).trans (p2.trans (List.mergeSort_perm _ _).symm))
  · have ex : ∀ cs : List Key, (∀ k ∈ cs, ∃ i : Str, k = .inr i) → ∃ is : List Str, cs = is.map Sum.inr := by
      intro cs
      induction cs with
      | nil => exact fun _ => ⟨[], rfl⟩
      | cons c r ih =>
        intro g
        obtain ⟨i, rfl⟩ := g c List.mem_cons_self
        obtain ⟨is, rfl⟩ := ih fun k hk => g k (List.mem_cons_of_mem _ hk)
        exact ⟨i :: is, rfl⟩
    have ha : ∀ k ∈ as, ∃ i : Str, k = .inr i := fun k hk => by
      have := List.all_eq_true.mp h k hk
      cases k with
      | inl i => cases this
      | inr s => exact ⟨s, rfl⟩
    obtain ⟨is, rfl⟩ := ex as ha
    obtain ⟨js, rfl⟩ := ex bs fun k hk => ha k (p.mem_iff.mpr hk)
    have p2 : is.Perm js := by
      have := p.map (fun k : Key => match k with | .inl i => (default : Str) | .inr s => s)
      simpa [List.map_map, Function.comp_def] using this
    have e : ∀ zs : List Str, (zs.map (Sum.inr : Str → Key)).mergeSort kle = (zs.mergeSort fun a b => decide (a.cps.toList ≤ b.cps.toList)).map Sum.inr := fun zs =>
      (List.map_mergeSort (r := fun a b : Str => decide (a.cps.toList ≤ b.cps.toList)) (s := kle) (f := (Sum.inr : Str → Key)) (l := zs) (fun a _ b _ => (congrFun (congrFun (PySem.W.dataLe_str (fun i : Str => i)) a) b).symm)).symm
    rw [e, e]
    congr 1
    have so := fun zs : List Str => List.pairwise_mergeSort (le := fun a b : Str => decide (a.cps.toList ≤ b.cps.toList)) (fun a b c h1 h2 => decide_eq_true (List.le_trans (of_decide_eq_true h1) (of_decide_eq_true h2))) (fun a b => by
      rw [Bool.or_eq_true, decide_eq_true_eq, decide_eq_true_eq]
      exact List.le_total a.cps.toList b.cps.toList) zs
    refine List.Perm.eq_of_pairwise (le := fun a b : Str => decide (a.cps.toList ≤ b.cps.toList) = true) (fun a b _ _ h1 h2 => ?_) (so is) (so js) ((List.mergeSort_perm _ _).trans (p2.trans (List.mergeSort_perm _ _).symm))
    have := List.le_antisymm (of_decide_eq_true h1) (of_decide_eq_true h2)
    obtain ⟨⟨x⟩⟩ := a
    obtain ⟨⟨y⟩⟩ := b
    cases this
    rfl
theorem alls_of {l : List D} (h : hom l = true) {ks : List Key} (m : ∀ k ∈ ks, k ∈ l.map keyOf) : (allInts ks || allStrs ks) = true := by
  unfold hom at h
  rw [Bool.or_eq_true] at h ⊢
  rcases h with h | h
  · refine .inl (List.all_eq_true.mpr fun k hk => ?_)
    obtain ⟨d, hd, rfl⟩ := List.mem_map.mp (m k hk)
    have := List.all_eq_true.mp h d hd
    cases d <;> first | rfl | (cases this; done)
  · refine .inr (List.all_eq_true.mpr fun k hk => ?_)
    obtain ⟨d, hd, rfl⟩ := List.mem_map.mp (m k hk)
    have := List.all_eq_true.mp h d hd
    cases d <;> first | rfl | (cases this; done)
/-- the members, in order -/
theorem sort_uniq {l : List D} {bs : List Key} (h : hom l = true) (nd : bs.Nodup) (m : ∀ k, k ∈ bs ↔ k ∈ l.map keyOf) : bs.mergeSort kle = ((uniq l).mergeSort leD).map keyOf := by
  have hk := isK_of h
  rw [sort_perm (perm_uniq hk nd m) (alls_of h fun k => (m k).mp)]
  exact (List.map_mergeSort (fun a ha b hb => by
    show PySem.W.dataLe false toP a b = PySem.W.dataLe false keyP (keyOf a) (keyOf b)
    unfold PySem.W.dataLe PySem.W.sortLe
    simp only [keyP_toP (hk a (uniq_sub l a ha)), keyP_toP (hk b (uniq_sub l b hb))])).symm
section
variable {K : PySem.W.Frag} {S : Ad} {H : Hp}
theorem dr_kV {d : D} {v : V} (h : isK d = true) (r : DR K S H v d) : v = kV (keyOf d) := by
  cases r <;> first | rfl | (cases h; done)
theorem drs_kV : ∀ {ds : List D} {vs : List V}, (∀ d ∈ ds, isK d = true) → DRs K S H vs ds → vs = (ds.map keyOf).map kV
  | _, _, _, .nil => rfl
  | _, _, h, .cons a t => by
    rw [dr_kV (h _ List.mem_cons_self) a, drs_kV (fun d hd => h d (List.mem_cons_of_mem _ hd)) t]
    rfl
theorem kV_dr {d : D} (h : isK d = true) : DR K S H (kV (keyOf d)) d := by
  cases d <;> first | (cases h; done) | skip
  · exact .int _
  · exact .str _
theorem kV_drs : ∀ {ds : List D}, (∀ d ∈ ds, isK d = true) → DRs K S H ((ds.map keyOf).map kV) ds
  | [], _ => .nil
  | d :: ds, h => .cons (kV_dr (h d List.mem_cons_self)) (kV_drs fun e he => h e (List.mem_cons_of_mem _ he))
theorem row_of {b : Bool} {v : V} {d : D} {l : List D} (r : DV b K S H v d) (hd : rowD d = some l) (hh : hom l = true) (hl : l.length ≤ 4000) : Row K v H (l.map keyOf) := by
  have hk := isK_of hh
  have hb : (l.map keyOf).length + 1 < PySem.scanBound := by
    rw [List.length_map]
    have : PySem.scanBound = 4096 := by decide
    omega
  cases d <;> first | (cases hd; done) | skip
  · cases hd
    obtain ⟨a, vs, rfl, hs, hr⟩ := r.tup
    rw [drs_kV hk hr] at hs
    exact ⟨a, rfl, .inr (.of hs), hb⟩
  · cases hd
    obtain ⟨a, vs, rfl, hs, hr⟩ := r.lst
    rw [drs_kV hk hr] at hs
    exact ⟨a, rfl, .inl (.of hs), hb⟩
  · cases hd
    obtain ⟨a, vs, rfl, hs, hr⟩ := r.ro
    rw [drs_kV hk hr] at hs
    exact ⟨a, rfl, .inl hs, hb⟩
end
end Tl

/-! G09: the set of a list or tuple of tuples of ints: its length, its members in order. -/
namespace SetX
open PySem PySem.Spec PyProof.Rows L2
section
variable {P : Program} {w : World} {A : Around} {E : Value → Shared → Prop} {s : Shared}
theorem call_setT_tuple {l : Addr} {items : Array Value} (ks : List (Addr × List Int)) {Q : Value → Shared → Prop} (hh : A.handled = none) (hl : s.heap.IsTuple l items) (hit : items.toList = ks.map fun p => Value.ref p.1)
    (hk : ∀ p ∈ ks, IsT P w s.heap p.2 p.1) (hfew : ks.length < 64) (hu : A.units + 3 < cLine)
    (h : ∀ (h' : Heap) (tk : Nat) L es ep t, SetTR P w h' s.heap.objs.size L es ep t → Got ks ks.length L → (∀ b o, s.heap.get? b = some o → h'.get? b = some o) → Q (.ref s.heap.objs.size) { s with heap := h', toks := tk }) :
    wpAny (model P w) A (call (.type "set") [.ref l]) Q E s := by
  have hisz : items.size = ks.length := by
    have q := congrArg List.length hit
    rw [Array.length_toList, List.length_map] at q
    exact q
  obtain ⟨c, more, hmro⟩ := F.called_set.mro
  have hmade := F.called_set.made
  have hsub := F.called_set.sub
  have z1 := F.called_set.notType
  have z2 := F.called_set.canCreate
  have z3 := F.typeCall_set_1 (.ref l)
  refine wpAny_call (codeAny_of_tree ?_)
  show wpAny _ _ (callAny (.type "set") _) _ _ _
  refine wpAny_pure ⟨Code.quiet_builtin _ (by decide +kernel), codeAny_builtin F.entry_type_call ?_⟩
  rw [Around.under_plain (weight_type_call_type "set" [.ref l] []) rfl]
  repeat (any_goals (first | assumption | wp_step))
  have new := Heap.get?_push_size s.heap (o := { cls := .type "set", dict := none, data := .set #[] 0 (.fresh 0 0 (!w.params.followText "set-order")) }) rfl
  refine codeAny_mono (code_set_led1 (.ref l) (E := E) (Q₁ := fun obj z => obj = .ref s.heap.objs.size ∧ z = { s with heap := s.heap.push { cls := .type "set", dict := none, data := .set #[] 0 (.fresh 0 0 (!w.params.followText "set-order")) } }) ⟨rfl, rfl⟩) fun r z hr => ?_
  rcases r with e | fl
  · exact hr
  · cases fl with
    | ret obj =>
      obtain ⟨rfl, rfl⟩ := hr
      have hT : Shared.TypeIs { s with heap := s.heap.push { cls := .type "set", dict := none, data := .set #[] 0 (.fresh 0 0 (!w.params.followText "set-order")) } } (.ref s.heap.objs.size) "set" := ⟨_, new, rfl⟩
      have z4 := F.called_set.init.lookup
      have z5 := F.called_set.init.bind (.ref s.heap.objs.size)
      repeat (any_goals (first | assumption | wp_step))
      refine codeAny_mono (codeAny_call_builtin (R := wants (fun r s₂ => r = .none ∧ ∃ h' tk L es ep t, s₂ = { s with heap := h', toks := tk } ∧ SetTR P w h' s.heap.objs.size L es ep t ∧ Got ks ks.length L ∧ (∀ b o, s.heap.get? b = some o → h'.get? b = some o)) E)
        F.called_set.init.plain F.entry_set_init (check_set_init_1 hT ?_)) fun r₂ s₂ hr₂ => ?_
      · obtain ⟨⟨ocls, odict, odata, oslots⟩, hol, hcl, nl, hdl⟩ := hl
        simp only at hcl hdl
        subst hcl; subst hdl
        have y1 := F.sub_tuple_set
        have y2 := F.sub_tuple_frozenset
        have y3 : (Value.type "tuple" == Value.type "dict") = false := by decide
        have hol' : (s.heap.push { cls := .type "set", dict := none, data := .set #[] 0 (.fresh 0 0 (!w.params.followText "set-order")) }).get? l = some { cls := .type "tuple", dict := odict, data := .seq items nl, slots := oslots } := Heap.get?_push_of_some _ hol
        have hl1 : (s.heap.push { cls := .type "set", dict := none, data := .set #[] 0 (.fresh 0 0 (!w.params.followText "set-order")) }).IsTuple l items := ⟨_, hol', rfl, nl, rfl⟩
        have low : l < s.heap.objs.size := Heap.lt_size hol
        unfold Builtin.«set.__init__» noKeywords Builtin.Frozenset.updateFrom
        generalize hPI : pyIter = PI
        wp_walk
        subst hPI

        refine wpAny_pyIter_tuple hl1 (wpAny_bind (wpAny_runValue ?_))
        have hh3 : A.in1.in1.in1.handled = none := by simp [hh]
        have one : (s.heap.push { cls := .type "set", dict := none, data := .set #[] 0 (.fresh 0 0 (!w.params.followText "set-order")) }).objs.size = s.heap.objs.size + 1 := Heap.size_push ..
        have apart : l ≠ (s.heap.push { cls := .type "set", dict := none, data := .set #[] 0 (.fresh 0 0 (!w.params.followText "set-order")) }).objs.size := by
          rw [one]; exact Nat.ne_of_lt (Nat.lt_succ_of_lt low)
        have out : s.heap.objs.size ∉ [(s.heap.push { cls := .type "set", dict := none, data := .set #[] 0 (.fresh 0 0 (!w.params.followText "set-order")) }).objs.size, l] := by
          rw [one]
          intro z
          rcases List.mem_cons.mp z with z | z
          · exact absurd z (Nat.ne_of_lt (Nat.lt_succ_self _))
          · exact absurd (List.mem_singleton.mp z) (Nat.ne_of_gt low)
        have got : ((s.heap.push { cls := .type "set", dict := none, data := .set #[] 0 (.fresh 0 0 (!w.params.followText "set-order")) }).push { cls := .type "tuple_iterator", data := .fields #[.ref l, .int 0 0] }).get? s.heap.objs.size
              = some { cls := .type "set", dict := none, data := .set #[] 0 (.fresh 0 0 (!w.params.followText "set-order")) } := Heap.get?_push_of_some _ new
        have hval : ∀ (i : Nat) (v : Value), items[i]? = some v → ∃ p, ks[i]? = some p ∧ v = .ref p.1 := fun i v hv => by
          have q : items.toList[i]? = some v := by rw [Array.getElem?_toList]; exact hv
          rw [hit, List.getElem?_map] at q
          obtain ⟨p, hp, e⟩ := Option.map_eq_some_iff.mp q
          exact ⟨p, hp, e.symm⟩
        have none_of : ∀ b, s.heap.objs.size ≤ b → s.heap.get? b = none := fun b hb => by
          cases q : s.heap.get? b with
          | none => rfl
          | some o => exact absurd (Nat.lt_of_lt_of_le (Heap.lt_size q) hb) (Nat.lt_irrefl _)
        refine set_update_tups ((Walks.tuple hh3 _ l apart items).toS) s.heap.objs.size out ks hisz hfew hval s.heap hk (none_of _ (Nat.le_refl _)) (fun b hb => none_of b (by
            rw [List.mem_singleton.mp hb, one]
            exact Nat.le_succ _)) hu (items.size - 0) 0 _ (by omega) (Nat.zero_le _)
          ⟨⟨_, Heap.get?_push_size _ rfl, rfl, rfl⟩, (hl1.push _)⟩ (fun b o e => Heap.get?_push_of_some _ (Heap.get?_push_of_some _ e)) ⟨[], #[], 0, _, setTR_fresh got, Got.zero ks⟩ ?last
        case last =>
          intro s' L es ep t hm M g' hkp
          obtain ⟨h', g2, d', tk', os'⟩ := s'
          have eg : g2 = s.gens := hm.gens
          have ed : d' = s.drawn := hm.drawn
          have eo : os' = s.os := hm.os
          subst eg; subst ed; subst eo
          show wpAny _ _ _ _ _ _
          refine wpAny_pure ?_
          show wpAny _ _ (ret Value.none) _ _ _
          rw [hisz] at g'
          exact wpAny_pure ⟨rfl, h', tk', L, es, ep, t, rfl, M, g', hkp⟩
      · rcases r₂ with e | fl₂
        · exact hr₂
        · cases fl₂ with
          | ret r =>
            obtain ⟨rfl, h', tk, L, es, ep, t, rfl, M, g', hk'⟩ := hr₂
            repeat (any_goals (first | assumption | wp_step))
            exact h _ _ _ _ _ _ M g' hk'
          | _ => exact hr₂.elim
    | _ => exact hr.elim
end
end SetX

/-! G10: len(set(x)), sorted(set(x)) of tuples of ints, as expressions. -/
namespace SetX
open PySem PySem.Spec PyProof.Rows L2
section
variable {P : Program} {w : World} {A : Around} {E : Value → Shared → Prop} {s : Shared}
theorem perm_map {α β : Type} {f : α → β} : ∀ {l : List β} {L : List α}, l.Perm (L.map f) → ∃ L' : List α, L'.Perm L ∧ l = L'.map f := by
  intro l L h
  generalize hm : L.map f = m at h
  induction h generalizing L with
  | nil => exact ⟨[], by rw [List.map_eq_nil_iff.mp hm], rfl⟩
  | @cons x l1 l2 h ih =>
    cases L with
    | nil => cases hm
    | cons y r =>
      obtain ⟨rfl, e⟩ := List.cons.inj hm
      obtain ⟨L', h1, rfl⟩ := ih e
      exact ⟨y :: L', h1.cons y, rfl⟩
  | swap x y l =>
    cases L with
    | nil => cases hm
    | cons a r => cases r with
      | nil => cases hm
      | cons b r =>
        obtain ⟨rfl, e⟩ := List.cons.inj hm
        obtain ⟨rfl, rfl⟩ := List.cons.inj e
        exact ⟨b :: a :: r, List.Perm.swap a b r, rfl⟩
  | trans h1 h2 i1 i2 =>
    obtain ⟨L2, p2, e2⟩ := i2 hm
    obtain ⟨L1, p1, e1⟩ := i1 e2.symm
    exact ⟨L1, p1.trans p2, e1⟩
theorem membersT {a : Addr} {L : List (Addr × List Int)} {es : Array (Int × Value)} {ep : Nat} {t : SetTable} {Q : List Value → Shared → Prop} (hh : A.handled = none) (M : SetTR P w s.heap a L es ep t)
    (hQ : ∀ (s' : Shared) (L' : List (Addr × List Int)), (∀ b o, s.heap.get? b = some o → s'.heap.get? b = some o) → s.heap.objs.size ≤ s'.heap.objs.size → s'.gens = s.gens → s'.os = s.os → L'.Perm L → Q (L'.map fun p => Value.ref p.1) s') :
    wpAny (model P w) A (collect (.ref a)) Q E s := by
  obtain ⟨o, ho, hex, hd⟩ := M.ob
  refine collect_set hh ⟨o, ho, hex.1, hd⟩ M.fits (by rw [M.size]; have := M.few; unfold scanBound; omega) M.tab.ris M.led fun s' out k1 k2 k3 k4 k5 => ?_
  have e : es.toList.map (·.2) = L.map fun p => Value.ref p.1 := by
    rw [M.rows]
    unfold rowsOf
    rw [List.map_map]
    rfl
  rw [e] at k5
  obtain ⟨L', hL, rfl⟩ := perm_map k5
  exact hQ s' L' k1 k2 k3 k4 hL
theorem len_setT {a : Addr} {L : List (Addr × List Int)} {es : Array (Int × Value)} {ep : Nat} {t : SetTable} {Q : Value → Shared → Prop} (M : SetTR P w s.heap a L es ep t) (h : ∀ tk, Q (.int L.length (s.toks + 1)) { s with toks := tk }) : wpAny (model P w) A (call (.builtin "len") [.ref a]) Q E s := by
  obtain ⟨o, ho, hex, hd⟩ := M.ob
  have e := M.size
  refine call_len_set ho hex hd M.fits (by rw [e]; have := M.few; omega) ?_
  rw [e]
  exact h _
end
section
variable {X : Cx} {a : Expr} {ta : TE} {p p2 q pos : Pos}
def Row2 (K : PySem.W.Frag) (x : V) (H : Hp) (ks : List (Addr × List Int)) : Prop := ∃ l, x = .ref l ∧ (SqL K H l (ks.map fun p => V.ref p.1) ∨ SqT K H l (ks.map fun p => V.ref p.1)) ∧ (∀ p ∈ ks, SqT K H p.1 (p.2.map V.int)) ∧ ks.length < 64
theorem setT_of {pins : List (Addr × Obj)} {σ : L2.St} {H : Hp} {s : Shared} {x : V} {v : Value} {ks : List (Addr × List Int)} {Q : Value → Shared → Prop} (hc : X.calm = true) (hu : X.A.units + 65 < cLine) (I : Inv X pins σ H s) (rx : RelV x v) (R : Row2 X.K x H ks)
    (h : ∀ (S : Addr) (h' : Heap) (tk : Nat) L es ep t, SetTR X.prog X.w h' S L es ep t → Got ks ks.length L → Inv X pins σ H { s with heap := h', toks := tk } → Q (.ref S) { s with heap := h', toks := tk }) :
    wpAny (model X.prog X.w) X.A (call (.type "set") [v]) Q X.xe s := by
  obtain ⟨l, rfl, hq, hk, hf⟩ := R
  cases rx
  rcases hq with hq | hq
  · obtain ⟨its, rv, pl, hz⟩ := I.list hq
    exact call_set_tups (P := X.prog) (w := X.w) ks (I.ok.hd hc) pl.isList (by simpa using refs_of_vals rv) (fun p hp => I.isT (hk p hp)) hf (by omega) fun h' tk L es ep t R g k => h _ h' tk L es ep t R g (I.kept (t' := tk) fun b o e => k b o e)
  · obtain ⟨its, rv, pl, hz⟩ := I.tuple hq
    exact call_setT_tuple (P := X.prog) (w := X.w) ks (I.ok.hd hc) (show s.heap.IsTuple l its.toArray from pl) (by simpa using refs_of_vals rv) (fun p hp => I.isT (hk p hp)) hf (by omega) fun h' tk L es ep t R g k => h _ h' tk L es ep t R g (I.kept (t' := tk) fun b o e => k b o e)
def tLenT (K : PySem.W.Frag) (ta : TE) : TE := fun σ H Q => ta σ H fun x H1 => ∃ ks, Row2 K x H1 ks ∧ ∀ ms : List (List Int), ms.Nodup → (∀ k, k ∈ ms ↔ k ∈ ks.map (·.2)) → Q (.int ms.length) H1
theorem got_mem {ks L : List (Addr × List Int)} (g : Got ks ks.length L) (k : List Int) : k ∈ L.map (·.2) ↔ k ∈ ks.map (·.2) := by
  constructor
  · intro h
    obtain ⟨p, hp, rfl⟩ := List.mem_map.mp h
    exact List.mem_map_of_mem (List.mem_of_mem_take (g.sub p hp))
  · intro h
    obtain ⟨p, hp, rfl⟩ := List.mem_map.mp h
    exact g.all p (by rw [List.take_length]; exact hp)
theorem pe_lenT (hc : X.calm = true) (hu : X.A.units + 65 < cLine) (hg : Gl X "len") (hm : X.mg "len" = none) (hg2 : Gl X "set") (hm2 : X.mg "set" = none) (ha : PE X a ta)
    (na : starEach [a] X.env = (false, eval a X.env) :: starEach [] X.env := by rfl) : PE X (.Call (.Name "len" p) [.Call (.Name "set" p2) [a] [] q] [] pos) (tLenT X.K ta) := by
  refine ⟨fun pins s σ H Q I h => ?_⟩
  refine Call_ (ld_blt I hg hm boot_len (PyProof.Rows.callWith_builtin1 (PyProof.Rows.args_cons ?_ rfl) rfl rfl))
  refine Call_ (ld_blt I hg2 hm2 boot_set (PyProof.Rows.callWith_type1 (PyProof.Rows.args_cons (thn (ha.run pins s σ H _ I h) fun v s1 ⟨x, H1, I1, r1, q1⟩ => PyProof.Rows.args_nil ?_) na) na rfl))
  obtain ⟨ks, hR, q1⟩ := q1
  refine setT_of hc hu I1 r1 hR fun S h' tk L es ep t M g I2 => PyProof.Rows.args_nil ?_
  refine len_setT (s := { s1 with heap := h', toks := tk }) M fun tk2 => ?_
  have := q1 (L.map (·.2)) M.nd (got_mem g)
  rw [List.length_map] at this
  exact ⟨.int L.length, H1, I2.tok _, ⟨_, rfl⟩, this⟩
def encT (q : Addr × List Int) : PyData := .tuple (q.2.map .int)
def leT (a b : Addr × List Int) : Bool := PySem.W.dataLe false encT a b
def tSortT (K : PySem.W.Frag) (ta : TE) : TE := fun σ H Q => ta σ H fun x H1 => ∃ ks, Row2 K x H1 ks ∧ (∀ q ∈ ks, q.2 ≠ []) ∧
  ∀ (L : List (Addr × List Int)) (p : Addr), (L.map (·.2)).Nodup → (∀ q ∈ L, q ∈ ks) → (∀ k, k ∈ L.map (·.2) ↔ k ∈ ks.map (·.2)) → H1 p = none → Q (.ref p) (upd H1 p (.lst ((L.mergeSort leT).map fun q => V.ref q.1)))
theorem reads_ints {h : Heap} : ∀ {vs : List Value} {k : List Int}, IntsAre vs k → PySem.ReadsAll h vs (k.map .int) []
  | _, _, .nil => .nil
  | _, _, .cons i t r => .cons (.int i t) (reads_ints r)
theorem reads_t {P : Program} {w : World} {h : Heap} {q : Addr × List Int} (x : IsT P w h q.2 q.1) : PySem.Reads h (.ref q.1) (encT q) [] := by
  obtain ⟨o, items, n, ho, hc, hd, hi⟩ := x
  exact .tuple ho hc hd (reads_ints (ints_of_items hi))
theorem each_ref : ∀ (L : List (Addr × List Int)), PySem.W.EachIs (fun (v : Value) (q : Addr × List Int) => v = .ref q.1) (L.map fun p => Value.ref p.1) L
  | [] => .nil
  | _ :: r => .cons rfl (each_ref r)
theorem each_rd {P : Program} {w : World} {h : Heap} {n : Nat} : ∀ (L : List (Addr × List Int)), (∀ q ∈ L, IsT P w h q.2 q.1) → PySem.W.EachIs (fun (v : Value) (q : Addr × List Int) => ∃ as, PySem.Reads h v (encT q) as ∧ n ∉ as) (L.map fun p => Value.ref p.1) L
  | [], _ => .nil
  | _ :: r, g => .cons ⟨[], reads_t (g _ List.mem_cons_self), by simp⟩ (each_rd r fun q hq => g q (List.mem_cons_of_mem _ hq))
theorem vals_each : ∀ {us : List Value} {L : List (Addr × List Int)}, PySem.W.EachIs (fun (v : Value) (q : Addr × List Int) => v = .ref q.1) us L → Vals (L.map fun q => V.ref q.1) us
  | _, _, .nil => .nil
  | _, _, .cons a t => by
    subst a
    exact .cons rfl (vals_each t)
theorem alike_ints : ∀ a b : List Int, PySem.W.alikeAll (a.map .int) (b.map .int) = true
  | [], _ => by cases ‹List Int› <;> rfl
  | _ :: _, [] => rfl
  | x :: r, y :: t => by
    show (true && PySem.W.alikeAll (r.map .int) (t.map .int)) = true
    rw [alike_ints r t]
    rfl
theorem dep_ints : ∀ a : List Int, PyData.depthAll (a.map .int) ≤ 1
  | [] => by decide
  | x :: r => by
    have := dep_ints r
    show max (PyData.depth (.int x)) (PyData.depthAll (r.map .int)) ≤ 1
    have e : PyData.depth (.int x) ≤ 1 := by simp [PyData.depth]
    omega
theorem encT_depth (q : Addr × List Int) : (encT q).depth ≤ 2 := by
  have := dep_ints q.2
  show (PyData.tuple (q.2.map .int)).depth ≤ 2
  unfold PyData.depth
  omega
theorem pe_sortT (hc : X.calm = true) (hu : X.A.units + 65 < cLine) (hg : Gl X "sorted") (hm : X.mg "sorted" = none) (hg2 : Gl X "set") (hm2 : X.mg "set" = none) (ha : PE X a ta)
    (na : starEach [a] X.env = (false, eval a X.env) :: starEach [] X.env := by rfl) : PE X (.Call (.Name "sorted" p) [.Call (.Name "set" p2) [a] [] q] [] pos) (tSortT X.K ta) := by
  refine ⟨fun pins s σ H Q I h => ?_⟩
  refine Call_ (ld_blt I hg hm boot_sorted (PyProof.Rows.callWith_builtin1 (PyProof.Rows.args_cons ?_ rfl) rfl rfl))
  refine Call_ (ld_blt I hg2 hm2 boot_set (PyProof.Rows.callWith_type1 (PyProof.Rows.args_cons (thn (ha.run pins s σ H _ I h) fun v s1 ⟨x, H1, I1, r1, q1⟩ => PyProof.Rows.args_nil ?_) na) na rfl))
  obtain ⟨ks, hR, hne, q1⟩ := q1
  refine setT_of hc hu I1 r1 hR fun S h' tk L es ep t M g I2 => PyProof.Rows.args_nil ?_
  have hsub : ∀ q ∈ L, q ∈ ks := fun q hq => List.mem_of_mem_take (g.sub q hq)
  refine Calls.call_function_entry kind_sorted plain_sorted entry_sorted (args_sorted1 _) ?_
  unfold Builtin.«sorted»
  refine wpAny_bind (m := checkCount "sorted" 1 1 _) (wpAny_pure ?_)
  refine wpAny_bind (membersT (A := X.A.in1) (s := { s1 with heap := h', toks := tk }) (I2.ok.hd hc) M fun s3 L' k1 hz g1 o1 pm => ?_)
  have hl64 : L'.length < 64 := by rw [pm.length_eq]; exact M.few
  have hfew : (L'.map fun p => Value.ref p.1).length < scanBound := by rw [List.length_map]; unfold scanBound; omega
  have hfew2 : L'.length < scanBound := by unfold scanBound; omega
  refine wpAny_bind (wpAny_newList ?_ (fits_of_scanBound hfew))
  have hoL : (s3.heap.push (seqObj "list" (L'.map fun p => Value.ref p.1).toArray 0)).get? s3.heap.objs.size = some (seqObj "list" (L'.map fun p => Value.ref p.1).toArray 0) := Heap.get?_push_size _ rfl
  have hT : ∀ q ∈ L', IsT X.prog X.w (s3.heap.push (seqObj "list" (L'.map fun p => Value.ref p.1).toArray 0)) q.2 q.1 := fun q hq => isT_keep (M.tup q (pm.mem_iff.mp hq)) fun b o e => Heap.get?_push_of_some _ (k1 b o e)
  refine wpAny_bind (wpAny_holding ?_)
  refine PySem.W.list_sort_data (s := { s3 with heap := s3.heap.push (seqObj "list" (L'.map fun p => Value.ref p.1).toArray 0) }) (enc := encT) hoL (each_ref L') (each_rd L' hT) (fun d hd d' hd' => by
      obtain ⟨q, _, rfl⟩ := List.mem_map.mp hd
      obtain ⟨q', _, rfl⟩ := List.mem_map.mp hd'
      exact alike_ints q.2 q'.2) (.inl fun d hd => by
      obtain ⟨q, hq, rfl⟩ := List.mem_map.mp hd
      have := hne q (hsub q (pm.mem_iff.mp hq))
      obtain ⟨b, l⟩ := q
      cases l with
      | nil => exact absurd rfl this
      | cons i r => exact ⟨.int i, r.map .int, rfl⟩) (fits_of_scanBound hfew2) (fun b _ => by
    have := encT_depth b
    show X.A.units + 1 + 1 + (encT b).depth < cLine
    omega) fun out2 ho2 eo => ?_
  obtain ⟨c, hcell⟩ := sortedHeap_at (vs := L'.map fun p => Value.ref p.1) (out := out2.toArray) hoL
  have hlen : ((L'.mergeSort leT).map fun q => V.ref q.1).length ≤ sizeLine := by
    rw [List.length_map, List.length_mergeSort]
    exact fits_of_scanBound hfew2
  have hn : H1 s3.heap.objs.size = none := I2.hok.fresh hz
  have k3 : ∀ b u, h'.get? b = some u → (sortedHeap (s3.heap.push (seqObj "list" (L'.map fun p => Value.ref p.1).toArray 0)) s3.heap.objs.size (L'.map fun p => Value.ref p.1) out2.toArray).get? b = some u := fun b u z => by
    have z1 := k1 b u z
    have lt := Heap.lt_size z1
    rw [sortedHeap_old (Nat.ne_of_lt lt) (by rw [size_push']; exact Nat.lt_succ_of_lt lt)]
    exact Heap.get?_push_of_some _ z1
  have J : Inv X pins σ (upd H1 s3.heap.objs.size (.lst ((L'.mergeSort leT).map fun q => V.ref q.1))) { s1 with heap := sortedHeap (s3.heap.push (seqObj "list" (L'.map fun p => Value.ref p.1).toArray 0)) s3.heap.objs.size (L'.map fun p => Value.ref p.1) out2.toArray, gens := s3.gens, drawn := s3.drawn, toks := s3.toks } :=
    I2.call (s := { s1 with heap := h', toks := tk }) (ch := []) (Un.laid k3 hz hn) (I2.hok.laid k3 hz ⟨hlen, out2, c, vals_each eo, hcell⟩) (by rw [g1]; exact I2.bare) (fun _ z => nomatch z)
  have es' : ({ s3 with heap := sortedHeap (s3.heap.push (seqObj "list" (L'.map fun p => Value.ref p.1).toArray 0)) s3.heap.objs.size (L'.map fun p => Value.ref p.1) out2.toArray } : Shared) = { s1 with heap := sortedHeap (s3.heap.push (seqObj "list" (L'.map fun p => Value.ref p.1).toArray 0)) s3.heap.objs.size (L'.map fun p => Value.ref p.1) out2.toArray, gens := s3.gens, drawn := s3.drawn, toks := s3.toks } := by
    cases s3
    cases s1
    cases o1
    rfl
  refine wpAny_pure ⟨_, rfl, ?_⟩
  have fin : EP X pins σ Q (.ref s3.heap.objs.size) { s1 with heap := sortedHeap (s3.heap.push (seqObj "list" (L'.map fun p => Value.ref p.1).toArray 0)) s3.heap.objs.size (L'.map fun p => Value.ref p.1) out2.toArray, gens := s3.gens, drawn := s3.drawn, toks := s3.toks } :=
    ⟨.ref s3.heap.objs.size, _, J, rfl, q1 L' _ ((pm.map (·.2)).nodup_iff.mpr M.nd) (fun q hq => hsub q (pm.mem_iff.mp hq)) (fun k => ((pm.map (·.2)).mem_iff).trans (got_mem g k)) hn⟩
  rw [← es'] at fin
  exact fin
end
end SetX

/-! H06: sets of tuples of ints, by data. -/
namespace Tl
open PySem L2 SetX
def dT (k : List Int) : D := .tup (k.map .int)
theorem eqDs_ints : ∀ a b : List Int, eqDs (a.map .int) (b.map .int) = decide (a = b)
  | [], [] => rfl
  | [], _ :: _ => rfl
  | _ :: _, [] => rfl
  | x :: a, y :: b => by
    show (eqD (.int x) (.int y) && eqDs (a.map .int) (b.map .int)) = _
    rw [eqDs_ints a b]
    show ((x == y) && decide (a = b)) = _
    by_cases h : x = y
    · subst h; simp
    · simp [h]
theorem eqD_t (a b : List Int) : eqD (dT a) (dT b) = decide (a = b) := eqDs_ints a b
def ddR : List (List Int) → List (List Int)
  | [] => []
  | x :: r => if decide (x ∈ r) then ddR r else x :: ddR r
theorem uniq_t : ∀ W : List (List Int), uniq (W.map dT) = (ddR W).map dT
  | [] => rfl
  | x :: r => by
    have e : ((r.map dT).any (eqD (dT x))) = decide (x ∈ r) := by
      rw [List.any_map, Bool.eq_iff_iff, List.any_eq_true, decide_eq_true_iff]
      constructor
      · rintro ⟨y, hy, h⟩
        have h : eqD (dT x) (dT y) = true := h
        rw [eqD_t, decide_eq_true_iff] at h
        rw [h]; exact hy
      · intro h
        exact ⟨x, h, by show eqD (dT x) (dT x) = true; rw [eqD_t]; simp⟩
    rw [List.map_cons]
    unfold uniq ddR
    rw [e, uniq_t r]
    split <;> rfl
theorem ddR_mem : ∀ (W : List (List Int)) x, x ∈ ddR W ↔ x ∈ W
  | [], _ => Iff.rfl
  | y :: r, x => by
    unfold ddR
    split
    · rename_i h
      rw [ddR_mem r, List.mem_cons]
      constructor
      · exact .inr
      · rintro (rfl | h2)
        · exact of_decide_eq_true h
        · exact h2
    · rw [List.mem_cons, List.mem_cons, ddR_mem r]
theorem ddR_nodup : ∀ W : List (List Int), (ddR W).Nodup
  | [] => List.nodup_nil
  | y :: r => by
    unfold ddR
    split
    · exact ddR_nodup r
    · rename_i h
      exact List.nodup_cons.mpr ⟨fun z => h (decide_eq_true ((ddR_mem r y).mp z)), ddR_nodup r⟩
theorem toPs_ints : ∀ k : List Int, toPs (k.map .int) = k.map PyData.int
  | [] => rfl
  | x :: r => by
    show toP (.int x) :: toPs (r.map .int) = _
    rw [toPs_ints r]; rfl
theorem toP_t (k : List Int) : toP (dT k) = .tuple (k.map .int) := by
  show PyData.tuple (toPs (k.map .int)) = _
  rw [toPs_ints]
theorem le_t (a b : List Int) : leD (dT a) (dT b) = decide (a ≤ b) := by
  show (!PySem.W.dataLt (toP (dT b)) (toP (dT a))) = _
  rw [toP_t, toP_t, PySem.W.dataLt_tuple]
  show (!PySem.W.rowLt (b.map .int) (a.map .int)) = _
  rw [PySem.W.dataLt_ints]
  by_cases h : b < a
  · have h' : ¬ a ≤ b := fun r => List.not_lt.mpr r h
    simp [h, h']
  · have h' : a ≤ b := List.not_lt.mp h
    simp [h, h']
def rsort (W : List (List Int)) : List (List Int) := W.mergeSort fun a b => decide (a ≤ b)
theorem rsort_perm (W : List (List Int)) : (rsort W).Perm W := List.mergeSort_perm _ _
theorem rsort_sorted (W : List (List Int)) : (rsort W).Pairwise (· ≤ ·) := by
  have h := List.pairwise_mergeSort (le := fun a b : List Int => decide (a ≤ b)) (fun a b c h1 h2 => decide_eq_true (List.le_trans (of_decide_eq_true h1) (of_decide_eq_true h2)))
    (fun a b => by rw [Bool.or_eq_true, decide_eq_true_eq, decide_eq_true_eq]; exact List.le_total a b) W
  exact h.imp fun z => of_decide_eq_true z
theorem rsorted_eq {a b : List (List Int)} (p : a.Perm b) (ha : a.Pairwise (· ≤ ·)) (hb : b.Pairwise (· ≤ ·)) : a = b :=
  List.Perm.eq_of_pairwise (le := fun a b : List Int => a ≤ b) (fun a b _ _ h1 h2 => List.le_antisymm h1 h2) ha hb p
theorem msort_t (W : List (List Int)) : (W.map dT).mergeSort leD = (rsort W).map dT := by
  unfold rsort
  rw [List.map_mergeSort (s := leD)]
  intro x _ y _
  rw [le_t]
theorem ti_of : ∀ {l : List D}, l.all isTI = true → ∃ W : List (List Int), l = W.map dT
  | [], _ => ⟨[], rfl⟩
  | d :: l, h => by
    rw [List.all_cons, Bool.and_eq_true] at h
    obtain ⟨W, rfl⟩ := ti_of h.2
    have allN : ∀ ds : List D, ds.all isI = true → ∃ k : List Int, ds = k.map .int := fun ds => by
      induction ds with
      | nil => exact fun _ => ⟨[], rfl⟩
      | cons d ds ih =>
        intro hd
        rw [List.all_cons, Bool.and_eq_true] at hd
        obtain ⟨k, rfl⟩ := ih hd.2
        cases d <;> first | (cases hd.1; done) | skip
        exact ⟨_ :: k, rfl⟩
    cases d <;> first | (cases h.1; done) | skip
    obtain ⟨k, rfl⟩ := allN _ h.1
    exact ⟨k :: W, rfl⟩
section
variable {K : PySem.W.Frag} {S : Ad} {H : Hp}
theorem dr_int {v : V} {i : Int} (r : DR K S H v (.int i)) : v = .int i := by cases r; rfl
theorem drs_int : ∀ {k : List Int} {vs : List V}, DRs K S H vs (k.map .int) → vs = k.map V.int
  | [], _, .nil => rfl
  | x :: k, _, .cons a t => by rw [dr_int a, drs_int t]; rfl
theorem int_drs : ∀ k : List Int, DRs K S H (k.map V.int) (k.map .int)
  | [] => .nil
  | x :: k => .cons (.int x) (int_drs k)
theorem rows_t : ∀ {W : List (List Int)} {vs : List V}, DRs K S H vs (W.map dT) → ∃ ks : List (Addr × List Int), vs = ks.map (fun p => V.ref p.1) ∧ ks.map (·.2) = W ∧ ∀ p ∈ ks, H p.1 = some (.tup (p.2.map V.int))
  | [], _, .nil => ⟨[], rfl, rfl, by simp⟩
  | k :: W, _, .cons a t => by
    obtain ⟨ks, rfl, h2, h3⟩ := rows_t t
    cases a with
    | tup hs hr =>
      rw [drs_int hr] at hs
      refine ⟨(_, k) :: ks, rfl, by rw [List.map_cons, h2], fun p hp => ?_⟩
      rcases List.mem_cons.mp hp with rfl | hp
      · exact hs
      · exact h3 p hp
theorem t_drs : ∀ {L : List (Addr × List Int)}, (∀ p ∈ L, H p.1 = some (.tup (p.2.map V.int))) → DRs K S H (L.map fun p => V.ref p.1) (L.map fun p => dT p.2)
  | [], _ => .nil
  | p :: L, h => .cons (.tup (h p (by simp)) (int_drs p.2)) (t_drs fun q hq => h q (by simp [hq]))
theorem row2_of {b : Bool} {v : V} {d : D} {W : List (List Int)} (r : DV b K S H v d) (hd : rowD d = some (W.map dT)) (hl : W.length ≤ 63) : ∃ ks : List (Addr × List Int), Row2 K v H ks ∧ ks.map (·.2) = W ∧ ∀ p ∈ ks, H p.1 = some (.tup (p.2.map V.int)) := by
  cases d <;> first | (cases hd; done) | skip
  · cases hd
    obtain ⟨a, vs, rfl, hs, hr⟩ := r.tup
    obtain ⟨ks, rfl, h2, h3⟩ := rows_t hr
    refine ⟨ks, ⟨a, rfl, .inr (.of hs), fun p hp => .of (h3 p hp), ?_⟩, h2, h3⟩
    rw [← h2, List.length_map] at hl; omega
  · cases hd
    obtain ⟨a, vs, rfl, hs, hr⟩ := r.lst
    obtain ⟨ks, rfl, h2, h3⟩ := rows_t hr
    refine ⟨ks, ⟨a, rfl, .inl (.of hs), fun p hp => .of (h3 p hp), ?_⟩, h2, h3⟩
    rw [← h2, List.length_map] at hl; omega
  · cases hd
    obtain ⟨a, vs, rfl, hs, hr⟩ := r.ro
    obtain ⟨ks, rfl, h2, h3⟩ := rows_t hr
    refine ⟨ks, ⟨a, rfl, .inl hs, fun p hp => .of (h3 p hp), ?_⟩, h2, h3⟩
    rw [← h2, List.length_map] at hl; omega
end
theorem sort_t {W : List (List Int)} {L : List (Addr × List Int)} (nd : (L.map (·.2)).Nodup) (m : ∀ k, k ∈ L.map (·.2) ↔ k ∈ W) : (L.mergeSort leT).map (fun q => dT q.2) = (uniq (W.map dT)).mergeSort leD := by
  have e : (L.mergeSort leT).map (fun q => dT q.2) = (L.map fun q => dT q.2).mergeSort leD := List.map_mergeSort (r := leT) (s := leD) (f := fun q : Addr × List Int => dT q.2) (l := L) (fun a _ b _ => by
    show PySem.W.dataLe false encT a b = PySem.W.dataLe false toP (dT a.2) (dT b.2)
    unfold PySem.W.dataLe PySem.W.sortLe
    simp only [toP_t]
    rfl)
  rw [e, uniq_t, msort_t, show (L.map fun q => dT q.2) = (L.map (·.2)).map dT by rw [List.map_map]; rfl, msort_t]
  congr 1
  refine rsorted_eq ?_ (rsort_sorted _) (rsort_sorted _)
  exact (rsort_perm _).trans (((List.perm_ext_iff_of_nodup nd (ddR_nodup W)).mpr fun k => (m k).trans (ddR_mem W k).symm).trans (rsort_perm _).symm)
end Tl

/-! T08: built-ins, isinstance, methods. -/
namespace Tl
open PySem L2
variable [Tabs]
section
variable {c : CC} {F : Fn} {n : Nat} {sc : Scope} {X : Cx} {a a2 a3 : Expr} {x y z : IE} {p : Pos} {b : Bool} {es : List Expr}
theorem boot_bi : ∀ f, bootBuiltins (biS f) = some (biV f) := by
  intro f
  cases f <;> decide +kernel
theorem bi_in : ∀ f, biS f ∈ bltNames := by
  intro f
  cases f <;> decide +kernel
theorem bi_odd : ∀ f, (biS f == ("__debug__" : Str)) = false ∧ biS f ≠ "__name__" := by
  intro f
  cases f <;> decide +kernel
theorem se_bi (g : GX c F n sc X) {f : BI} {nm : Str} {p1 : Pos} {e : Expr} {r : List Expr} (hn : nm = biS f) (hgl : glB sc nm = true) (hx : PA X (e :: r) (tAs X.K F true x)) (hst : ∀ e' ∈ e :: r, isStar e' = false) :
    PE X (.Call (.Name nm p1) (e :: r) [] p) (tE X.K F b (.bi f x)) := by
  have body : ∀ σ H Q, tE X.K F b (.bi f x) σ H Q → tCB (rB X.K (biD f)) (tAs X.K F true x) σ H Q := by
    rintro σ H Q ⟨S, e, d, hs, hf, q⟩
    have hf := fin_f hf
    split at hf
    · rename_i ds hds
      refine tA_at hs (Ex.refl H) hds fun vs H1 x1 r1 => ?_
      exact ⟨nw S H, ds, d, r1, hf, fun v H2 x2 r2 => q v H2 (x1.trans x2) (.inl (r2.mono ((Ex.refl _).le (nw.nw x1))))⟩
    · cases hf
  obtain ⟨h1, h2⟩ := plainArgs (X := X) (p := p) hst rfl
  subst hn
  have hm := g.blt _ (bi_in f)
  have o := bi_odd f
  have hb := boot_bi f
  have ok := bi_ok (X := X) g.calm g.hu f
  refine pe_imp ?_ body
  cases f with
  | int => exact pe_callTy ok (g.gl hgl) hm hb hx o.2 o.1 h1 h2
  | tuple => exact pe_callTy ok (g.gl hgl) hm hb hx o.2 o.1 h1 h2
  | list => exact pe_callTy ok (g.gl hgl) hm hb hx o.2 o.1 h1 h2
  | len => exact pe_callB ok (g.gl hgl) hm hb hx o.2 o.1 h1 h2
  | abs => exact pe_callB ok (g.gl hgl) hm hb hx o.2 o.1 h1 h2
  | sum => exact pe_callB ok (g.gl hgl) hm hb hx o.2 o.1 h1 h2
  | max => exact pe_callB ok (g.gl hgl) hm hb hx o.2 o.1 h1 h2
  | min => exact pe_callB ok (g.gl hgl) hm hb hx o.2 o.1 h1 h2
  | all => exact pe_callB ok (g.gl hgl) hm hb hx o.2 o.1 h1 h2
  | any => exact pe_callB ok (g.gl hgl) hm hb hx o.2 o.1 h1 h2
  | sorted => exact pe_callB ok (g.gl hgl) hm hb hx o.2 o.1 h1 h2

theorem se_mmd (g : GX c F n sc X) {mx : Bool} {nm k : Str} {p1 kp : Pos} {a v : Expr} (hn : nm = mmS mx) (hk : k = ("default" : Str)) (hgl : glB sc nm = true) (hst : isStar a = false) (hx : PE X a (tE X.K F true x)) (hy : PE X v (tE X.K F false y)) :
    PE X (.Call (.Name nm p1) [a] [⟨some k, v, kp⟩] p) (tE X.K F b (.mmd mx x y)) := by
  have body : ∀ σ H Q, tE X.K F b (.mmd mx x y) σ H Q → tCKw (rMD X.K mx) (tAs X.K F true (.ac x .an)) (tCons (tE X.K F false y) tNil) σ H Q := by
    rintro σ H Q ⟨S, e, d, hs, hf, q⟩
    have hf := fin_f hf
    split at hf
    · rename_i l df hl hd
      refine tA_at hs (Ex.refl H) (ds := [l]) (by simp only [ev, hl]) fun vs H1 x1 r1 => ?_
      refine tE_at hs x1 hd fun v H2 x2 r2 => ?_
      exact ⟨nw S H, l, df, d, r1.mono x2 (fun _ z => z), .cons r2 .nil, hf, fun v H3 x3 r3 => q v H3 ((x1.trans x2).trans x3) (.inl (r3.mono ((Ex.refl _).le (nw.nw (x1.trans x2)))))⟩
    · cases hf
  have hA : PA X [a] (tAs X.K F true (.ac x .an)) := sa_cons hst hx sa_nil
  have hm := g.blt nm (by rw [hn]; cases mx <;> decide +kernel)
  have he : backTo p (starEach [a] X.env) = (false, eval a X.env) :: backTo p (starEach [] X.env) := by rw [star_of hst [] X.env]; rfl
  have hpl : (backTo p (starEach [a] X.env)).any (·.1) = false := by rw [star_of hst [] X.env]; rfl
  refine pe_imp ?_ body
  subst hk hn
  cases mx with
  | true => exact pe_callBK (cr_maxD g.calm g.hu) (g.gl hgl) hm (by decide +kernel) hA (pk_cons hy pk_nil) (by decide) (by decide +kernel) he hpl
  | false => exact pe_callBK (cr_minD g.calm g.hu) (g.gl hgl) hm (by decide +kernel) hA (pk_cons hy pk_nil) (by decide) (by decide +kernel) he hpl
theorem pe_or {e : Expr} {t1 t2 : TE} (h1 : PE X e t1) (h2 : PE X e t2) : PE X e (fun σ H Q => t1 σ H Q ∨ t2 σ H Q) :=
  ⟨fun pins s σ H Q I h => by
    rcases h with h | h
    · exact h1.run pins s σ H Q I h
    · exact h2.run pins s σ H Q I h⟩
theorem se_sts (g : GX c F n sc X) {so : Bool} {nm r : Str} {p1 p2 q : Pos} {a : Expr} (hn : nm = ssS so) (hgl : glB sc nm = true) (hr : r = ("set" : Str)) (hgr : glB sc r = true) (hst : isStar a = false) (hx : PE X a (tE X.K F true x)) :
    PE X (.Call (.Name nm p1) [.Call (.Name r p2) [a] [] q] [] p) (tE X.K F b (.sts so x)) := by
  have hm := g.blt nm (by rw [hn]; cases so <;> decide +kernel)
  have hm2 := g.blt r (by rw [hr]; decide +kernel)
  have na : starEach [a] X.env = (false, eval a X.env) :: starEach [] X.env := star_of hst [] X.env
  have hu := g.hu
  subst hr
  subst hn
  cases so with
  | false =>
    refine pe_imp (pe_or (SetX.pe_lenS g.calm (g.gl hgl) hm (g.gl hgr) hm2 hx na) (SetX.pe_lenT g.calm (by omega) (g.gl hgl) hm (g.gl hgr) hm2 hx na)) ?_
    rintro σ H Q ⟨S, e, d, hs, hf, qq⟩
    have hf := fin_f hf
    split at hf
    · rename_i d0 hd
      unfold setF at hf
      split at hf
      · rename_i l hl
        split at hf
        · rename_i hc
          left
          cases hf
          rw [Bool.and_eq_true] at hc
          refine tE_at hs (Ex.refl H) hd fun v H1 x1 r1 => ?_
          refine ⟨_, row_of r1 hl hc.2 (Nat.le_of_ble_eq_true hc.1), fun ms nd m => ?_⟩
          have := (perm_uniq (isK_of hc.2) nd m).length_eq
          rw [List.length_map] at this
          rw [this]
          exact qq _ H1 x1 (.inl (.int _))
        · split at hf
          · rename_i hc
            right
            cases hf
            rw [Bool.and_eq_true, Bool.and_eq_true] at hc
            obtain ⟨W, rfl⟩ := ti_of hc.1.2
            have hW := Nat.le_of_ble_eq_true hc.1.1
            rw [List.length_map] at hW
            refine tE_at hs (Ex.refl H) hd fun v H1 x1 r1 => ?_
            obtain ⟨ks, hR, hk, _⟩ := row2_of r1 hl hW
            refine ⟨ks, hR, fun ms nd m => ?_⟩
            rw [hk] at m
            have := ((List.perm_ext_iff_of_nodup nd (ddR_nodup W)).mpr fun k => (m k).trans (ddR_mem W k).symm).length_eq
            rw [this, ← List.length_map (f := dT), ← uniq_t]
            exact qq _ H1 x1 (.inl (.int _))
          · cases hf
      · cases hf
    · cases hf
  | true =>
    refine pe_imp (pe_or (SetX.pe_sortS g.calm (by omega) (g.gl hgl) hm (g.gl hgr) hm2 hx na) (SetX.pe_sortT g.calm (by omega) (g.gl hgl) hm (g.gl hgr) hm2 hx na)) ?_
    rintro σ H Q ⟨S, e, d, hs, hf, qq⟩
    have hf := fin_f hf
    split at hf
    · rename_i d0 hd
      unfold setF at hf
      split at hf
      · rename_i l hl
        split at hf
        · rename_i hc
          left
          cases hf
          rw [Bool.and_eq_true] at hc
          refine tE_at hs (Ex.refl H) hd fun v H1 x1 r1 => ?_
          refine ⟨_, row_of r1 hl hc.2 (Nat.le_of_ble_eq_true hc.1), alls_of hc.2 (fun _ z => z), fun bs p nd m hp => ?_⟩
          rw [sort_uniq hc.2 nd m]
          have hk : ∀ d ∈ (uniq l).mergeSort leD, isK d = true := fun d hd => isK_of hc.2 d (uniq_sub l d (List.mem_mergeSort.mp hd))
          exact ansL (fun v H' x r => qq v H' (x1.trans x) (.inl (r.mono ((Ex.refl _).le (nw.nw x1))))) (kV_drs hk) hp
        · split at hf
          · rename_i hc
            right
            cases hf
            rw [Bool.and_eq_true, Bool.and_eq_true] at hc
            obtain ⟨W, rfl⟩ := ti_of hc.1.2
            have hW := Nat.le_of_ble_eq_true hc.1.1
            rw [List.length_map] at hW
            have hne : ∀ k ∈ W, k ≠ [] := fun k hk z => by
              have := List.all_eq_true.mp (show (W.map dT).all tupNe = true from hc.2) (dT k) (List.mem_map_of_mem hk)
              subst z
              cases this
            refine tE_at hs (Ex.refl H) hd fun v H1 x1 r1 => ?_
            obtain ⟨ks, hR, hk, ht⟩ := row2_of r1 hl hW
            refine ⟨ks, hR, fun q hq => hne _ (by rw [← hk]; exact List.mem_map_of_mem hq), fun L p nd sub m hp => ?_⟩
            rw [hk] at m
            have dr : DRs X.K (nw S H) H1 ((L.mergeSort SetX.leT).map fun q => V.ref q.1) ((L.mergeSort SetX.leT).map fun q => dT q.2) := t_drs fun q hq => ht q (sub q (List.mem_mergeSort.mp hq))
            rw [sort_t nd m] at dr
            exact ansL (fun v H' x r => qq v H' (x1.trans x) (.inl (r.mono ((Ex.refl _).le (nw.nw x1))))) dr hp
          · cases hf
      · cases hf
    · cases hf
theorem se_gcd (g : GX c F n sc X) {nm : Str} {p1 : Pos} {e : Expr} {r : List Expr} (hc : c.gc = true) (hn : nm = ("gcd" : Str)) (hgl : glB sc nm = true) (hx : PA X (e :: r) (tAs X.K F true x)) (hst : ∀ e' ∈ e :: r, isStar e' = false) :
    PE X (.Call (.Name nm p1) (e :: r) [] p) (tE X.K F b (.gcd x)) := by
  obtain ⟨h1, h2⟩ := plainArgs (X := X) (p := p) hst rfl
  subst hn
  refine pe_imp (pe_callBfun cr_gcd (g.gl hgl) (g.gcd hc) hx (by decide +kernel) h1 h2) ?_
  rintro σ H Q ⟨S, e, d, hs, hf, q⟩
  have hf := fin_f hf
  split at hf
  · rename_i a b' hds
    cases hf
    refine tA_at hs (Ex.refl H) hds fun vs H1 x1 r1 => ?_
    obtain ⟨v, u, rfl, hv, hu⟩ := r1.two
    exact ⟨a, b', by rw [hv.int, hu.int], q _ H1 x1 (.inl (.int _))⟩
  · cases hf

/-! ### isinstance -/
def tyOfD : D → Option String
  | .non => some "NoneType"
  | .bl _ => some "bool"
  | .int _ => some "int"
  | .str _ => some "str"
  | .tup _ => some "tuple"
  | .lst _ => some "list"
  | .ro _ => some "list"
  | _ => none
theorem tyx_of {K : PySem.W.Frag} {S : Ad} {H : Hp} {v : V} {d : D} (h : DV true K S H v d) (nd : notDic d = true) : ∃ T, tyOfD d = some T ∧ TyX K H v (.type T) := by
  rcases h with h | ⟨_, a, rfl, h⟩
  · cases h with
    | non => exact ⟨_, rfl, .base .non⟩
    | bl b => exact ⟨_, rfl, .base (.bl b)⟩
    | int i => exact ⟨_, rfl, .base (.int i)⟩
    | str s => exact ⟨_, rfl, .base (.str _)⟩
    | tup h r =>
      refine ⟨_, rfl, ?_⟩
      exact .base (.tup h)
    | dic _ _ _ _ => cases nd
    | lst s h r => exact ⟨_, rfl, .base (.lst h)⟩
    | ro h r =>
      refine ⟨_, rfl, ?_⟩
      rcases h with ⟨_, h | ⟨o, h⟩⟩ | ⟨o, its, n, h1, h2, h3⟩
      · exact .base (.lst h)
      · exact .base (.frz h)
      · exact .kList h1 h2
  · cases d with
    | lst ds =>
      obtain ⟨vs, h1, _⟩ := h
      exact ⟨_, rfl, .base (.lst h1)⟩
    | dic _ _ => cases nd
    | _ => exact h.elim
theorem kit_ty2 {K : PySem.W.Frag} (t : TY) : ∀ (d : D) (T : String), tyOfD d = some T → PySem.W.kitOne K (.type T) (.type (tyN t)) = some (isTy t d) := by
  intro d T h
  cases d <;> cases h <;> cases t <;> rfl
theorem boot_isi : bootBuiltins ("isinstance" : Str) = some (.builtin "isinstance") := by decide +kernel
theorem boot_ty : ∀ t, bootBuiltins (tyS t) = some (.type (tyN t)) := by
  intro t
  cases t <;> decide +kernel
theorem ty_in : ∀ t, tyS t ∈ bltNames := by
  intro t
  cases t <;> decide +kernel
theorem ty_odd : ∀ t, (tyS t == ("__debug__" : Str)) = false ∧ tyS t ≠ "__name__" := by
  intro t
  cases t <;> decide +kernel
theorem se_isi (g : GX c F n sc X) {t : TY} {f nm : Str} {p1 p2 : Pos} (hf : f = ("isinstance" : Str)) (hn : nm = tyS t) (h1 : glB sc f = true) (h2 : glB sc nm = true) (hs : isStar a = false) (hx : PE X a (tE X.K F true x)) :
    PE X (.Call (.Name f p1) [a, .Name nm p2] [] p) (tE X.K F b (.isi t x)) := by
  subst hf hn
  have hT : PE X (.Name (tyS t) p2) (tC (.ty (tyN t))) := pe_bltn (g.gl h2) (g.blt _ (ty_in t)) (boot_ty t) rfl (ty_odd t).2 (ty_odd t).1
  refine pe_imp (pe_callB call_isi (g.gl h1) (g.blt _ (by decide +kernel)) boot_isi (pa_cons hx (pa_cons hT pa_nil) (star_of hs _ _)) (by decide) (by decide) (star_of hs _ _) rfl) ?_
  rintro σ H Q ⟨S, e, d, hs, hf, q⟩
  have hf := fin_f hf
  split at hf
  · rename_i d' hd
    split at hf
    · rename_i nd
      cases hf
      refine tE_at hs (Ex.refl H) hd fun v1 H1 x1 r1 => ?_
      obtain ⟨T, e1, e2⟩ := tyx_of r1 nd
      exact ⟨v1, .ty (tyN t), .type T, .type (tyN t), _, rfl, .ty _, e2, kit_ty2 t _ T e1, q _ H1 x1 (.inl (.bl _))⟩
    · cases hf
  · cases hf

/-! ### methods -/
def meN : ME → String
  | .join => "str.join"
  | .index => "str.index"
  | .rstrip => "str.rstrip"
  | .count => "str.count"
  | .startswith => "str.startswith"
  | .endswith => "str.endswith"
  | .lindex => "list.index"
def meT : ME → String
  | .lindex => "list"
  | _ => "str"
def rM (K : PySem.W.Frag) (f : D → List D → Option D) : V → List V → Hp → VK → Prop := fun x vs H Q => ∃ S dx ds d, DV true K S H x dx ∧ DVs true K S H vs ds ∧ f dx ds = some d ∧ ∀ v H', Ex H H' → DR K (nw S H) H' v d → Q v H'
theorem mt_imp {id : String} {r r' : V → List V → Hp → VK → Prop} (h : MtR X id r) (g : ∀ x xs H Q, r' x xs H Q → r x xs H Q) : MtR X id r' := fun pins s σ H x xs v us Q I rx rs q => h pins s σ H x xs v us Q I rx rs (g x xs H Q q)
theorem join_tl (sep : List Nat) : ∀ xs : List (List Nat), TL.joinL sep xs = joinL sep xs
  | [] => rfl
  | [x] => rfl
  | x :: y :: r => by
    show x ++ (sep ++ TL.joinL sep (y :: r)) = x ++ (sep ++ joinL sep (y :: r))
    rw [join_tl sep (y :: r)]
theorem join_len (sep : List Nat) : ∀ xs : List (List Nat), (xs.map (·.length)).sum ≤ (joinL sep xs).length
  | [] => Nat.le_refl _
  | [x] => by simp [joinL]
  | x :: y :: r => by
    have := join_len sep (y :: r)
    simp only [joinL, List.map_cons, List.sum_cons, List.length_append] at this ⊢
    omega
theorem first_occ (s : List Nat) (ch i : Nat) (h : s.findIdx? (· == ch) = some i) : ∃ rest, Builtin.Str.occurrences (⟨s.toArray⟩ : Str) ⟨#[ch]⟩ 0 (Str.length ⟨s.toArray⟩) 1 = i :: rest := by
  have hat : ∀ j, PySem.StrLaws.At (⟨s.toArray⟩ : Str) ⟨#[ch]⟩ (Str.length ⟨s.toArray⟩) j ↔ s[j]? = some ch := by
    intro j
    unfold PySem.StrLaws.At
    rw [strLen]
    show j + 1 ≤ s.length ∧ _ ↔ _
    constructor
    · rintro ⟨h1, h2⟩
      have := (subAt_iff s [ch] j h1).mp h2
      simp only [List.length_singleton] at this
      have h3 := congrArg (fun l => l[0]?) this
      simpa using h3
    · intro e
      have hlt : j < s.length := (List.getElem?_eq_some_iff.mp e).1
      refine ⟨hlt, (subAt_iff s [ch] j hlt).mpr ?_⟩
      simp only [List.length_singleton]
      rw [List.drop_eq_getElem_cons hlt]
      have := (List.getElem?_eq_some_iff.mp e).2
      simp [this]
  rw [PySem.StrLaws.occ_eq]
  rcases PySem.StrLaws.occ_first (⟨s.toArray⟩ : Str) ⟨#[ch]⟩ (Str.length ⟨s.toArray⟩) 1 (Nat.le_refl 1) (List.range' 0 (Str.length ⟨s.toArray⟩ + 1 - 0)) 0 (fun _ _ => Nat.zero_le _) with ⟨_, hn⟩ | ⟨pre, a, post, e, h0, ha, hp⟩
  · exfalso
    rw [List.findIdx?_eq_some_iff_getElem] at h
    obtain ⟨hlt, h1, _⟩ := h
    refine hn i (by rw [List.mem_range']; exact ⟨i, by rw [strLen]; omega, by omega⟩) ((hat i).mpr ?_)
    rw [List.getElem?_eq_getElem hlt, eq_of_beq h1]
  · have ea : a = i := by
      rw [List.findIdx?_eq_some_iff_getElem] at h
      obtain ⟨hlt, h1, h2⟩ := h
      have hsi : s[i]? = some ch := by rw [List.getElem?_eq_getElem hlt, eq_of_beq h1]
      have hsa := (hat a).mp ha
      have hla : a < s.length := (List.getElem?_eq_some_iff.mp hsa).1
      rcases Nat.lt_trichotomy a i with hl | hl | hl
      · exact absurd (by rw [(List.getElem?_eq_some_iff.mp hsa).2]; exact beq_self_eq_true _) (h2 a hl)
      · exact hl
      · exact absurd ((hat i).mpr hsi) (hp i (PySem.StrLaws.range'_split e i hl))
    subst ea
    generalize (forIn (List.range' 0 (Str.length ⟨s.toArray⟩ + 1 - 0)) ((#[] : Array Nat), 0) (PySem.StrLaws.occBody ⟨s.toArray⟩ ⟨#[ch]⟩ (Str.length ⟨s.toArray⟩) 1)).run.fst = r at h0
    obtain ⟨l⟩ := r
    cases l with
    | nil => simp at h0
    | cons u t =>
      simp at h0
      subst h0
      exact ⟨t, rfl⟩
theorem rstrip_tl (s cs : List Nat) : Txt.rstripChars (⟨s.toArray⟩ : Str) ⟨cs.toArray⟩ = ⟨(rstripL cs s).toArray⟩ := by
  apply TL.ext_tl
  unfold Txt.rstripChars
  rw [PyProof.Rows.stripBy_eq, TL.tl_strSub]
  show ((TL.tl ⟨s.toArray⟩).drop 0).take _ = rstripL cs s
  rw [TL.tl_mk]
  unfold stripHi stripLo
  rw [if_pos rfl]
  simp only [Bool.false_eq_true, if_false, List.drop_zero, Nat.sub_zero]
  unfold rstripL
  rw [strLen]
  have hg : (fun ch => cs.toArray.contains ch) = fun ch => cs.contains ch := by funext ch; simp
  show s.take (s.length - (List.takeWhile (fun ch => cs.toArray.contains ch) s.reverse).length) = _
  rw [hg]
  generalize (fun ch => cs.contains ch) = g
  have h1 : s.reverse.dropWhile g = s.reverse.drop (s.reverse.takeWhile g).length := by
    generalize s.reverse = t
    induction t with
    | nil => rfl
    | cons a t ih =>
      rw [List.dropWhile_cons, List.takeWhile_cons]
      split
      · simpa using ih
      · rfl
  rw [h1, List.reverse_drop, List.reverse_reverse, List.length_reverse]
theorem toPs_eq : ∀ l : List D, toPs l = l.map toP
  | [] => rfl
  | d :: ds => by
    show toP d :: toPs ds = _
    rw [toPs_eq ds]; rfl
theorem me_ok (hu : X.A.units + 65 < cLine) (m : ME) : MtR X (meN m) (rM X.K (meD m)) := by
  cases m with
  | lindex =>
    refine mt_imp (mt_indexD hu) ?_
    rintro x xs H Q ⟨S, dx, ds, d, hx, hs, hf, q⟩
    unfold meD at hf
    split at hf <;> try (exact (ME.noConfusion (by assumption)))
    · rename_i l y _
      split at hf
      · rename_i hl
        cases hf2 : l.findIdx? (fun z => eqD z y) with
        | none => rw [hf2] at hf; cases hf
        | some i =>
          rw [hf2] at hf
          cases hf
          rw [Bool.and_eq_true] at hl
          obtain ⟨p, vs, rfl, hv, r⟩ := hx.lst
          obtain ⟨w, rfl, hw⟩ := hs.one
          obtain ⟨hi, hp, hno⟩ := List.findIdx?_eq_some_iff_getElem.mp hf2
          have fl : ∀ z ∈ l, flat 39 z = true := by
            have : ∀ (n : Nat) (l : List D), flats n l = true → ∀ x ∈ l, flat n x = true := fun n l => by
              induction l with
              | nil => intro _ x hx; simp at hx
              | cons a l ih =>
                intro h x hx
                unfold flats at h
                rw [Bool.and_eq_true] at h
                rcases List.mem_cons.mp hx with rfl | hx
                · exact h.1
                · exact ih h.2 x hx
            exact this 39 l hl.2
          refine ⟨p, w, toP y, toPs l, i, toP l[i], rfl, rfl, .lst (.of hv) (dpsE _ r 39 hl.2), dv_dp hw hl.1, shapedP (x := .lst l) hl.2, shapedP hl.1, ?_, ?_, fun m z hm hz => ?_, ans0 q (.int _)⟩
          · rw [toPs_eq, List.getElem?_map, List.getElem?_eq_getElem hi]; rfl
          · rw [eqP _ _ _ _ (fl _ (List.getElem_mem hi)) hl.1]; exact hp
          · rw [toPs_eq, List.getElem?_map] at hz
            have hml : m < l.length := Nat.lt_trans hm hi
            rw [List.getElem?_eq_getElem hml] at hz
            cases hz
            rw [eqP _ _ _ _ (fl _ (List.getElem_mem hml)) hl.1]
            simpa using hno m hm
      · cases hf
    · cases hf
  | join =>
    refine mt_imp mt_join ?_
    rintro x xs H Q ⟨S, dx, ds, d, hx, hs, hf, q⟩
    unfold meD at hf
    split at hf <;> try (exact (ME.noConfusion (by assumption)))
    · rename_i sep _ _
      split at hf
      · rename_i ts ht
        split at hf
        · rename_i hl
          cases hf
          simp only [Bool.and_eq_true] at hl
          obtain ⟨v, rfl, h⟩ := hs.one
          obtain ⟨p, vs, rfl, hv, r⟩ := h.lst
          have e := txts_of r ht
          subst e
          refine ⟨_, p, ts.map toStr, hx.str, rfl, .inl (.of hv), ?_, ?_⟩
          · have l1 := okLen_le hl.1
            have l2 : ts.length * sep.length ≤ 100000 := Nat.le_of_ble_eq_true hl.2
            have l3 := join_len sep ts
            have e1 : (ts.map toStr).map (·.length) = ts.map (·.length) := by
              rw [List.map_map]
              apply List.map_congr_left
              intro t _
              exact strLen t
            rw [e1, List.length_map, strLen]
            omega
          · have e2 : Txt.join ⟨sep.toArray⟩ (ts.map toStr) = ⟨(joinL sep ts).toArray⟩ := by
              rw [TL.join_eq]
              apply TL.ext_tl
              rw [TL.tl_join, TL.tl_mk, TL.tl_mk, List.map_map]
              have : (TL.tl ∘ toStr) = id := by funext t; rfl
              rw [this, List.map_id, join_tl]
            rw [e2]
            exact ans0 q (.str _)
        · cases hf
      · cases hf
    · rename_i sep _ _
      split at hf
      · rename_i ts ht
        split at hf
        · rename_i hl
          cases hf
          simp only [Bool.and_eq_true] at hl
          obtain ⟨v, rfl, h⟩ := hs.one
          obtain ⟨p, vs, rfl, hv, r⟩ := h.tup
          have e := txts_of r ht
          subst e
          refine ⟨_, p, ts.map toStr, hx.str, rfl, .inr (.of hv), ?_, ?_⟩
          · have l1 := okLen_le hl.1
            have l2 : ts.length * sep.length ≤ 100000 := Nat.le_of_ble_eq_true hl.2
            have l3 := join_len sep ts
            have e1 : (ts.map toStr).map (·.length) = ts.map (·.length) := by
              rw [List.map_map]
              apply List.map_congr_left
              intro t _
              exact strLen t
            rw [e1, List.length_map, strLen]
            omega
          · have e2 : Txt.join ⟨sep.toArray⟩ (ts.map toStr) = ⟨(joinL sep ts).toArray⟩ := by
              rw [TL.join_eq]
              apply TL.ext_tl
              rw [TL.tl_join, TL.tl_mk, TL.tl_mk, List.map_map]
              have : (TL.tl ∘ toStr) = id := by funext t; rfl
              rw [this, List.map_id, join_tl]
            rw [e2]
            exact ans0 q (.str _)
        · cases hf
      · cases hf
    · cases hf
  | index =>
    refine mt_imp mt_sindex ?_
    rintro x xs H Q ⟨S, dx, ds, d, hx, hs, hf, q⟩
    unfold meD at hf
    split at hf <;> try (exact (ME.noConfusion (by assumption)))
    · split at hf
      · rename_i s ch hl
        rw [Option.map_eq_some_iff] at hf
        obtain ⟨i, hi, rfl⟩ := hf
        obtain ⟨v, rfl, h⟩ := hs.one
        obtain ⟨rest, hr⟩ := first_occ _ _ i hi
        exact ⟨_, _, i, rest, hx.str, by rw [h.str], hr, ans0 q (.int _)⟩
      · cases hf
    · cases hf
  | rstrip =>
    refine mt_imp mt_rstripChars ?_
    rintro x xs H Q ⟨S, dx, ds, d, hx, hs, hf, q⟩
    unfold meD at hf
    split at hf <;> try (exact (ME.noConfusion (by assumption)))
    · split at hf
      · rename_i s cs hl
        cases hf
        simp only [Bool.and_eq_true] at hl
        obtain ⟨v, rfl, h⟩ := hs.one
        refine ⟨_, _, hx.str, by rw [h.str], ?_, ?_⟩
        · rw [strLen]; exact szOf (okLen_le hl.1)
        · rw [rstrip_tl]
          exact ans0 q (.str _)
      · cases hf
    · cases hf
  | count =>
    refine mt_imp mt_count ?_
    rintro x xs H Q ⟨S, dx, ds, d, hx, hs, hf, q⟩
    unfold meD at hf
    split at hf <;> try (exact (ME.noConfusion (by assumption)))
    · cases hf
      obtain ⟨v, rfl, h⟩ := hs.one
      exact ⟨_, _, hx.str, by rw [h.str], ans0 q (.int _)⟩
    · cases hf
  | startswith =>
    refine mt_imp mt_startswith ?_
    rintro x xs H Q ⟨S, dx, ds, d, hx, hs, hf, q⟩
    unfold meD at hf
    split at hf <;> try (exact (ME.noConfusion (by assumption)))
    · cases hf
      obtain ⟨v, rfl, h⟩ := hs.one
      exact ⟨_, _, hx.str, by rw [h.str], ans0 q (.bl _)⟩
    · cases hf
  | endswith =>
    refine mt_imp mt_endswith ?_
    rintro x xs H Q ⟨S, dx, ds, d, hx, hs, hf, q⟩
    unfold meD at hf
    split at hf <;> try (exact (ME.noConfusion (by assumption)))
    · cases hf
      obtain ⟨v, rfl, h⟩ := hs.one
      exact ⟨_, _, hx.str, by rw [h.str], ans0 q (.bl _)⟩
    · cases hf
theorem noCall {o : Expr} (h : isCall0 o = false) (nm : Str) (env : PySem.Env) : attributeBase o nm env (eval o env) = eval o env := by
  cases o <;> first | rfl | cases h
theorem allArgs (h : ∀ e ∈ es, isStar e = false) (env : PySem.Env) (pos : Pos) : (backTo pos (starEach es env)).all (fun x => !x.1) = true := by
  induction es with
  | nil => rfl
  | cons e es ih =>
    rw [star_of (h e (by simp)) es env]
    show (true && (backTo pos (starEach es env)).all (fun x => !x.1)) = true
    rw [ih fun e he => h e (by simp [he])]
    rfl
theorem few_of {e : Expr} {r : List Expr} (hst : ∀ e' ∈ e :: r, isStar e' = false) (hl : r.length < 20) (env : PySem.Env) (cp : Pos) :
    ((backTo cp (starEach (e :: r) env)).all (fun x => !x.1) && (backToKw cp (keywordEach [] env)).all (fun x => x.1.isSome)
      && decide ((e :: r).length + ([] : List Keyword).length + (if ([] : List Keyword).isEmpty then 0 else 1) < 30)) = true := by
  rw [allArgs hst env cp]
  have : decide ((e :: r).length + ([] : List Keyword).length + (if ([] : List Keyword).isEmpty then 0 else 1) < 30) = true := by
    apply decide_eq_true
    simp only [List.length_cons, List.length_nil, List.isEmpty_nil, if_true]
    omega
  rw [this]
  rfl
theorem se_me (g : GX c F n sc X) {m : ME} {nm : Str} {ap cp : Pos} {e : Expr} {r : List Expr} (hn : nm = meS m) (hl : (ap.endLine == cp.line) = true) (hc : isCall0 a = false) (hr : r.length < 20) (hx : PE X a (tE X.K F true x))
    (hy : PA X (e :: r) (tAs X.K F true y)) (hst : ∀ e' ∈ e :: r, isStar e' = false) : PE X (.Call (.Attribute a nm ap) (e :: r) [] cp) (tE X.K F b (.me m x y)) := by
  have body : ∀ σ H Q, tE X.K F b (.me m x y) σ H Q → tBM X.K (meT m) (rM X.K (meD m)) (tE X.K F true x) (tAs X.K F true y) σ H Q := by
    rintro σ H Q ⟨S, e, d, hs, hf, q⟩
    have hf := fin_f hf
    split at hf
    · rename_i dx ds hdx hds
      refine tE_at hs (Ex.refl H) hdx fun v H1 x1 r1 => ?_
      refine ⟨?_, ?_⟩
      · by_cases hm : m = .lindex
        · subst hm
          have hl : ∃ w, dx = .lst w := by
            unfold meD at hf
            split at hf <;> first | exact ⟨_, rfl⟩ | exact ME.noConfusion (by assumption) | (cases hf; done)
          obtain ⟨w, rfl⟩ := hl
          obtain ⟨p, vs, rfl, hv, r⟩ := r1.lst
          exact .inl ⟨rfl, vs, .of hv⟩
        · have hstr : ∃ w, dx = .str w := by
            unfold meD at hf
            split at hf <;> first | exact ⟨_, rfl⟩ | (cases hf; done) | exact absurd rfl hm
          obtain ⟨w, rfl⟩ := hstr
          rw [r1.str]
          cases m <;> first | rfl | exact absurd rfl hm
      refine tA_at hs x1 hds fun vs H2 x2 r2 => ?_
      exact ⟨nw S H, _, ds, d, r1.mono x2 (fun _ z => z), r2, hf, fun v H3 x3 r3 => q v H3 ((x1.trans x2).trans x3) (.inl (r3.mono ((Ex.refl _).le (nw.nw (x1.trans x2)))))⟩
    · cases hf
  obtain ⟨h1, h2⟩ := plainArgs (X := X) (p := cp) hst rfl
  subst hn
  refine pe_imp ?_ body
  cases m with
  | join => exact pe_bm PySem.F.plainAttrs_str PySem.F.slot_str_join PySem.F.type_str_join (me_ok g.hu .join) hx hy (noCall hc _ _) (few_of hst hr _ _) hl h1 h2
  | index => exact pe_bm PySem.F.plainAttrs_str PySem.F.slot_str_index PySem.F.type_str_index (me_ok g.hu .index) hx hy (noCall hc _ _) (few_of hst hr _ _) hl h1 h2
  | rstrip => exact pe_bm PySem.F.plainAttrs_str PySem.F.slot_str_rstrip PySem.F.type_str_rstrip (me_ok g.hu .rstrip) hx hy (noCall hc _ _) (few_of hst hr _ _) hl h1 h2
  | count => exact pe_bm PySem.F.plainAttrs_str PySem.F.slot_str_count PySem.F.type_str_count (me_ok g.hu .count) hx hy (noCall hc _ _) (few_of hst hr _ _) hl h1 h2
  | lindex => exact pe_bm PySem.F.plainAttrs_list PySem.F.slot_list_index PySem.F.type_list_index (me_ok g.hu .lindex) hx hy (noCall hc _ _) (few_of hst hr _ _) hl h1 h2
  | startswith => exact pe_bm PySem.F.plainAttrs_str PySem.F.slot_str_startswith PySem.F.type_str_startswith (me_ok g.hu .startswith) hx hy (noCall hc _ _) (few_of hst hr _ _) hl h1 h2
  | endswith => exact pe_bm PySem.F.plainAttrs_str PySem.F.slot_str_endswith PySem.F.type_str_endswith (me_ok g.hu .endswith) hx hy (noCall hc _ _) (few_of hst hr _ _) hl h1 h2
end
end Tl

/-! G02: enumerate of a list, of a tuple. -/
namespace EnT
open PySem PySem.Spec PyProof.Rows L2
theorem meets_enum {v : Value} {o : Obj} {H : Heap → Prop} (B : Begins v o H) :
    Meets (Builtin.«enumerate.__new__» ⟨[.type "enumerate", v], []⟩) (fun _ R s => H s.heap ∧
      R (.ok (.ret (.ref (s.heap.push o).objs.size))) { s with heap := (s.heap.push o).push { cls := .type "enumerate", data := .fields #[.none, .bool false, .ref s.heap.objs.size, rawInt 0, .none, .none] } }) :=
  .of_wp fun prog w A R s h => by
    obtain ⟨hp, g, d, tk, os⟩ := s; obtain ⟨h1, h⟩ := h
    have hsub := sub_enumerate
    have q1 : ∀ {A' : Around} {E : Value → Shared → Prop} {Q : Value → Shared → Prop}, Q (.ref hp.objs.size) ⟨hp.push o, g, d, tk, os⟩ → wpAny (model prog w) A' (pyIter v) Q E ⟨hp, g, d, tk, os⟩ :=
      fun q => B.iter prog w _ _ ⟨hp, g, d, tk, os⟩ _ h1 q
    wp_walk using q1
    refine wpAny_stack_any fun st => wpAny_pure ?_
    split
    · rename_i c _ _ _ _ _
      cases (c == Value.type "enumerate")
      · wp_walk using q1
        exact ⟨_, rfl, h⟩
      · wp_walk using q1
        exact ⟨_, rfl, h⟩
    · wp_walk using q1
      exact ⟨_, rfl, h⟩
theorem enum_new {prog : Program} {w : World} {A : Around} {E : Value → Shared → Prop} {s : Shared} {v : Value} {o : Obj} {H : Heap → Prop} {Q : Value → Shared → Prop} (B : Begins v o H) (h1 : H s.heap)
    (h : ∀ h', IsEnum h' (s.heap.objs.size + 1) s.heap.objs.size 0 .none → h'.get? s.heap.objs.size = some o → h'.objs.size = s.heap.objs.size + 2 →
      (∀ b o, s.heap.get? b = some o → h'.get? b = some o) → Q (.ref (s.heap.objs.size + 1)) { s with heap := h' }) :
    wpAny (model prog w) A (call (.type "enumerate") [v]) Q E s := by
  refine callType_new F.called_enumerate (by decide) (F.typeCall_enumerate_1 _) (F.newCall_enumerate_1 _) (fun obj => F.args_object_init_2 obj _) F.entry_enumerate_new
    (meets_enum B) ⟨h1, ?_⟩
  have hz : (s.heap.push o).objs.size = s.heap.objs.size + 1 := Heap.size_push ..
  show _ ∧ _
  rw [hz]
  have he : IsEnum ((s.heap.push o).push { cls := .type "enumerate", data := .fields #[.none, .bool false, .ref s.heap.objs.size, rawInt 0, .none, .none] }) (s.heap.objs.size + 1) s.heap.objs.size 0 .none := by
    have := Heap.get?_push_size (s.heap.push o) (o := { cls := .type "enumerate", data := .fields #[.none, .bool false, .ref s.heap.objs.size, rawInt 0, .none, .none] }) rfl
    rw [hz] at this; exact this
  refine ⟨⟨_, he, rfl⟩, h _ he (Heap.get?_push_of_some _ (Heap.get?_push_size _ B.free)) (by rw [Heap.size_push, hz]) fun b o x => Heap.get?_push_of_some _ (Heap.get?_push_of_some _ x)⟩
/-- the tuple at a, each item in a new pair -/
def ItT (K : PySem.W.Frag) (a : Addr) : It :=
  ⟨fun i H => ∃ (xs : List V) (x : V), SqT K H a xs ∧ xs[i]? = some x, fun i H v H' => ∃ T x, v = .ref T ∧ H T = none ∧ H' = upd H T (.tup [.int (i : Nat), x]) ∧ ∀ xs, SqT K H a xs → xs[i]? = some x, fun i H => ∃ xs : List V, SqT K H a xs ∧ xs.length = i⟩
theorem turn_enumT {P : Program} {w : World} {K : PySem.W.Frag} {elts : List Expr} {kk : Nat} {tpos : Pos} (a e it : Addr) :
    Turn P w K (.Tuple elts kk tpos) (ItT K a) [e, it] e (fun i h => (∃ old, IsEnum h e it ((i : Nat) : Int) old) ∧ h.IsTupleIter it a i ∧ e ≠ it ∧ a ≠ it ∧ a ≠ e) where
  mem := by simp
  obj := fun i h st b hb => by
    obtain ⟨⟨old, he⟩, ⟨o, ho, hc, hd⟩, _⟩ := st
    have e' : b = e ∨ b = it := by simpa using hb
    rcases e' with z | z
    · rw [z]; exact ⟨_, he, fun v q => nomatch q⟩
    · rw [z]; exact ⟨o, ho, fun v q => by rw [hd] at q; cases q⟩
  keep := fun i h h' st k => let ⟨⟨old, he⟩, hi, hne⟩ := st; ⟨⟨old, k e (by simp) _ he⟩, hi.at fun o q => k it (by simp) o q, hne⟩
  item := by
    intro X hP hw hK hc i pins s σ H E I hf st hg
    subst hP hw hK
    obtain ⟨⟨old, he⟩, hit, hne, hai, hae⟩ := st
    obtain ⟨xs, x, hq, hx⟩ := hg
    obtain ⟨its, rv, p, _⟩ := I.tuple hq
    obtain ⟨u, hu, ru⟩ := rv.get hx
    have hel : e < s.heap.objs.size := Heap.lt_size he
    have hil : it < s.heap.objs.size := by obtain ⟨_, q, _⟩ := hit; exact Heap.lt_size q
    have hlt : i < its.toArray.size := by
      have := (List.getElem?_eq_some_iff.mp hu).1
      simpa using this
    have p' : s.heap.IsTuple a its.toArray := p
    have Dt : Draws X.prog X.w X.A.in1 it [it, a] its.toArray.size (fun i v => its.toArray[i]? = some v) (fun i h => h.IsTupleIter it a i ∧ h.IsTuple a its.toArray) := Draws.tuple (A := X.A.in1) (I.ok.hd hc) it a hai its.toArray
    refine wpAny_pyNext_enum_itemD Dt he (St := fun i h => h.IsTupleIter it a i ∧ h.IsTuple a its.toArray) ⟨hit, p'⟩ hlt hne (by simp; exact ⟨hne, fun z => hae z.symm⟩) fun x1 h' tk hP ho hs' hT hsz hk => ?_
    have ex : x1 = u := by
      have e1 : its[i]? = some x1 := by simpa using hP
      rw [hu] at e1
      exact (Option.some.inj e1).symm
    subst ex
    refine ⟨_, rfl, wpAny_letOwnedTupleGo_enum (s := { s with heap := h', toks := tk + 1 }) ho fun h'' he' sb => ?_⟩
    have hT2 : h''.get? s.heap.objs.size = some { cls := .type "tuple", data := .seq #[.int i tk, x1] } := (sb.2 _ (Nat.ne_of_gt hel)).trans hT
    have new : ObjOk X.prog X.w (upd H s.heap.objs.size (.tup [.int (i : Nat), x])) h'' s.heap.objs.size (.tup [.int (i : Nat), x]) :=
      ⟨by show 2 ≤ sizeLine; decide, [.int i tk, x1], .cons ⟨_, rfl⟩ (.cons ru .nil), ⟨_, hT2, rfl, _, rfl⟩⟩
    have I1 : Inv X pins σ (upd H s.heap.objs.size (.tup [.int (i : Nat), x])) { s with heap := h'', toks := tk + 1 } :=
      I.turnedNew (ch := [e, it]) (fun b ob hb q => (sb.2 b (fun z => hb (by simp [z]))).trans (hk b ob (fun z => hb (by simp [z])) (fun z => hb (by simp [z])) q)) hf (Nat.le_refl _) new
    refine ⟨.ref s.heap.objs.size, _, I1, rfl, ⟨_, x, rfl, I.hok.fresh (Nat.le_refl _), rfl, fun ys hy => by rw [I.tuple_inj hy hq]; exact hx⟩, ⟨⟨x1, ?_⟩, hs'.1.at fun o q => (sb.2 it (Ne.symm hne)).trans q, hne, hai, hae⟩, fun b hb => ?_⟩
    · have e1 : ((i + 1 : Nat) : Int) = (i : Int) + 1 := by omega
      rw [e1]; exact he'
    · have hb' : b < s.heap.objs.size := by
        have e' : b = e ∨ b = it := by simpa using hb
        rcases e' with z | z
        · rw [z]; exact hel
        · rw [z]; exact hil
      rw [upd_ne (Nat.ne_of_lt hb')]
      exact (hf b hb).1
  done := by
    intro X hP hw hK hc i pins s σ H E I hf st hg
    subst hP hw hK
    obtain ⟨⟨old, he⟩, hit, hne, hai, hae⟩ := st
    obtain ⟨xs, hq, hx⟩ := hg
    obtain ⟨its, rv, p, _⟩ := I.tuple hq
    obtain ⟨f0, f1, f2, f3, f4, f5⟩ := hf it (by simp)
    have hl := rv.length
    have p' : s.heap.IsTuple a its.toArray := p
    have Dt : Draws X.prog X.w X.A.in1 it [it, a] its.toArray.size (fun i v => its.toArray[i]? = some v) (fun i h => h.IsTupleIter it a i ∧ h.IsTuple a its.toArray) := Draws.tuple (A := X.A.in1) (I.ok.hd hc) it a hai its.toArray
    have hi : i = its.toArray.size := by simp; omega
    rw [hi] at hit
    exact wpAny_pyNext_enum_endD Dt he ⟨hit, p'⟩ fun h' eb => ⟨rfl, I.turned (t' := s.toks) (fun b o hb q => eb b o hb q) f0 f1 f3 f4 f5⟩
  self := fun A i s Q E st h => let ⟨⟨_, he⟩, _⟩ := st; wpAny_pyIter_enum he h
def iEnumA (K : PySem.W.Frag) (ta : TA) : TI := fun σ H R => ta σ H fun vs H1 => ∃ a xs, vs = [.ref a] ∧ ((SqL K H1 a xs ∧ R (Ite K a) H1) ∨ (SqT K H1 a xs ∧ R (ItT K a) H1))
theorem pi_enumA {X : Cx} {e : Expr} {ta : TA} {p pos tpos : Pos} {elts : List Expr} {kk : Nat} (hg : Gl X "enumerate") (hm : X.mg "enumerate" = none) (ha : PA X [e] ta) (hs : starEach [e] X.env = [(false, eval e X.env)] := by rfl) :
    PI X (.Tuple elts kk tpos) (.Call (.Name "enumerate" p) [e] [] pos) (iEnumA X.K ta) := by
  refine ⟨fun pins s σ H R I h => ?_⟩
  refine Call_ (ld_blt I hg hm boot_enumerate (PyProof.Rows.callWith_type1 (thn (ha.run pos pins s σ H _ I h) fun us s1 ⟨vs, H1, I1, r1, q1⟩ => ?_) hs rfl))
  obtain ⟨a, xs, ex, hq⟩ := q1
  subst ex
  cases r1 with
  | cons r rr =>
    cases rr
    cases r
    have fresh2 : ∀ b, b ∈ [s1.heap.objs.size + 1, s1.heap.objs.size] → FpOk X pins H1 b := fun b hb => by
      have e' : b = s1.heap.objs.size + 1 ∨ b = s1.heap.objs.size := by simpa using hb
      have hle : s1.heap.objs.size ≤ b := by
        rcases e' with z | z
        · rw [z]; exact Nat.le_add_right _ _
        · rw [z]; exact Nat.le_refl _
      exact I1.fpOk hle (I1.hok.fresh hle)
    rcases hq with ⟨hq, q⟩ | ⟨hq, q⟩
    · obtain ⟨its, rv, p', hz⟩ := I1.list hq
      refine call_enumerate_list p'.isList fun h' he hit hsz hk => wpAny_pyIter_enum he ?_
      have I2 : Inv X pins σ H1 { s1 with heap := h' } := I1.kept (t' := s1.toks) hk
      exact ⟨s1.heap.objs.size + 1, [s1.heap.objs.size + 1, s1.heap.objs.size], _, _, H1, rfl, I2, turn_enum a (s1.heap.objs.size + 1) s1.heap.objs.size, ⟨⟨.none, he⟩, hit, Nat.succ_ne_self _⟩, fresh2, q⟩
    · obtain ⟨its, rv, p1, _⟩ := I1.tuple hq
      have p' : s1.heap.IsTuple a its.toArray := p1
      obtain ⟨o1, ho1, _⟩ := id p'
      have hal : a < s1.heap.objs.size := Heap.lt_size ho1
      refine enum_new (begins_tuple a its.toArray) p' fun h' he hit hsz hk => wpAny_pyIter_enum he ?_
      have I2 : Inv X pins σ H1 { s1 with heap := h' } := I1.kept (t' := s1.toks) hk
      exact ⟨s1.heap.objs.size + 1, [s1.heap.objs.size + 1, s1.heap.objs.size], _, _, H1, rfl, I2, turn_enumT a (s1.heap.objs.size + 1) s1.heap.objs.size, ⟨⟨.none, he⟩, ⟨_, hit, rfl, rfl⟩, Nat.succ_ne_self _, Nat.ne_of_lt hal, Nat.ne_of_lt (Nat.lt_succ_of_lt hal)⟩, fresh2, q⟩
end EnT

/-! T09: what a loop goes through, targets, comprehensions. -/
namespace Tl
open PySem L2
variable [Tabs]
/-- from H1 to H what a loop's source needs stands -/
structure Okh (A : Ad) (b : Bool) (H1 H : Hp) : Prop where
  le : Le A H1 A H
  ex : b = true → Ex H1 H
theorem Le.tr {A : Ad} {H1 H : Hp} (h : Le A H1 A H) : Le (trS A H1) H1 (trS A H1) H := ⟨fun _ z => z, h.tups, fun a xs z => h.lsts a xs z.1, fun a xs z => h.ros a xs z.1, fun a o u z => h.fzs a o u z.1⟩
structure Srv (K : PySem.W.Frag) (A : Ad) (b : Bool) (H1 : Hp) (J : It) (ds : List D) : Prop where
  go : ∀ i H, Okh A b H1 H → i < ds.length → J.go i H
  yld : ∀ i H v H' d, Okh A b H1 H → ds[i]? = some d → J.yld i H v H' → Ex H H' ∧ DR K (trS A H1) H' v d
  stop : ∀ H, Okh A b H1 H → J.stop ds.length H
section
variable {K : PySem.W.Frag} {A : Ad} {b : Bool} {H1 : Hp}
theorem seq_inj {H : Hp} {a : Addr} {xs ys : List V} (h : H a = some (.lst xs)) (g : SqL K H a ys) (hk : ∀ o, K.lookup a = some o → False) : xs = ys := by
  rcases g with (g | ⟨o, g⟩) | ⟨o, _, _, g, _⟩
  · rw [h] at g; cases g; rfl
  · rw [h] at g; cases g
  · exact (hk o g).elim
theorem srv_list {a : Addr} {vs : List V} {ds : List D} (h : H1 a = some (.lst vs)) (hA : A a ∨ b = true) (r : DRs K A H1 vs ds) : Srv K A b H1 (Itl K a) ds := by
  have at_ : ∀ H, Okh A b H1 H → H a = some (.lst vs) := fun H o => by
    rcases hA with z | z
    · exact o.le.lsts a vs z h
    · exact o.ex z a _ h
  refine ⟨fun i H o hi => ?_, fun i H v H' d o hd y => ?_, fun H o => ?_⟩
  · have hv : i < vs.length := by rw [r.length]; exact hi
    exact ⟨vs, vs[i], .of (at_ H o), by simp [hv]⟩
  · obtain ⟨rfl, y⟩ := y
    have hx := y vs (.of (at_ _ o))
    obtain ⟨d', e, q⟩ := r.get' hx
    rw [hd] at e
    cases e
    exact ⟨Ex.refl _, q.tr.mono o.le.tr⟩
  · exact ⟨vs, .of (at_ H o), by rw [r.length]; exact Nat.le_refl _⟩
theorem srv_tup {a : Addr} {vs : List V} {ds : List D} (h : H1 a = some (.tup vs)) (r : DRs K A H1 vs ds) : Srv K A b H1 (Itt K a) ds := by
  refine ⟨fun i H o hi => ?_, fun i H v H' d o hd y => ?_, fun H o => ?_⟩
  · have hv : i < vs.length := by rw [r.length]; exact hi
    exact ⟨vs, vs[i], (.of (o.le.tups _ _ h)), by simp [hv]⟩
  · obtain ⟨rfl, y⟩ := y
    have hx := y vs ((.of (o.le.tups _ _ h)))
    obtain ⟨d', e, q⟩ := r.get' hx
    rw [hd] at e
    cases e
    exact ⟨Ex.refl _, q.tr.mono o.le.tr⟩
  · exact ⟨vs, (.of (o.le.tups _ _ h)), by rw [r.length]; exact Nat.le_refl _⟩
theorem srv_str (s : List Nat) : Srv K A b H1 (Its ⟨s.toArray⟩) (s.map fun c => .str [c]) := by
  refine ⟨fun i H o hi => ?_, fun i H v H' d o hd y => ?_, fun H o => ?_⟩
  · show i < s.toArray.size
    simpa using hi
  · obtain ⟨rfl, c, hc, rfl⟩ := y
    refine ⟨Ex.refl _, ?_⟩
    rw [List.getElem?_map, Option.map_eq_some_iff] at hd
    obtain ⟨c', e, rfl⟩ := hd
    have : s[i]? = some c := by simpa using hc
    rw [this] at e
    cases e
    exact .str [c]
  · show s.toArray.size ≤ _
    simp
omit [Tabs] in
theorem upto_len : ∀ (n : Nat) (a : Int), (upto n a).length = n
  | 0, _ => rfl
  | n + 1, a => congrArg (· + 1) (upto_len n (a + 1))
omit [Tabs] in
theorem upto_get : ∀ (n : Nat) (a : Int) (i : Nat) (d : D), (upto n a)[i]? = some d → d = .int (a + i)
  | 0, _, _, _, h => by simp [upto] at h
  | n + 1, a, 0, d, h => by simp [upto] at h; subst h; simp
  | n + 1, a, i + 1, d, h => by
    have := upto_get n (a + 1) i d (by simpa [upto] using h)
    subst this
    congr 1
    push_cast
    omega
theorem srv_rng (lo : Int) (n : Nat) : Srv K A b H1 (Itr lo n) (upto n lo) := by
  refine ⟨fun i H o hi => ?_, fun i H v H' d o hd y => ?_, fun H o => ?_⟩
  · rw [upto_len] at hi
    exact hi
  · obtain ⟨rfl, rfl⟩ := y
    rw [upto_get _ _ _ _ hd]
    exact ⟨Ex.refl _, .int _⟩
  · rw [upto_len]
    exact Nat.le_refl n
end
def tI (K : PySem.W.Frag) (F : Fn) (b : Bool) (x : IE) : TI := fun σ H R => ∃ S e d ds, SR K S H σ e ∧ ev F x false e = some d ∧ walkD d = some ds ∧ ∀ J H1, Ex H H1 → Srv K (nw S H) b H1 J ds → R J H1
section
variable {c : CC} {F : Fn} {n : Nat} {sc : Scope} {X : Cx} {a a2 a3 tg : Expr} {x y z : IE} {p : Pos} {b : Bool} {es : List Expr}
theorem si_val (hx : PE X a (tE X.K F b x)) : PI X tg a (tI X.K F b x) := by
  refine ⟨fun pins s σ H R I h => ?_⟩
  obtain ⟨S, e, d, ds, hs, hf, hw, q⟩ := h
  unfold walkD at hw
  split at hw
  · cases hw
    refine (pi_list hx).run pins s σ H R I (tE_at hs (Ex.refl H) hf fun v H1 x1 r1 => ?_)
    rcases r1 with r1 | ⟨hb, a', rfl, vs, h1, h2⟩
    · cases r1 with
      | lst hS h1 h2 => exact ⟨_, rfl, ⟨_, .of h1⟩, q _ H1 x1 (srv_list h1 (.inl hS) h2)⟩
    · exact ⟨a', rfl, ⟨vs, .of h1⟩, q _ H1 x1 (srv_list h1 (.inr hb) h2)⟩
  · cases hw
    refine (pi_tup hx).run pins s σ H R I (tE_at hs (Ex.refl H) hf fun v H1 x1 r1 => ?_)
    obtain ⟨p, vs, rfl, h1, h2⟩ := r1.tup
    exact ⟨p, rfl, ⟨vs, .of h1⟩, q _ H1 x1 (srv_tup h1 h2)⟩
  · split at hw
    · cases hw
      refine (pi_str hx).run pins s σ H R I (tE_at hs (Ex.refl H) hf fun v H1 x1 r1 => ?_)
      exact ⟨_, r1.str, q _ H1 x1 (srv_str _)⟩
    · cases hw
  · cases hw
omit [Tabs] in
theorem small62 {i : Int} (h : small b62 i = true) : -(2 ^ 62) ≤ i ∧ i < 2 ^ 62 := by
  have := small_lt h
  have e : ((b62 : Nat) : Int) = 2 ^ 62 := by decide
  rw [e] at this
  omega
theorem si_rng (g : GX c F n sc X) {nm : Str} {p1 : Pos} (hn : nm = ("range" : Str)) (hgl : glB sc nm = true) (hl : es.length = 1 ∨ es.length = 2) (hx : PA X es (tAs X.K F false x)) (hst : ∀ e ∈ es, isStar e = false)
    (hln : ∀ e ds, ev F x false e = some (.tup ds) → ds.length = es.length) : PI X tg (.Call (.Name nm p1) es [] p) (tI X.K F b (.rng x)) := by
  subst hn
  have hm := g.blt ("range" : Str) (by decide +kernel)
  refine ⟨fun pins s σ H R I h => ?_⟩
  obtain ⟨S, e, d, ds, hs, hf, hw, q⟩ := h
  unfold ev at hf
  split at hf
  · rename_i as ha
    have hl2 := hln e as ha
    unfold rngD at hf
    split at hf
    · rename_i m
      split at hf
      · rename_i hm1
        cases hf
        cases hw
        cases es with
        | nil => cases hl2
        | cons e1 r => cases r with
          | cons _ _ => cases hl2
          | nil =>
            have h1 := star_of (hst e1 (by simp)) [] X.env
            refine (pi_range1 (g.gl hgl) hm hx h1).run pins s σ H R I (tA_at hs (Ex.refl H) ha fun vs H1 x1 r1 => ?_)
            obtain ⟨v, rfl, hv⟩ := r1.one
            have := small62 hm1
            exact ⟨m, by rw [hv.int], this.1, this.2, q _ H1 x1 (srv_rng 0 _)⟩
      · cases hf
    · rename_i m k
      split at hf
      · rename_i hm1
        cases hf
        cases hw
        rw [Bool.and_eq_true] at hm1
        cases es with
        | nil => cases hl2
        | cons e1 r => cases r with
          | nil => cases hl2
          | cons e2 r => cases r with
            | cons _ _ => cases hl2
            | nil =>
              have h2 := star_of (hst e2 (by simp)) [] X.env
              have h1 := star_of (hst e1 (by simp)) [e2] X.env
              refine (pi_range2 (g.gl hgl) hm hx (by rw [h1, h2]; rfl) h2).run pins s σ H R I (tA_at hs (Ex.refl H) ha fun vs H1 x1 r1 => ?_)
              obtain ⟨v, u, rfl, hv, hu⟩ := r1.two
              have t1 := small62 hm1.1
              have t2 := small62 hm1.2
              exact ⟨m, k, by rw [hv.int, hu.int], ⟨t1.1, t1.2, t2.1, t2.2⟩, q _ H1 x1 (srv_rng m _)⟩
      · cases hf
    · cases hf
  · cases hf
end

section
variable {K : PySem.W.Frag} {A : Ad} {b : Bool} {H1 : Hp}
omit [Tabs] in
theorem enum_len : ∀ (l : List D) (i : Nat), (enumL i l).length = l.length
  | [], _ => rfl
  | _ :: r, i => congrArg (· + 1) (enum_len r (i + 1))
omit [Tabs] in
theorem enum_get : ∀ (l : List D) (k i : Nat) (d : D), (enumL k l)[i]? = some d → ∃ x, l[i]? = some x ∧ d = .tup [.int ((k + i : Nat) : Int), x]
  | [], _, _, _, h => by simp [enumL] at h
  | x :: r, k, 0, d, h => by simp [enumL] at h; subst h; exact ⟨x, rfl, by simp⟩
  | x :: r, k, i + 1, d, h => by
    obtain ⟨y, h1, h2⟩ := enum_get r (k + 1) i d (by simpa [enumL] using h)
    exact ⟨y, by simpa using h1, by rw [h2]; congr 3; congr 1; omega⟩
theorem srv_enum {a : Addr} {vs : List V} {ds : List D} (h : H1 a = some (.lst vs)) (hA : A a ∨ b = true) (r : DRs K A H1 vs ds) : Srv K A b H1 (Ite K a) (enumL 0 ds) := by
  have at_ : ∀ H, Okh A b H1 H → H a = some (.lst vs) := fun H o => by
    rcases hA with z | z
    · exact o.le.lsts a vs z h
    · exact o.ex z a _ h
  refine ⟨fun i H o hi => ?_, fun i H v H' d o hd y => ?_, fun H o => ?_⟩
  · rw [enum_len] at hi
    have hv : i < vs.length := by rw [r.length]; exact hi
    exact ⟨vs, vs[i], .of (at_ H o), by simp [hv]⟩
  · obtain ⟨T, x, rfl, hT, rfl, y⟩ := y
    have hx := y vs (.of (at_ _ o))
    obtain ⟨d', e, q⟩ := r.get' hx
    obtain ⟨z, hz, rfl⟩ := enum_get _ _ _ _ hd
    rw [hz] at e
    cases e
    rw [Nat.zero_add]
    exact ⟨Ex.new hT, .tup upd_same (.cons (.int _) (.cons ((q.tr.mono o.le.tr).mono ((Ex.new hT).le fun _ z => z)) .nil))⟩
  · exact ⟨vs, .of (at_ H o), by rw [r.length, enum_len]; exact Nat.le_refl _⟩
omit [Tabs] in
theorem zip_get : ∀ (l m : List D) (i : Nat) (d : D), (zipL l m)[i]? = some d → ∃ x y, l[i]? = some x ∧ m[i]? = some y ∧ d = .tup [x, y]
  | [], _, _, _, h => by simp [zipL] at h
  | _ :: _, [], _, _, h => by simp [zipL] at h
  | x :: r, y :: q, 0, d, h => by simp [zipL] at h; subst h; exact ⟨x, y, rfl, rfl, rfl⟩
  | x :: r, y :: q, i + 1, d, h => by
    obtain ⟨u, v, h1, h2, h3⟩ := zip_get r q i d (by simpa [zipL] using h)
    exact ⟨u, v, by simpa using h1, by simpa using h2, h3⟩
omit [Tabs] in
theorem zip_len : ∀ (l m : List D), (zipL l m).length = min l.length m.length
  | [], m => by simp [zipL]
  | _ :: _, [] => by simp [zipL]
  | _ :: r, _ :: q => by
    simp only [zipL, List.length_cons, zip_len r q]
    omega
theorem srv_zip {a a2 : Addr} {vs ws : List V} {ds es : List D} (h : H1 a = some (.lst vs)) (h2 : H1 a2 = some (.lst ws)) (hA : A a ∨ b = true) (hA2 : A a2 ∨ b = true) (r : DRs K A H1 vs ds) (r2 : DRs K A H1 ws es) : Srv K A b H1 (Itz K a a2) (zipL ds es) := by
  have at_ : ∀ H, Okh A b H1 H → H a = some (.lst vs) := fun H o => by
    rcases hA with z | z
    · exact o.le.lsts a vs z h
    · exact o.ex z a _ h
  have at2 : ∀ H, Okh A b H1 H → H a2 = some (.lst ws) := fun H o => by
    rcases hA2 with z | z
    · exact o.le.lsts a2 ws z h2
    · exact o.ex z a2 _ h2
  refine ⟨fun i H o hi => ?_, fun i H v H' d o hd y => ?_, fun H o => ?_⟩
  · rw [zip_len] at hi
    have hv : i < vs.length := by rw [r.length]; omega
    have hw : i < ws.length := by rw [r2.length]; omega
    exact ⟨vs, ws, vs[i], ws[i], .of (at_ H o), .of (at2 H o), by simp [hv], by simp [hw]⟩
  · obtain ⟨T, x, y', rfl, hT, rfl, q1, q2⟩ := y
    obtain ⟨d1, e1, p1⟩ := r.get' (q1 vs (.of (at_ _ o)))
    obtain ⟨d2, e2, p2⟩ := r2.get' (q2 ws (.of (at2 _ o)))
    obtain ⟨u, w, hu, hw, rfl⟩ := zip_get _ _ _ _ hd
    rw [hu] at e1
    rw [hw] at e2
    cases e1
    cases e2
    exact ⟨Ex.new hT, .tup upd_same (.cons ((p1.tr.mono o.le.tr).mono ((Ex.new hT).le fun _ z => z)) (.cons ((p2.tr.mono o.le.tr).mono ((Ex.new hT).le fun _ z => z)) .nil))⟩
  · refine ⟨vs, ws, .of (at_ H o), .of (at2 H o), ?_⟩
    rw [r.length, r2.length, zip_len]
    omega
theorem srv_enumT {a : Addr} {vs : List V} {ds : List D} (h : H1 a = some (.tup vs)) (r : DRs K A H1 vs ds) : Srv K A b H1 (EnT.ItT K a) (enumL 0 ds) := by
  refine ⟨fun i H o hi => ?_, fun i H v H' d o hd y => ?_, fun H o => ?_⟩
  · rw [enum_len] at hi
    have hv : i < vs.length := by rw [r.length]; exact hi
    exact ⟨vs, vs[i], (.of (o.le.tups _ _ h)), by simp [hv]⟩
  · obtain ⟨T, x, rfl, hT, rfl, y⟩ := y
    have hx := y vs ((.of (o.le.tups _ _ h)))
    obtain ⟨d', e, q⟩ := r.get' hx
    obtain ⟨z, hz, rfl⟩ := enum_get _ _ _ _ hd
    rw [hz] at e
    cases e
    rw [Nat.zero_add]
    exact ⟨Ex.new hT, .tup upd_same (.cons (.int _) (.cons ((q.tr.mono o.le.tr).mono ((Ex.new hT).le fun _ z => z)) .nil))⟩
  · exact ⟨vs, (.of (o.le.tups _ _ h)), by rw [r.length, enum_len]⟩
theorem srv_zipT {a a2 : Addr} {vs ws : List V} {ds es : List D} (h : H1 a = some (.tup vs)) (h2 : H1 a2 = some (.tup ws)) (r : DRs K A H1 vs ds) (r2 : DRs K A H1 ws es) : Srv K A b H1 (RZ.ItzT K a a2) (zipL ds es) := by
  refine ⟨fun i H o hi => ?_, fun i H v H' d o hd y => ?_, fun H o => ?_⟩
  · rw [zip_len] at hi
    have hv : i < vs.length := by rw [r.length]; omega
    have hw : i < ws.length := by rw [r2.length]; omega
    exact ⟨vs, ws, vs[i], ws[i], (.of (o.le.tups _ _ h)), (.of (o.le.tups _ _ h2)), by simp [hv], by simp [hw]⟩
  · obtain ⟨T, x, y', rfl, hT, rfl, q1, q2⟩ := y
    obtain ⟨d1, e1, p1⟩ := r.get' (q1 vs ((.of (o.le.tups _ _ h))))
    obtain ⟨d2, e2, p2⟩ := r2.get' (q2 ws ((.of (o.le.tups _ _ h2))))
    obtain ⟨u, w, hu, hw, rfl⟩ := zip_get _ _ _ _ hd
    rw [hu] at e1
    rw [hw] at e2
    cases e1
    cases e2
    exact ⟨Ex.new hT, .tup upd_same (.cons ((p1.tr.mono o.le.tr).mono ((Ex.new hT).le fun _ z => z)) (.cons ((p2.tr.mono o.le.tr).mono ((Ex.new hT).le fun _ z => z)) .nil))⟩
  · refine ⟨vs, ws, (.of (o.le.tups _ _ h)), (.of (o.le.tups _ _ h2)), ?_⟩
    rw [r.length, r2.length, zip_len]
    omega
end
section
variable {c : CC} {F : Fn} {n : Nat} {sc : Scope} {X : Cx} {a a2 tg : Expr} {x y : IE} {p : Pos} {b : Bool}
theorem tup_of {e : Expr} (h : isTupE e = true) : ∃ es k p, e = .Tuple es k p := by
  cases e <;> first | exact ⟨_, _, _, rfl⟩ | cases h
theorem si_enm (g : GX c F n sc X) {nm : Str} {p1 : Pos} (ht : isTupE tg = true) (hn : nm = ("enumerate" : Str)) (hgl : glB sc nm = true) (hs : isStar a = false) (hx : PE X a (tE X.K F b x)) : PI X tg (.Call (.Name nm p1) [a] [] p) (tI X.K F b (.enm x)) := by
  subst hn
  obtain ⟨es, k, p2, rfl⟩ := tup_of ht
  have hA : PA X [a] (tAs X.K F b (.ac x .an)) := sa_cons hs hx sa_nil
  refine ⟨fun pins s σ H R I h => ?_⟩
  obtain ⟨S, e, d, ds, hsr, hf, hw, q⟩ := h
  unfold ev at hf
  split at hf
  · rename_i l hl
    cases hf
    cases hw
    refine (EnT.pi_enumA (g.gl hgl) (g.blt _ (by decide +kernel)) hA (star_of hs [] X.env)).run pins s σ H R I ?_
    refine ⟨S, e, [.lst l], hsr, by simp only [ev, hl], fun vs H1 x1 r1 => ?_⟩
    obtain ⟨v, rfl, r⟩ := r1.one
    rcases r with r | ⟨hb, a', rfl, vs, h1, h2⟩
    · cases r with
      | lst hS h1 h2 => exact ⟨_, _, rfl, .inl ⟨.of h1, q _ H1 x1 (srv_enum h1 (.inl hS) h2)⟩⟩
    · exact ⟨a', vs, rfl, .inl ⟨.of h1, q _ H1 x1 (srv_enum h1 (.inr hb) h2)⟩⟩
  · rename_i l hl
    cases hf
    cases hw
    refine (EnT.pi_enumA (g.gl hgl) (g.blt _ (by decide +kernel)) hA (star_of hs [] X.env)).run pins s σ H R I ?_
    refine ⟨S, e, [.tup l], hsr, by simp only [ev, hl], fun vs H1 x1 r1 => ?_⟩
    obtain ⟨v, rfl, r⟩ := r1.one
    obtain ⟨p, vs, rfl, k1, k3⟩ := r.tup
    exact ⟨p, vs, rfl, .inr ⟨.of k1, q _ H1 x1 (srv_enumT k1 k3)⟩⟩
  · cases hf
theorem DV.lst2 {K : PySem.W.Frag} {S : Ad} {H : Hp} {v : V} {l : List D} (r : DV b K S H v (.lst l)) : ∃ a vs, v = .ref a ∧ H a = some (.lst vs) ∧ (S a ∨ b = true) ∧ DRs K S H vs l := by
  rcases r with r | ⟨hb, a', rfl, vs, h1, h2⟩
  · cases r with
    | lst hS h1 h2 => exact ⟨_, _, rfl, h1, .inl hS, h2⟩
  · exact ⟨a', vs, rfl, h1, .inr hb, h2⟩
theorem si_zip (g : GX c F n sc X) {nm : Str} {p1 : Pos} (ht : isTupE tg = true) (hn : nm = ("zip" : Str)) (hgl : glB sc nm = true) (hs : isStar a = false) (hs2 : isStar a2 = false) (hx : PE X a (tE X.K F b x)) (hy : PE X a2 (tE X.K F b y)) : PI X tg (.Call (.Name nm p1) [a, a2] [] p) (tI X.K F b (.zip x y)) := by
  subst hn
  obtain ⟨es, k, p2, rfl⟩ := tup_of ht
  have hA : PA X [a, a2] (tAs X.K F b (.ac x (.ac y .an))) := sa_cons hs hx (sa_cons hs2 hy sa_nil)
  have hp : (backTo p (starEach [a2] X.env)).any (·.1) = false := noStars (fun e he => by simp at he; subst he; exact hs2) X.env p
  refine ⟨fun pins s σ H R I h => ?_⟩
  obtain ⟨S, e, d, ds, hsr, hf, hw, q⟩ := h
  unfold ev at hf
  split at hf
  · rename_i l m hl hm
    cases hf
    cases hw
    refine (RZ.pi_zipA (g.gl hgl) (g.blt _ (by decide +kernel)) hA (star_of hs [a2] X.env) hp).run pins s σ H R I ?_
    refine ⟨S, e, [.lst l, .lst m], hsr, by simp only [ev, hl, hm], fun vs H1 x1 r1 => ?_⟩
    obtain ⟨v, u, rfl, r, r2⟩ := r1.two
    obtain ⟨p, vs, rfl, k1, k2, k3⟩ := r.lst2
    obtain ⟨p', ws, rfl, k4, k5, k6⟩ := r2.lst2
    exact ⟨p, p', vs, ws, rfl, .inl ⟨.of k1, .of k4, q _ H1 x1 (srv_zip k1 k4 k2 k5 k3 k6)⟩⟩
  · rename_i l m hl hm
    cases hf
    cases hw
    refine (RZ.pi_zipA (g.gl hgl) (g.blt _ (by decide +kernel)) hA (star_of hs [a2] X.env) hp).run pins s σ H R I ?_
    refine ⟨S, e, [.tup l, .tup m], hsr, by simp only [ev, hl, hm], fun vs H1 x1 r1 => ?_⟩
    obtain ⟨v, u, rfl, r, r2⟩ := r1.two
    obtain ⟨p, vs, rfl, k1, k3⟩ := r.tup
    obtain ⟨p', ws, rfl, k4, k6⟩ := r2.tup
    exact ⟨p, p', vs, ws, rfl, .inr ⟨.of k1, .of k4, q _ H1 x1 (srv_zipT k1 k4 k3 k6)⟩⟩
  · cases hf
end

/-! ### targets -/
section
variable {K : PySem.W.Frag} {S : Ad} {H : Hp} {σ : L2.St} {e : En}
theorem SR.set_sh (h : SR K S H σ e) {i : Nat} {v : V} {d : D} (r : DR K S H v d) : SR K S H (σ.set i (some v)) (eset e i (.sh d)) := by
  have ow_ne : ∀ {j d'}, eget (eset e i (.sh d)) j = .ow d' → j ≠ i ∧ eget e j = .ow d' := fun {j d'} g => by
    by_cases hj : i = j
    · subst hj
      by_cases hi : i < e.length
      · rw [eget_same hi] at g; cases g
      · have : eget (eset e i (.sh d)) i ≠ .no := by rw [g]; exact fun z => nomatch z
        exact absurd (by rw [← eset_len e i (.sh d)]; exact eget_lt this) hi
    · rw [eget_ne hj] at g
      exact ⟨fun z => hj z.symm, g⟩
  refine ⟨h.tab, by rw [List.length_set, eset_len]; exact h.len, fun j => ?_, fun j k d1 d2 a g1 g2 e1 e2 => ?_⟩
  · by_cases hj : i = j
    · subst hj
      by_cases hi : i < e.length
      · rw [eget_same hi]
        exact ⟨v, List.getElem?_set_self (by rw [h.len]; exact hi), r⟩
      · cases g : eget (eset e i (.sh d)) i with
        | no => trivial
        | sh _ => exact absurd (by rw [← eset_len e i (.sh d)]; exact eget_lt (by rw [g]; exact fun z => nomatch z)) hi
        | ow _ => exact absurd (by rw [← eset_len e i (.sh d)]; exact eget_lt (by rw [g]; exact fun z => nomatch z)) hi
    · rw [eget_ne hj]
      have := h.at_ j
      rw [List.getElem?_set_ne hj]
      exact this
  · obtain ⟨n1, g1⟩ := ow_ne g1
    obtain ⟨n2, g2⟩ := ow_ne g2
    rw [List.getElem?_set_ne (Ne.symm n1)] at e1
    rw [List.getElem?_set_ne (Ne.symm n2)] at e2
    exact h.sep j k d1 d2 a g1 g2 e1 e2
theorem wipe_get : ∀ (vs : List Nat) (σ : L2.St) (j : Nat), (wipe σ vs)[j]? = if j ∈ vs ∧ j < σ.length then some none else σ[j]?
  | [], σ, j => by simp [wipe]
  | v :: vs, σ, j => by
    unfold wipe
    by_cases hv : v = j
    · subst hv
      by_cases hl : v < σ.length
      · rw [List.getElem?_set_self (by rw [wipe_length]; exact hl), if_pos ⟨by simp, hl⟩]
      · rw [List.getElem?_eq_none (by rw [List.length_set, wipe_length]; omega), if_neg (by intro z; exact hl z.2), List.getElem?_eq_none (by omega)]
    · rw [List.getElem?_set_ne hv, wipe_get vs σ j]
      have : (j ∈ v :: vs) ↔ j ∈ vs := by simp [Ne.symm hv]
      simp only [this]
theorem wipe_set {i : Nat} {x : Option V} {vs : List Nat} (h : i ∈ vs) : wipe (σ.set i x) vs = wipe σ vs := by
  apply List.ext_getElem?
  intro j
  rw [wipe_get, wipe_get, List.length_set]
  by_cases hj : j ∈ vs ∧ j < σ.length
  · rw [if_pos hj, if_pos hj]
  · rw [if_neg hj, if_neg hj]
    by_cases hi : i = j
    · subst hi
      have : ¬ i < σ.length := fun z => hj ⟨h, z⟩
      rw [List.getElem?_eq_none (by rw [List.length_set]; omega), List.getElem?_eq_none (by omega)]
    · rw [List.getElem?_set_ne hi]
theorem wipeE_get : ∀ (vs : List Nat) (e : En) (j : Nat), eget (wipeE e vs) j = if j ∈ vs ∧ j < e.length then .no else eget e j
  | [], e, j => by simp [wipeE]
  | v :: vs, e, j => by
    have hl : (wipeE e vs).length = e.length := by
      clear wipeE_get
      induction vs with
      | nil => rfl
      | cons w ws ih => unfold wipeE; rw [eset_len]; exact ih
    unfold wipeE
    by_cases hv : v = j
    · subst hv
      by_cases hlt : v < e.length
      · rw [eget_same (by rw [hl]; exact hlt), if_pos ⟨by simp, hlt⟩]
      · rw [if_neg (fun z => hlt z.2)]
        cases g1 : eget (eset (wipeE e vs) v .no) v with
        | no => cases g2 : eget e v with
          | no => rfl
          | sh _ => exact absurd (eget_lt (by rw [g2]; exact fun z => nomatch z)) hlt
          | ow _ => exact absurd (eget_lt (by rw [g2]; exact fun z => nomatch z)) hlt
        | sh _ => exact absurd (by rw [← hl, ← eset_len (wipeE e vs) v .no]; exact eget_lt (by rw [g1]; exact fun z => nomatch z)) hlt
        | ow _ => exact absurd (by rw [← hl, ← eset_len (wipeE e vs) v .no]; exact eget_lt (by rw [g1]; exact fun z => nomatch z)) hlt
    · rw [eget_ne hv, wipeE_get vs e j]
      have : (j ∈ v :: vs) ↔ j ∈ vs := by simp [Ne.symm hv]
      simp only [this]
theorem wipeE_len : ∀ (vs : List Nat) (e : En), (wipeE e vs).length = e.length
  | [], _ => rfl
  | v :: vs, e => by unfold wipeE; rw [eset_len]; exact wipeE_len vs e
theorem SR.wipe (h : SR K S H σ e) (vs : List Nat) : SR K S H (L2.wipe σ vs) (wipeE e vs) := by
  have look : ∀ {j s}, eget (wipeE e vs) j = s → s ≠ .no → eget e j = s ∧ (L2.wipe σ vs)[j]? = σ[j]? := fun {j s} g hn => by
    rw [wipeE_get] at g
    by_cases hj : j ∈ vs ∧ j < e.length
    · rw [if_pos hj] at g; exact absurd g.symm hn
    · rw [if_neg hj] at g
      rw [wipe_get, h.len, if_neg hj]
      exact ⟨g, rfl⟩
  refine ⟨h.tab, by rw [wipe_length, wipeE_len]; exact h.len, fun j => ?_, fun j k d1 d2 a g1 g2 e1 e2 => ?_⟩
  · cases g : eget (wipeE e vs) j with
    | no => trivial
    | sh d =>
      obtain ⟨g1, g2⟩ := look g (fun z => nomatch z)
      rw [g2]
      exact h.sh g1
    | ow d =>
      obtain ⟨g1, g2⟩ := look g (fun z => nomatch z)
      rw [g2]
      exact h.ow g1
  · obtain ⟨g1, q1⟩ := look g1 (fun z => nomatch z)
    obtain ⟨g2, q2⟩ := look g2 (fun z => nomatch z)
    rw [q1] at e1
    rw [q2] at e2
    exact h.sep j k d1 d2 a g1 g2 e1 e2
end
def tG (K : PySem.W.Frag) (tp : TP) : TG := fun v σ H Q => ∃ S e d e', SR K S H σ e ∧ DR K S H v d ∧ bindT tp d e = some e' ∧ ∀ σ', SR K S H σ' e' → (∀ vs, (∀ i ∈ tpS tp, i ∈ vs) → wipe σ' vs = wipe σ vs) → Q σ' H
def tGl (K : PySem.W.Frag) (tp : TP) : TGs := fun us σ H Q => ∃ S e ds e', SR K S H σ e ∧ DRs K S H us ds ∧ bindT tp (.tup ds) e = some e' ∧ ∀ σ', SR K S H σ' e' → (∀ vs, (∀ i ∈ tpS tp, i ∈ vs) → wipe σ' vs = wipe σ vs) → Q σ' H
section
variable {c : CC} {F : Fn} {n : Nat} {sc : Scope} {X : Cx} {p : Pos}
theorem pg_imp {e : Expr} {t t' : TG} (h : PG X e t) (g : ∀ v σ H Q, t' v σ H Q → t v σ H Q) : PG X e t' := ⟨fun pins s σ H v u Q I r q => h.run pins s σ H v u Q I r (g v σ H Q q)⟩
theorem pgs_imp {e : List Expr} {t t' : TGs} (h : PGs X e t) (g : ∀ v σ H Q, t' v σ H Q → t v σ H Q) : PGs X e t' := ⟨fun pins s σ H v u Q I r q => h.run pins s σ H v u Q I r (g v σ H Q q)⟩
theorem sg_one (g : GX c F n sc X) {fl : Str → Bool} (hf : ∀ x, fl x = true → X.fn x = true) {i : Nat} {x : Str} (h1 : c.N[i]? = some x) (h2 : locK fl sc x = true) : PG X (.Name x p) (tG X.K (.one i)) := by
  obtain ⟨l1, l2⟩ := g.loc hf h2
  refine pg_imp (pg_name (i := i) (by rw [g.hN]; exact g.nd) (by rw [g.hN]; exact h1) l1 l2) ?_
  rintro v σ H Q ⟨S, e, d, e', hs, hd, hb, q⟩
  cases hb
  refine q _ (hs.set_sh hd) fun vs hv => wipe_set (hv i (by simp [tpS]))
theorem sg_many (g : GX c F n sc X) {fl : Str → Bool} (hf : ∀ x, fl x = true → X.fn x = true) : ∀ {tp : TP} {es : List Expr}, ckTPs c fl sc tp es = true → PGs X es (tGl X.K tp) ∧ (assignEach es X.env).length = es.length ∧ (assignEach es X.env).findIdx? (·.1) = none ∧ ∀ (ds : List D) (e e' : En), bindT tp (.tup ds) e = some e' → ds.length = es.length
  | .tn, [], _ => by
    refine ⟨?_, rfl, rfl, fun ds e e' h => ?_⟩
    · refine pgs_imp pgs_nil ?_
      rintro us σ H Q ⟨S, e, ds, e', hs, hd, hb, q⟩
      cases ds with
      | nil => cases hd; cases hb; exact ⟨rfl, q σ hs fun vs _ => rfl⟩
      | cons _ _ => cases hb
    · cases ds with
      | nil => rfl
      | cons _ _ => cases h
  | .tc (.one i) ps, .Name x p :: es, h => by
    unfold ckTPs at h
    simp only [Bool.and_eq_true, decide_eq_true_eq] at h
    obtain ⟨h1, h2, h3, h4⟩ := sg_many g hf h.2
    refine ⟨?_, ?_, ?_, ?_⟩
    · refine pgs_imp (pgs_cons (sg_one (p := p) g hf h.1.1 h.1.2) h1) ?_
      rintro us σ H Q ⟨S, e, ds, e', hs, hd, hb, q⟩
      cases hd with
      | nil => cases hb
      | cons a r =>
        unfold bindT at hb
        refine ⟨_, _, rfl, S, e, _, _, hs, a, rfl, fun σ1 s1 w1 => ?_⟩
        refine ⟨S, _, _, e', s1, r, ?_, fun σ2 s2 w2 => q σ2 s2 fun vs hv => ?_⟩
        · simpa [bindT] using hb
        · rw [w2 vs fun j hj => hv j (by simp [tpS, hj]), w1 vs fun j hj => hv j (by simp only [tpS, List.mem_append]; exact .inl hj)]
    · show ((false, assign (.Name x p) X.env) :: assignEach es X.env).length = _
      rw [List.length_cons, h2]
      rfl
    · show ((false, assign (.Name x p) X.env) :: assignEach es X.env).findIdx? (·.1) = none
      rw [List.findIdx?_cons]
      simp [h3]
    · intro ds e e' hb
      cases ds with
      | nil => cases hb
      | cons d ds =>
        unfold bindT at hb
        simp only [bindT] at hb
        rw [List.length_cons, List.length_cons, h4 ds _ e' hb]
  | .one _, _, h => by cases h
  | .tn, _ :: _, h => by cases h
  | .tc (.one _) _, [], h => by simp [ckTPs] at h
  | .tc .tn _, [], h => by simp [ckTPs] at h
  | .tc (.tc _ _) _, [], h => by simp [ckTPs] at h
  | .tc (.tn) _, _ :: _, h => by cases h
  | .tc (.tc _ _) _, _ :: _, h => by cases h
theorem sg_ok (g : GX c F n sc X) {fl : Str → Bool} (hf : ∀ x, fl x = true → X.fn x = true) {tp : TP} {e : Expr} (h : ckT c fl sc tp e = true) : PG X e (tG X.K tp) := by
  unfold ckT at h
  split at h
  · simp only [Bool.and_eq_true, decide_eq_true_eq] at h
    exact sg_one g hf h.1 h.2
  · obtain ⟨h1, h2, h3, h4⟩ := sg_many g hf h
    refine pg_imp (pg_tup g.calm h1 h2 h3) ?_
    rintro v σ H Q ⟨S, e, d, e', hs, hd, hb, q⟩
    have : ∃ ds, d = .tup ds := by
      cases tp with
      | one i => unfold ckTPs at h; cases h
      | tn => cases d <;> first | exact ⟨_, rfl⟩ | cases hb
      | tc _ _ => cases d <;> first | exact ⟨_, rfl⟩ | cases hb
    obtain ⟨ds, rfl⟩ := this
    cases hd with
    | tup h1 r => exact ⟨_, _, rfl, .of h1, by rw [r.length, h4 ds e e' hb], S, e, ds, e', hs, r, hb, q⟩
  · cases h
end
end Tl

/-! G15: for c in reversed(a text); a written dict of the module: d[k], k in d. -/
namespace RvS
open PySem PySem.Spec PyProof.Rows L2 RT
theorem norev_str : typeLookup (.type "str") "__reversed__" = pure none := by rw [typeLookup_type, builtinLookup_eq_fast]; kernel_rfl
theorem get_str : typeLookup (.type "str") "__getitem__" = pure (some (.builtin "str.__getitem__")) := by rw [typeLookup_type, builtinLookup_eq_fast]; kernel_rfl
theorem sub_str_dict : isSubtype (.type "str") (.type "dict") = pure false := by rw [isSubtype_type]; kernel_rfl
def rsObj (z : Str) (t : Tok) (i : Int) : Obj := { cls := .type "reversed", data := .fields #[.str z t, rawInt i] }
def IsRs (h : Heap) (a : Addr) (z : Str) (t : Tok) (i : Int) : Prop := ∃ o, h.get? a = some o ∧ o.cls = .type "reversed" ∧ o.data = .fields #[.str z t, rawInt i]
theorem IsRs.at {h h' : Heap} {a : Addr} {z : Str} {t : Tok} {i : Int} (x : IsRs h a z t i) (e : ∀ o, h.get? a = some o → h'.get? a = some o) : IsRs h' a z t i := let ⟨o, ho, r⟩ := x; ⟨o, e _ ho, r⟩
section
variable {prog : Program} {w : World} {A : Around} {E : Value → Shared → Prop} {s : Shared}
theorem IsRs.typeIs {a : Addr} {z : Str} {t : Tok} {i : Int} (x : IsRs s.heap a z t i) : s.TypeIs (.ref a) "reversed" := let ⟨o, ho, hc, _⟩ := x; ⟨o, ho, hc⟩
theorem code_reversed_str {z : Str} {t : Tok} {Q₁ : Value → Shared → Prop} (hz : z.length ≤ sizeLine)
    (h : Q₁ (.ref s.heap.objs.size) { s with heap := s.heap.push (rsObj z t ((z.length : Int) - 1)), toks := s.toks + 1 + 1 }) :
    codeAny (model prog w) A (.call (.builtin "reversed.__new__") ⟨[.type "reversed", .str z t], []⟩) (wants Q₁ E) s := by
  have hT : s.TypeIs (.str z t) "str" := typeIs_str s z t
  have hn := line63
  refine codeAny_of_tree ?_
  show wpAny _ A.in1 (do checkBuiltinCall "reversed.__new__" ⟨[.type "reversed", .str z t], []⟩; again (.builtin "reversed.__new__" ⟨[.type "reversed", .str z t], []⟩)) _ _ s
  refine wpAny_bind (wpAny_of_eq (F.newCall_reversed_1 _) (wpAny_pure ⟨plainId_quiet F.plain_reversed_new _, codeAny_builtin F.entry_reversed_new ?_⟩))
  rw [Around.under_plainId F.plain_reversed_new _]
  unfold Builtin.«reversed.__new__»
  refine wpAny_bind (wpAny_of_eq (newClass_reversed _) ?_)
  try dsimp only
  refine wpAny_bind (wpAny_of_eq (a := ()) (by first | rfl | kernel_rfl) ?_)
  try dsimp only
  refine wpAny_bind (wpAny_of_eq (a := ()) (by first | rfl | kernel_rfl) ?_)
  try dsimp only
  refine wpAny_bind (wpAny_specialOf hT norev_str ?_)
  try dsimp only
  refine wpAny_bind ?_
  wp_delta
  refine wpAny_bind (wpAny_isInstance (T := "str") (U := "dict") (b := false) hT sub_str_dict ?_)
  try dsimp only
  try rw [if_neg Bool.false_ne_true]
  try dsimp only
  refine wpAny_bind (wpAny_specialOf hT get_str ?_)
  try dsimp only
  try rw [if_pos (by decide +kernel)]
  refine wpAny_pure ?_
  try dsimp only
  try rw [if_neg (by decide)]
  try dsimp only
  refine wpAny_bind (len_str (by omega) ?_)
  refine wpAny_bind (wpAny_of_eq (a := some ((z.length : Nat) : Int)) rfl ?_)
  try dsimp only
  refine wpAny_bind ?_
  show wpAny _ _ (newObj (.type "reversed") (.fields #[.str z t, rawInt ((z.length : Int) - 1)])) _ _ _
  refine wpAny_newObj_type ?_
  exact wpAny_pure h
theorem call_reversed_str {z : Str} {t : Tok} {Q : Value → Shared → Prop} (hz : z.length ≤ sizeLine)
    (h : Q (.ref s.heap.objs.size) { s with heap := s.heap.push (rsObj z t ((z.length : Int) - 1)), toks := s.toks + 1 + 1 }) : wpAny (model prog w) A (call (.type "reversed") [.str z t]) Q E s := by
  refine callType_codes (Q₁ := fun obj s₁ => s₁.TypeIs obj "reversed" ∧ Q obj s₁) called_rt (F.typeCall_reversed_1 _) F.entry_object_init
    (code_reversed_str (A := A.in1) hz ⟨⟨_, Heap.get?_push_size _ rfl, rfl⟩, h⟩) fun obj s₁ h₁ => ?_
  exact ⟨h₁.1, F.args_object_init_2 obj _, object_init_meets called_rt.init.lookup called_rt.made (by decide) prog w A.in1 _ s₁ ⟨h₁.1, rfl, h₁.2⟩⟩
theorem next_rs_item {it : Addr} {z : Str} {t : Tok} {i : Nat} {c : Nat} {Q : Option Value → Shared → Prop} (hit : IsRs s.heap it z t (i : Int)) (hx : z.cps[i]? = some c) (hsz : z.length ≤ sizeLine)
    (hQ : ∀ (h' : Heap) (tk : Nat) (u : Tok), IsRs h' it z t ((i : Int) - 1) → Heap.SameBut it s.heap h' → Q (some (.str ⟨#[c]⟩ u)) { s with heap := h', toks := tk }) : wpAny (model prog w) A (pyNext (.ref it)) Q E s := by
  obtain ⟨o, ho, hc, hd⟩ := id hit
  have hi : i < z.cps.size := (Array.getElem?_eq_some_iff.mp hx).1
  have hi' : i < z.length := hi
  have hT : s.TypeIs (.str z t) "str" := typeIs_str s z t
  rw [sizeLine_eq] at hsz
  unfold pyNext
  refine wpAny_bind (wpAny_attempt (wpAny_callSpecial?_slot (name := Str.ofString "__next__") hit.typeIs slot_rt_next
    (wpAny_call_entry slot_rt_next hit.typeIs entry_rt_next ?_ (args_rt_next _))))
  unfold Builtin.«reversed.__next__»
  refine wpAny_bind (wpAny_of_eq (a := (Value.ref it, [])) rfl ?_)
  try dsimp only
  refine wpAny_bind (wpAny_field ho hd (x := .str z t) rfl ?_)
  try dsimp only
  refine wpAny_bind (wpAny_field ho hd (x := rawInt (i : Int)) rfl ?_)
  show wpAny _ _ (if (i : Int) < 0 then _ else _) _ _ s
  rw [if_neg (by omega)]
  try dsimp only
  refine wpAny_bind (wpAny_specialOf hT get_str ?_)
  try dsimp only
  try rw [if_neg (by decide)]
  try dsimp only
  refine wpAny_bind (wpAny_mkInt ?_)
  refine wpAny_bind (wpAny_attempt ?_)
  have fin : (seqIndex? (i : Int) z.length).bind (z.cps[·]?) = some c := by
    rw [show seqIndex? (i : Int) z.length = some i from seqIndex_of (by omega) (by omega)]
    exact hx
  refine getItem_str (s := { s with toks := s.toks + 1 }) (by
    rw [Bool.or_eq_false_iff, decide_eq_false_iff_not, decide_eq_false_iff_not]
    constructor <;> omega) fin ?_
  try dsimp only
  refine wpAny_bind (wpAny_field (s := { s with toks := s.toks + 1 + 1 }) ho hd (x := rawInt (i : Int)) rfl ?_)
  try dsimp only
  refine wpAny_bind (wpAny_setField (s := { s with toks := s.toks + 1 + 1 }) ho hd (by simp) ?_)
  first
  | refine wpAny_pure ⟨_, rfl, wpAny_pure (hQ _ _ _ ?_ (Heap.SameBut.update ..))⟩
  | refine wpAny_bind (wpAny_pure (wpAny_pure ⟨_, rfl, wpAny_pure (hQ _ _ _ ?_ (Heap.SameBut.update ..))⟩))
  exact ⟨_, Heap.get?_update_self _ ho (Obj.isFreed_of_fields (Obj.data_mapFields hd _)), (Obj.cls_mapFields ..).trans hc, by
    rw [Obj.data_mapFields hd]; simp⟩
theorem next_rs_end {it : Addr} {z : Str} {t : Tok} {Q : Option Value → Shared → Prop} (hh : A.handled = none) (hit : IsRs s.heap it z t (-1))
    (hQ : ∀ h', Heap.ExtBut it s.heap h' → Q none { s with heap := h' }) : wpAny (model prog w) A (pyNext (.ref it)) Q E s := by
  obtain ⟨o, ho, hc, hd⟩ := id hit
  unfold pyNext
  refine wpAny_bind (wpAny_attempt (wpAny_callSpecial?_slot (name := Str.ofString "__next__") hit.typeIs slot_rt_next
    (wpAny_call_entry slot_rt_next hit.typeIs entry_rt_next ?_ (args_rt_next _))))
  unfold Builtin.«reversed.__next__»
  refine wpAny_bind (wpAny_of_eq (a := (Value.ref it, [])) rfl ?_)
  try dsimp only
  refine wpAny_bind (wpAny_field ho hd (x := .str z t) rfl ?_)
  try dsimp only
  refine wpAny_bind (wpAny_field ho hd (x := rawInt (-1)) rfl ?_)
  show wpAny _ _ (if (-1 : Int) < 0 then _ else _) _ _ s
  rw [if_pos (by decide)]
  try dsimp only
  refine wpAny_bind (wpAny_rule ?_)
  refine wpAny_bind ?_
  wp_delta
  refine wpAny_bind (wpAny_setField ho hd (by simp) ?_)
  have ho2 := Heap.get?_update_self (Obj.mapFields (·.setIfInBounds 1 (rawInt (-1)))) ho (Obj.isFreed_of_fields (Obj.data_mapFields hd _))
  refine wpAny_setField (s := { s with heap := s.heap.update it (Obj.mapFields (·.setIfInBounds 1 (rawInt (-1)))) }) ho2 (Obj.data_mapFields hd _) (by simp) ?_
  try dsimp only
  first
  | show wpAny _ _ (newExc (.type "StopIteration") [] >>= _) _ _ _
  | (refine wpAny_bind ?_; show wpAny _ _ (newExc (.type "StopIteration") [] >>= _) _ _ _)
  | (refine wpAny_bind ?_; wp_delta; show wpAny _ _ (newExc (.type "StopIteration") [] >>= _) _ _ _)
  refine wpAny_bind ?_
  simp only [newExc, newTuple]
  refine wpAny_bind (wpAny_newObj_type ?_ (by size_fits))
  refine wpAny_bind (m := firstArgMember _ _) (wpAny_of_eq (a := Value.none) (by first | rfl | (simp only [firstArgMember]; rfl)) ?_)
  refine wpAny_newObj_type ?_ (by size_fits)
  simp only [raiseNew]
  refine wpAny_bind (wpAny_handled ?_)
  first | rw [show A.in1.handled = none from hh] | rw [hh]
  refine wpAny_bind (wpAny_pure (wpAny_throw ?_))
  refine wpAny_bind (wpAny_isInstance (T := "StopIteration") (b := true) ⟨_, Heap.get?_push_size _ rfl, rfl⟩ isSubtype_stop ?_)
  refine wpAny_pure (hQ _ ?_)
  refine ((?_ : Heap.ExtBut it s.heap _).push _).push _
  exact fun b ob hb e => (Heap.get?_update_other _ _ (Ne.symm hb)).trans ((Heap.get?_update_other _ _ (Ne.symm hb)).trans e)
theorem iter_rs {it : Addr} {z : Str} {t : Tok} {i : Int} {Q : Value → Shared → Prop} (hit : IsRs s.heap it z t i) (h : Q (.ref it) s) : wpAny (model prog w) A (pyIter (.ref it)) Q E s := by
  refine wpAny_pyIter_slot hit.typeIs slot_rt_iter (wpAny_call_entry slot_rt_iter hit.typeIs entry_rt_iter ?_ (args_rt_iter _))
  show wpAny _ _ (ret (.ref it)) _ _ s
  exact wpAny_pure ⟨_, rfl, "reversed", _, hit.typeIs, slot_rt_next.lookup, h⟩
end
/-- the signs from the last to the first -/
def ItvS (z : Str) : It :=
  ⟨fun i _ => i < z.cps.size, fun i H v H' => H' = H ∧ ∃ c, z.cps[z.cps.size - 1 - i]? = some c ∧ v = .str ⟨#[c]⟩, fun i _ => z.cps.size ≤ i⟩
theorem turn_rs {P : Program} {w : World} {K : PySem.W.Frag} {tg : Expr} (it : Addr) (z : Str) (t : Tok) (hz : z.length ≤ sizeLine) : Turn P w K tg (ItvS z) [it] it (fun i h => i ≤ z.cps.size ∧ IsRs h it z t ((z.cps.size : Int) - 1 - (i : Nat))) where
  mem := by simp
  obj := fun i h st b hb => by
    have e : b = it := by simpa using hb
    subst e
    obtain ⟨_, o, e, c, d⟩ := st
    exact ⟨o, e, fun v z => by rw [d] at z; cases z⟩
  keep := fun i h h' st k => ⟨st.1, st.2.at fun o e => k it (by simp) o e⟩
  item := by
    intro X hP hw hK hc i pins s σ H E I hf st hg
    subst hP hw hK
    have hin : i < z.cps.size := hg
    obtain ⟨f0, f1, f2, f3, f4, f5⟩ := hf it (by simp)
    obtain ⟨_, hit⟩ := st
    have e1 : (z.cps.size : Int) - 1 - ((i : Nat) : Int) = ((z.cps.size - 1 - i : Nat) : Int) := by omega
    rw [e1] at hit
    have hx : z.cps[z.cps.size - 1 - i]? = some (z.cps[z.cps.size - 1 - i]'(by omega)) := Array.getElem?_eq_getElem (by omega)
    refine next_rs_item hit hx hz fun h' tk u st' sb => ?_
    have e2 : ((z.cps.size - 1 - i : Nat) : Int) - 1 = (z.cps.size : Int) - 1 - ((i + 1 : Nat) : Int) := by omega
    rw [e2] at st'
    have I1 : Inv X pins σ H { s with heap := h', toks := tk } := I.turned (t' := tk) (fun b o hb e => (sb.2 b hb).trans e) f0 f1 f3 f4 f5
    obtain ⟨o, e, c, d⟩ := id st'
    exact ⟨_, rfl, go_of (s := { s with heap := h', toks := tk }) e c d (by decide) ⟨.str ⟨#[z.cps[z.cps.size - 1 - i]'(by omega)]⟩, H, I1, ⟨u, rfl⟩, ⟨rfl, _, hx, rfl⟩, ⟨hin, st'⟩, fun b hb => (hf b hb).1⟩⟩
  done := by
    intro X hP hw hK hc i pins s σ H E I hf st hg
    subst hP hw hK
    obtain ⟨f0, f1, f2, f3, f4, f5⟩ := hf it (by simp)
    obtain ⟨hin, hit⟩ := st
    have hge : z.cps.size ≤ i := hg
    have e1 : (z.cps.size : Int) - 1 - ((i : Nat) : Int) = -1 := by omega
    rw [e1] at hit
    exact next_rs_end (I.ok.hd hc) hit fun h' eb => ⟨rfl, I.turned (t' := s.toks) (fun b o hb e => eb b o hb e) f0 f1 f3 f4 f5⟩
  self := fun A i s Q E st h => iter_rs st.2 h
/-- reversed(x), x a text -/
def iRevS (te : TE) : TI := fun σ H R => te σ H fun v H1 => ∃ z : Str, v = .str z ∧ z.length ≤ sizeLine ∧ R (ItvS z) H1
section
variable {X : Cx} {tg : Expr}
theorem pi_revS {e : Expr} {te : TE} {p pos : Pos} (hg : Gl X "reversed") (hm : X.mg "reversed" = none) (he : PE X e te) (hs : starEach [e] X.env = (false, eval e X.env) :: starEach [] X.env := by rfl) : PI X tg (.Call (.Name "reversed" p) [e] [] pos) (iRevS te) := by
  refine ⟨fun pins s σ H R I h => ?_⟩
  refine Call_ (ld_blt I hg hm PyProof.Rows.boot_reversed (PyProof.Rows.callWith_type1 (args_cons (thn (he.run pins s σ H _ I h) fun u s1 ⟨v, H1, I1, r1, q1⟩ => args_nil ?_) hs) hs rfl))
  obtain ⟨z, ev, hz, q⟩ := q1
  subst ev
  obtain ⟨t, rfl⟩ := (show ∃ t, u = Value.str z t from r1)
  have e1 : ((z.length : Nat) : Int) - 1 = (z.cps.size : Int) - 1 - ((0 : Nat) : Int) := by show ((z.cps.size : Nat) : Int) - 1 = _; omega
  refine call_reversed_str hz (iter_rs (z := z) (t := t) (i := ((z.length : Nat) : Int) - 1) ⟨_, Heap.get?_push_size _ rfl, rfl, rfl⟩ ?_)
  refine pi_one (tk := s1.toks + 1 + 1) I1 _ (turn_rs _ z t hz) ⟨Nat.zero_le _, ?_⟩ q
  rw [← e1]
  exact ⟨_, Heap.get?_push_size _ rfl, rfl, rfl⟩
end
end RvS

/-! H02: dicts as sources, get, {}, displays, sorted(d), list(d); reversed, ranges with a step. -/
namespace Tl
open PySem L2
/-! ### a dict just made, locked -/
theorem pe_frz {X : Cx} {e : Expr} {t : TE} (h : PE X e t) : PE X e (fun σ H Q => t σ H fun v H' => ∃ d u, v = .ref d ∧ H' d = some u ∧ Mut (some u) ∧ ∀ od, Q v (upd H' d (.frz od u))) := by
  refine ⟨fun pins s σ H Q I q => ?_⟩
  refine thn (h.run pins s σ H _ I q) fun u s1 ⟨x, H1, I1, rx, d, o, hv, hd, hm, q1⟩ => ?_
  obtain ⟨od, I2⟩ := I1.lock hd hm
  exact ⟨x, _, I2, rx, q1 od⟩
theorem pss_frz {X : Cx} {sts : List Stmt} {t : TS} (h : PSs X sts t) : PSs X sts (fun D σ H => ∃ d u, H d = some u ∧ Mut (some u) ∧ ∀ od, t D σ (upd H d (.frz od u))) := by
  refine ⟨fun pins s σ H D I q => ?_⟩
  obtain ⟨d, u, hd, hm, q⟩ := q
  obtain ⟨od, I2⟩ := I.lock hd hm
  exact h.run pins s σ _ D I2 (q od)
section
variable {K : PySem.W.Frag}
mutual
theorem keepD {S : Ad} {H1 : Hp} {d : Addr} {o2 : HO} {u : HO} (h1 : H1 d = some u) (hm : Mut (some u)) (hl : ∀ xs, u ≠ .lst xs) : ∀ {x : D} {w : V}, DR K S H1 w x → DR K S (upd H1 d o2) w x
  | _, _, .non => .non
  | _, _, .bl b => .bl b
  | _, _, .int i => .int i
  | _, _, .str s => .str s
  | _, _, .tup h r => .tup (by rw [upd_ne (fun z => by subst z; rw [h1] at h; cases h; exact hm)]; exact h) (keepDs h1 hm hl r)
  | _, _, .lst s h r => .lst s (by rw [upd_ne (fun z => by subst z; rw [h1] at h; exact hl _ (Option.some.inj h))]; exact h) (keepDs h1 hm hl r)
  | _, _, .ro h r => .ro (by
      rcases h with ⟨s, h | ⟨o, h⟩⟩ | h
      · exact .inl ⟨s, .inl (by rw [upd_ne (fun z => by subst z; rw [h1] at h; exact hl _ (Option.some.inj h))]; exact h)⟩
      · exact .inl ⟨s, .inr ⟨o, by rw [upd_ne (fun z => by subst z; rw [h1] at h; cases h; exact hm)]; exact h⟩⟩
      · exact .inr h) (keepDs h1 hm hl r)
  | _, _, .dic s h k r => .dic s (by rw [upd_ne (fun z => by subst z; rw [h1] at h; cases h; exact hm)]; exact h) k (keepDs h1 hm hl r)
theorem keepDs {S : Ad} {H1 : Hp} {d : Addr} {o2 : HO} {u : HO} (h1 : H1 d = some u) (hm : Mut (some u)) (hl : ∀ xs, u ≠ .lst xs) : ∀ {x : List D} {w : List V}, DRs K S H1 w x → DRs K S (upd H1 d o2) w x
  | _, _, .nil => .nil
  | _, _, .cons a b => .cons (keepD h1 hm hl a) (keepDs h1 hm hl b)
end
/-- a dict just made -/
theorem dic_new {S : Ad} {H H1 : Hp} {b t : Bool} {u : HO} {od : Obj} {d : Addr} {vs : List V} {l : List (D × D)} (h0 : H d = none) (x : Ex H H1) (h1 : H1 d = some u) (hk : DK t u (l.map Prod.fst) vs) (r : DRs K (nw S H) H1 vs (l.map Prod.snd)) :
    Ex H (upd H1 d (.frz od u)) ∧ DV b K (nw S H) (upd H1 d (.frz od u)) (.ref d) (.dic t l) := by
  refine ⟨?_, .inl (.dic (.inr h0) upd_same hk (keepDs h1 hk.mut (fun xs z => hk.nlst z) r))⟩
  refine ⟨fun a o n e => ?_, fun a ps e => ?_⟩
  · rw [upd_ne (ne_of_none e h0)]
    exact x.to a o n e
  · rw [upd_ne (ne_of_none e h0)]
    exact x.tb a ps e
end
section
variable [Tabs] {c : CC} {F : Fn} {n : Nat} {sc : Scope} {X : Cx} {a a2 a3 tg : Expr} {x y z k : IE} {p : Pos} {b : Bool} {es : List Expr}
/-! ### {} -/
theorem se_dnw {t : Bool} : PE X (.Dict [] [] p) (tE X.K F b (.dnw t)) := by
  cases t with
  | false =>
    refine pe_imp (pe_frz pe_dnewK) ?_
    rintro σ H Q ⟨S, e, d, hs, hf, q⟩ p hp
    cases hf
    refine ⟨p, _, rfl, upd_same, True.intro, fun od => ?_⟩
    obtain ⟨e1, e2⟩ := dic_new (S := S) (b := b) (od := od) (l := []) (t := false) hp (Ex.new hp) upd_same ⟨[], rfl, rfl, rfl⟩ .nil
    exact q _ _ e1 e2
  | true =>
    refine pe_imp (pe_frz pe_dnewT) ?_
    rintro σ H Q ⟨S, e, d, hs, hf, q⟩ p hp
    cases hf
    refine ⟨p, _, rfl, upd_same, True.intro, fun od => ?_⟩
    obtain ⟨e1, e2⟩ := dic_new (S := S) (b := b) (od := od) (l := []) (t := true) hp (Ex.new hp) upd_same ⟨[], rfl, rfl, rfl⟩ .nil
    exact q _ _ e1 e2
/-! ### d.get(k), d.get(k, x) -/
theorem noSup {o : Expr} (h : isSup o = false) (nm : Str) (env : PySem.Env) : attributeBase o nm env (eval o env) = eval o env := by
  unfold attributeBase
  split
  · cases h
  · rfl
theorem isD_dv {S : Ad} {H : Hp} {v : V} {t : Bool} {l : List (D × D)} (h : DV true X.K S H v (.dic t l)) : ∃ a, v = .ref a ∧ IsD H a := by
  obtain ⟨a, u, vs, rfl, hr, hk, _⟩ := h.dic
  refine ⟨a, rfl, ?_⟩
  cases t with
  | false => obtain ⟨kvs, rfl, _⟩ := hk; exact .inl ⟨_, hr⟩
  | true => obtain ⟨kvs, rfl, _⟩ := hk; exact .inr ⟨_, hr⟩
theorem lko_getD {K : PySem.W.Frag} {S : Ad} {H : Hp} {o : Option V} {od : Option D} {v : V} {d : D} (h : LkO K S H o od) (r : DR K S H v d) : DR K S H (o.getD v) (od.getD d) := by
  cases od with
  | none => have h : o = none := h; subst h; exact r
  | some x => obtain ⟨w, rfl, q⟩ := h; exact q
theorem se_dgt1 (g : GX c F n sc X) {nm : Str} {ap cp : Pos} (hn : nm = ("get" : Str)) (hl : (ap.endLine == cp.line) = true) (hc : isSup a = false) (h2 : isStar a2 = false) (hx : PE X a (tE X.K F true x)) (hk : PE X a2 (tE X.K F true k)) :
    PE X (.Call (.Attribute a nm ap) [a2] [] cp) (tE X.K F b (.dgt x k .no)) := by
  subst hn
  have hst : ∀ e' ∈ [a2], isStar e' = false := by intro e' he; simp at he; subst he; exact h2
  refine pe_imp (pe_dget1 (by have := g.hu; omega) hx hk ⟨noSup hc _ _, few_of hst (by simp) _ _, hl, by rw [star_of h2 [] X.env]; rfl⟩) ?_
  rintro σ H Q ⟨S, e, d, hs, hf, q⟩
  have hf := fin_f hf
  split at hf
  · rename_i tt l kd yd h1 h2 h3
    split at hf
    · rename_i hkt
      cases hf
      cases h3
      refine tE_at hs (Ex.refl H) h1 fun v1 H1 x1 r1 => ?_
      obtain ⟨d, rfl, isd⟩ := isD_dv r1
      refine ⟨d, rfl, isd, tE_at hs x1 h2 fun v2 H2 x2 r2 => ?_⟩
      obtain ⟨a', e', o, g', lk⟩ := dget_of (S := nw S H) hkt r2 (r1.mono x2 fun _ z => z)
      cases e'
      exact ⟨o, g', q _ H2 (x1.trans x2) (.inl (lko_getD lk .non))⟩
    · cases hf
  · cases hf
theorem se_dgt2 (g : GX c F n sc X) {nm : Str} {ap cp : Pos} (hn : nm = ("get" : Str)) (hl : (ap.endLine == cp.line) = true) (hc : isSup a = false) (h2 : isStar a2 = false) (h3 : isStar a3 = false) (hx : PE X a (tE X.K F true x)) (hk : PE X a2 (tE X.K F true k)) (hy : PE X a3 (tE X.K F false y)) :
    PE X (.Call (.Attribute a nm ap) [a2, a3] [] cp) (tE X.K F b (.dgt x k y)) := by
  subst hn
  have hst : ∀ e' ∈ [a2, a3], isStar e' = false := by intro e' he; simp at he; rcases he with rfl | rfl <;> assumption
  refine pe_imp (pe_dget2 (by have := g.hu; omega) hx hk hy ⟨noSup hc _ _, few_of hst (by simp) _ _, hl, by rw [star_of h2 [a3] X.env, star_of h3 [] X.env]; rfl⟩) ?_
  rintro σ H Q ⟨S, e, d, hs, hf, q⟩
  have hf := fin_f hf
  split at hf
  · rename_i tt l kd yd h1 h2 h3
    split at hf
    · rename_i hkt
      cases hf
      refine tE_at hs (Ex.refl H) h1 fun v1 H1 x1 r1 => ?_
      obtain ⟨d, rfl, isd⟩ := isD_dv r1
      refine ⟨d, rfl, isd, tE_at hs x1 h2 fun v2 H2 x2 r2 => tE_at hs (x1.trans x2) h3 fun v3 H3 x3 r3 => ?_⟩
      obtain ⟨a', e', o, g', lk⟩ := dget_of (S := nw S H) hkt (r2.mono x3 fun _ z => z) (r1.mono (x2.trans x3) fun _ z => z)
      cases e'
      exact ⟨o, g', q _ H3 ((x1.trans x2).trans x3) (.inl (lko_getD lk r3.f))⟩
    · cases hf
  · cases hf
/-! ### sources -/
section
variable {K : PySem.W.Frag} {A : Ad} {H1 : Hp}
theorem srv_keysK {d : Addr} {o : Obj} {kvs : List (Key × V)} (h : H1 d = some (.frz o (.dK kvs))) (hA : A d) : Srv K A b H1 (Itk d o kvs) (kvs.map fun p => kD p.1) := by
  refine ⟨fun i H ok hi => ⟨ok.le.fzs _ _ _ hA h, by simpa using hi⟩, fun i H v H' d' ok hd y => ?_, fun H ok => ⟨ok.le.fzs _ _ _ hA h, by simp⟩⟩
  obtain ⟨rfl, k, w, e, rfl⟩ := y
  rw [List.getElem?_map, e] at hd
  cases hd
  exact ⟨Ex.refl _, drKey k⟩
theorem srv_keysT {d : Addr} {o : Obj} {kvs : List (List Key × V)} (h : H1 d = some (.frz o (.dT kvs))) (hA : A d) : Srv K A b H1 (Itkt d o kvs) (kvs.map fun p => .tup (p.1.map kD)) := by
  refine ⟨fun i H ok hi => ⟨ok.le.fzs _ _ _ hA h, by simpa using hi⟩, fun i H v H' d' ok hd y => ?_, fun H ok => ⟨ok.le.fzs _ _ _ hA h, by simp⟩⟩
  obtain ⟨rfl, k, w, q, e, rfl, hq⟩ := y
  rw [List.getElem?_map, e] at hd
  cases hd
  exact ⟨Ex.refl _, .tup hq (drKeys k)⟩
theorem srv_valsK {d : Addr} {o : Obj} {kvs : List (Key × V)} {l : List D} (h : H1 d = some (.frz o (.dK kvs))) (hA : A d) (r : DRs K A H1 (kvs.map (·.2)) l) : Srv K A b H1 (Itd d o kvs) l := by
  have len : kvs.length = l.length := by have := r.length; simpa using this
  refine ⟨fun i H ok hi => ⟨ok.le.fzs _ _ _ hA h, by omega⟩, fun i H v H' d' ok hd y => ?_, fun H ok => ⟨ok.le.fzs _ _ _ hA h, by omega⟩⟩
  obtain ⟨rfl, k, e⟩ := y
  obtain ⟨d2, e2, q⟩ := r.get' (i := i) (v := v) (by rw [List.getElem?_map, e]; rfl)
  rw [hd] at e2
  cases e2
  exact ⟨Ex.refl _, q.tr.mono ok.le.tr⟩
theorem srv_itemsK {d : Addr} {o : Obj} {kvs : List (Key × V)} {l : List (D × D)} (h : H1 d = some (.frz o (.dK kvs))) (hA : A d) (hk : l.map Prod.fst = kvs.map fun p => kD p.1) (r : DRs K A H1 (kvs.map (·.2)) (l.map Prod.snd)) : Srv K A b H1 (Iti d o kvs) (l.map fun p => .tup [p.1, p.2]) := by
  have len : kvs.length = l.length := by have := r.length; simpa using this
  refine ⟨fun i H ok hi => ⟨ok.le.fzs _ _ _ hA h, by simpa [len] using hi⟩, fun i H v H' d' ok hd y => ?_, fun H ok => ⟨ok.le.fzs _ _ _ hA h, by simp [len]⟩⟩
  obtain ⟨T, k, w, e, rfl, hT, rfl⟩ := y
  obtain ⟨d2, e2, q⟩ := r.get' (i := i) (v := w) (by rw [List.getElem?_map, e]; rfl)
  rw [List.getElem?_map, Option.map_eq_some_iff] at e2
  obtain ⟨pr, e3, rfl⟩ := e2
  rw [List.getElem?_map, e3] at hd
  cases hd
  have ek : pr.1 = kD k := by
    have h1 : (l.map Prod.fst)[i]? = some pr.1 := by rw [List.getElem?_map, e3]; rfl
    rw [hk, List.getElem?_map, e] at h1
    exact (Option.some.inj h1).symm
  show _ ∧ DR K _ _ _ (.tup [pr.1, pr.2])
  rw [ek]
  exact ⟨Ex.new hT, .tup upd_same (.cons (drKey k) (.cons ((q.tr.mono ok.le.tr).mono ((Ex.new hT).le fun _ z => z)) .nil))⟩
theorem srv_rev {a : Addr} {vs : List V} {ds : List D} (h : H1 a = some (.lst vs)) (hA : A a ∨ b = true) (r : DRs K A H1 vs ds) : Srv K A b H1 (Itv K a vs.length) ds.reverse := by
  have at_ : ∀ H, Okh A b H1 H → H a = some (.lst vs) := fun H o => by
    rcases hA with z | z
    · exact o.le.lsts a vs z h
    · exact o.ex z a _ h
  have len := r.length
  refine ⟨fun i H o hi => ?_, fun i H v H' d o hd y => ?_, fun H o => ?_⟩
  · have hi2 : i < vs.length := by rw [List.length_reverse] at hi; omega
    refine ⟨hi2, vs, vs[vs.length - 1 - i], .of (at_ H o), ?_⟩
    rw [List.getElem?_eq_getElem (by omega)]
  · obtain ⟨rfl, y⟩ := y
    have hx := y vs (.of (at_ _ o))
    obtain ⟨d', e, q⟩ := r.get' hx
    have hi : i < ds.length := by
      have := (List.getElem?_eq_some_iff.mp hd).1
      simpa using this
    rw [List.getElem?_reverse hi, ← len, e] at hd
    cases hd
    exact ⟨Ex.refl _, q.tr.mono o.le.tr⟩
  · show vs.length ≤ _
    rw [List.length_reverse, len]
    exact Nat.le_refl _
end
theorem DV.dicS {S : Ad} {H : Hp} {v : V} {t : Bool} {l : List (D × D)} {K : PySem.W.Frag} (h : DV false K S H v (.dic t l)) : ∃ (a : Addr) (o : Obj) (u : HO) (vs : List V), v = .ref a ∧ S a ∧ H a = some (.frz o u) ∧ DK t u (l.map Prod.fst) vs ∧ DRs K S H vs (l.map Prod.snd) := by
  cases h.f with
  | dic s h1 k r => exact ⟨_, _, _, _, rfl, s, h1, k, r⟩
theorem si_kys (hx : PE X a (tE X.K F false x)) : PI X tg a (tI X.K F b (.kys x)) := by
  refine ⟨fun pins s σ H R I h => ?_⟩
  obtain ⟨S, e, d, ds, hs, hf, hw, q⟩ := h
  unfold ev at hf
  split at hf
  · rename_i t l hl
    cases hf
    cases hw
    refine (pi_keys hx).run pins s σ H R I (tE_at hs (Ex.refl H) hl fun v1 H1 x1 r1 => ?_)
    obtain ⟨a', o, u, vs, rfl, hS, ha, hk, r⟩ := r1.dicS
    refine ⟨a', o, rfl, ?_⟩
    cases t with
    | false =>
      obtain ⟨kvs, rfl, hkk, rfl⟩ := hk
      refine .inl ⟨kvs, ha, q _ H1 x1 ?_⟩
      rw [hkk]
      exact srv_keysK ha hS
    | true =>
      obtain ⟨kvs, rfl, hkk, rfl⟩ := hk
      refine .inr ⟨kvs, ha, q _ H1 x1 ?_⟩
      rw [hkk]
      exact srv_keysT ha hS
  · cases hf
theorem si_vls {nm : Str} {ap cp : Pos} (hn : nm = ("values" : Str)) (hl : (ap.endLine == cp.line) = true) (hc : isSup a = false) (hx : PE X a (tE X.K F false x)) : PI X tg (.Call (.Attribute a nm ap) [] [] cp) (tI X.K F b (.vls x)) := by
  subst hn
  refine ⟨fun pins s σ H R I h => ?_⟩
  obtain ⟨S, e, d, ds, hs, hf, hw, q⟩ := h
  unfold ev at hf
  split at hf
  · rename_i l hl'
    cases hf
    cases hw
    refine (pi_values hx (noSup hc _ _) hl).run pins s σ H R I (tE_at hs (Ex.refl H) hl' fun v1 H1 x1 r1 => ?_)
    obtain ⟨a', o, u, vs, rfl, hS, ha, hk, r⟩ := r1.dicS
    obtain ⟨kvs, rfl, hkk, rfl⟩ := hk
    exact ⟨a', o, kvs, rfl, ha, q _ H1 x1 (srv_valsK ha hS r)⟩
  · cases hf
theorem si_itm {nm : Str} {ap cp : Pos} (ht : isTupE tg = true) (hn : nm = ("items" : Str)) (hl : (ap.endLine == cp.line) = true) (hc : isSup a = false) (hx : PE X a (tE X.K F false x)) : PI X tg (.Call (.Attribute a nm ap) [] [] cp) (tI X.K F b (.itm x)) := by
  subst hn
  obtain ⟨es, k, p, rfl⟩ := tup_of ht
  refine ⟨fun pins s σ H R I h => ?_⟩
  obtain ⟨S, e, d, ds, hs, hf, hw, q⟩ := h
  unfold ev at hf
  split at hf
  · rename_i l hl'
    cases hf
    cases hw
    refine (pi_items hx (noSup hc _ _) hl).run pins s σ H R I (tE_at hs (Ex.refl H) hl' fun v1 H1 x1 r1 => ?_)
    obtain ⟨a', o, u, vs, rfl, hS, ha, hk, r⟩ := r1.dicS
    obtain ⟨kvs, rfl, hkk, rfl⟩ := hk
    exact ⟨a', o, kvs, rfl, ha, q _ H1 x1 (srv_itemsK ha hS hkk r)⟩
  · cases hf
theorem len_line {s : List Nat} (h : okLen s = true) : (⟨s.toArray⟩ : Str).length ≤ sizeLine := by
  have := okLen_le h
  show s.toArray.size ≤ sizeLine
  rw [List.size_toArray]
  exact Nat.le_trans this (by decide)
theorem srv_revS {A : Ad} {H1 : Hp} {K : PySem.W.Frag} (s : List Nat) : Srv K A b H1 (RvS.ItvS ⟨s.toArray⟩) (s.reverse.map fun c => .str [c]) := by
  refine ⟨fun i H o hi => ?_, fun i H v H' d o hd y => ?_, fun H o => ?_⟩
  · show i < s.toArray.size
    simpa using hi
  · obtain ⟨rfl, c, hc, rfl⟩ := y
    refine ⟨Ex.refl _, ?_⟩
    rw [List.getElem?_map, Option.map_eq_some_iff] at hd
    obtain ⟨c', e, rfl⟩ := hd
    have hi : i < s.length := by
      have := (List.getElem?_eq_some_iff.mp e).1
      simpa using this
    rw [List.getElem?_reverse hi] at e
    have : s[s.length - 1 - i]? = some c := by simpa using hc
    rw [this] at e
    cases e
    exact .str [c]
  · show s.toArray.size ≤ _
    simp
theorem si_rvd (g : GX c F n sc X) {nm : Str} {p1 : Pos} (hn : nm = ("reversed" : Str)) (hgl : glB sc nm = true) (hs : isStar a = false) (hx : PE X a (tE X.K F b x)) : PI X tg (.Call (.Name nm p1) [a] [] p) (tI X.K F b (.rvd x)) := by
  subst hn
  refine ⟨fun pins s σ H R I h => ?_⟩
  obtain ⟨S, e, d, ds, hs', hf, hw, q⟩ := h
  unfold ev at hf
  split at hf
  · rename_i l hl'
    cases hf
    cases hw
    refine (pi_reversed (g.gl hgl) (g.blt _ (by decide +kernel)) (pa_cons hx pa_nil (star_of hs _ _)) (star_of hs _ _)).run pins s σ H R I (tE_at hs' (Ex.refl H) hl' fun v1 H1 x1 r1 => ?_)
    obtain ⟨a', vs, rfl, ha, hA, r⟩ := r1.lst2
    exact ⟨a', vs, rfl, .of ha, q _ H1 x1 (srv_rev ha hA r)⟩
  · rename_i z hl'
    split at hf
    · rename_i ok
      cases hf
      cases hw
      refine (RvS.pi_revS (g.gl hgl) (g.blt _ (by decide +kernel)) hx (star_of hs _ _)).run pins s σ H R I (tE_at hs' (Ex.refl H) hl' fun v1 H1 x1 r1 => ?_)
      exact ⟨_, r1.str, len_line ok, q _ H1 x1 (srv_revS _)⟩
    · cases hf
  · cases hf
end
end Tl

/-! G16: tuple += tuple. -/
namespace HT
open PySem PyProof.Rows
open PySem.SeqAt
open PySem.AutoSeq1 (wpAny_loadPart')
open PySem.MeetsSeq PySem.MeetsSeq2 PySem.MeetsSeq3
theorem noI_tuple_add : typeLookup (.type "tuple") (dunderI "add") = pure none := by rw [typeLookup_type, builtinLookup_eq_fast]; kernel_rfl
section
variable {prog : Program} {w : World} {A : Around} {E : Value → Shared → Prop} {s : Shared}
theorem iconcat_meets {T id : String} {B : Builtin} {a b : Value} {S : PySem.Spec} {Q : Value → Shared → Prop} (ha : s.TypeIs a T) (hb : s.TypeIs b T) (hno : typeLookup (.type T) (dunderI "add") = pure none)
    (hfill : fillsNumberSlot (.type T) "add" = pure false) (hseq : seqSlot? (.type T) "__add__" = pure (some (.builtin id))) (slot : Slot T "__add__" id)
    (entry : entryFor table id = some B) (args : argsOk id ⟨[a, b], []⟩) (g : Meets (B ⟨[a, b], []⟩) S) (h : S A (wants Q E) s) : wpAny (model prog w) A (inplaceOp .Add a b) Q E s :=
  wpAny_inplaceOp_concat ha hb hno hfill hseq (call_meets slot ha entry args g h)
theorem icat_tup {t b : Addr} {vs ws : List Value} {Q : Value → Shared → Prop} (ht : IsTup s.heap t vs.toArray) (hb : IsTup s.heap b ws.toArray) (h0 : vs = [] → Q (.ref b) s)
    (h1 : vs ≠ [] → ws = [] → Q (.ref t) s) (h2 : vs ≠ [] → ws ≠ [] → Q (.ref s.heap.objs.size) { s with heap := s.heap.push { cls := .type "tuple", data := .seq (vs ++ ws).toArray } })
    (hsz : vs.length + ws.length ≤ sizeLine) : wpAny (model prog w) A (inplaceOp .Add (.ref t) (.ref b)) Q E s := by
  obtain ⟨⟨cls, dd, data, sl⟩, ho, hc, n, hd⟩ := id ht
  obtain ⟨⟨cls2, dd2, data2, sl2⟩, ho2, hc2, n2, hd2⟩ := id hb
  simp only at hc hd hc2 hd2
  subst hc hd hc2 hd2
  have e : vs.toArray ++ ws.toArray = (vs ++ ws).toArray := by simp
  by_cases hv : vs = []
  · exact iconcat_meets ⟨_, ho, rfl⟩ ⟨_, ho2, rfl⟩ noI_tuple_add noFill_tuple_add seq_tuple_add PySem.F.slot_tuple_add PySem.F.entry_tuple_add (PySem.F.args_tuple_add_2 _ _)
      (tuple_addW0 t b vs.toArray ws.toArray n n2 dd dd2 sl sl2 (by simp [hv])) ⟨ho, ho2, h0 hv⟩
  by_cases hw : ws = []
  · exact iconcat_meets ⟨_, ho, rfl⟩ ⟨_, ho2, rfl⟩ noI_tuple_add noFill_tuple_add seq_tuple_add PySem.F.slot_tuple_add PySem.F.entry_tuple_add (PySem.F.args_tuple_add_2 _ _)
      (tuple_addW1 t b vs.toArray ws.toArray n n2 dd dd2 sl sl2 (by simpa using hv) (by simp [hw])) ⟨ho, ho2, h1 hv hw⟩
  · refine iconcat_meets ⟨_, ho, rfl⟩ ⟨_, ho2, rfl⟩ noI_tuple_add noFill_tuple_add seq_tuple_add PySem.F.slot_tuple_add PySem.F.entry_tuple_add (PySem.F.args_tuple_add_2 _ _)
      (tuple_addW2 t b vs.toArray ws.toArray n n2 dd dd2 sl sl2 (by simpa using hv) (by simpa using hw) (by rw [List.size_toArray, List.size_toArray]; exact hsz)) ⟨ho, ho2, ?_⟩
    rw [e]
    exact h2 hv hw
end
end HT
namespace L2
open PySem PySem.Spec PyProof.Rows HT
section
variable {X : Cx}
theorem op_icatA : OpR X (inplaceOp .Add) (rCatA X.K) := by
  intro pins s σ H x y v u Q I rx ry h
  obtain ⟨a, b, xs, ys, rfl, rfl, ha, hb, hz, q0, q1, q2⟩ := h
  cases rx
  cases ry
  obtain ⟨its, r1, p1, _⟩ := I.tuple ha
  obtain ⟨its2, r2, p2, _⟩ := I.tuple hb
  refine icat_tup p1 p2 (fun z => ⟨.ref b, H, I, rfl, q0 (r1.nil_iff.mp z)⟩) (fun z0 z => ⟨.ref a, H, I, rfl, q1 (fun w => z0 (r1.nil_iff.mpr w)) (r2.nil_iff.mp z)⟩) (fun z0 z => ?_) (by rw [← r1.length, ← r2.length]; exact hz)
  refine ⟨.ref s.heap.objs.size, _, I.laid (t' := s.toks) (o := .tup (xs ++ ys)) (fun b ob q => Heap.get?_push_of_some _ q) (Nat.le_refl _) ?_, rfl, q2 (fun w => z0 (r1.nil_iff.mpr w)) (fun w => z (r2.nil_iff.mpr w)) _ (I.hok.fresh (Nat.le_refl _))⟩
  exact ⟨by rw [List.length_append]; exact hz, _, r1.append r2, IsTup.new _ _⟩
end
end L2

/-! T10: comprehensions; every expression that the check lets through. -/
namespace Tl
open PySem L2
variable [Tabs]
theorem SR.tr {K : PySem.W.Frag} {S : Ad} {H : Hp} {σ : L2.St} {e : En} (h : SR K S H σ e) : SR K (trS S H) H σ e := by
  refine ⟨h.tab, h.len, fun i => ?_, h.sep⟩
  cases g : eget e i with
  | no => trivial
  | sh d => obtain ⟨v, q, r⟩ := h.sh g; exact ⟨v, q, r.tr⟩
  | ow d => obtain ⟨a, q, n, r⟩ := h.ow g; exact ⟨a, q, fun z => n z.1, r.tr⟩
theorem OW.there {K : PySem.W.Frag} {S : Ad} {H : Hp} {a : Addr} {d : D} (h : OW K S H a d) : H a ≠ none := by
  cases d with
  | lst ds => obtain ⟨vs, q, _⟩ := h; rw [q]; exact fun z => nomatch z
  | dic t ds => obtain ⟨u, vs, q, _⟩ := h; rw [q]; exact fun z => nomatch z
  | _ => exact h.elim
theorem SR.grow {K : PySem.W.Frag} {S S' : Ad} {H : Hp} {σ : L2.St} {e : En} (h : SR K S H σ e) (h1 : ∀ a, S a → S' a) (h2 : ∀ a, S' a → S a ∨ H a = none) : SR K S' H σ e := by
  refine ⟨h.tab, h.len, fun i => ?_, h.sep⟩
  cases g : eget e i with
  | no => trivial
  | sh d => obtain ⟨v, q, r⟩ := h.sh g; exact ⟨v, q, r.mono ((Ex.refl H).le h1)⟩
  | ow d =>
    obtain ⟨a, q, n, r⟩ := h.ow g
    refine ⟨a, q, fun z => ?_, r.mono ((Ex.refl H).le h1) fun _ _ z => z⟩
    rcases h2 a z with z | z
    · exact n z
    · exact r.there z
def tCd (K : PySem.W.Frag) (F : Fn) (g : IE) : TT := match g with
  | .yes => tYes
  | g => tTs K F g
theorem tCd_at {K : PySem.W.Frag} {F : Fn} {g : IE} {S : Ad} {H : Hp} {σ : L2.St} {e : En} {b : Bool} {Q : Bool → Hp → Prop} (hs : SR K S H σ e) (h : ev F g true e = some (.bl b)) (q : ∀ H', Ex H H' → Q b H') : tCd K F g σ H Q := by
  unfold tCd
  split
  · cases h
    exact q H (Ex.refl H)
  · exact ⟨S, e, b, hs, h, q⟩
theorem Ex.mut {H H' : Hp} {p : Addr} {o : HO} (e : Ex H H') (h : H p = none) : Ex H (upd H' p o) := ⟨fun a u n ha => by
  rw [upd_ne (ne_of_none ha h)]
  exact e.to a u n ha, fun a ps ha => by
  rw [upd_ne (ne_of_none ha h)]
  exact e.tb a ps ha⟩
theorem le_mutG {S S' : Ad} {H H' : Hp} {D : Addr} {u o : HO} (x : Ex H H') (hD : H' D = some u) (hu : ∀ xs, u ≠ .tup xs) (hS : ∀ a, S a → S' a ∧ a ≠ D) : Le S H S' (upd H' D o) := by
  refine ⟨fun a h => (hS a h).1, fun a zs h => ?_, fun a zs s h => ?_, fun a zs s h => ?_, fun a o u s h => ?_⟩
  · have hne : a ≠ D := fun z => by
      subst z
      have := x a _ h
      rw [hD] at this
      exact hu _ (Option.some.inj this)
    rw [upd_ne hne]
    exact x a _ h
  · rw [upd_ne (hS a s).2]
    exact x a _ h
  · rcases x.rd h with h | ⟨o, h⟩
    · exact .inl (by rw [upd_ne (hS a s).2]; exact h)
    · exact .inr ⟨o, by rw [upd_ne (hS a s).2]; exact h⟩
  · rw [upd_ne (hS a s).2]
    exact x a _ h
theorem le_mut {S S' : Ad} {H H' : Hp} {D : Addr} {xs ys : List V} (x : Ex H H') (hD : H' D = some (.lst xs)) (hS : ∀ a, S a → S' a ∧ a ≠ D) : Le S H S' (upd H' D (.lst ys)) :=
  le_mutG x hD (fun _ z => nomatch z) hS
theorem wipe_wipe (σ : L2.St) (vs : List Nat) : wipe (wipe σ vs) vs = wipe σ vs := by
  apply List.ext_getElem?
  intro j
  rw [wipe_get, wipe_get, wipe_length]
  split <;> rfl
/-- a list just made, at an address of its own -/
def tF (K : PySem.W.Frag) (F : Fn) (x : IE) : TE := fun σ H Q => ∃ S e ds, SR K S H σ e ∧ ev F x false e = some (.lst ds) ∧ ∀ a vs H', Ex H H' → H a = none → H' a = some (.lst vs) → DRs K (fun b => nw S H b ∧ b ≠ a) H' vs ds → Q (.ref a) H'
theorem tF_of {K : PySem.W.Frag} {F : Fn} {x : IE} {b : Bool} {σ : L2.St} {H : Hp} {Q : VK} (hl : ∀ e d, ev F x false e = some d → ∃ ds, d = .lst ds) (h : tE K F b x σ H Q) : tF K F x σ H Q := by
  obtain ⟨S, e, d, hs, hf, q⟩ := h
  obtain ⟨ds, rfl⟩ := hl e d hf
  exact ⟨S, e, ds, hs, hf, fun a vs H' x1 h1 h2 h3 => q _ H' x1 (.inl (.lst (.inr h1) h2 (h3.mono ((Ex.refl H').le fun _ z => z.1))))⟩
theorem lc_lst {F : Fn} {own : List Nat} {tp : TP} {it g x : IE} (e : En) (d : D) (h : ev F (.lc own tp it g x) false e = some d) : ∃ ds, d = .lst ds := by
  have hf := fin_f h
  split at hf
  · split at hf
    · split at hf
      · split at hf
        · cases hf
          exact ⟨_, rfl⟩
        · cases hf
      · cases hf
    · cases hf
  · cases hf
theorem rd_lcF {K : PySem.W.Frag} {F : Fn} {own : List Nat} {tp : TP} {it g x : IE} {σ : L2.St} {H : Hp} {Q : VK} (hown : ∀ i ∈ tpS tp, i ∈ own) (h : tF K F (.lc own tp it g x) σ H Q) :
    tLc (tI K F true it) (tG K tp) (tCd K F g) (tE K F false x) own σ H Q := by
  obtain ⟨S, e, yy, hs, hf, q⟩ := h
  have hf := fin_f hf
  split at hf
  · rename_i d0 hd0
    split at hf
    · rename_i ds hds
      split at hf
      · rename_i ys hys
        split at hf
        · rename_i hlen
          cases hf
          refine ⟨S, e, d0, ds, hs, hd0, hds, fun J H1 x1 sv => ?_⟩
          intro D hD
          have hHD : H D = none := x1.free hD
          have hS2 : ∀ a, trS (nw S H) H1 a → nw S H a ∧ a ≠ D := fun a z => ⟨z.1, fun w => z.2 (by rw [w]; exact hD)⟩
          have s2 : SR K (trS (nw S H) H1) H1 (wipe σ own) (wipeE e own) := ((hs.grow nw.of fun a z => z).ex x1).tr.wipe own
          have nD : ∀ {H' : Hp}, Ex H1 H' → Ex H H' := fun y => x1.trans y
          refine ⟨fun i m H' => m = ds.length - i ∧ i ≤ ds.length ∧ Ex H1 H' ∧ ∃ acc ys1 ys2, H' D = some (.lst acc) ∧ DRs K (fun a => nw S H a ∧ a ≠ D) H' acc ys1 ∧ lcGo (ev F g true) (ev F x false) tp (wipeE e own) (ds.drop i) = some ys2 ∧ ys1 ++ ys2 = yy,
            ⟨ds.length, rfl, Nat.zero_le _, Ex.new hD, [], [], yy, upd_same, .nil, hys, rfl⟩, ?_⟩
          rintro i m H' ⟨rfl, hi, xe, acc, ys1, ys2, hacc, hr, hgo, hyy⟩
          have ok : Okh (nw S H) true H1 H' := ⟨xe.le fun _ z => z, fun _ => xe⟩
          by_cases hlt : i < ds.length
          · right
            refine ⟨sv.go i H' ok hlt, fun H5 => (i + 1 ≤ ds.length ∧ Ex H1 H5 ∧ ∃ acc ys1 ys2, H5 D = some (.lst acc) ∧ DRs K (fun a => nw S H a ∧ a ≠ D) H5 acc ys1 ∧ lcGo (ev F g true) (ev F x false) tp (wipeE e own) (ds.drop (i + 1)) = some ys2 ∧ ys1 ++ ys2 = yy), fun H5 h5 => ⟨ds.length - (i + 1), by omega, rfl, h5⟩, ?_⟩
            intro v H2 y
            have hd : ds[i]? = some ds[i] := List.getElem?_eq_getElem hlt
            obtain ⟨x2, rv⟩ := sv.yld i H' v H2 ds[i] ok hd y
            rw [List.drop_eq_getElem_cons hlt] at hgo
            unfold lcGo at hgo
            split at hgo
            · cases hgo
            · rename_i e1 he1
              refine ⟨_, _, _, e1, s2.ex (xe.trans x2), rv, he1, fun σ2 s3 hw => ⟨(hw own hown).trans (wipe_wipe σ own), ?_⟩⟩
              split at hgo
              · rename_i hc
                refine tCd_at s3 hc fun H3 x3 => ?_
                rw [if_pos rfl]
                split at hgo
                · rename_i yv hyv
                  split at hgo
                  · rename_i yr hyr
                    cases hgo
                    refine ⟨_, _, yv, s3.ex x3, hyv, fun v2 H4 x4 r4 => ?_⟩
                    have xx : Ex H' H4 := (x2.trans x3).trans x4
                    have hD4 : H4 D = some (.lst acc) := xx D _ hacc
                    have hD3 : H3 D ≠ none := by rw [(x2.trans x3) D _ hacc]; exact fun z => nomatch z
                    refine ⟨acc, hD4, ?_, hlt, (xe.trans xx).mut hD, acc ++ [v2], ys1 ++ [yv], yr, upd_same, ?_, hyr, by simpa using hyy⟩
                    · have l1 := okLen_le hlen
                      rw [← hyy, List.length_append] at l1
                      rw [hr.length]
                      exact szLt (by omega)
                    · refine DRs.append (hr.mono (le_mut xx hD4 fun a z => ⟨z, z.2⟩)) (.cons (r4.f.mono (le_mut (Ex.refl H4) hD4 fun a z => ?_)) .nil)
                      rcases z with z | z
                      · exact ⟨hS2 a z, (hS2 a z).2⟩
                      · have hne : a ≠ D := fun w => hD3 (by rw [← w]; exact z)
                        exact ⟨⟨.inr (x1.free (xe.free (x2.free (x3.free z)))), hne⟩, hne⟩
                  · cases hgo
                · cases hgo
              · rename_i hc
                refine tCd_at s3 hc fun H3 x3 => ?_
                rw [if_neg Bool.false_ne_true]
                have xx : Ex H' H3 := x2.trans x3
                exact ⟨hlt, xe.trans xx, acc, ys1, ys2, xx D _ hacc, hr.mono (xx.le fun _ z => z), hgo, hyy⟩
              · cases hgo
          · left
            have ei : i = ds.length := by omega
            subst ei
            rw [List.drop_length] at hgo
            cases hgo
            rw [List.append_nil] at hyy
            subst hyy
            exact ⟨sv.stop H' ok, q D acc H' (nD xe) hHD hacc hr⟩
        · cases hf
      · cases hf
    · cases hf
  · cases hf
theorem rd_lc {K : PySem.W.Frag} {F : Fn} {own : List Nat} {tp : TP} {it g x : IE} {b : Bool} {σ : L2.St} {H : Hp} {Q : VK} (hown : ∀ i ∈ tpS tp, i ∈ own) (h : tE K F b (.lc own tp it g x) σ H Q) :
    tLc (tI K F true it) (tG K tp) (tCd K F g) (tE K F false x) own σ H Q := rd_lcF hown (tF_of lc_lst h)
/-! ### two clauses -/
theorem eset_ow0 {e : En} {i j : Nat} {d d' : D} (g : eget (eset e i (.sh d)) j = .ow d') : j ≠ i ∧ eget e j = .ow d' := by
  by_cases hj : i = j
  · subst hj
    by_cases hi : i < e.length
    · rw [eget_same hi] at g; cases g
    · have : eget (eset e i (.sh d)) i ≠ .no := by rw [g]; exact fun z => nomatch z
      exact absurd (by rw [← eset_len e i (.sh d)]; exact eget_lt this) hi
  · rw [eget_ne hj] at g
    exact ⟨fun z => hj z.symm, g⟩
theorem bind_ow0 : ∀ {tp : TP} {d : D} {e e' : En}, bindT tp d e = some e' → ∀ j d', eget e' j = .ow d' → j ∉ tpS tp ∧ eget e j = .ow d'
  | .one i, d, e, e', h, j, d', g => by
    cases h
    obtain ⟨h1, h2⟩ := eset_ow0 g
    exact ⟨by simp [tpS, h1], h2⟩
  | .tn, d, e, e', h, j, d', g => by
    cases d with
    | tup l => cases l with
      | nil => cases h; exact ⟨by simp [tpS], g⟩
      | cons _ _ => cases h
    | _ => cases h
  | .tc p ps, d, e, e', h, j, d', g => by
    cases d with
    | tup l => cases l with
      | nil => cases h
      | cons d ds =>
        unfold bindT at h
        split at h
        · rename_i e1 he1
          obtain ⟨h1, h2⟩ := bind_ow0 h j d' g
          obtain ⟨h3, h4⟩ := bind_ow0 he1 j d' h2
          exact ⟨by simp only [tpS, List.mem_append, not_or]; exact ⟨h3, h1⟩, h4⟩
        · cases h
    | _ => cases h
theorem wipe_at0 {σ σ' : L2.St} {vs : List Nat} {j : Nat} (h : wipe σ' vs = wipe σ vs) (hj : j ∉ vs) : σ'[j]? = σ[j]? := by
  have := congrArg (fun z : L2.St => z[j]?) h
  simp only [wipe_get] at this
  rw [if_neg (fun z => hj z.1), if_neg (fun z => hj z.1)] at this
  exact this
/-- all but D stands -/
structure ExB (D : Addr) (H H' : Hp) : Prop where
  to : ∀ a o, a ≠ D → isTb o = false → H a = some o → H' a = some o
  tb : ∀ a ps, a ≠ D → H a = some (.tbl ps) → ∃ ps', H' a = some (.tbl ps') ∧ (TriplesOk ps.toList → TriplesOk ps'.toList)
theorem Ex.b {H H' : Hp} (x : Ex H H') (D : Addr) : ExB D H H' := ⟨fun a o _ n h => x.to a o n h, fun a ps _ h => x.tb a ps h⟩
theorem ExB.trans {D : Addr} {H H1 H2 : Hp} (x : ExB D H H1) (y : ExB D H1 H2) : ExB D H H2 := ⟨fun a o n m h => y.to a o n m (x.to a o n m h), fun a ps n h => by
  obtain ⟨p1, h1, t1⟩ := x.tb a ps n h
  obtain ⟨p2, h2, t2⟩ := y.tb a p1 n h1
  exact ⟨p2, h2, fun z => t2 (t1 z)⟩⟩
theorem ExB.upd {D : Addr} {H H' : Hp} {o : HO} (x : ExB D H H') : ExB D H (upd H' D o) := ⟨fun a u n m h => by
  rw [upd_ne n]
  exact x.to a u n m h, fun a ps n h => by
  rw [upd_ne n]
  exact x.tb a ps n h⟩
theorem ExB.tab {D : Addr} {H H' : Hp} (x : ExB D H H') (h : HasT H) (hD : ∀ ps, H D ≠ some (.tbl ps)) : HasT H' := fun P hP => by
  obtain ⟨ps, e, t⟩ := h P hP
  obtain ⟨p2, e2, t2⟩ := x.tb P ps (fun z => by subst z; exact hD ps e) e
  exact ⟨p2, e2, t2 t⟩
theorem ExB.le {D : Addr} {S S' : Ad} {H H' : Hp} {xs : List V} (x : ExB D H H') (hD : H D = some (.lst xs)) (hS : ∀ a, S a → S' a ∧ a ≠ D) : Le S H S' H' := by
  refine ⟨fun a h => (hS a h).1, fun a zs h => ?_, fun a zs s h => x.to a _ (hS a s).2 rfl h, fun a zs s h => ?_, fun a o u s h => x.to a _ (hS a s).2 rfl h⟩
  · have hne : a ≠ D := fun z => by
      subst z
      rw [hD] at h; cases h
    exact x.to a _ hne rfl h
  · rcases h with h | ⟨o, h⟩
    · exact .inl (x.to a _ (hS a s).2 rfl h)
    · exact .inr ⟨o, x.to a _ (hS a s).2 rfl h⟩
theorem SR.keep {K : PySem.W.Frag} {S : Ad} {H H' : Hp} {σ : L2.St} {e : En} (h : SR K S H σ e) (t : HasT H') (l : Le S H S H') (o : ∀ i d a, eget e i = .ow d → σ[i]? = some (some (.ref a)) → ∀ u, isTb u = false → H a = some u → H' a = some u) : SR K S H' σ e := by
  refine ⟨t, h.len, fun i => ?_, h.sep⟩
  cases g : eget e i with
  | no => trivial
  | sh d => obtain ⟨v, q, r⟩ := h.sh g; exact ⟨v, q, r.mono l⟩
  | ow d => obtain ⟨a, q, n, r⟩ := h.ow g; exact ⟨a, q, n, r.mono l (o i d a g q)⟩
theorem lc2_lst {F : Fn} {own own1 : List Nat} {tp tp1 : TP} {it it1 g x : IE} (e : En) (d : D) (h : ev F (.lc2 own own1 tp tp1 it it1 g x) false e = some d) : ∃ ds, d = .lst ds := by
  have hf := fin_f h
  split at hf
  · split at hf
    · split at hf
      · split at hf
        · cases hf
          exact ⟨_, rfl⟩
        · cases hf
      · cases hf
    · cases hf
  · cases hf
theorem rd_lc2F {K : PySem.W.Frag} {F : Fn} {own own1 : List Nat} {tp tp1 : TP} {it it1 g x : IE} {σ : L2.St} {H : Hp} {Q : VK} (hown : ∀ i ∈ tpS tp, i ∈ own) (hown1 : ∀ i ∈ tpS tp1, i ∈ own1) (h : tF K F (.lc2 own own1 tp tp1 it it1 g x) σ H Q) :
    tLc2 (tI K F true it) (tG K tp) tYes (tI K F false it1) (tG K tp1) (tCd K F g) (tE K F false x) own own1 σ H Q := by
  obtain ⟨S, e, yy, hs, hf, q⟩ := h
  have hf := fin_f hf
  split at hf
  · rename_i d0 hd0
    split at hf
    · rename_i ds hds
      split at hf
      · rename_i ys hys
        split at hf
        · rename_i hlen
          cases hf
          refine ⟨S, e, d0, ds, hs, hd0, hds, fun J H1 x1 sv => ?_⟩
          intro D hD
          have hHD : H D = none := x1.free hD
          have hS2 : ∀ a, trS (nw S H) H1 a → nw S H a ∧ a ≠ D := fun a z => ⟨z.1, fun w => z.2 (by rw [w]; exact hD)⟩
          have s2 : SR K (trS (nw S H) H1) H1 (wipe σ own) (wipeE e own) := ((hs.grow nw.of fun a z => z).ex x1).tr.wipe own
          have nD : ∀ {H' : Hp}, Ex H1 H' → Ex H H' := fun y => x1.trans y
          refine ⟨fun i m H' => m = ds.length - i ∧ i ≤ ds.length ∧ Ex H1 H' ∧ ∃ acc ys1 ys2, H' D = some (.lst acc) ∧ DRs K (fun a => nw S H a ∧ a ≠ D) H' acc ys1 ∧ lc2Go _ tp (wipeE e own) (ds.drop i) = some ys2 ∧ ys1 ++ ys2 = yy,
            ⟨ds.length, rfl, Nat.zero_le _, Ex.new hD, [], [], yy, upd_same, .nil, hys, rfl⟩, ?_⟩
          rintro i m H' ⟨rfl, hi, xe, acc, ys1, ys2, hacc, hr, hgo, hyy⟩
          have ok : Okh (nw S H) true H1 H' := ⟨xe.le fun _ z => z, fun _ => xe⟩
          by_cases hlt : i < ds.length
          · right
            refine ⟨sv.go i H' ok hlt, fun H5 => (i + 1 ≤ ds.length ∧ Ex H1 H5 ∧ ∃ acc ys1 ys2, H5 D = some (.lst acc) ∧ DRs K (fun a => nw S H a ∧ a ≠ D) H5 acc ys1 ∧ lc2Go _ tp (wipeE e own) (ds.drop (i + 1)) = some ys2 ∧ ys1 ++ ys2 = yy), fun H5 h5 => ⟨ds.length - (i + 1), by omega, rfl, h5⟩, ?_⟩
            intro v H2 y
            have hd : ds[i]? = some ds[i] := List.getElem?_eq_getElem hlt
            obtain ⟨x2, rv⟩ := sv.yld i H' v H2 ds[i] ok hd y
            rw [List.drop_eq_getElem_cons hlt] at hgo
            unfold lc2Go at hgo
            split at hgo
            · cases hgo
            · rename_i e1 he1
              refine ⟨_, _, _, e1, s2.ex (xe.trans x2), rv, he1, fun σ2 s3 hw => ⟨(hw own hown).trans (wipe_wipe σ own), ?_⟩⟩
              dsimp only [tYes]
              rw [if_pos rfl]
              split at hgo
              · rename_i ysIn hin
                split at hgo
                · rename_i zs hzs
                  cases hgo
                  split at hin
                  · rename_i d1 hd1
                    split at hin
                    · rename_i ds1 hds1
                      have hD2 : H2 D = some (.lst acc) := x2 D _ hacc
                      have ow2 : ∀ {j d' a}, eget e1 j = .ow d' → σ2[j]? = some (some (.ref a)) → a ≠ D := fun {j d' a} g1 g2 w => by
                        obtain ⟨n1, g3⟩ := bind_ow0 he1 j d' g1
                        rw [wipe_at0 (hw _ fun _ z => z) n1] at g2
                        obtain ⟨a', q1, _, o1⟩ := s2.ow g3
                        rw [g2] at q1
                        cases q1
                        exact o1.there (by rw [w]; exact hD)
                      refine ⟨_, e1, d1, ds1, s3, hd1, hds1, fun J1 H4 x4 sv1 => ?_⟩
                      have hA : ∀ a, nw (trS (nw S H) H1) H2 a → nw S H a ∧ a ≠ D := fun a z => by
                        rcases z with z | z
                        · exact hS2 a z
                        · exact ⟨.inr (x1.free (xe.free (x2.free z))), fun w => by rw [w, hD2] at z; cases z⟩
                      have hD4 : H4 D = some (.lst acc) := x4 D _ hD2
                      have s4 : SR K (trS (nw (trS (nw S H) H1) H2) H4) H4 (wipe σ2 own1) (wipeE e1 own1) := ((s3.grow nw.of fun a z => z).ex x4).tr.wipe own1
                      refine ⟨fun j k H' => k = ds1.length - j ∧ j ≤ ds1.length ∧ Ex H1 H' ∧ ExB D H4 H' ∧ ∃ acc ysA ysB, H' D = some (.lst acc) ∧ DRs K (fun a => nw S H a ∧ a ≠ D) H' acc ysA ∧ lcGo (ev F g true) (ev F x false) tp1 (wipeE e1 own1) (ds1.drop j) = some ysB ∧ ysA ++ (ysB ++ zs) = yy,
                        ⟨ds1.length, rfl, Nat.zero_le _, (xe.trans x2).trans x4, (Ex.refl H4).b D, acc, ys1, ysIn, hD4, hr.mono ((x2.trans x4).le fun _ z => z), hin, by rw [← hyy]⟩, ?_⟩
                      rintro j k H5 ⟨rfl, hj, xe5, xb5, acc5, ysA, ysB, hacc5, hr5, hgo5, hyy5⟩
                      have le5 : Le (nw (trS (nw S H) H1) H2) H4 (nw (trS (nw S H) H1) H2) H5 := xb5.le hD4 fun a z => ⟨z, (hA a z).2⟩
                      have ok1 : Okh (nw (trS (nw S H) H1) H2) false H4 H5 := ⟨le5, fun z => by cases z⟩
                      by_cases hlt1 : j < ds1.length
                      · right
                        refine ⟨sv1.go j H5 ok1 hlt1, fun H6 => (j + 1 ≤ ds1.length ∧ Ex H1 H6 ∧ ExB D H4 H6 ∧ ∃ acc ysA ysB, H6 D = some (.lst acc) ∧ DRs K (fun a => nw S H a ∧ a ≠ D) H6 acc ysA ∧ lcGo (ev F g true) (ev F x false) tp1 (wipeE e1 own1) (ds1.drop (j + 1)) = some ysB ∧ ysA ++ (ysB ++ zs) = yy), fun H6 h6 => ⟨ds1.length - (j + 1), by omega, rfl, h6⟩, ?_⟩
                        intro v1 H6 y1
                        have hd' : ds1[j]? = some ds1[j] := List.getElem?_eq_getElem hlt1
                        obtain ⟨x6, rv1⟩ := sv1.yld j H5 v1 H6 ds1[j] ok1 hd' y1
                        rw [List.drop_eq_getElem_cons hlt1] at hgo5
                        unfold lcGo at hgo5
                        split at hgo5
                        · cases hgo5
                        · rename_i e3 he3
                          have s5 : SR K (trS (nw (trS (nw S H) H1) H2) H4) H5 (wipe σ2 own1) (wipeE e1 own1) := by
                            refine s4.keep (xb5.tab s4.tab fun ps z => by rw [hD4] at z; cases z) (xb5.le hD4 fun a z => ⟨z, (hA a z.1).2⟩) fun i' d' a g1 g2 u n hu => xb5.to a u (fun w => ?_) n hu
                            rw [wipeE_get] at g1
                            split at g1
                            · cases g1
                            · rename_i hn
                              rw [wipe_get] at g2
                              split at g2
                              · cases g2
                              · exact ow2 g1 g2 w
                          refine ⟨_, _, _, e3, s5.ex x6, rv1, he3, fun σ3 s6 hw3 => ⟨(hw3 own1 hown1).trans (wipe_wipe σ2 own1), ?_⟩⟩
                          split at hgo5
                          · rename_i hc
                            refine tCd_at s6 hc fun H7 x7 => ?_
                            rw [if_pos rfl]
                            split at hgo5
                            · rename_i yv hyv
                              split at hgo5
                              · rename_i yr hyr
                                cases hgo5
                                refine ⟨_, _, yv, s6.ex x7, hyv, fun v2 H8 x8 r8 => ?_⟩
                                have xx : Ex H5 H8 := (x6.trans x7).trans x8
                                have hD8 : H8 D = some (.lst acc5) := xx D _ hacc5
                                have hD7 : H7 D ≠ none := by rw [(x6.trans x7) D _ hacc5]; exact fun z => nomatch z
                                refine ⟨acc5, hD8, ?_, hlt1, (xe5.trans xx).mut hD, (xb5.trans (xx.b D)).upd, acc5 ++ [v2], ysA ++ [yv], yr, upd_same, ?_, hyr, by rw [← hyy5]; simp⟩
                                · have l1 := okLen_le hlen
                                  rw [← hyy5] at l1
                                  simp only [List.length_append, List.length_cons] at l1
                                  rw [hr5.length]
                                  exact szLt (by omega)
                                · refine DRs.append (hr5.mono (le_mut xx hD8 fun a z => ⟨z, z.2⟩)) (.cons (r8.f.mono (le_mut (Ex.refl H8) hD8 fun a z => ?_)) .nil)
                                  rcases z with z | z
                                  · exact ⟨hA a z.1, (hA a z.1).2⟩
                                  · have hne : a ≠ D := fun w => hD7 (by rw [← w]; exact z)
                                    exact ⟨⟨.inr (x1.free (xe5.free (x6.free (x7.free z)))), hne⟩, hne⟩
                              · cases hgo5
                            · cases hgo5
                          · rename_i hc
                            refine tCd_at s6 hc fun H7 x7 => ?_
                            rw [if_neg Bool.false_ne_true]
                            have xx : Ex H5 H7 := x6.trans x7
                            exact ⟨hlt1, xe5.trans xx, xb5.trans (xx.b D), acc5, ysA, ysB, xx D _ hacc5, hr5.mono (xx.le fun _ z => z), hgo5, hyy5⟩
                          · cases hgo5
                      · left
                        have ej : j = ds1.length := by omega
                        subst ej
                        rw [List.drop_length] at hgo5
                        cases hgo5
                        exact ⟨sv1.stop H5 ok1, hlt, xe5, acc5, ysA, zs, hacc5, hr5, hzs, by simpa using hyy5⟩
                    · cases hin
                  · cases hin
                · cases hgo
              · cases hgo
          · left
            have ei : i = ds.length := by omega
            subst ei
            rw [List.drop_length] at hgo
            cases hgo
            rw [List.append_nil] at hyy
            subst hyy
            exact ⟨sv.stop H' ok, q D acc H' (nD xe) hHD hacc hr⟩
        · cases hf
      · cases hf
    · cases hf
  · cases hf
theorem rd_lc2 {K : PySem.W.Frag} {F : Fn} {own own1 : List Nat} {tp tp1 : TP} {it it1 g x : IE} {b : Bool} {σ : L2.St} {H : Hp} {Q : VK} (hown : ∀ i ∈ tpS tp, i ∈ own) (hown1 : ∀ i ∈ tpS tp1, i ∈ own1) (h : tE K F b (.lc2 own own1 tp tp1 it it1 g x) σ H Q) :
    tLc2 (tI K F true it) (tG K tp) tYes (tI K F false it1) (tG K tp1) (tCd K F g) (tE K F false x) own own1 σ H Q := rd_lc2F hown hown1 (tF_of lc2_lst h)
end Tl

/-! H03: a dict of one's own, locked for an expression; displays; sorted(d), list(d); ranges with a step. -/
namespace Tl
open PySem L2
theorem each_ix {α : Type} {R : Value → α → Prop} : ∀ {us : List Value} {bs : List α}, us.length = bs.length → (∀ (j : Nat) (v : Value) (k : α), us[j]? = some v → bs[j]? = some k → R v k) → PySem.W.EachIs R us bs
  | [], [], _, _ => .nil
  | [], _ :: _, h, _ => by simp at h
  | _ :: _, [], h, _ => by simp at h
  | u :: us, b :: bs, h, f => .cons (f 0 u b rfl rfl) (each_ix (by simpa using h) fun j v k e1 e2 => f (j + 1) v k (by simpa using e1) (by simpa using e2))
theorem vals_each : ∀ {us : List Value} {ks : List Key}, PySem.W.EachIs (fun (v : Value) (k : Key) => RelV (kV k) v) us ks → Vals (ks.map kV) us
  | _, _, .nil => .nil
  | _, _, .cons h t => .cons h (vals_each t)
section
variable {K : PySem.W.Frag}
mutual
/-- what holds no dict stands when the lock is off -/
theorem offD {S S' : Ad} {H : Hp} {d : Addr} {od : Obj} {u : HO} (h1 : H d = some (.frz od u)) (hu : ∀ xs, u ≠ .lst xs) (hS : ∀ a, S' a → S a ∨ a = d) : ∀ (x : D) {w : V}, noDic x = true → DR K S' H w x → DR K S (upd H d u) w x
  | .non, _, _, h => by cases h; exact .non
  | .bl _, _, _, h => by cases h; exact .bl _
  | .int _, _, _, h => by cases h; exact .int _
  | .str _, _, _, h => by cases h; exact .str _
  | .tup l, _, n, h => by
    cases h with
    | tup h r => exact .tup (by rw [upd_ne (fun z => by subst z; rw [h1] at h; cases h)]; exact h) (offDs h1 hu hS l (by unfold noDic at n; exact n) r)
  | .lst l, _, n, h => by
    cases h with
    | @lst a _ _ s h r =>
      have hne : a ≠ d := fun z => by subst z; rw [h1] at h; cases h
      refine .lst ?_ (by rw [upd_ne hne]; exact h) (offDs h1 hu hS l (by unfold noDic at n; exact n) r)
      rcases hS a s with z | z
      · exact z
      · exact (hne z).elim
  | .ro l, _, n, h => by
    cases h with
    | @ro a _ _ h r =>
      refine .ro ?_ (offDs h1 hu hS l (by unfold noDic at n; exact n) r)
      rcases h with ⟨s, h⟩ | h
      · have hne : a ≠ d := fun z => by
          subst z
          rcases h with h | ⟨o, h⟩
          · rw [h1] at h; cases h
          · rw [h1] at h; cases h; exact hu _ rfl
        refine .inl ⟨?_, by rcases h with h | ⟨o, h⟩; exact .inl (by rw [upd_ne hne]; exact h); exact .inr ⟨o, by rw [upd_ne hne]; exact h⟩⟩
        rcases hS a s with z | z
        · exact z
        · exact (hne z).elim
      · exact .inr h
  | .dic _ _, _, n, _ => by unfold noDic at n; cases n
  | .st _, _, _, h => by cases h
  | .fn _, _, _, h => by cases h
theorem offDs {S S' : Ad} {H : Hp} {d : Addr} {od : Obj} {u : HO} (h1 : H d = some (.frz od u)) (hu : ∀ xs, u ≠ .lst xs) (hS : ∀ a, S' a → S a ∨ a = d) : ∀ (x : List D) {w : List V}, noDics x = true → DRs K S' H w x → DRs K S (upd H d u) w x
  | [], _, _, h => by cases h; exact .nil
  | x :: xs, _, n, h => by
    unfold noDics at n
    rw [Bool.and_eq_true] at n
    cases h with
    | cons a b => exact .cons (offD h1 hu hS x n.1 a) (offDs h1 hu hS xs n.2 b)
end
end
section
variable [Tabs] {c : CC} {F : Fn} {n : Nat} {sc : Scope} {X : Cx} {a a2 a3 tg : Expr} {x y z k : IE} {p : Pos} {b : Bool} {es : List Expr}
theorem SR.lock {K : PySem.W.Frag} {S : Ad} {H : Hp} {σ : L2.St} {e : En} (h : SR K S H σ e) {i : Nat} {t : Bool} {l : List (D × D)} {ad : Addr} {u : HO} {vs : List V} {od : Obj} (g : eget e i = .ow (.dic t l)) (e1 : σ[i]? = some (some (.ref ad))) (h1 : H ad = some u) (hk : DK t u (l.map Prod.fst) vs) (r : DRs K S H vs (l.map Prod.snd)) :
    SR K (fun a => S a ∨ a = ad) (upd H ad (.frz od u)) σ (eset e i (.sh (.dic t l))) := by
  have hm := hk.mut
  have hl : ∀ xs, u ≠ .lst xs := fun xs z => hk.nlst z
  have le : Le S (upd H ad (.frz od u)) (fun a => S a ∨ a = ad) (upd H ad (.frz od u)) := (Ex.refl _).le fun a z => .inl z
  have hi : i < e.length := eget_lt (by rw [g]; exact fun z => nomatch z)
  refine ⟨h.tab.upd (fun ps z => by rw [h1] at z; cases z; exact nomatch hk.ntbl), by rw [eset_len]; exact h.len, fun j => ?_, fun j k d1 d2 b g1 g2 e1' e2' => ?_⟩
  · by_cases hj : i = j
    · subst hj
      rw [eget_same hi]
      exact ⟨.ref ad, e1, .dic (.inr rfl) upd_same hk ((keepDs h1 hm hl r).mono le)⟩
    · rw [eget_ne hj]
      cases g2 : eget e j with
      | no => trivial
      | sh d' =>
        obtain ⟨v, q, r⟩ := h.sh g2
        exact ⟨v, q, (keepD h1 hm hl r).mono le⟩
      | ow d' =>
        obtain ⟨b, q, nb, o'⟩ := h.ow g2
        have hne : b ≠ ad := fun w => by
          subst w
          exact hj (h.sep i j _ d' b g g2 e1 q)
        refine ⟨b, q, fun z => ?_, ?_⟩
        · rcases z with z | z
          · exact nb z
          · exact hne z
        · cases d' with
          | lst l =>
            obtain ⟨vs, q1, q2⟩ := o'
            exact ⟨vs, by rw [upd_ne hne]; exact q1, (keepDs h1 hm hl q2).mono le⟩
          | dic t2 l2 =>
            obtain ⟨u2, vs, q1, q2, q3⟩ := o'
            exact ⟨u2, vs, by rw [upd_ne hne]; exact q1, q2, (keepDs h1 hm hl q3).mono le⟩
          | _ => exact o'.elim
  · obtain ⟨_, g1⟩ := eset_ow0 g1
    obtain ⟨_, g2⟩ := eset_ow0 g2
    exact h.sep j k d1 d2 b g1 g2 e1' e2'
theorem rd_lck {i : Nat} {σ : L2.St} {H : Hp} {Q : VK} (h : tE X.K F b (.lck i x) σ H Q) : tLockE (tE X.K F b x) σ H Q := by
  obtain ⟨S, e, d, hs, hf, q⟩ := h
  unfold ev at hf
  split at hf
  · rename_i tt l hg
    split at hf
    · rename_i d' hd
      split at hf
      · rename_i hn
        cases hf
        obtain ⟨ad, e1, nS, u, vs, h1, hk, r⟩ := hs.ow hg
        refine ⟨ad, u, h1, hk.mut, fun od => ?_⟩
        have srl := hs.lock (od := od) hg e1 h1 hk r
        refine ⟨_, _, d, srl, hd, fun v H' x' r' => ?_⟩
        have hfz : H' ad = some (.frz od u) := x'.to ad _ rfl upd_same
        have hl : ∀ xs, u ≠ .lst xs := fun xs z => hk.nlst z
        have hS : ∀ a, nw (fun a => S a ∨ a = ad) (upd H ad (.frz od u)) a → nw S H a ∨ a = ad := fun a z => by
          rcases z with (z | z) | z
          · exact .inl (.inl z)
          · exact .inr z
          · by_cases hne : a = ad
            · exact .inr hne
            · rw [upd_ne hne] at z
              exact .inl (.inr z)
        refine ⟨hfz, q v _ ?_ ?_⟩
        · refine ⟨fun a o hb e => ?_, fun a ps e => ?_⟩
          · by_cases hne : a = ad
            · subst hne
              rw [h1] at e
              cases e
              exact upd_same
            · rw [upd_ne hne]
              exact x'.to a o hb (by rw [upd_ne hne]; exact e)
          · have hne : a ≠ ad := fun z => by subst z; rw [h1] at e; cases e; exact nomatch hk.ntbl
            rw [upd_ne hne]
            exact x'.tb a ps (by rw [upd_ne hne]; exact e)
        · rcases r' with r' | ⟨hb, a', rfl, r'⟩
          · exact .inl (offD hfz hl hS d hn r')
          · refine .inr ⟨hb, a', rfl, ?_⟩
            cases d with
            | lst ds =>
              obtain ⟨vs, q1, q2⟩ := r'
              have hne : a' ≠ ad := fun z => by subst z; rw [hfz] at q1; cases q1
              exact ⟨vs, by rw [upd_ne hne]; exact q1, offDs hfz hl hS ds (by unfold noDic at hn; exact hn) q2⟩
            | dic _ _ => unfold noDic at hn; cases hn
            | _ => exact r'.elim
      · cases hf
    · cases hf
  · cases hf
theorem se_lck {i : Nat} (hx : PE X a (tE X.K F b x)) : PE X a (tE X.K F b (.lck i x)) := pe_imp (pe_lock hx) fun σ H Q => rd_lck
end
section
variable [Tabs] {c : CC} {F : Fn} {n : Nat} {sc : Scope} {X : Cx} {a a2 a3 tg : Expr} {x y z k : IE} {p : Pos} {b : Bool} {es : List Expr}
/-! ### a display of one entry -/
theorem se_dsp (g : GX c F n sc X) (hk : PE X a (tE X.K F true k)) (hv : PE X a2 (tE X.K F false y)) : PE X (.Dict [some a] [a2] p) (tE X.K F b (.dsp k y)) := by
  refine pe_imp (pe_frz (pe_disp (pps_cons hk hv pps_nil) rfl rfl (fun z => nomatch z) (by simp))) ?_
  rintro σ H Q ⟨S, e, d, hs, hf, q⟩ p hp
  unfold ev at hf
  split at hf
  · rename_i kd vd h1 h2
    split at hf
    · rename_i hkt
      cases hf
      have x0 : Ex H (upd H p (.dK [])) := Ex.new hp
      refine tE_at hs x0 h1 fun v1 H1 x1 r1 => tE_at hs (x0.trans x1) h2 fun v2 H2 x2 r2 => ?_
      have hp2 : H2 p = some (.dK []) := x2 p _ (x1 p _ upd_same)
      have hi : isKey kd = true := by cases kd <;> first | rfl | (unfold keyT at hkt; simp at hkt)
      obtain ⟨kk, rfl⟩ := key_of_D hi
      have hxv : v1 = kV kk := by
        cases kk with
        | inl i => exact r1.int
        | inr z =>
          have := DV.str (s := z.cps.toList) r1
          rw [this]
          show V.str ⟨z.cps.toList.toArray⟩ = V.str z
          cases z
          simp
      subst hxv
      refine ⟨hp2, [(kk, v2)], rfl, by simp, p, _, rfl, upd_same, True.intro, fun od => ?_⟩
      have em : mergeK [] [(kk, v2)] = [(kk, v2)] := rfl
      have r3 : DR X.K (nw S H) H2 v2 vd := r2.f
      have xx : Ex H (upd H2 p (.dK [(kk, v2)])) := ((x0.trans x1).trans x2).mut hp
      have r4 : DRs X.K (nw S H) (upd H2 p (.dK [(kk, v2)])) [v2] [vd] := .cons (keepD hp2 True.intro (fun _ z => nomatch z) r3) .nil
      obtain ⟨e1, e2⟩ := dic_new (S := S) (b := b) (od := od) (l := [(kD kk, vd)]) (t := false) hp xx upd_same ⟨[(kk, v2)], rfl, rfl, rfl⟩ r4
      rw [em]
      exact q _ _ e1 e2
    · cases hf
  · cases hf
/-! ### list(d), sorted(d) -/
theorem se_dls (g : GX c F n sc X) {nm : Str} {p1 : Pos} (hn : nm = ("list" : Str)) (hgl : glB sc nm = true) (hs : isStar a = false) (hx : PE X a (tE X.K F true x)) : PE X (.Call (.Name nm p1) [a] [] p) (tE X.K F b (.dls x)) := by
  have hst : ∀ e' ∈ [a], isStar e' = false := by intro e' he; simp at he; subst he; exact hs
  obtain ⟨h1, h2⟩ := plainArgs (X := X) (p := p) hst rfl
  subst hn
  have o := bi_odd .list
  refine pe_imp (pe_callTy (call_listD g.calm) (g.gl hgl) (g.blt _ (by decide +kernel)) (boot_bi .list) (pa_cons hx pa_nil (star_of hs _ _)) o.2 o.1 h1 h2) ?_
  rintro σ H Q ⟨S, e, d, hs', hf, q⟩
  have hf := fin_f hf
  split at hf
  · rename_i l hl
    cases hf
    refine tE_at hs' (Ex.refl H) hl fun v1 H1 x1 r1 => ?_
    obtain ⟨ad, u, vs, rfl, hr, hk, r⟩ := r1.dic
    obtain ⟨kvs, rfl, hkk, rfl⟩ := hk
    refine ⟨ad, kvs, rfl, hr, fun p hp => q _ _ (x1.trans (Ex.new hp)) (.inl (.lst (.inr (x1.free hp)) upd_same ?_))⟩
    rw [hkk]
    have := drKeys (K := X.K) (S := nw S H) (H := upd H1 p (.lst (kvs.map fun kv => kV kv.1))) (kvs.map (·.1))
    rw [List.map_map, List.map_map] at this
    exact this
  · cases hf
open PySem.Spec PyProof.Rows in
theorem call_sortedK (hcalm : X.calm = true) (hu : X.A.units + 65 < cLine) : CallR X (.builtin "sorted") (fun xs H Q => ∃ (a : Addr) (kvs : List (Key × V)), xs = [.ref a] ∧ Rd H a (.dK kvs) ∧ kvs.length ≤ 100000 ∧ likeOk (kvs.map fun p => kD p.1) = true ∧
    ∀ (p : Addr) (ks : List Key), ks.map kD = (kvs.map fun p => kD p.1).mergeSort leD → H p = none → Q (.ref p) (upd H p (.lst (ks.map kV)))) := by
  intro pins s σ H xs us Q I r q
  obtain ⟨a, kvs, ex, hd, hz, hlk, q⟩ := q
  subst ex
  obtain ⟨u, eu, rx⟩ := vals1 r
  subst eu
  cases rx
  obtain ⟨z, lo, vs, rel, dd⟩ := dk_rd I.hok hd
  obtain ⟨ep, hat⟩ := dd.dictAt
  have hl : vs.length = kvs.length := rel.length.symm
  have h16 : vs.length ≤ sizeLine := by rw [hl]; exact z
  refine Calls.call_function_entry PyProof.Rows.kind_sorted PyProof.Rows.plain_sorted PyProof.Rows.entry_sorted (PyProof.Rows.args_sorted1 _) ?_
  unfold Builtin.«sorted»
  refine wpAny_bind (m := checkCount "sorted" 1 1 _) (wpAny_pure ?_)
  refine wpAny_bind (PySem.W.kdu_collect (A := X.A.in1) (PySem.W.kdl_dict (knd := mixKind X.prog X.w) (kvs := vs) (ep := ep) lo) (I.ok.hd hcalm) hat h16 fun h' tk acc hk hacc => ?_)
  have hal : acc.toList.length = kvs.length := by rw [Array.length_toList, hacc.1, hl]
  have each : PySem.W.EachIs (fun (v : Value) (k : Key) => RelV (kV k) v) acc.toList (vs.map (·.1)) := by
    refine each_ix (by rw [hal, List.length_map, hl]) fun j v k e1 e2 => ?_
    obtain ⟨k', x, e3, e4⟩ := hacc.2 j v (by rw [← Array.getElem?_toList]; exact e1)
    rw [List.getElem?_map, e3] at e2
    cases e2
    exact relV_key (show keyIs k' v = true from e4)
  have hkeys : (vs.map (·.1)).map kD = kvs.map fun p => kD p.1 := by
    rw [← rel.keys, List.map_map]
    rfl
  have I1 : Inv X pins σ H { s with heap := h', toks := tk } := I.kept hk
  refine wpAny_bind (wpAny_newList ?_ (by rw [hal, sizeLine_eq]; omega))
  have hoL : (h'.push (seqObj "list" acc.toList.toArray 0)).get? h'.objs.size = some (seqObj "list" acc.toList.toArray 0) := Heap.get?_push_size _ rfl
  show wpAny _ _ _ _ _ { s with heap := h'.push (seqObj "list" acc.toList.toArray 0), toks := tk }
  have emap : (vs.map (·.1)).map (fun k => toP (kD k)) = (kvs.map fun p => kD p.1).map toP := by rw [← hkeys, List.map_map, List.map_map, List.map_map]; rfl
  have hlen2 : (vs.map (·.1)).length = kvs.length := by rw [List.length_map, hl]
  refine wpAny_bind (wpAny_holding (PySem.W.list_sort_data (s := { s with heap := h'.push (seqObj "list" acc.toList.toArray 0), toks := tk }) (enc := fun k => toP (kD k)) hoL each ?_ ?_ ?_ (by rw [hlen2]; exact szOf hz) ?_ fun out ho eo => ?_))
  · refine each.mono fun v k rv => ?_
    cases k with
    | inl i => obtain ⟨t, rfl⟩ := (show ∃ t, v = Value.int i t from rv); exact ⟨[], .int i t, fun z => nomatch z⟩
    | inr x =>
      obtain ⟨t, rfl⟩ := (show ∃ t, v = Value.str x t from rv)
      refine ⟨[], ?_, fun z => nomatch z⟩
      have : toP (kD (.inr x)) = .str x := by
        show PyData.str ⟨x.cps.toList.toArray⟩ = _
        cases x
        simp
      show Reads _ _ (toP (kD (.inr x))) _
      rw [this]
      exact .str x t
  · rw [emap]
    intro d hd d' hd'
    obtain ⟨b, hb, rfl⟩ := List.mem_map.mp hd
    obtain ⟨b', hb', rfl⟩ := List.mem_map.mp hd'
    exact like_all hlk hb hb'
  · right
    intro d hd
    obtain ⟨k, hk, rfl⟩ := List.mem_map.mp hd
    cases k with
    | inl i => exact ⟨fun z => (nomatch z), fun xs z => (nomatch z)⟩
    | inr x => exact ⟨fun z => (nomatch z), fun xs z => (nomatch z)⟩
  · intro k hk
    have : (toP (kD k)).depth = 0 := by cases k <;> rfl
    show X.A.in1.units + 1 + (toP (kD k)).depth < cLine
    rw [this]
    have e : X.A.in1.units = X.A.units + 1 := rfl
    omega
  · have em : ((vs.map (·.1)).mergeSort (PySem.W.dataLe false fun k => toP (kD k))).map kD = (kvs.map fun p => kD p.1).mergeSort leD := by
      have := List.map_mergeSort (r := PySem.W.dataLe false fun k : Key => toP (kD k)) (s := leD) (f := kD) (l := vs.map (·.1)) (fun a _ b _ => rfl)
      rw [this, hkeys]
    have hv : Vals (((vs.map (·.1)).mergeSort (PySem.W.dataLe false fun k => toP (kD k))).map kV) out := vals_each eo
    obtain ⟨e', he'⟩ := PyProof.Rows.sortedHeap_at (vs := acc.toList) (out := out.toArray) hoL
    have hlen : (((vs.map (·.1)).mergeSort (PySem.W.dataLe false fun k => toP (kD k))).map kV).length ≤ sizeLine := by
      rw [List.length_map, List.length_mergeSort, hlen2]
      exact z
    refine wpAny_pure ⟨_, rfl, .ref h'.objs.size, upd H h'.objs.size (.lst _), I1.laid (t' := tk) (fun b u e => ?_) (Nat.le_refl _)
      (show ObjOk X.prog X.w _ _ _ (.lst _) from ⟨hlen, out, e', hv, he'⟩), rfl, q _ _ em (I1.hok.fresh (Nat.le_refl _))⟩
    have hb : b < h'.objs.size := Heap.lt_size e
    rw [PyProof.Rows.sortedHeap_old (Nat.ne_of_lt hb) (by rw [size_push']; exact Nat.lt_succ_of_lt hb)]
    exact Heap.get?_push_of_some _ e
/-! ### ranges with a step -/
theorem si_rn3 (g : GX c F n sc X) {nm : Str} {p1 : Pos} (hn : nm = ("range" : Str)) (hgl : glB sc nm = true) (hl : es.length = 3) (hst : ∀ e ∈ es, isStar e = false) (hx : PA X es (tAs X.K F false x)) : PI X tg (.Call (.Name nm p1) es [] p) (tI X.K F b (.rn3 x)) := by
  subst hn
  match es, hl, hst, hx with
  | [a, a2, a3], _, hst, hx =>
    obtain ⟨h1, h2⟩ := plainArgs (X := X) (p := p) hst rfl
    refine ⟨fun pins s σ H R I h => ?_⟩
    obtain ⟨S, e, d, ds, hs', hf, hw, q⟩ := h
    unfold ev at hf
    split at hf
    · rename_i l hl'
      unfold rng3D at hf
      split at hf
      · rename_i i j k
        split at hf
        · rename_i hc
          cases hf
          cases hw
          simp only [Bool.and_eq_true, bne_iff_ne, ne_eq] at hc
          obtain ⟨⟨c1, c2⟩, c3⟩ := hc
          refine (pi_range3 (g.gl hgl) (g.blt _ (by decide +kernel)) hx h1 h2).run pins s σ H R I (tA_at hs' (Ex.refl H) hl' fun vs H1 x1 r1 => ?_)
          cases r1 with
          | cons r1 rr => cases rr with
            | cons r2 rr => cases rr with
              | cons r3 rr => cases rr with
                | nil =>
                  refine ⟨i, j, k, _, by rw [r1.int, r2.int, r3.int], ⟨c1, small_of c2, c3, PyProof.Rows.rangeSize_toNat i j k⟩, q _ H1 x1 ?_⟩
                  refine ⟨fun i' H o hi => ?_, fun i' H v H' d o hd y => ?_, fun H o => ?_⟩
                  · show i' < _
                    simpa using hi
                  · obtain ⟨rfl, rfl⟩ := y
                    rw [List.getElem?_map] at hd
                    cases hr : (List.range (PySem.Builtin.Range.rangeSize i j k).toNat)[i']? with
                    | none => rw [hr] at hd; cases hd
                    | some m =>
                      rw [hr] at hd
                      cases hd
                      have : m = i' := by
                        have := List.getElem?_eq_some_iff.mp hr
                        obtain ⟨_, e⟩ := this
                        rw [List.getElem_range] at e
                        exact e.symm
                      subst this
                      exact ⟨Ex.refl _, .int _⟩
                  · show _ ≤ _
                    simp
        · cases hf
      · cases hf
    · cases hf
end
end Tl

/-! H07: {k: v}, k a tuple of ints and texts. -/
namespace Tl
open PySem L2 PySem.Spec
def tDispT (tk tv : TE) : TE := fun σ H Q => ∀ p, H p = none → tk σ (upd H p (.dT [])) fun x H1 => tv σ H1 fun y H2 =>
  H2 p = some (.dT []) ∧ ∃ (b : Addr) (k : List Key), x = .ref b ∧ H2 b = some (.tup (k.map kV)) ∧ Q (.ref p) (upd H2 p (.dT [(k, y)]))
def oneP (R : V → V → Hp → Prop) : List (V × V) → Hp → Prop
  | [(x, y)], H => R x y H
  | _, _ => False
theorem oneP_of {R : V → V → Hp → Prop} {ps : List (V × V)} {H : Hp} (h : oneP R ps H) : ∃ x y, ps = [(x, y)] ∧ R x y H := by
  match ps, h with
  | [(x, y)], h => exact ⟨x, y, rfl, h⟩
theorem pe_dispT {X : Cx} {pos : Pos} {a a2 : Expr} {tk tv : TE} (hu : X.A.units + 1 < cLine) (hk : PE X a tk) (hv : PE X a2 tv) : PE X (.Dict [some a] [a2] pos) (tDispT tk tv) := by
  refine ⟨fun pins s σ H Q inv q => ?_⟩
  have fr := inv.hok.fresh (Nat.le_refl s.heap.objs.size)
  have inv1 := inv.laid (a := s.heap.objs.size) (o := .dT []) (h' := s.heap.push { cls := .type "dict", data := .dict #[] }) (t' := s.toks) (fun _ _ z => Heap.get?_push_of_some _ z) (Nat.le_refl _) (dt_empty s.heap inv.big)
  have pairs1 := pairTrees_length [some a] [a2] X.env pos rfl rfl
  have nn : pairTrees [some a] [a2] X.env pos ≠ [] := fun z => by rw [z] at pairs1; cases pairs1
  have few : (pairTrees [some a] [a2] X.env pos).length ≤ 15 := by rw [pairs1]; exact Nat.le_of_ble_eq_true rfl
  rw [arm_eval_Dict, zip_pairTrees [some a] [a2] X.env pos rfl rfl, dictDisplay_pairs _ nn (by omega)]
  refine wpAny_bind (wpAny_standAt (wpAny_bind (wpAny_subDictH (knd := tupleKind (mixKind X.prog X.w)) (show X.A.units < cLine from Nat.lt_of_succ_lt hu) few ?_)))
  refine wpAny_mono ((pps_cons hk hv pps_nil).run pins _ σ _ (oneP fun x y H2 => H2 s.heap.objs.size = some (.dT []) ∧ ∃ (b : Addr) (k : List Key), x = .ref b ∧ H2 b = some (.tup (k.map kV)) ∧ Q (.ref s.heap.objs.size) (upd H2 s.heap.objs.size (.dT [(k, y)]))) inv1 (q _ fr)) (fun vs s1 hvs => ?_) (fun _ _ e => e)
  obtain ⟨ps, H2, inv2, rel, pq⟩ := hvs
  obtain ⟨x, y, rfl, hp, b, k, rfl, hb, q2⟩ := oneP_of pq
  cases rel with
  | @cons p1 v1 l1 l2 hd tl =>
    cases tl
    obtain ⟨ra, rb⟩ := hd
    obtain ⟨va, vb⟩ := v1
    cases (show va = Value.ref b from ra)
    obtain ⟨h1, h2, es0, hkt, hdict⟩ := dt_of inv2.hok hp
    cases hkt
    refine ⟨[(k, b, vb)], ⟨rfl, rfl, key_of inv2.hok hb, True.intro⟩, hdict, fun h' tok new same => ?_⟩
    refine wpAny_pure ⟨.ref s.heap.objs.size, _, ?_, rfl, q2⟩
    obtain ⟨o, es, ep, ho, e2, e3, e4, _, e5⟩ := new
    have kt : KT H2 [(k, y)] [(k, b, vb)] := .cons ⟨rfl, hb, rb⟩ .nil
    refine d_write inv2 (by rw [hp]; exact True.intro) same ⟨o, ho⟩ ⟨by rw [sizeLine_eq]; exact Nat.le_of_ble_eq_true rfl, h2, _, kt.keeps fun c ys ec => ?_, o, es, ep, ho, e2, e3, e4, e5⟩
    rw [upd_ne (ne_of ec hp (fun z => nomatch z))]
    exact ec
end Tl

/-! H08: sorted(d), d a dict whose keys are tuples. -/
namespace Tl
open PySem L2
def kT (ks : List Key) : D := .tup (ks.map kD)
theorem reads_key {h : Heap} {k : Key} {v : Value} (r : RelV (kV k) v) : Reads h v (toP (kD k)) [] := by
  cases k with
  | inl i => obtain ⟨t, rfl⟩ := (show ∃ t, v = Value.int i t from r); exact .int i t
  | inr x =>
    obtain ⟨t, rfl⟩ := (show ∃ t, v = Value.str x t from r)
    have : toP (kD (.inr x)) = .str x := by
      show PyData.str ⟨x.cps.toList.toArray⟩ = _
      cases x
      simp
    rw [this]
    exact .str x t
theorem reads_keys {h : Heap} : ∀ {ks : List Key} {us : List Value}, Vals (ks.map kV) us → ReadsAll h us (toPs (ks.map kD)) []
  | [], _, .nil => .nil
  | k :: ks, _, .cons a t => by
    have := ReadsAll.cons (reads_key (h := h) a) (reads_keys (h := h) t)
    exact this
theorem depth_key (k : Key) : (toP (kD k)).depth = 0 := by cases k <;> rfl
theorem depth_keys : ∀ ks : List Key, PyData.depthAll (toPs (ks.map kD)) ≤ 0
  | [] => Nat.le_refl _
  | k :: ks => by
    show max (toP (kD k)).depth (PyData.depthAll (toPs (ks.map kD))) ≤ 0
    rw [depth_key]
    have := depth_keys ks
    omega
section
variable {X : Cx}
open PySem.Spec PyProof.Rows in
theorem call_sortedT (hcalm : X.calm = true) (hu : X.A.units + 65 < cLine) : CallR X (.builtin "sorted") (fun xs H Q => ∃ (a : Addr) (kvs : List (List Key × V)), xs = [.ref a] ∧ Rd H a (.dT kvs) ∧ kvs.length ≤ 100000 ∧ likeOk (kvs.map fun p => kT p.1) = true ∧ (kvs.map fun p => kT p.1).all tupNe = true ∧
    ∀ (p : Addr) (L : List (Addr × List Key)), (L.map fun q => kT q.2) = (kvs.map fun p => kT p.1).mergeSort leD → (∀ q ∈ L, H q.1 = some (.tup (q.2.map kV))) → H p = none → Q (.ref p) (upd H p (.lst (L.map fun q => V.ref q.1)))) := by
  intro pins s σ H xs us Q inv r q
  obtain ⟨a, kvs, ex, hd, hz, hlk, hne, q⟩ := q
  subst ex
  obtain ⟨u, eu, rx⟩ := vals1 r
  subst eu
  cases rx
  obtain ⟨z, lo, es0, kt, o, es, ep, ho, hex, hdat, hes, his, hnd⟩ := dt_rd inv.hok hd
  have hl0 : es0.length = kvs.length := (Paired.length kt).symm
  have hsz : es.size = kvs.length := by
    have := congrArg List.length hes
    rw [Array.length_toList, List.length_map, hl0] at this
    exact this
  -- the keys with their addresses
  have ktl : ∀ {l : List (List Key × V)} {m : List (List Key × Addr × Value)}, KT H l m → (m.map fun x => (x.2.1, x.1)).map (fun q => kT q.2) = l.map (fun p => kT p.1) ∧ ∀ q ∈ m.map (fun x => (x.2.1, x.1)), H q.1 = some (.tup (q.2.map kV)) := by
    intro l m w
    induction w with
    | nil => exact ⟨rfl, fun _ h => nomatch h⟩
    | @cons p x ps xs hp t ih =>
      obtain ⟨e1, e2, _⟩ := hp
      refine ⟨by rw [List.map_cons, List.map_cons, List.map_cons, ih.1, e1], fun q hq => ?_⟩
      rcases List.mem_cons.mp hq with rfl | hq
      · show H x.2.1 = some (.tup (x.1.map kV))
        rw [← e1]; exact e2
      · exact ih.2 q hq
  obtain ⟨hkeys, hat⟩ := ktl kt
  have hLl : (es0.map fun x => (x.2.1, x.1)).length = kvs.length := by rw [List.length_map, hl0]
  have hesL : es.toList.map (fun en => en.key) = (es0.map fun x => (x.2.1, x.1)).map fun q => Value.ref q.1 := by
    rw [hes, List.map_map, List.map_map]; rfl
  generalize es0.map (fun x => (x.2.1, x.1)) = L at hkeys hat hLl hesL
  refine Calls.call_function_entry PyProof.Rows.kind_sorted PyProof.Rows.plain_sorted PyProof.Rows.entry_sorted (PyProof.Rows.args_sorted1 _) ?_
  unfold Builtin.«sorted»
  refine wpAny_bind (m := checkCount "sorted" 1 1 _) (wpAny_pure ?_)
  refine wpAny_bind (PySem.W.kdu_collect (A := X.A.in1) (kdl_raw (prog := X.prog) (w := X.w) lo hex hdat) (inv.ok.hd hcalm) ho (by rw [hsz]; exact z) fun h' tk acc hk hacc => ?_)
  have hal : acc.toList.length = L.length := by rw [Array.length_toList, hacc.1, hsz, hLl]
  have each : PySem.W.EachIs (fun (v : Value) (q : Addr × List Key) => v = .ref q.1) acc.toList L := by
    refine each_ix hal fun j v k e1 e2 => ?_
    obtain ⟨en, e3, e4⟩ := hacc.2 j v (by rw [← Array.getElem?_toList]; exact e1)
    have e5 : (es.toList.map fun en => en.key)[j]? = some en.key := by rw [List.getElem?_map, Array.getElem?_toList, e3]; rfl
    rw [hesL, List.getElem?_map, e2] at e5
    have e6 : Value.ref k.1 = en.key := Option.some.inj e5
    rw [e4, ← e6]
  have inv2 : Inv X pins σ H { s with heap := h'.push (seqObj "list" acc.toList.toArray 0), toks := tk } := inv.kept fun b ob e => Heap.get?_push_of_some _ (hk b ob e)
  have inv1 : Inv X pins σ H { s with heap := h', toks := tk } := inv.kept hk
  refine wpAny_bind (wpAny_newList ?_ (by rw [hal, hLl, sizeLine_eq]; omega))
  have hoL : (h'.push (seqObj "list" acc.toList.toArray 0)).get? h'.objs.size = some (seqObj "list" acc.toList.toArray 0) := Heap.get?_push_size _ rfl
  show wpAny _ _ _ _ _ { s with heap := h'.push (seqObj "list" acc.toList.toArray 0), toks := tk }
  have emap : L.map (fun q => toP (kT q.2)) = (kvs.map fun p => kT p.1).map toP := by rw [← hkeys, List.map_map]; rfl
  have rdL : ∀ q ∈ L, Reads (h'.push (seqObj "list" acc.toList.toArray 0)) (.ref q.1) (toP (kT q.2)) [] := fun q hq => by
    obtain ⟨its, rv, ⟨ob, g1, g2, nn, g3⟩, _⟩ := inv2.tuple (.of (hat q hq))
    exact .tuple g1 g2 g3 (reads_keys rv)
  have er : ∀ {us : List Value} {M : List (Addr × List Key)}, (∀ q ∈ M, q ∈ L) → PySem.W.EachIs (fun (v : Value) (q : Addr × List Key) => v = .ref q.1) us M → PySem.W.EachIs (fun (v : Value) (q : Addr × List Key) => ∃ as, Reads (h'.push (seqObj "list" acc.toList.toArray 0)) v (toP (kT q.2)) as ∧ h'.objs.size ∉ as) us M := by
    intro us M hM w
    induction w with
    | nil => exact .nil
    | cons a t ih =>
      refine .cons ?_ (ih fun q hq => hM q (List.mem_cons_of_mem _ hq))
      subst a
      exact ⟨[], rdL _ (hM _ List.mem_cons_self), by simp⟩
  refine wpAny_bind (wpAny_holding (PySem.W.list_sort_data (s := { s with heap := h'.push (seqObj "list" acc.toList.toArray 0), toks := tk }) (enc := fun q => toP (kT q.2)) hoL each (er (fun _ h => h) each) ?_ ?_ (by rw [hLl]; exact szOf hz) ?_ fun out ho2 eo => ?_))
  · rw [emap]
    intro d hd2 d' hd'
    obtain ⟨b, hb, rfl⟩ := List.mem_map.mp hd2
    obtain ⟨b', hb', rfl⟩ := List.mem_map.mp hd'
    exact like_all hlk hb hb'
  · left
    rw [emap]
    intro d hd2
    obtain ⟨b, hb, rfl⟩ := List.mem_map.mp hd2
    have := List.all_eq_true.mp hne b hb
    obtain ⟨pr, _, rfl⟩ := List.mem_map.mp hb
    cases hpr : pr.1 with
    | nil => rw [hpr] at this; cases this
    | cons k ks => exact ⟨toP (kD k), toPs (ks.map kD), rfl⟩
  · intro b _
    have h1 := depth_keys b.2
    show X.A.in1.units + 1 + (PyData.tuple (toPs (b.2.map kD))).depth < cLine
    unfold PyData.depth
    have e : X.A.in1.units = X.A.units + 1 := rfl
    omega
  · have em : (L.mergeSort (PySem.W.dataLe false fun q => toP (kT q.2))).map (fun q => kT q.2) = (kvs.map fun p => kT p.1).mergeSort leD := by
      have := List.map_mergeSort (r := PySem.W.dataLe false fun q : Addr × List Key => toP (kT q.2)) (s := leD) (f := fun q => kT q.2) (l := L) (fun a _ b _ => rfl)
      rw [this, hkeys]
    have vE : ∀ {us : List Value} {M : List (Addr × List Key)}, PySem.W.EachIs (fun (v : Value) (q : Addr × List Key) => v = .ref q.1) us M → Vals (M.map fun q => V.ref q.1) us := by
      intro us M w
      induction w with
      | nil => exact .nil
      | cons a t ih => subst a; exact .cons rfl ih
    have hv := vE eo
    obtain ⟨e', he'⟩ := PyProof.Rows.sortedHeap_at (vs := acc.toList) (out := out.toArray) hoL
    have hlen : ((L.mergeSort (PySem.W.dataLe false fun q => toP (kT q.2))).map fun q => V.ref q.1).length ≤ sizeLine := by
      rw [List.length_map, List.length_mergeSort, hLl]
      exact z
    refine wpAny_pure ⟨_, rfl, .ref h'.objs.size, upd H h'.objs.size (.lst _), inv1.laid (t' := tk) (fun b u e => ?_) (Nat.le_refl _)
      (show ObjOk X.prog X.w _ _ _ (.lst _) from ⟨hlen, out, e', hv, he'⟩), rfl, q _ _ em (fun w hw => hat w ((List.mergeSort_perm _ _).mem_iff.mp hw)) (inv1.hok.fresh (Nat.le_refl _))⟩
    have hb : b < h'.objs.size := Heap.lt_size e
    rw [PyProof.Rows.sortedHeap_old (Nat.ne_of_lt hb) (by rw [size_push']; exact Nat.lt_succ_of_lt hb)]
    exact Heap.get?_push_of_some _ e
end
section
variable [Tabs] {c : CC} {F : Fn} {n : Nat} {sc : Scope} {X : Cx} {a a2 a3 tg : Expr} {x y z k : IE} {p : Pos} {b : Bool} {es : List Expr}
theorem se_dso (g : GX c F n sc X) {nm : Str} {p1 : Pos} (hn : nm = ("sorted" : Str)) (hgl : glB sc nm = true) (hs : isStar a = false) (hx : PE X a (tE X.K F true x)) : PE X (.Call (.Name nm p1) [a] [] p) (tE X.K F b (.dso x)) := by
  have hst : ∀ e' ∈ [a], isStar e' = false := by intro e' he; simp at he; subst he; exact hs
  obtain ⟨h1, h2⟩ := plainArgs (X := X) (p := p) hst rfl
  subst hn
  have o := bi_odd .sorted
  refine pe_imp (pe_callB ((call_sortedK g.calm g.hu).or (call_sortedT g.calm g.hu)) (g.gl hgl) (g.blt _ (by decide +kernel)) (boot_bi .sorted) (pa_cons hx pa_nil (star_of hs _ _)) o.2 o.1 h1 h2) ?_
  rintro σ H Q ⟨S, e, d, hs', hf, q⟩
  have hf := fin_f hf
  split at hf
  · rename_i l hl
    split at hf
    · rename_i hc
      cases hf
      rw [Bool.and_eq_true, Bool.or_eq_true] at hc
      refine tE_at hs' (Ex.refl H) hl fun v1 H1 x1 r1 => ?_
      obtain ⟨ad, u, vs, rfl, hr, hk, r⟩ := r1.dic
      obtain ⟨kvs, rfl, hkk, rfl⟩ := hk
      have el : l.length = kvs.length := by have := congrArg List.length hkk; simpa using this
      have hlk : likeOk (l.map Prod.fst) = true := by
        unfold likeOk
        rw [Bool.or_eq_true, Bool.or_eq_true]
        left
        rcases hc.2 with h | h
        · left; rw [List.all_map]; exact h
        · right; rw [List.all_map]; exact h
      refine .inl ⟨ad, kvs, rfl, hr, by rw [← el]; exact okLen_le hc.1, by rw [← hkk]; exact hlk, fun p ks hks hp => q _ _ (x1.trans (Ex.new hp)) (.inl (.lst (.inr (x1.free hp)) upd_same ?_))⟩
      rw [hkk, ← hks]
      exact drKeys ks
    · cases hf
  · rename_i l hl
    split at hf
    · rename_i hc
      cases hf
      rw [Bool.and_eq_true, Bool.and_eq_true] at hc
      refine tE_at hs' (Ex.refl H) hl fun v1 H1 x1 r1 => ?_
      obtain ⟨ad, u, vs, rfl, hr, hk, r⟩ := r1.dic
      obtain ⟨kvs, rfl, hkk, rfl⟩ := hk
      have el : l.length = kvs.length := by have := congrArg List.length hkk; simpa using this
      have hkk2 : l.map Prod.fst = kvs.map fun p => kT p.1 := hkk
      refine .inr ⟨ad, kvs, rfl, hr, by rw [← el]; exact okLen_le hc.1.1, by rw [← hkk2]; exact hc.1.2, by rw [← hkk2]; exact hc.2, fun p L hL hat hp => q _ _ (x1.trans (Ex.new hp)) (.inl (.lst (.inr (x1.free hp)) upd_same ?_))⟩
      rw [hkk2, ← hL]
      have : ∀ M : List (Addr × List Key), (∀ w ∈ M, H1 w.1 = some (.tup (w.2.map kV))) → DRs X.K (nw S H) (upd H1 p (.lst (L.map fun q => V.ref q.1))) (M.map fun q => V.ref q.1) (M.map fun q => kT q.2) := fun M => by
        induction M with
        | nil => exact fun _ => .nil
        | cons w M ih =>
          intro hM
          refine .cons (.tup ((Ex.new hp) _ _ (hM w List.mem_cons_self)) (drKeys w.2)) (ih fun v hv => hM v (List.mem_cons_of_mem _ hv))
      exact this L hat
    · cases hf
  · cases hf
end
end Tl

/-! H09: displays of constants. -/
namespace Tl
open PySem L2
section
variable [Tabs] {c : CC} {F : Fn} {n : Nat} {sc : Scope} {X : Cx} {a a2 a3 tg : Expr} {x y z k : IE} {p : Pos} {b : Bool} {es : List Expr}
/-- any S will do -/
def tV (K : PySem.W.Frag) (d : D) : TE := fun σ H Q => ∀ v H', Ex H H' → (∀ S, DR K S H' v d) → Q v H'
def tVs (K : PySem.W.Frag) (ds : List D) : TA := fun σ H Q => ∀ vs H', Ex H H' → (∀ S, DRs K S H' vs ds) → Q vs H'
theorem se_c3 {d : D} {kk : Const} {j : Nat} {p : Pos} (h : constB d kk = true) : PE X (.Constant kk j p) (tV X.K d) := by
  unfold constB at h
  split at h
  · exact pe_imp pe_non fun σ H Q q => q _ H (Ex.refl H) fun _ => .non
  · have e := eq_of_beq h
    subst e
    exact pe_imp pe_bl fun σ H Q q => q _ H (Ex.refl H) fun _ => .bl _
  · have e := of_decide_eq_true h
    subst e
    exact pe_imp pe_int fun σ H Q q => q _ H (Ex.refl H) fun _ => .int _
  · have e := of_decide_eq_true h
    subst e
    exact pe_imp pe_str fun σ H Q q => q _ H (Ex.refl H) fun _ => .str _
  · cases h
theorem drs_len {K : PySem.W.Frag} {S : Ad} {H : Hp} {vs : List V} {ds : List D} (r : DRs K S H vs ds) : vs.length = ds.length := r.length
theorem ckVs_len : ∀ {ds : List D} {es : List Expr}, ckVs ds es = true → ds.length = es.length
  | [], [], _ => rfl
  | [], _ :: _, h => by cases h
  | _ :: _, [], h => by cases h
  | d :: ds, e :: es, h => by
    unfold ckVs at h
    rw [Bool.and_eq_true] at h
    rw [List.length_cons, List.length_cons, ckVs_len h.2]
mutual
theorem se_cv : ∀ (d : D) (e : Expr), ckV d e = true → PE X e (tV X.K d)
  | .tup ds, .Tuple es kk p, h => by
    unfold ckV at h
    rw [Bool.and_eq_true, decide_eq_true_eq] at h
    refine pe_imp (pe_tup (sa_cv ds es h.2)) ?_
    intro σ H Q q vs H1 x1 r1
    refine ⟨?_, fun p hp => q _ _ (x1.trans (Ex.new hp)) fun S => .tup upd_same ((r1 S).mono ((Ex.new hp).le fun _ z => z))⟩
    have := drs_len (r1 fun _ => False)
    have := ckVs_len h.2
    exact szOf (by omega)
  | .int i, .UnaryOp .USub (.Constant kk j p1) p, h => by
    unfold ckV at h
    refine pe_imp (pe_un un_neg (se_c3 (X := X) (j := j) (p := p1) h)) ?_
    intro σ H Q q v1 H1 x1 r1
    have e1 : v1 = .int (-i) := by
      have := r1 fun _ => False
      cases this
      rfl
    refine ⟨_, e1, q _ H1 x1 fun S => ?_⟩
    show DR X.K S H1 (.int (- -i)) (.int i)
    rw [Int.neg_neg]
    exact .int i
  | .int i, .Constant kk j p, h => by
    have h : constB (.int i) kk = true := h
    exact se_c3 h
  | .non, .Constant kk j p, h => se_c3 (show constB .non kk = true from h)
  | .bl t, .Constant kk j p, h => se_c3 (show constB (.bl t) kk = true from h)
  | .str t, .Constant kk j p, h => se_c3 (show constB (.str t) kk = true from h)
  | .tup ds, .Constant kk j p, h => se_c3 (show constB (.tup ds) kk = true from h)
  | .lst ds, .Constant kk j p, h => se_c3 (show constB (.lst ds) kk = true from h)
  | .dic t ds, .Constant kk j p, h => se_c3 (show constB (.dic t ds) kk = true from h)
  | .st ds, .Constant kk j p, h => se_c3 (show constB (.st ds) kk = true from h)
  | .fn ds, .Constant kk j p, h => se_c3 (show constB (.fn ds) kk = true from h)
  | .ro ds, .Constant kk j p, h => se_c3 (show constB (.ro ds) kk = true from h)
theorem sa_cv : ∀ (ds : List D) (es : List Expr), ckVs ds es = true → PA X es (tVs X.K ds)
  | [], [], _ => pa_imp pa_nil fun σ H Q q => q [] H (Ex.refl H) fun _ => .nil
  | d :: ds, e :: es, h => by
    unfold ckVs at h
    rw [Bool.and_eq_true, Bool.and_eq_true, Bool.not_eq_true'] at h
    refine pa_imp (pa_cons (se_cv d e h.1.2) (sa_cv ds es h.2) (star_of h.1.1 es X.env)) ?_
    intro σ H Q q v1 H1 x1 r1 vs H2 x2 r2
    exact q _ H2 (x1.trans x2) fun S => .cons ((r1 S).mono (x2.le fun _ z => z)) (r2 S)
  | [], _ :: _, h => by cases h
  | _ :: _, [], h => by cases h
end
/-- the pairs of a display -/
theorem pps_dc : ∀ (l : List (D × D)) (ks : List (Option Expr)) (vs : List Expr), dcOk l ks vs = true → PPs X p ks vs (l.map fun q => (tV X.K q.1, tV X.K q.2)) ∧ ks.all (·.isSome) = true ∧ ks.length = vs.length ∧ ks.length = l.length ∧ (l.map Prod.fst).all isKey = true
  | [], [], [], _ => ⟨pps_nil, rfl, rfl, rfl, rfl⟩
  | q :: l, some a :: ks, a2 :: vs, h => by
    unfold dcOk at h
    simp only [Bool.and_eq_true] at h
    obtain ⟨⟨⟨⟨h1, h2⟩, h3⟩, h4⟩, h5⟩ := h
    obtain ⟨g1, g2, g3, g4, g5⟩ := pps_dc l ks vs h5
    refine ⟨pps_cons (se_cv _ _ h2) (se_cv _ _ h3) g1, by rw [List.all_cons, g2]; rfl, by rw [List.length_cons, List.length_cons, g3], by rw [List.length_cons, List.length_cons, g4], by rw [List.map_cons, List.all_cons, h1, g5]; rfl⟩
  | [], [], _ :: _, h => by cases h
  | [], _ :: _, [], h => by cases h
  | [], _ :: _, _ :: _, h => by cases h
  | _ :: _, [], _, h => by cases h
  | _ :: _, none :: _, _, h => by cases h
  | _ :: _, some _ :: _, [], h => by cases h
theorem tPairs_dc {K : PySem.W.Frag} {σ : L2.St} : ∀ (l : List (D × D)) (H : Hp) (Q : List (V × V) → Hp → Prop), (l.map Prod.fst).all isKey = true →
    (∀ (kvs : List (Key × V)) (H' : Hp), Ex H H' → l.map Prod.fst = kvs.map (fun q : Key × V => kD q.1) → (∀ S, DRs K S H' (kvs.map (·.2)) (l.map Prod.snd)) → Q (kvs.map fun kv => (kV kv.1, kv.2)) H') → tPairs (l.map fun q => (tV K q.1, tV K q.2)) σ H Q
  | [], H, Q, _, h => h [] H (Ex.refl H) rfl fun _ => .nil
  | q :: l, H, Q, hk, h => by
    rw [List.map_cons, List.all_cons, Bool.and_eq_true] at hk
    intro v1 H1 x1 r1 v2 H2 x2 r2
    refine tPairs_dc l H2 _ hk.2 fun kvs H' x3 e r3 => ?_
    obtain ⟨kk, e1⟩ := key_of_D hk.1
    have r1' := r1 fun _ => False
    rw [← e1] at r1'
    have e2 := kV_of r1'
    subst e2
    refine h ((kk, v2) :: kvs) H' ((x1.trans x2).trans x3) (by rw [List.map_cons, List.map_cons, e, e1]) fun S => ?_
    exact .cons ((r2 S).mono (x3.le fun _ z => z)) (r3 S)
/-- no key twice: merged is the same -/
theorem merge_new : ∀ (more kvs : List (Key × V)), (∀ p ∈ more, p.1 ∉ kvs.map Prod.fst) → (more.map Prod.fst).Nodup → mergeK kvs more = kvs ++ more
  | [], kvs, _, _ => by rw [List.append_nil]; rfl
  | p :: r, kvs, h, nd => by
    rw [List.map_cons, List.nodup_cons] at nd
    have e : putK kvs p.1 p.2 = kvs ++ [p] := by
      unfold putK
      have : (kvs.any fun kv => decide (kv.1 = p.1)) = false := by
        rw [List.any_eq_false]
        intro q hq z
        exact h p (by simp) (by rw [← of_decide_eq_true z]; exact List.mem_map_of_mem hq)
      rw [this]
      rfl
    show mergeK (putK kvs p.1 p.2) r = _
    rw [e, merge_new r (kvs ++ [p]) (fun q hq z => ?_) nd.2, List.append_assoc]
    · rfl
    · rw [List.map_append, List.mem_append] at z
      rcases z with z | z
      · exact h q (by simp [hq]) z
      · have : q.1 = p.1 := by simpa using z
        exact nd.1 (by rw [← this]; exact List.mem_map_of_mem hq)
theorem dc_nodup : ∀ (l : List (D × D)) (ks : List (Option Expr)) (vs : List Expr), dcOk l ks vs = true → (l.map Prod.fst).Nodup
  | [], _, _, _ => List.nodup_nil
  | q :: l, some a :: ks, a2 :: vs, h => by
    unfold dcOk at h
    simp only [Bool.and_eq_true] at h
    obtain ⟨⟨⟨⟨h1, h2⟩, h3⟩, h4⟩, h5⟩ := h
    rw [List.map_cons, List.nodup_cons]
    refine ⟨fun z => ?_, dc_nodup l ks vs h5⟩
    obtain ⟨r, hr, e⟩ := List.mem_map.mp z
    have := List.all_eq_true.mp h4 r hr
    rw [e, same_refl_key h1] at this
    cases this
  | _ :: _, [], _, h => by cases h
  | _ :: _, none :: _, _, h => by cases h
  | _ :: _, some _ :: _, [], h => by cases h
theorem se_dcn {l : List (D × D)} {ks : List (Option Expr)} {vs : List Expr} (h1 : 1 ≤ l.length) (h15 : l.length ≤ 15) (h : dcOk l ks vs = true) : PE X (.Dict ks vs p) (tE X.K F b (.dcn l)) := by
  obtain ⟨g1, g2, g3, g4, g5⟩ := pps_dc (X := X) (p := p) l ks vs h
  refine pe_imp (pe_frz (pe_disp g1 g2 g3 (fun z => by rw [z] at g4; simp at g4; omega) (by omega))) ?_
  rintro σ H Q ⟨S, e, d, hs, hf, q⟩ pa hp
  have hf : some (D.dic false l) = some d := hf
  cases hf
  have x0 : Ex H (upd H pa (.dK [])) := Ex.new hp
  refine tPairs_dc l _ _ g5 fun kvs H' x1 e1 r1 => ?_
  have hp2 : H' pa = some (.dK []) := x1 pa _ upd_same
  have hl : kvs.length = l.length := by have := congrArg List.length e1; simpa using this.symm
  refine ⟨hp2, kvs, rfl, by omega, pa, _, rfl, upd_same, True.intro, fun od => ?_⟩
  have nd : (kvs.map Prod.fst).Nodup := by
    have := dc_nodup l ks vs h
    rw [e1, show (kvs.map fun q : Key × V => kD q.1) = (kvs.map Prod.fst).map kD by rw [List.map_map]; rfl] at this
    exact (List.pairwise_map.mp this).imp fun h e => h (by rw [e])
  rw [merge_new kvs [] (fun _ _ z => nomatch z) nd, List.nil_append]
  have xx : Ex H (upd H' pa (.dK kvs)) := (x0.trans x1).mut hp
  have r4 : DRs X.K (nw S H) (upd H' pa (.dK kvs)) (kvs.map (·.2)) (l.map Prod.snd) := keepDs hp2 True.intro (fun _ z => nomatch z) (r1 _)
  obtain ⟨e2, e3⟩ := dic_new (S := S) (b := b) (od := od) (l := l) (t := false) hp xx upd_same ⟨kvs, rfl, e1, rfl⟩ r4
  exact q _ _ e2 e3
end
end Tl

/-! H10: a written dict of the module: d[k], k in d; text.upper(). -/
namespace Tl
open PySem L2
variable [Tabs]
omit [Tabs] in
theorem same_kv : ∀ {l l' : List (D × D)}, sameDs (l.map fun p => .tup [p.1, p.2]) (l'.map fun p => .tup [p.1, p.2]) = true → l = l'
  | [], [], _ => rfl
  | (a, b) :: l, (a', b') :: l', h => by
    have h : (sameD (.tup [a, b]) (.tup [a', b']) && sameDs (l.map fun p => .tup [p.1, p.2]) (l'.map fun p => .tup [p.1, p.2])) = true := by
      simpa [sameDs] using h
    rw [Bool.and_eq_true] at h
    have e := same_eq h.1
    injection e with e
    injection e with e1 e
    injection e with e2 _
    rw [e1, e2, same_kv h.2]
section
variable {c : CC} {F : Fn} {n : Nat} {sc : Scope} {X : Cx} {a a2 : Expr} {x y : IE} {p : Pos} {b : Bool}
theorem GX.kd (g : GX c F n sc X) {j : Nat} {l : List (D × D)} {nm : Str} (h : kdOk c.C j l nm = true) : KD X.K X.w X.mg nm l := by
  unfold kdOk at h
  split at h
  · rename_i y l' hj
    rw [Bool.and_eq_true, decide_eq_true_eq] at h
    obtain ⟨rfl, h⟩ := h
    have := same_kv h
    subst this
    exact g.dics j _ _ _ hj
  · cases h
theorem se_kdx (g : GX c F n sc X) {j : Nat} {l : List (D × D)} {nm : Str} {p1 : Pos} (h : kdOk c.C j l nm = true) (hg : glB sc nm = true) (ho : notOdd nm = true) (hn : isSlice a2 = false) (hy : PE X a2 (tE X.K F false x)) : PE X (.Subscript (.Name nm p1) a2 p) (tE X.K F b (.kdx j l x)) := by
  obtain ⟨d, es, m, hm, kd, hv⟩ := g.kd h
  refine pe_imp (pe_ix ix_kdict (pe_glob (v := .ref d) (g.gl hg) hm rfl (odd_of ho).1) hy (noSlice hn)) ?_
  rintro σ H Q ⟨S, e, dd, hs, hf, q⟩
  have hf := fin_f hf
  split at hf
  · rename_i z hz
    refine tE_at hs (Ex.refl H) hz fun v1 H1 x1 r1 => ?_
    have hz2 := hv z
    rw [hf] at hz2
    obtain ⟨u, v, e1, e2, e3⟩ := hz2
    exact ⟨d, ⟨z.toArray⟩, v, rfl, r1.str, ⟨es, m, u, kd.at_, kd.lit, e1, e2⟩, q v H1 x1 (.inl (e3 _ _))⟩
  · cases hf
theorem rd_kdi {neg : Bool} {j : Nat} {l : List (D × D)} {nm : Str} {d : Addr} (hv : ∀ z : List Nat, match dGet l (.str z) with
    | some dv => ∃ u v, PySem.W.nsIn X.K d ⟨z.toArray⟩ = some (some u) ∧ RelV v u ∧ ∀ S H, DR X.K S H v dv
    | none => PySem.W.nsIn X.K d ⟨z.toArray⟩ = some none) {σ : L2.St} {H : Hp} {Q : VK} (h : ∃ S e k, SR X.K S H σ e ∧ ev F (.kdi neg j l x) false e = some (.bl k) ∧ ∀ H', Ex H H' → Q (.bl k) H') :
    tOp (fun x y H Q => ∃ (z : Str) (r : Option Value), x = .str z ∧ y = .ref d ∧ PySem.W.nsIn X.K d z = some r ∧ Q (.bl (if neg then !r.isSome else r.isSome)) H) (tE X.K F true x) (tC (.ref d)) σ H Q := by
  obtain ⟨S, e, k, hs, hf, q⟩ := h
  unfold ev at hf
  split at hf
  · rename_i z hz
    cases hf
    refine tE_at hs (Ex.refl H) hz fun v1 H1 x1 r1 => ?_
    have hz2 := hv z
    cases hd : dGet l (.str z) with
    | some dv =>
      rw [hd] at hz2 q
      obtain ⟨u, v, e1, _, _⟩ := hz2
      exact ⟨⟨z.toArray⟩, some u, r1.str, rfl, e1, q H1 x1⟩
    | none =>
      rw [hd] at hz2 q
      exact ⟨⟨z.toArray⟩, none, r1.str, rfl, hz2, q H1 x1⟩
  · cases hf
theorem op_kdi {neg : Bool} {d : Addr} {es : Array DictEntry} {m : Nat} (kd : KDict X.K X.w d es m) : OpR X (compareOp (if neg then .NotIn else .In)) (fun x y H Q => ∃ (z : Str) (r : Option Value), x = .str z ∧ y = .ref d ∧ PySem.W.nsIn X.K d z = some r ∧ Q (.bl (if neg then !r.isSome else r.isSome)) H) := by
  cases neg with
  | true => exact op_notIn_kd kd
  | false => exact op_in_kd kd
theorem se_kdi (g : GX c F n sc X) {neg : Bool} {j : Nat} {l : List (D × D)} {nm : Str} {p1 : Pos} (h : kdOk c.C j l nm = true) (hg : glB sc nm = true) (ho : notOdd nm = true) (hx : PE X a (tE X.K F true x)) : PE X (.Compare a [if neg then .NotIn else .In] [.Name nm p1] p) (tE X.K F b (.kdi neg j l x)) := by
  obtain ⟨d, es, m, hm, kd, hv⟩ := g.kd h
  refine pe_imp (pe_cmpR (op_kdi kd) hx (pe_glob (v := .ref d) (g.gl hg) hm rfl (odd_of ho).1) (notSet rfl _)) ?_
  rintro σ H Q ⟨S, e, dd, hs, hf, q⟩
  have hb : ∃ k, dd = .bl k := by
    unfold ev at hf
    split at hf
    · cases hf; exact ⟨_, rfl⟩
    · cases hf
  obtain ⟨k, rfl⟩ := hb
  exact rd_kdi (neg := neg) (j := j) (l := l) (nm := nm) hv ⟨S, e, k, hs, hf, fun H' x' => q _ H' x' (.inl (.bl _))⟩
theorem st_kdi (g : GX c F n sc X) {neg : Bool} {j : Nat} {l : List (D × D)} {nm : Str} {p1 : Pos} (h : kdOk c.C j l nm = true) (hg : glB sc nm = true) (ho : notOdd nm = true) (hx : PE X a (tE X.K F true x)) : PT X (.Compare a [if neg then .NotIn else .In] [.Name nm p1] p) (tTs X.K F (.kdi neg j l x)) := by
  obtain ⟨d, es, m, hm, kd, hv⟩ := g.kd h
  refine pt_imp (pt_cmpR (op_kdi kd) hx (pe_glob (v := .ref d) (g.gl hg) hm rfl (odd_of ho).1) (notSet rfl _)) ?_
  rintro σ H Q ⟨S, e, k, hs, hf, q⟩
  exact rd_kdi (neg := neg) (j := j) (l := l) (nm := nm) hv ⟨S, e, k, hs, hf, fun H' x' => ⟨k, rfl, q H' x'⟩⟩
omit [Tabs] in
theorem up_S {s : List Nat} (h : s.all (fun c => decide (c < 128)) = true) : Txt.upper ⟨s.toArray⟩ = ⟨(s.map upC).toArray⟩ := by
  rw [PyProof.Rows.upper_ascii (x := ⟨s.toArray⟩) fun c hc => of_decide_eq_true (List.all_eq_true.mp h c (by simpa using hc))]
  congr 1
  rw [List.map_toArray]
  congr 1
theorem se_upr {nm : Str} {ap cp : Pos} (hn : nm = ("upper" : Str)) (hl : (ap.endLine == cp.line) = true) (hc : isCall0 a = false) (hx : PE X a (tE X.K F true x)) : PE X (.Call (.Attribute a nm ap) [] [] cp) (tE X.K F b (.upr x)) := by
  subst hn
  refine pe_imp (pe_upper hx (noCall hc _ _) hl) ?_
  rintro σ H Q ⟨S, e, d, hs, hf, q⟩
  have hf := fin_f hf
  split at hf
  · rename_i s hz
    split at hf
    · rename_i ok
      cases hf
      rw [Bool.and_eq_true] at ok
      refine tE_at hs (Ex.refl H) hz fun v1 H1 x1 r1 => ?_
      have e1 := r1.str
      subst e1
      have ln : (⟨s.toArray⟩ : Str).length ≤ 5592405 := by
        have := okLen_le ok.1
        show s.toArray.size ≤ _
        rw [List.size_toArray]
        omega
      have qq := q (.str (Txt.upper ⟨s.toArray⟩)) H1 x1 (.inl (by rw [up_S ok.2]; exact .str _))
      exact ⟨⟨_, rfl⟩, ⟨s.toArray⟩, rfl, rfl, ln, qq⟩
    · cases hf
  · cases hf
end
end Tl

/-! G01: all(..), any(..) of a generator expression, by what its source, its target and its element do. -/
namespace GexX
open PySem PySem.Spec PyProof.Rows L2 GxR GenW
/-- the context of a generator expression's frame -/
abbrev genCx (X : Cx) (s : Shared) (H : Hp) (ge : PySem.Env) (fp : List Addr) (A : Around) : Cx :=
  { X with s_0 := s, H_0 := H, env := ge, A := A, outer := X.stack, stack := ge :: X.stack, ex := fp, fn := fun _ => false, pn := [], xe := fun _ _ => False }
section
variable {X : Cx} {pins : List (Addr × Obj)} {σ : L2.St} {H : Hp} {s : Shared}
/-- other generators, tokens -/
theorem inv_gens (I : Inv X pins σ H s) {s' : Shared} (hh : s'.heap = s.heap) (ho : s'.os = s.os) (hg : AllBare s'.gens) : Inv X pins σ H s' := by
  obtain ⟨h', g', d', t', o'⟩ := s'
  have hh : h' = s.heap := hh
  have ho : o' = s.os := ho
  subst hh ho
  exact I.step (g' := g') (t' := t') (d' := d') (ch := []) (fun _ z => nomatch z) (fun _ _ _ _ _ e _ => e) (fun b o _ _ _ e _ => ⟨o.slots, e⟩) (fun _ _ _ _ n => n) (fun b o _ e => ⟨o, e⟩) (fun _ _ e => e) (fun _ _ _ e => e) (fun b ps e => ⟨#[], by rw [e]; simp⟩) (fun _ e => e) I.hok hg
theorem gen_start {scope : Scope} {own : List (Str × Nat)} {fp : List Addr} {A : Around} {code : Value} {m : Str → Option Value} {h5 : Heap} {g : Array GenState} {tk : Nat} {ga : Addr} {go : Obj}
    (I : Inv X pins σ H s) (ok : BlkOk X.N X.env.scope scope own) (hN : X.N.Nodup) (hcell : ∀ y ∈ scope.names, y.2 ≠ .cell) (hfp : ∀ b ∈ fp, FpOk X pins H b ∧ b < s.heap.objs.size)
    (hA : A.frames = some (genEnv scope (cloFrom X.env.cells scope.names []) s.heap.objs.size code builtinsNs X.env :: X.stack)) (hh : A.handled = none)
    (hk : ∀ b o, s.heap.get? b = some o → h5.get? b = some o) (hns : h5.Ns s.heap.objs.size m) (hg : AllBare g) (h1 : h5.get? ga = some go) (h2 : s.heap.objs.size < ga) (h3 : ∀ v, go.data ≠ .cell v) :
    Inv (genCx X s H (genEnv scope (cloFrom X.env.cells scope.names []) s.heap.objs.size code builtinsNs X.env) fp A) [(ga, go)] (wipe σ (own.map (·.2))) H { s with heap := h5, gens := g, toks := tk } := by
  have hfree : ∀ y ∈ scope.names, y.2 = .free → ∃ c, X.env.cells.lookup y.1 = some c := fun y hy e => by
    rcases ok.free y hy e with k | k
    · exact I.ok.has _ (.inl k)
    · exact I.ok.has _ (.inr k)
  generalize hcenv : genEnv scope (cloFrom X.env.cells scope.names []) s.heap.objs.size code builtinsNs X.env = cenv at hA ⊢
  have hL : cenv.locals = s.heap.objs.size := by rw [← hcenv]; rfl
  have hcl : cenv.cells = cloFrom X.env.cells scope.names [] := by rw [← hcenv]; rfl
  have hsc : cenv.scope = scope := by rw [← hcenv]; rfl
  have hfr : cenv.frame = some cenv.locals := by rw [← hcenv]; rfl
  have cm : ∀ {y c}, (y, c) ∈ cloFrom X.env.cells scope.names [] → X.env.cells.lookup y = some c ∧ c < s.heap.objs.size := fun {y c} hm => by
    rcases cloFrom_mem hm with hm | ⟨h1, rfl⟩
    · cases hm
    · obtain ⟨c, hc⟩ := hfree _ h1 rfl
      rw [hc]
      obtain ⟨w, z⟩ := I.cell _ _ hc
      exact ⟨rfl, z.lt⟩
  have mem : ∀ {y c}, cenv.cells.lookup y = some c → X.env.cells.lookup y = some c ∧ c < s.heap.objs.size := fun {y c} e => by
    rw [hcl] at e
    exact cm (PySem.mem_of_lookup e)
  have look : ∀ {y}, scope.names.lookup y = some .free → ∃ c, cenv.cells.lookup y = some c ∧ X.env.cells.lookup y = some c := fun {y} hl => by
    have hy : (y, NameKind.free) ∈ scope.names := PySem.mem_of_lookup hl
    obtain ⟨c', e'⟩ := mem_lookup (cloFrom_has (cells := X.env.cells) (acc := []) hy)
    rw [← hcl] at e'
    exact ⟨c', e', (mem e').1⟩
  have noC : ∀ {y}, cenv.kindOf y ≠ some .cell := fun {y} z => by
    have z : cenv.scope.names.lookup y = some .cell := z
    rw [hsc] at z
    exact hcell _ (PySem.mem_of_lookup z) rfl
  have okB : (genCx X s H cenv fp A).Ok := by
    refine ⟨I.ok.mod, by show cenv.scope.kind = _; rw [hsc]; exact ok.kind, by show cenv.globals = _; rw [← hcenv]; exact I.ok.glob, by show cenv.builtins = _; rw [← hcenv]; rfl, by show s.heap.objs.size ≤ cenv.locals; rw [hL]; exact Nat.le_refl _,
      fun y z c e1 e2 => ?_, fun y hy => ?_, fun y c z e => (nomatch z), fun _ => hh, hA, .inr ⟨rfl, hfr⟩, fun b hb => ⟨?_, fun y c e z => ?_⟩, I.bs, Nat.le_trans I.ok.bsz I.sz, fun b o e hb => ?_, fun b hb z => ?_, I.stack, I.stkFree⟩
    · exact I.ok.inj y z c (mem e1).1 (mem e2).1
    · rcases hy with hy | hy
      · exact absurd hy noC
      · have hy : cenv.scope.names.lookup y = some .free := hy
        rw [hsc] at hy
        obtain ⟨c, h1, _⟩ := look hy
        exact ⟨c, h1⟩
    · show b ≠ cenv.locals
      rw [hL]; exact Nat.ne_of_lt (hfp b hb).2
    · exact (hfp b hb).1.2.2.2.2.1 y c (mem e).1 z
    · rcases (hfp b hb).1.2.2.2.1 with z | z
      · exact I.ok.noex b o e z
      · exact absurd (Nat.lt_of_lt_of_le (Heap.lt_size e) (Nat.le_trans I.ok.bsz z)) (Nat.lt_irrefl _)
    · rcases List.mem_cons.mp (I.stkSub b z) with z | z
      · exact (hfp b hb).1.2.1 z
      · exact (hfp b hb).1.2.2.1 z
  have hCn : H s.heap.objs.size = none := I.hok.fresh (Nat.le_refl _)
  refine ⟨okB, rfl, hg, Un.kept hk, ⟨m, ?_, fun i y av e1 e2 e3 => ?_⟩, fun y c e => ?_, ?_, fun y c e => ?_, fun p hp => ?_, I.hok.kept hk, by rw [wipe_length]; exact I.len⟩
  · show Heap.Ns _ cenv.locals _
    rw [hL]; exact hns
  · obtain ⟨e2, hne⟩ := wipe_some e2
    have hfr : scope.names.lookup y = some .free := by
      have key : ∀ k, scope.names.lookup y = some k → k = .local ∨ k = .cell ∨ k = .free → scope.names.lookup y = some .free := fun k hk hk' => by
        have no : ¬ (k = .local ∨ k = .cell) := fun hh => by
          rcases ok.own _ (PySem.mem_of_lookup hk) hh with e' | e'
          · obtain ⟨p, hp, hpy⟩ := List.mem_map.mp e'
            have e3 := ok.ix p hp
            have : p.1 = y := hpy
            rw [this] at e3
            exact hne (List.mem_map.mpr ⟨p, hp, nodup_ix hN e3 e1⟩)
          · exact e' (List.mem_of_getElem? e1)
        rcases hk' with rfl | rfl | rfl
        · exact absurd (.inl rfl) no
        · exact absurd (.inr rfl) no
        · exact hk
      have e3 : Vis cenv.scope y := e3
      rw [hsc] at e3
      rcases e3 with e3 | e3 | e3
      · exact key _ e3 (.inl rfl)
      · exact key _ e3 (.inr (.inl rfl))
      · exact key _ e3 (.inr (.inr rfl))
    have hkd : cenv.kindOf y = some .free := by
      show cenv.scope.names.lookup y = _
      rw [hsc]; exact hfr
    obtain ⟨m, hn, hl⟩ := I.loc
    have hvis : Vis X.env.scope y := (ok.free _ (PySem.mem_of_lookup hfr) rfl).elim (fun k => .inr (.inl k)) (fun k => .inr (.inr k))
    obtain ⟨w, r, q⟩ := hl i y av e1 e2 hvis
    refine ⟨w, r, .inr ⟨.inr hkd, ?_⟩⟩
    obtain ⟨c, h1, h2⟩ := look hfr
    rcases q with ⟨k, _⟩ | ⟨_, c', e', z⟩
    · have k : X.env.scope.names.lookup y = some .local := k
      rcases ok.free _ (PySem.mem_of_lookup hfr) rfl with k' | k' <;> rw [show X.env.scope.names.lookup y = _ from k'] at k <;> cases k
    · rw [h2] at e'; cases e'
      exact ⟨c, h1, z.keeps hk⟩
  · obtain ⟨w, z⟩ := I.cell y c (mem e).1
    exact ⟨w, z.keeps hk⟩
  · show H cenv.locals = none
    rw [hL]; exact hCn
  · exact I.freeC y c (mem e).1
  · have hp : p = (ga, go) := by simpa using hp
    subst hp
    refine ⟨h1, I.hok.fresh (Nat.le_of_lt h2), ?_, fun z => ?_, h3⟩
    · show ga ≠ cenv.locals
      rw [hL]; exact Nat.ne_of_gt h2
    · obtain ⟨_, o, ho, _⟩ := I.stack.mem z
      exact absurd (Nat.lt_trans (Heap.lt_size ho) h2) (Nat.lt_irrefl _)
end

/-- what is wanted behind all (al = true), any (al = false) -/
abbrev QG := Bool → Hp → Prop
/-- turns: W by the turn and a measure -/
def Turns (al : Bool) (J : It) (g : TG) (te : TE) (vs : List Nat) (σ : L2.St) (Q : QG) (W : Nat → Nat → Hp → Prop) : Prop := ∀ i m H, W i m H →
  (J.stop i H ∧ Q al H) ∨ (J.go i H ∧ ∃ Nx : Hp → Prop, (∀ H', Nx H' → ∃ m', m' < m ∧ W (i + 1) m' H') ∧ ∀ x H', J.yld i H x H' → g x (wipe σ vs) H' fun σ2 H2 => wipe σ2 vs = wipe σ vs ∧ te σ2 H2 fun y H3 =>
    ∃ b, y = .bl b ∧ (if b = al then Nx H3 else Q (!al) H3))
section
variable {X : Cx} {pins : List (Addr × Obj)} {σ : L2.St} {H : Hp} {s : Shared}
/-- a value has come out -/
def YG (X : Cx) (σ0 : L2.St) (p : Addr × Obj) (gi : Nat) (al : Bool) (Q : QG) : Protocol := fun _ _ v s kap =>
  ∃ H, Inv X [p] σ0 H s ∧ gi < s.gens.size ∧ ∃ b, v = .bool b ∧ if b = al then ∀ s'' : Shared, s''.heap = s.heap → s''.os = s.os → AllBare s''.gens → gi < s''.gens.size → kap (.send .none) s'' else Q (!al) H
def RG (X : Cx) (σ0 : L2.St) (p : Addr × Obj) (gi : Nat) (al : Bool) (Q : QG) : GenEnd := fun _ _ r s => r = .ok .next ∧ ∃ H, Inv X [p] σ0 H s ∧ gi < s.gens.size ∧ Q al H
theorem seg_gex {A1 : Around} {elt tg iter : Expr} {scope : Scope} {pos : Pos} {it : Addr} {fp : List Addr} {tn : Nat → Heap → Prop} {J : It} {g : TG} {te : TE} {vs : List Nat} {p : Addr × Obj} {gi : Nat} {al : Bool} {Q : QG} {W : Nat → Nat → Hp → Prop}
    (hA : A1.over (.compLoop (.GeneratorExp elt [⟨tg, iter, [], 0⟩] scope pos) 0 (.ref it) .none X.env) [] = X.A) (hc : X.calm = true) (hx : X.xe = fun _ _ => False) (hpn : X.pn = []) (hco : X.env.scope.isCoroutine = false) (T : Turn X.prog X.w X.K tg J fp it tn)
    (hg : PG X tg g) (he : PE X elt te) (hfp : ∀ b ∈ fp, b ≠ X.env.locals ∧ b ∉ X.fs ∧ b ∈ X.ex ∧ (∀ x c, X.env.cells.lookup x = some c → c ≠ b) ∧ p.1 ≠ b) (tw : Turns al J g te vs σ Q W) :
    ∀ (n i m : Nat) (s₀ s : Shared) (H : Hp), Inv X [p] (wipe σ vs) H s → tn i s.heap → (∀ b ∈ fp, H b = none) → W i m H → m < n → gi < s.gens.size →
      Seg (model X.prog X.w) A1 (RG X (wipe σ vs) p gi al Q) (YG X (wipe σ vs) p gi al Q) n s₀ (.compLoop (.GeneratorExp elt [⟨tg, iter, [], 0⟩] scope pos) 0 (.ref it) .none X.env)
        ((model X.prog X.w).den (.compLoop (.GeneratorExp elt [⟨tg, iter, [], 0⟩] scope pos) 0 (.ref it) .none X.env)) [] s := by
  intro n
  induction n with
  | zero => intro i m s₀ s H _ _ _ _ hm _; exact absurd hm (Nat.not_lt_zero _)
  | succ n ih =>
    intro i m s₀ s H I st nf w hm hgi
    have stat : ∀ {H' : Hp}, (∀ b ∈ fp, H' b = none) → ∀ b ∈ fp, FpOk X [p] H' b := fun hn b hb => ⟨hn b hb, (hfp b hb).1, (hfp b hb).2.1, .inl (hfp b hb).2.2.1, (hfp b hb).2.2.2.1, fun q hq => by
      rw [hpn] at hq
      have : q = p := by simpa using hq
      rw [this]; exact (hfp b hb).2.2.2.2⟩
    have noE : ∀ {α : Type} {t : Sem α} {P : α → Shared → Prop} {E : Value → Shared → Prop} {s : Shared}, gi < s.gens.size → wpAny (model X.prog X.w) X.A t (fun a s' => gi < s'.gens.size → P a s') X.xe s → wpAny (model X.prog X.w) X.A t P E s := fun {α t P E s} hs h =>
      wpAny_gsz (n := gi + 1) hs (wpAny_mono h (fun a s' q z => q z) fun e s' q => by rw [hx] at q; exact q.elim)
    show Seg _ A1 _ _ _ s₀ _ ((compTurn (.GeneratorExp elt [⟨tg, iter, [], 0⟩] scope pos) 0 (.ref it) .none X.env).onRaise (leaving X.env)) [] s
    rw [compTurn_gen, Sem.onRaise_eq_wrap]
    refine seg_bind_wrap (wpAny_standAt ?_)
    rcases tw i m H w with ⟨stop, q⟩ | ⟨go, Nx, hN, step⟩
    · refine seg_bind_wrap ?_
      rw [hA]
      refine noE hgi (thn (T.done X rfl rfl rfl hc i [p] s _ H X.xe I (stat nf) st stop) fun r s1 ⟨hr, I1⟩ h1 => ?_)
      subst hr
      exact seg_end (.ok .next) ⟨rfl, H, I1, h1, q⟩
    · refine seg_bind_wrap ?_
      rw [hA]
      refine noE hgi (thn (T.item X rfl rfl rfl hc i [p] s _ H X.xe I (stat nf) st go) fun r s1 ⟨u, hr, h2⟩ g1 => ?_)
      subst hr
      refine seg_bind_wrap ?_
      rw [hA]
      refine noE g1 (thn h2 fun _ s2 ⟨x, H2, I2, r2, y2, st2, n2⟩ g2 => ?_)
      have I2' := I2.pinned (stat n2) (T.obj _ _ st2)
      refine seg_bind_wrap ?_
      rw [hA]
      refine noE g2 (thn (hg.run _ s2 _ H2 x u _ I2' r2 (step x H2 y2)) fun _ s3 ⟨σ3, H3, I3, hw3, q3⟩ g3 => ?_)
      refine seg_bind_wrap ?_
      rw [hA]
      rw [List.forIn_nil]
      refine wpAny_pure ?_
      simp only [if_true]
      have hy : ∀ v, yieldOut X.env v = yieldValue v := fun v => by simp only [yieldOut, hco, Bool.false_eq_true, if_false]
      simp only [hy]
      rw [Sem.bind_eq_wrap', Sem.bind_eq_wrap', Sem.wrap_wrap, Sem.wrap_wrap]
      refine seg_wrap ?_
      rw [hA]
      refine noE g3 (thn (he.run _ s3 σ3 H3 _ I3 q3) fun v s4 ⟨y, H4, I4, r4, b, tb, q4⟩ g4 => ?_)
      have pin' : ∀ b ∈ fp, ∀ o, s2.heap.get? b = some o → s4.heap.get? b = some o ∧ H4 b = none := fun b hb o e =>
        let z := I4.pin (b, o) (List.mem_append_right _ (List.mem_append_right _ (mem_pinsAt hb e)))
        ⟨z.1, z.2.1⟩
      have hl : (wipe σ vs).length = σ3.length := by rw [← hw3, wipe_length]
      have I5 : Inv X [p] (wipe σ vs) H4 s4 := (I4.unpinned (pins := [p])).weak hl fun j v e => by
        rw [← hw3] at e
        exact (wipe_some e).1
      have st4 : tn (i + 1) s4.heap := T.keep _ _ _ st2 fun b hb o e => (pin' b hb o e).1
      have n4 : ∀ b ∈ fp, H4 b = none := fun b hb => by
        obtain ⟨o, e, _⟩ := T.obj _ _ st2 b hb
        exact (pin' b hb o e).2
      subst tb
      refine seg_at (seg_yield rfl rfl rfl ⟨H4, I5, g4, b, r4, ?_⟩)
      by_cases hb : b = al
      · rw [if_pos hb] at q4 ⊢
        obtain ⟨m', hm', w'⟩ := hN H4 q4
        intro s'' e1 e2 e3 e4
        exact seg_again rfl (ih (i + 1) m' s'' s'' H4 (inv_gens I5 e1 e2 e3) (by rw [e1]; exact st4) n4 w' (by omega) e4)
      · rw [if_neg hb] at q4 ⊢
        exact q4

/-- the generator, ready to be asked -/
structure Rdy (X : Cx) (A1 : Around) (σ0 : L2.St) (p : Addr × Obj) (gi : Nat) (al : Bool) (Q : QG) (n : Nat) (s : Shared) : Prop where
  gen : s.heap.IsGen p.1 gi
  lim : s.heap.NoLimit
  st : ∃ gs, s.gens[gi]? = some gs ∧ ∀ s'' : Shared, s''.heap = s.heap → s''.os = s.os → AllBare s''.gens → gi < s''.gens.size → gs.Goes (model X.prog X.w) A1 (RG X σ0 p gi al Q) (YG X σ0 p gi al Q) n (.send .none) s''
  bare : AllBare s.gens
theorem bare_set {s : Shared} {gi : Nat} {gs : GenState} (h : AllBare s.gens) (hs : gi < s.gens.size) (hb : gs.bare = true) : AllBare (s.setGen gi gs).gens := by
  have e : (s.setGen gi gs).gens[gi]? = some gs := setGen_self (gs := s.gens[gi]) (by simp [hs])
  exact GenOnlyQ.bare (GenOnlyQ.of (GenOnly.setGen s gi gs) e hb) h
theorem bare_run {s : Shared} {gi : Nat} (h : AllBare s.gens) (hs : gi < s.gens.size) : AllBare (s.setGen gi .running).gens := bare_set h hs rfl
/-- one asking -/
theorem ask_gen {A : Around} {σ0 : L2.St} {p : Addr × Obj} {gi : Nat} {al : Bool} {Q : QG} {n : Nat} {R : Option Value → Shared → Prop} {E : Value → Shared → Prop} (hh : A.handled = none) (hroom : A.depth < recursionLimit) (r : Rdy X A.in1 σ0 p gi al Q n s)
    (hY : ∀ b s', (∃ H, Inv X [p] σ0 H s' ∧ if b = al then ∃ m, m < n ∧ Rdy X A.in1 σ0 p gi al Q m s' else Q (!al) H) → R (some (.bool b)) s') (hN : ∀ s', (∃ H, Inv X [p] σ0 H s' ∧ Q al H) → R none s') (hgen : ∀ {H s'}, Inv X [p] σ0 H s' → s'.heap.IsGen p.1 gi) :
    wpAny (model X.prog X.w) A (pyNext (.ref p.1)) R E s := by
  obtain ⟨rg, rl, ⟨gs, hgs, hgo⟩, rb⟩ := r
  have hsz : gi < s.gens.size := (Array.getElem?_eq_some_iff.mp hgs).1
  refine wpAny_pyNext_genexpQ (P := fun _ _ s => ∃ H, Inv X [p] σ0 H s ∧ gi < s.gens.size ∧ Q al H) (Y := YG X σ0 p gi al Q) (n := n) hh rl hroom rg hgs (hgo _ rfl rfl (bare_run rb hsz) (by rw [setGen_size]; exact hsz)) (fun v s1 gs' hb hv => ?_) (fun s1 hp h' hk => ?_)
  · obtain ⟨H, I, g1, b, rfl, hq⟩ := hv
    have I1 : Inv X [p] σ0 H (s1.setGen gi gs') := inv_gens I rfl rfl (bare_set I.bare g1 hb)
    refine hY b _ ⟨H, I1, ?_⟩
    by_cases hba : b = al
    · rw [if_pos hba] at hq ⊢
      cases n with
      | zero => exact (hq s1 rfl rfl I.bare g1).elim
      | succ m =>
        refine ⟨m, Nat.lt_succ_self m, hgen I1, I1.nolimit, ⟨gs', setGen_self (gs := s1.gens[gi]) (by simp [g1]), fun s'' e1 e2 e3 e4 => hq s'' e1 e2 e3 e4⟩, I1.bare⟩
    · rw [if_neg hba] at hq ⊢
      exact hq
  · obtain ⟨H, I, g1, q⟩ := hp
    refine hN _ ⟨H, ?_, q⟩
    have I1 : Inv X [p] σ0 H (s1.setGen gi .finished) := inv_gens I rfl rfl (bare_set I.bare g1 rfl)
    exact I1.kept (t' := (s1.setGen gi .finished).toks) hk
theorem all_loop {A : Around} {σ0 : L2.St} {p : Addr × Obj} {gi : Nat} {Q : QG} {R : Result → Shared → Prop} (hh : A.handled = none) (hroom : A.depth < recursionLimit) (hgen : ∀ {H s'}, Inv X [p] σ0 H s' → s'.heap.IsGen p.1 gi)
    (hR : ∀ b H s', Inv X [p] σ0 H s' → Q b H → R (.ok (.ret (.bool b))) s') : ∀ (n : Nat) (s : Shared), Rdy X A.in1.in1 σ0 p gi true Q n s → codeAny (model X.prog X.w) A (.builtin "all.loop" ⟨[.ref p.1], []⟩) R s := by
  intro n
  induction n using Nat.strongRecOn with
  | ind n ih =>
    intro s r
    refine codeAny_builtin F.entry_all_loop ?_
    rw [Around.under_plainId F.plain_all_loop _]
    show wpAny _ A.in1 (pyNext (.ref p.1) >>= _) _ _ s
    refine wpAny_bind (ask_gen (A := A.in1) hh hroom r (fun b s' h => ?_) (fun s' h => ?_) hgen)
    · obtain ⟨H, I, h⟩ := h
      refine wpAny_bind (wpAny_holding (wpAny_truthy_bool ?_))
      refine wpAny_bind (wpAny_letGo ?_)
      cases b with
      | true =>
        simp only [if_true] at h ⊢
        obtain ⟨m, hm, r'⟩ := h
        exact wpAny_pure ⟨plainId_quiet F.plain_all_loop _, ih m hm s' r'⟩
      | false =>
        simp only [Bool.false_eq_true, if_false] at h ⊢
        exact wpAny_bind (wpAny_rule (wpAny_pure (hR _ H s' I h)))
    · obtain ⟨H, I, q⟩ := h
      exact wpAny_bind (wpAny_rule (wpAny_pure (hR _ H s' I q)))
theorem any_loop {A : Around} {σ0 : L2.St} {p : Addr × Obj} {gi : Nat} {Q : QG} {R : Result → Shared → Prop} (hh : A.handled = none) (hroom : A.depth < recursionLimit) (hgen : ∀ {H s'}, Inv X [p] σ0 H s' → s'.heap.IsGen p.1 gi)
    (hR : ∀ b H s', Inv X [p] σ0 H s' → Q b H → R (.ok (.ret (.bool b))) s') : ∀ (n : Nat) (s : Shared), Rdy X A.in1.in1 σ0 p gi false Q n s → codeAny (model X.prog X.w) A (.builtin "any.loop" ⟨[.ref p.1], []⟩) R s := by
  intro n
  induction n using Nat.strongRecOn with
  | ind n ih =>
    intro s r
    refine codeAny_builtin F.entry_any_loop ?_
    rw [Around.under_plainId F.plain_any_loop _]
    show wpAny _ A.in1 (pyNext (.ref p.1) >>= _) _ _ s
    refine wpAny_bind (ask_gen (A := A.in1) hh hroom r (fun b s' h => ?_) (fun s' h => ?_) hgen)
    · obtain ⟨H, I, h⟩ := h
      refine wpAny_bind (wpAny_holding (wpAny_truthy_bool ?_))
      refine wpAny_bind (wpAny_letGo ?_)
      cases b with
      | false =>
        simp only [Bool.false_eq_true, if_true, if_false] at h ⊢
        obtain ⟨m, hm, r'⟩ := h
        exact wpAny_pure ⟨plainId_quiet F.plain_any_loop _, ih m hm s' r'⟩
      | true =>
        simp only [Bool.true_eq_false, if_true, if_false] at h ⊢
        exact wpAny_bind (wpAny_rule (wpAny_pure (hR _ H s' I h)))
    · obtain ⟨H, I, q⟩ := h
      exact wpAny_bind (wpAny_rule (wpAny_pure (hR _ H s' I q)))
end

/-- all(..), any(..) of a generator expression; behind its source the def's table may have grown -/
def tGex (al : Bool) (P : Addr) (wi : TI) (g : TG) (te : TE) (vs : List Nat) : TE := fun σ H Q => wi σ H fun J H1 => TabG H1 P ∧ ∀ H2, Tabbed P H1 H2 → ∃ W : Nat → Nat → Hp → Prop, (∃ m, W 0 m H2) ∧ Turns al J g te vs σ (fun b H' => Q (.bl b) H') W
section
variable {X : Cx}
theorem over_frames {A : Around} {l : List PySem.Env} {elt tg iter : Expr} {scope : Scope} {pos : Pos} {it : Value} {ge : PySem.Env} (h : A.frames = some l) : (A.over (.compLoop (.GeneratorExp elt [⟨tg, iter, [], 0⟩] scope pos) 0 it .none ge) []).frames = some (ge :: l) := by
  obtain ⟨hd, d, fr, gs, u⟩ := A
  have h : fr = some l := h
  subst h
  simp [Around.over, envsOf, pushEnvs, Code.envs, Code.env?, Code.isFrame]
theorem pe_gex {al : Bool} {nm : Str} {c P : Addr} {elt tg iter : Expr} {p pos gpos : Pos} {scope : Scope} {own : List (Str × Nat)} {wi : TI} {g : TG} {te : TE} {k : Nat}
    (hnm : nm = if al then ("all" : Str) else "any") (hr : Room (k + 1) X.A) (hc : X.calm = true) (hN : X.N.Nodup) (hgl : Gl X nm) (hm : X.mg nm = none) (TB : TabB X.base X.mg c P) (hcode : X.env.code = .ref c) (ok : BlkOk X.N X.env.scope scope own) (hcell : ∀ y ∈ scope.names, y.2 ≠ .cell)
    (hco : scope.isCoroutine = false) (h0 : scope.names.lookup (".0" : Str) = some NameKind.local) (hi : PI X tg iter wi)
    (hg : ∀ (s : Shared) (H : Hp) (C : Addr) (code : Value) (fp : List Addr) (A : Around), Room k A → PG (genCx X s H (genEnv scope (cloFrom X.env.cells scope.names []) C code builtinsNs X.env) fp A) tg g)
    (he : ∀ (s : Shared) (H : Hp) (C : Addr) (code : Value) (fp : List Addr) (A : Around), Room k A → PE (genCx X s H (genEnv scope (cloFrom X.env.cells scope.names []) C code builtinsNs X.env) fp A) elt te)
    (hs : ∀ v, genFold iter X.env v = pure v) : PE X (.Call (.Name nm p) [.GeneratorExp elt [⟨tg, iter, [], 0⟩] scope gpos] [] pos) (tGex al P wi g te (own.map (·.2))) := by
  refine ⟨fun pins s σ H Q I h => ?_⟩
  have hfree : ∀ y ∈ scope.names, y.2 = .free → ∃ c, X.env.cells.lookup y.1 = some c := fun y hy e => by
    rcases ok.free y hy e with k | k
    · exact I.ok.has _ (.inl k)
    · exact I.ok.has _ (.inr k)
  have he2 : starEach [.GeneratorExp elt [⟨tg, iter, [], 0⟩] scope gpos] X.env = (false, eval (.GeneratorExp elt [⟨tg, iter, [], 0⟩] scope gpos) X.env) :: starEach [] X.env := rfl
  have hb : bootBuiltins nm = some (.builtin (if al then "all" else "any")) := by subst hnm; cases al <;> decide +kernel
  have hn1 : nm ≠ "__name__" := by subst hnm; cases al <;> decide
  have hn2 : (nm == ("__debug__" : Str)) = false := by subst hnm; cases al <;> decide
  refine wpAny_Call_Name_kw (ld_blt I hgl hm hb ?_ hn1 hn2)
  refine PyProof.Rows.callWith_builtin1 ?_ he2 (by rfl)
  rw [he2]
  show wpAny _ _ (spliced ((false, eval (.GeneratorExp elt [⟨tg, iter, [], 0⟩] scope gpos) X.env) :: backTo pos (starEach [] X.env))) _ _ s
  refine Calls.spliced_cons (wpAny_GeneratorExp_make hco (closure_ok hfree) hcell h0 ok.kind hr.depth ?_ hs)
  refine thn (hi.run pins s σ H _ I h) fun xv s1 hx => thn hx fun itv s2 h2 => ?_
  obtain ⟨it, fp, tn, J, H2, e, I2, T, st2, f2, ⟨ps, hP, ht⟩, q⟩ := h2
  subst e
  refine ⟨I2.nolimit, ?_⟩
  have hPs : s2.heap.get? P = some { cls := .none, data := .fields ps } := I2.hok P _ hP
  have cd : PySem.W.CodeHd s2.heap c P := TB.code.keeps fun b u e => I2.bk b u e
  have cont : ∀ (code : Value) (h3 : Heap) (tk : Nat) (ps' : Array Value), Heap.ExtBut P s2.heap h3 → h3.get? P = some { cls := .none, data := .fields ps' } → (∃ more, ps' = ps ++ more) → TriplesOk ps'.toList →
      wpAny (model X.prog X.w) X.A (builtinsFor X.env.globals X.env.builtins) (fun bi s₄ =>
        ∀ h', h'.Ns s₄.heap.objs.size (fun y => if y = ".0" then some (.ref it) else none) → Heap.SameBut s₄.heap.objs.size (s₄.heap.push { cls := .type "frame", data := .dict #[] }) h' →
          wpAny (model X.prog X.w) X.A (spliced (backTo pos (starEach [] X.env))) (fun vs s₁ => wpAny (model X.prog X.w) X.A (call (.builtin (if al then "all" else "any")) (Value.ref h'.objs.size :: vs)) (EP X pins σ Q) X.xe s₁) X.xe { s₄ with
            gens := s₄.gens.push (.fresh (.compStart (.GeneratorExp elt [⟨tg, iter, [], 0⟩] scope gpos) 0 (.ref it) .none (genEnv scope (cloFrom X.env.cells scope.names []) s₄.heap.objs.size code bi X.env))),
            toks := s₄.toks + 1 + 1 + 1,
            heap := h'.push { cls := .type "generator", data := .fields #[.int s₄.gens.size 0, .str "<genexpr>" (s₄.toks + 1), .str (X.env.qual ++ "<genexpr>") (s₄.toks + 1 + 1)] } }) X.xe { s2 with heap := h3, toks := tk } := by
    intro code h3 tk ps' hx hP3 hmore ht3
    obtain ⟨bm, ob, e1, e2, e3, e4, e5, e6, e7, e8⟩ := TB.bm
    have keep3 : ∀ b u, b ≠ P → s2.heap.get? b = some u → h3.get? b = some u := fun b u hb e => hx b u hb e
    refine wpAny_builtinsFor (m := X.mg) (by rw [I2.ok.glob]; exact (I2.mod.glob.keeps I2.bk).extBut hx TB.gP) e1 e2 (keep3 _ _ e4 (I2.bk _ _ e5)) e6 e7 e8 ?_
    obtain ⟨more, em⟩ := hmore
    have I3 : Inv X pins σ (upd H2 P (.tbl (ps ++ more))) { s2 with heap := h3, toks := tk } := inv_tab (more := more) (h' := h3) (g' := s2.gens) (d' := s2.drawn) (t' := tk) I2 hP (fun b u hb e => keep3 b u hb e) (by rw [← em]; exact hP3) I2.bare
    have tabd : Tabbed P H2 (upd H2 P (.tbl (ps ++ more))) := ⟨⟨ps ++ more, upd_same, by rw [← em]; exact ht3⟩, fun b hb => upd_ne hb⟩
    obtain ⟨W, ⟨m0, w0⟩, tw⟩ := q _ tabd
    generalize hs3 : ({ s2 with heap := h3, toks := tk } : Shared) = s3 at I3 ⊢
    have h3e : s3.heap = h3 := by rw [← hs3]
    generalize hH3 : upd H2 P (.tbl (ps ++ more)) = H3 at I3 w0 tabd
    intro h' hn' hs'
    have hsz : h'.objs.size = s3.heap.objs.size + 1 := by rw [hs'.1, Heap.size_push]
    have keep' : ∀ b o, s3.heap.get? b = some o → h'.get? b = some o := fun b o e => hs'.extBut b o (Nat.ne_of_lt (Heap.lt_size e)) (Heap.get?_push_of_some _ e)
    have nfP : ∀ b ∈ fp, b ≠ P := fun b hb z => by
      have := (f2 b hb).1
      rw [z, hP] at this
      cases this
    have st3 : tn 0 s3.heap := T.keep _ _ _ st2 fun b hb o e => by rw [h3e]; exact keep3 b o (nfP b hb) e
    have f3 : ∀ b ∈ fp, FpOk X pins H3 b ∧ b < s3.heap.objs.size := fun b hb => by
      obtain ⟨o, e, _⟩ := T.obj _ _ st3 b hb
      refine ⟨⟨?_, (f2 b hb).2⟩, Heap.lt_size e⟩
      rw [tabd.2 b (nfP b hb)]
      exact (f2 b hb).1
    -- the generator's own frame
    generalize hgo : ({ cls := .type "generator", data := .fields #[.int s3.gens.size 0, .str "<genexpr>" (s3.toks + 1), .str (X.env.qual ++ "<genexpr>") (s3.toks + 1 + 1)] } : Obj) = go
    generalize hge : genEnv scope (cloFrom X.env.cells scope.names []) s3.heap.objs.size code builtinsNs X.env = ge
    generalize hgx : Expr.GeneratorExp elt [⟨tg, iter, [], 0⟩] scope gpos = gx
    generalize hA' : (X.A.in1.in1).over (.compLoop gx 0 (.ref it) .none ge) [] = A'
    have hf' : A'.frames = some (ge :: X.stack) := by
      rw [← hA', ← hgx]
      exact over_frames (A := X.A.in1.in1) I.ok.frames
    have hh' : A'.handled = none := by rw [← hA']; exact hr.hd
    have room' : Room k A' := by
      refine ⟨hh', ?_, ?_⟩
      · have := hr.dp
        have e : A'.depth ≤ X.A.depth + 1 := by rw [← hA', ← hgx]; exact Nat.le_of_eq rfl
        omega
      · have := hr.un
        have e : A'.units ≤ X.A.units + 5 := by rw [← hA', ← hgx]; exact Nat.le_of_eq rfl
        omega
    have keep5 : ∀ b o, s3.heap.get? b = some o → (h'.push go).get? b = some o := fun b o e => Heap.get?_push_of_some _ (keep' b o e)
    have hfr : ∀ b ∈ [(h'.objs.size, go)], b.1 = h'.objs.size := fun b hb => by simp at hb; rw [hb]
    generalize hs5 : ({ s3 with gens := s3.gens.push (.fresh (.compStart gx 0 (.ref it) .none ge)), toks := s3.toks + 1 + 1 + 1, heap := h'.push go } : Shared) = s5
    have h5e : s5.heap = h'.push go := by rw [← hs5]
    have I4 : Inv (genCx X s3 H3 ge fp A') [(h'.objs.size, go)] (wipe σ (own.map (·.2))) H3 s5 := by
      have := gen_start (code := code) (A := A') (g := s3.gens.push (.fresh (.compStart gx 0 (.ref it) .none ge))) (tk := s3.toks + 1 + 1 + 1) (ga := h'.objs.size) (go := go) I3 ok hN hcell f3 (by rw [hge]; exact hf') hh' keep5 (hn'.push _) (I3.bare.push rfl) (Heap.get?_push_size _ (by rw [← hgo]; rfl)) (by omega) (by rw [← hgo]; exact fun v z => nomatch z)
      rw [hge] at this
      rw [← hs5]
      exact this
    have isG : ∀ {H : Hp} {s' : Shared}, Inv (genCx X s3 H3 ge fp A') [(h'.objs.size, go)] (wipe σ (own.map (·.2))) H s' → s'.heap.IsGen h'.objs.size s3.gens.size := fun {H s'} I' => by
      have z := (I'.pin (h'.objs.size, go) (by simp)).1
      exact ⟨go, _, _, z, by rw [← hgo], by rw [← hgo], by rw [← hgo]⟩
    have gsz : s3.gens.size < s5.gens.size := by rw [← hs5]; simp
    have ggs : s5.gens[s3.gens.size]? = some (.fresh (.compStart gx 0 (.ref it) .none ge)) := by rw [← hs5]; simp
    have hfpG : ∀ b ∈ fp, b ≠ (genCx X s3 H3 ge fp A').env.locals ∧ b ∉ (genCx X s3 H3 ge fp A').fs ∧ b ∈ (genCx X s3 H3 ge fp A').ex ∧ (∀ x c, (genCx X s3 H3 ge fp A').env.cells.lookup x = some c → c ≠ b) ∧ h'.objs.size ≠ b := fun b hb =>
      ⟨(I4.ok.exf b hb).1, I4.ok.exfs b hb, hb, (I4.ok.exf b hb).2, fun z => by have z1 := (f3 b hb).2; rw [← z, hsz] at z1; exact absurd z1 (Nat.not_lt_of_le (Nat.le_succ _))⟩
    have st5 : tn 0 s5.heap := T.keep _ _ _ st3 fun b _ o e => by rw [h5e]; exact keep5 b o e
    have seg := fun (s₀ s'' : Shared) (e1 : s''.heap = s5.heap) (e2 : s''.os = s5.os) (e3 : AllBare s''.gens) (e4 : s3.gens.size < s''.gens.size) =>
      seg_gex (X := genCx X s3 H3 ge fp A') (A1 := X.A.in1.in1) (elt := elt) (tg := tg) (iter := iter) (scope := scope) (pos := gpos) (it := it) (p := (h'.objs.size, go)) (gi := s3.gens.size) (al := al) (Q := fun b H' => Q (.bl b) H') (by rw [hgx]; exact hA') hc rfl rfl (by rw [← hge]; exact hco) T
        (by rw [← hge]; exact hg _ _ _ _ _ _ room') (by rw [← hge]; exact he _ _ _ _ _ _ room') hfpG tw (m0 + 1) 0 m0 s₀ s'' H3 (inv_gens I4 e1 e2 e3) (by rw [e1]; exact st5) (fun b hb => (f3 b hb).1.1) w0 (Nat.lt_succ_self m0) e4
    rw [hgx] at seg
    have rdy : Rdy (genCx X s3 H3 ge fp A') X.A.in1.in1 (wipe σ (own.map (·.2))) (h'.objs.size, go) s3.gens.size al (fun b H' => Q (.bl b) H') (m0 + 1) s5 := by
      refine ⟨isG I4, I4.nolimit, ⟨_, ggs, fun s'' e1 e2 e3 e4 => ⟨rfl, ?_⟩⟩, I4.bare⟩
      have loop := seg s'' s'' e1 e2 e3 e4
      rw [← hgx] at loop ⊢
      show Seg _ X.A.in1.in1 _ _ _ s'' _ ((compStart (.GeneratorExp elt [⟨tg, iter, [], 0⟩] scope gpos) 0 (.ref it) .none ge).onRaise (leaving ge)) [] s''
      unfold compStart
      rw [Sem.onRaise_eq_wrap]
      show Seg _ X.A.in1.in1 _ _ _ s'' _ ((ask >>= _).wrap _ _ _ _) [] s''
      refine seg_bind_wrap (wpAny_askSetting ?_)
      split
      · exact seg_again rfl loop
      · first
          | exact seg_bind_wrap (wpAny_rule (seg_bind_wrap (wpAny_standAt (seg_bind_wrap (T.self _ 0 s'' _ _ (by rw [e1]; exact st5) (seg_again rfl loop))))))
          | (refine seg_bind_wrap (wpAny_rule ?_); show Seg _ X.A.in1.in1 _ _ _ s'' _ ((standAt iter.pos >>= _).wrap _ _ _ _) [] s''; exact seg_bind_wrap (wpAny_standAt (seg_bind_wrap (T.self _ 0 s'' _ _ (by rw [e1]; exact st5) (seg_again rfl loop)))))
    -- back in the def
    have back : ∀ (b : Bool) (H' : Hp) (s' : Shared), Inv (genCx X s3 H3 ge fp A') [(h'.objs.size, go)] (wipe σ (own.map (·.2))) H' s' → Q (.bl b) H' → EP X pins σ Q (.bool b) s' := fun b H' s' I6 qb => by
      have I7 : Inv X pins σ H' s' := I3.call' (ch := fp) I6.os I6.base I6.hok I6.bare fun b hb => ⟨(f3 b hb).1.2.2.2.1, (f3 b hb).1.2.1, (f3 b hb).1.2.2.2.2.1, (f3 b hb).1.2.2.2.2.2⟩
      exact ⟨.bl b, H', I7, rfl, qb⟩
    refine Calls.spliced_nil ?_
    cases al with
    | true =>
      simp only [if_true]
      refine call_function_tree F.kind_all F.plain_all F.entry_all (F.args_all1 _) ?_
      unfold Builtin.«all»
      refine wpAny_bind (m := oneArg "all" _) (wpAny_pure ?_)
      refine wpAny_bind (wpAny_pyIter_gen (isG I4) ?_)
      exact wpAny_pure ⟨plainId_quiet F.plain_all_loop _, all_loop (p := (h'.objs.size, go)) hr.hd hr.depth isG (fun b H' s' I6 qb => back b H' s' I6 qb) _ s5 rdy⟩
    | false =>
      simp only [Bool.false_eq_true, if_false]
      refine call_function_tree F.kind_any F.plain_any F.entry_any (F.args_any1 _) ?_
      unfold Builtin.«any»
      refine wpAny_bind (m := oneArg "any" _) (wpAny_pure ?_)
      refine wpAny_bind (wpAny_pyIter_gen (isG I4) ?_)
      exact wpAny_pure ⟨plainId_quiet F.plain_any_loop _, any_loop (p := (h'.objs.size, go)) hr.hd hr.depth isG (fun b H' s' I6 qb => back b H' s' I6 qb) _ s5 rdy⟩
  cases hf : codeAmong gpos ps.toList with
  | none =>
    refine wpAny_genexprCodeX hcode (cd.code hPs ht) (cd.tab hPs) hf fun c' h' tk hx hge hlt hco' _ htab' _ => ?_
    obtain ⟨o1, vs, f1, tf, fl, tg, inF, tx, tt, op, _, _, _, _, _, _, _, _, _, htr, _⟩ := hco'
    exact cont _ h' tk _ hx htab'.2 ⟨_, rfl⟩ htr
  | some cv =>
    refine wpAny_genexprCode_hit hcode (cd.code hPs ht) hf ?_
    exact cont cv s2.heap s2.toks ps (Heap.ExtBut.refl _ _) hPs ⟨#[], by simp⟩ ht
end
end GexX

/-! G11: as G01, with tests in the clause. -/
namespace GexX
open PySem PySem.Spec PyProof.Rows L2 GxR GenW
/-- turns: W by the turn and a measure -/
def TurnsI (al : Bool) (J : It) (g : TG) (tc : TT) (te : TE) (vs : List Nat) (σ : L2.St) (Q : QG) (W : Nat → Nat → Hp → Prop) : Prop := ∀ i m H, W i m H →
  (J.stop i H ∧ Q al H) ∨ (J.go i H ∧ ∃ Nx : Hp → Prop, (∀ H', Nx H' → ∃ m', m' < m ∧ W (i + 1) m' H') ∧ ∀ x H', J.yld i H x H' → g x (wipe σ vs) H' fun σ2 H2 => wipe σ2 vs = wipe σ vs ∧ tc σ2 H2 fun k H25 => if k = true then te σ2 H25 fun y H3 =>
    ∃ b, y = .bl b ∧ (if b = al then Nx H3 else Q (!al) H3) else Nx H25)
section
variable {X : Cx} {pins : List (Addr × Obj)} {σ : L2.St} {H : Hp} {s : Shared}
theorem seg_gexi {A1 : Around} {elt tg iter : Expr} {ifs : List Expr} {scope : Scope} {pos : Pos} {it : Addr} {fp : List Addr} {tn : Nat → Heap → Prop} {J : It} {g : TG} {tc : TT} {te : TE} {vs : List Nat} {p : Addr × Obj} {gi : Nat} {al : Bool} {Q : QG} {W : Nat → Nat → Hp → Prop}
    (hA : A1.over (.compLoop (.GeneratorExp elt [⟨tg, iter, ifs, 0⟩] scope pos) 0 (.ref it) .none X.env) [] = X.A) (hc : X.calm = true) (hx : X.xe = fun _ _ => False) (hpn : X.pn = []) (hco : X.env.scope.isCoroutine = false) (T : Turn X.prog X.w X.K tg J fp it tn)
    (hg : PG X tg g) (ht : PTs X ifs tc) (he : PE X elt te) (hfp : ∀ b ∈ fp, b ≠ X.env.locals ∧ b ∉ X.fs ∧ b ∈ X.ex ∧ (∀ x c, X.env.cells.lookup x = some c → c ≠ b) ∧ p.1 ≠ b) (tw : TurnsI al J g tc te vs σ Q W) :
    ∀ (n i m : Nat) (s₀ s : Shared) (H : Hp), Inv X [p] (wipe σ vs) H s → tn i s.heap → (∀ b ∈ fp, H b = none) → W i m H → m < n → gi < s.gens.size →
      Seg (model X.prog X.w) A1 (RG X (wipe σ vs) p gi al Q) (YG X (wipe σ vs) p gi al Q) n s₀ (.compLoop (.GeneratorExp elt [⟨tg, iter, ifs, 0⟩] scope pos) 0 (.ref it) .none X.env)
        ((model X.prog X.w).den (.compLoop (.GeneratorExp elt [⟨tg, iter, ifs, 0⟩] scope pos) 0 (.ref it) .none X.env)) [] s := by
  intro n
  induction n with
  | zero => intro i m s₀ s H _ _ _ _ hm _; exact absurd hm (Nat.not_lt_zero _)
  | succ n ih =>
    intro i m
    induction m using Nat.strongRecOn generalizing i with
    | ind m ihm =>
    intro s₀ s H I st nf w hm hgi
    have stat : ∀ {H' : Hp}, (∀ b ∈ fp, H' b = none) → ∀ b ∈ fp, FpOk X [p] H' b := fun hn b hb => ⟨hn b hb, (hfp b hb).1, (hfp b hb).2.1, .inl (hfp b hb).2.2.1, (hfp b hb).2.2.2.1, fun q hq => by
      rw [hpn] at hq
      have : q = p := by simpa using hq
      rw [this]; exact (hfp b hb).2.2.2.2⟩
    have noE : ∀ {α : Type} {t : Sem α} {P : α → Shared → Prop} {E : Value → Shared → Prop} {s : Shared}, gi < s.gens.size → wpAny (model X.prog X.w) X.A t (fun a s' => gi < s'.gens.size → P a s') X.xe s → wpAny (model X.prog X.w) X.A t P E s := fun {α t P E s} hs h =>
      wpAny_gsz (n := gi + 1) hs (wpAny_mono h (fun a s' q z => q z) fun e s' q => by rw [hx] at q; exact q.elim)
    show Seg _ A1 _ _ _ s₀ _ ((compTurn (.GeneratorExp elt [⟨tg, iter, ifs, 0⟩] scope pos) 0 (.ref it) .none X.env).onRaise (leaving X.env)) [] s
    rw [compTurn_gen, Sem.onRaise_eq_wrap]
    refine seg_bind_wrap (wpAny_standAt ?_)
    rcases tw i m H w with ⟨stop, q⟩ | ⟨go, Nx, hN, step⟩
    · refine seg_bind_wrap ?_
      rw [hA]
      refine noE hgi (thn (T.done X rfl rfl rfl hc i [p] s _ H X.xe I (stat nf) st stop) fun r s1 ⟨hr, I1⟩ h1 => ?_)
      subst hr
      exact seg_end (.ok .next) ⟨rfl, H, I1, h1, q⟩
    · refine seg_bind_wrap ?_
      rw [hA]
      refine noE hgi (thn (T.item X rfl rfl rfl hc i [p] s _ H X.xe I (stat nf) st go) fun r s1 ⟨u, hr, h2⟩ g1 => ?_)
      subst hr
      refine seg_bind_wrap ?_
      rw [hA]
      refine noE g1 (thn h2 fun _ s2 ⟨x, H2, I2, r2, y2, st2, n2⟩ g2 => ?_)
      have I2' := I2.pinned (stat n2) (T.obj _ _ st2)
      refine seg_bind_wrap ?_
      rw [hA]
      refine noE g2 (thn (hg.run _ s2 _ H2 x u _ I2' r2 (step x H2 y2)) fun _ s3 ⟨σ3, H3, I3, hw3, q3⟩ g3 => ?_)
      refine seg_bind_wrap ?_
      rw [hA]
      refine noE g3 (thn (ht.run _ s3 σ3 H3 _ I3 q3) fun k s35 ⟨H35, I35, q35⟩ g35 => ?_)
      have hl3 : (wipe σ vs).length = σ3.length := by rw [← hw3, wipe_length]
      cases k with
      | false =>
        have q35 : Nx H35 := q35
        have pin' : ∀ b ∈ fp, ∀ o, s2.heap.get? b = some o → s35.heap.get? b = some o ∧ H35 b = none := fun b hb o e =>
          let z := I35.pin (b, o) (List.mem_append_right _ (List.mem_append_right _ (mem_pinsAt hb e)))
          ⟨z.1, z.2.1⟩
        have I5 : Inv X [p] (wipe σ vs) H35 s35 := (I35.unpinned (pins := [p])).weak hl3 fun j v e => by
          rw [← hw3] at e
          exact (wipe_some e).1
        have st4 : tn (i + 1) s35.heap := T.keep _ _ _ st2 fun b hb o e => (pin' b hb o e).1
        have n4 : ∀ b ∈ fp, H35 b = none := fun b hb => by
          obtain ⟨o, e, _⟩ := T.obj _ _ st2 b hb
          exact (pin' b hb o e).2
        obtain ⟨m', hm', w'⟩ := hN H35 q35
        simp only [Bool.false_eq_true, if_false]
        exact seg_again rfl (ihm m' hm' (i + 1) s₀ s35 H35 I5 st4 n4 w' (by omega) g35)
      | true =>
      have q35 : te σ3 H35 fun y H3 => ∃ b, y = .bl b ∧ (if b = al then Nx H3 else Q (!al) H3) := q35
      simp only [if_true]
      have hy : ∀ v, yieldOut X.env v = yieldValue v := fun v => by simp only [yieldOut, hco, Bool.false_eq_true, if_false]
      simp only [hy]
      rw [Sem.bind_eq_wrap', Sem.bind_eq_wrap', Sem.wrap_wrap, Sem.wrap_wrap]
      refine seg_wrap ?_
      rw [hA]
      refine noE g35 (thn (he.run _ s35 σ3 H35 _ I35 q35) fun v s4 ⟨y, H4, I4, r4, b, tb, q4⟩ g4 => ?_)
      have pin' : ∀ b ∈ fp, ∀ o, s2.heap.get? b = some o → s4.heap.get? b = some o ∧ H4 b = none := fun b hb o e =>
        let z := I4.pin (b, o) (List.mem_append_right _ (List.mem_append_right _ (mem_pinsAt hb e)))
        ⟨z.1, z.2.1⟩
      have hl : (wipe σ vs).length = σ3.length := by rw [← hw3, wipe_length]
      have I5 : Inv X [p] (wipe σ vs) H4 s4 := (I4.unpinned (pins := [p])).weak hl fun j v e => by
        rw [← hw3] at e
        exact (wipe_some e).1
      have st4 : tn (i + 1) s4.heap := T.keep _ _ _ st2 fun b hb o e => (pin' b hb o e).1
      have n4 : ∀ b ∈ fp, H4 b = none := fun b hb => by
        obtain ⟨o, e, _⟩ := T.obj _ _ st2 b hb
        exact (pin' b hb o e).2
      subst tb
      refine seg_at (seg_yield rfl rfl rfl ⟨H4, I5, g4, b, r4, ?_⟩)
      by_cases hb : b = al
      · rw [if_pos hb] at q4 ⊢
        obtain ⟨m', hm', w'⟩ := hN H4 q4
        intro s'' e1 e2 e3 e4
        exact seg_again rfl (ih (i + 1) m' s'' s'' H4 (inv_gens I5 e1 e2 e3) (by rw [e1]; exact st4) n4 w' (by omega) e4)
      · rw [if_neg hb] at q4 ⊢
        exact q4

end
/-- all(..), any(..) of a generator expression; behind its source the def's table may have grown -/
def tGexi (al : Bool) (P : Addr) (wi : TI) (g : TG) (tc : TT) (te : TE) (vs : List Nat) : TE := fun σ H Q => wi σ H fun J H1 => TabG H1 P ∧ ∀ H2, Tabbed P H1 H2 → ∃ W : Nat → Nat → Hp → Prop, (∃ m, W 0 m H2) ∧ TurnsI al J g tc te vs σ (fun b H' => Q (.bl b) H') W
section
variable {X : Cx}
theorem over_framesI {A : Around} {l : List PySem.Env} {elt tg iter : Expr} {ifs : List Expr} {scope : Scope} {pos : Pos} {it : Value} {ge : PySem.Env} (h : A.frames = some l) : (A.over (.compLoop (.GeneratorExp elt [⟨tg, iter, ifs, 0⟩] scope pos) 0 it .none ge) []).frames = some (ge :: l) := by
  obtain ⟨hd, d, fr, gs, u⟩ := A
  have h : fr = some l := h
  subst h
  simp [Around.over, envsOf, pushEnvs, Code.envs, Code.env?, Code.isFrame]
theorem pe_gexi {al : Bool} {nm : Str} {c P : Addr} {elt tg iter : Expr} {ifs : List Expr} {p pos gpos : Pos} {scope : Scope} {own : List (Str × Nat)} {wi : TI} {g : TG} {tc : TT} {te : TE} {k : Nat}
    (hnm : nm = if al then ("all" : Str) else "any") (hr : Room (k + 1) X.A) (hc : X.calm = true) (hN : X.N.Nodup) (hgl : Gl X nm) (hm : X.mg nm = none) (TB : TabB X.base X.mg c P) (hcode : X.env.code = .ref c) (ok : BlkOk X.N X.env.scope scope own) (hcell : ∀ y ∈ scope.names, y.2 ≠ .cell)
    (hco : scope.isCoroutine = false) (h0 : scope.names.lookup (".0" : Str) = some NameKind.local) (hi : PI X tg iter wi)
    (hg : ∀ (s : Shared) (H : Hp) (C : Addr) (code : Value) (fp : List Addr) (A : Around), Room k A → PG (genCx X s H (genEnv scope (cloFrom X.env.cells scope.names []) C code builtinsNs X.env) fp A) tg g)
    (htc : ∀ (s : Shared) (H : Hp) (C : Addr) (code : Value) (fp : List Addr) (A : Around), Room k A → PTs (genCx X s H (genEnv scope (cloFrom X.env.cells scope.names []) C code builtinsNs X.env) fp A) ifs tc)
    (he : ∀ (s : Shared) (H : Hp) (C : Addr) (code : Value) (fp : List Addr) (A : Around), Room k A → PE (genCx X s H (genEnv scope (cloFrom X.env.cells scope.names []) C code builtinsNs X.env) fp A) elt te)
    (hs : ∀ v, genFold iter X.env v = pure v) : PE X (.Call (.Name nm p) [.GeneratorExp elt [⟨tg, iter, ifs, 0⟩] scope gpos] [] pos) (tGexi al P wi g tc te (own.map (·.2))) := by
  refine ⟨fun pins s σ H Q I h => ?_⟩
  have hfree : ∀ y ∈ scope.names, y.2 = .free → ∃ c, X.env.cells.lookup y.1 = some c := fun y hy e => by
    rcases ok.free y hy e with k | k
    · exact I.ok.has _ (.inl k)
    · exact I.ok.has _ (.inr k)
  have he2 : starEach [.GeneratorExp elt [⟨tg, iter, ifs, 0⟩] scope gpos] X.env = (false, eval (.GeneratorExp elt [⟨tg, iter, ifs, 0⟩] scope gpos) X.env) :: starEach [] X.env := rfl
  have hb : bootBuiltins nm = some (.builtin (if al then "all" else "any")) := by subst hnm; cases al <;> decide +kernel
  have hn1 : nm ≠ "__name__" := by subst hnm; cases al <;> decide
  have hn2 : (nm == ("__debug__" : Str)) = false := by subst hnm; cases al <;> decide
  refine wpAny_Call_Name_kw (ld_blt I hgl hm hb ?_ hn1 hn2)
  refine PyProof.Rows.callWith_builtin1 ?_ he2 (by rfl)
  rw [he2]
  show wpAny _ _ (spliced ((false, eval (.GeneratorExp elt [⟨tg, iter, ifs, 0⟩] scope gpos) X.env) :: backTo pos (starEach [] X.env))) _ _ s
  refine Calls.spliced_cons (wpAny_GeneratorExp_make hco (closure_ok hfree) hcell h0 ok.kind hr.depth ?_ hs)
  refine thn (hi.run pins s σ H _ I h) fun xv s1 hx => thn hx fun itv s2 h2 => ?_
  obtain ⟨it, fp, tn, J, H2, e, I2, T, st2, f2, ⟨ps, hP, ht⟩, q⟩ := h2
  subst e
  refine ⟨I2.nolimit, ?_⟩
  have hPs : s2.heap.get? P = some { cls := .none, data := .fields ps } := I2.hok P _ hP
  have cd : PySem.W.CodeHd s2.heap c P := TB.code.keeps fun b u e => I2.bk b u e
  have cont : ∀ (code : Value) (h3 : Heap) (tk : Nat) (ps' : Array Value), Heap.ExtBut P s2.heap h3 → h3.get? P = some { cls := .none, data := .fields ps' } → (∃ more, ps' = ps ++ more) → TriplesOk ps'.toList →
      wpAny (model X.prog X.w) X.A (builtinsFor X.env.globals X.env.builtins) (fun bi s₄ =>
        ∀ h', h'.Ns s₄.heap.objs.size (fun y => if y = ".0" then some (.ref it) else none) → Heap.SameBut s₄.heap.objs.size (s₄.heap.push { cls := .type "frame", data := .dict #[] }) h' →
          wpAny (model X.prog X.w) X.A (spliced (backTo pos (starEach [] X.env))) (fun vs s₁ => wpAny (model X.prog X.w) X.A (call (.builtin (if al then "all" else "any")) (Value.ref h'.objs.size :: vs)) (EP X pins σ Q) X.xe s₁) X.xe { s₄ with
            gens := s₄.gens.push (.fresh (.compStart (.GeneratorExp elt [⟨tg, iter, ifs, 0⟩] scope gpos) 0 (.ref it) .none (genEnv scope (cloFrom X.env.cells scope.names []) s₄.heap.objs.size code bi X.env))),
            toks := s₄.toks + 1 + 1 + 1,
            heap := h'.push { cls := .type "generator", data := .fields #[.int s₄.gens.size 0, .str "<genexpr>" (s₄.toks + 1), .str (X.env.qual ++ "<genexpr>") (s₄.toks + 1 + 1)] } }) X.xe { s2 with heap := h3, toks := tk } := by
    intro code h3 tk ps' hx hP3 hmore ht3
    obtain ⟨bm, ob, e1, e2, e3, e4, e5, e6, e7, e8⟩ := TB.bm
    have keep3 : ∀ b u, b ≠ P → s2.heap.get? b = some u → h3.get? b = some u := fun b u hb e => hx b u hb e
    refine wpAny_builtinsFor (m := X.mg) (by rw [I2.ok.glob]; exact (I2.mod.glob.keeps I2.bk).extBut hx TB.gP) e1 e2 (keep3 _ _ e4 (I2.bk _ _ e5)) e6 e7 e8 ?_
    obtain ⟨more, em⟩ := hmore
    have I3 : Inv X pins σ (upd H2 P (.tbl (ps ++ more))) { s2 with heap := h3, toks := tk } := inv_tab (more := more) (h' := h3) (g' := s2.gens) (d' := s2.drawn) (t' := tk) I2 hP (fun b u hb e => keep3 b u hb e) (by rw [← em]; exact hP3) I2.bare
    have tabd : Tabbed P H2 (upd H2 P (.tbl (ps ++ more))) := ⟨⟨ps ++ more, upd_same, by rw [← em]; exact ht3⟩, fun b hb => upd_ne hb⟩
    obtain ⟨W, ⟨m0, w0⟩, tw⟩ := q _ tabd
    generalize hs3 : ({ s2 with heap := h3, toks := tk } : Shared) = s3 at I3 ⊢
    have h3e : s3.heap = h3 := by rw [← hs3]
    generalize hH3 : upd H2 P (.tbl (ps ++ more)) = H3 at I3 w0 tabd
    intro h' hn' hs'
    have hsz : h'.objs.size = s3.heap.objs.size + 1 := by rw [hs'.1, Heap.size_push]
    have keep' : ∀ b o, s3.heap.get? b = some o → h'.get? b = some o := fun b o e => hs'.extBut b o (Nat.ne_of_lt (Heap.lt_size e)) (Heap.get?_push_of_some _ e)
    have nfP : ∀ b ∈ fp, b ≠ P := fun b hb z => by
      have := (f2 b hb).1
      rw [z, hP] at this
      cases this
    have st3 : tn 0 s3.heap := T.keep _ _ _ st2 fun b hb o e => by rw [h3e]; exact keep3 b o (nfP b hb) e
    have f3 : ∀ b ∈ fp, FpOk X pins H3 b ∧ b < s3.heap.objs.size := fun b hb => by
      obtain ⟨o, e, _⟩ := T.obj _ _ st3 b hb
      refine ⟨⟨?_, (f2 b hb).2⟩, Heap.lt_size e⟩
      rw [tabd.2 b (nfP b hb)]
      exact (f2 b hb).1
    -- the generator's own frame
    generalize hgo : ({ cls := .type "generator", data := .fields #[.int s3.gens.size 0, .str "<genexpr>" (s3.toks + 1), .str (X.env.qual ++ "<genexpr>") (s3.toks + 1 + 1)] } : Obj) = go
    generalize hge : genEnv scope (cloFrom X.env.cells scope.names []) s3.heap.objs.size code builtinsNs X.env = ge
    generalize hgx : Expr.GeneratorExp elt [⟨tg, iter, ifs, 0⟩] scope gpos = gx
    generalize hA' : (X.A.in1.in1).over (.compLoop gx 0 (.ref it) .none ge) [] = A'
    have hf' : A'.frames = some (ge :: X.stack) := by
      rw [← hA', ← hgx]
      exact over_framesI (A := X.A.in1.in1) I.ok.frames
    have hh' : A'.handled = none := by rw [← hA']; exact hr.hd
    have room' : Room k A' := by
      refine ⟨hh', ?_, ?_⟩
      · have := hr.dp
        have e : A'.depth ≤ X.A.depth + 1 := by rw [← hA', ← hgx]; exact Nat.le_of_eq rfl
        omega
      · have := hr.un
        have e : A'.units ≤ X.A.units + 5 := by rw [← hA', ← hgx]; exact Nat.le_of_eq rfl
        omega
    have keep5 : ∀ b o, s3.heap.get? b = some o → (h'.push go).get? b = some o := fun b o e => Heap.get?_push_of_some _ (keep' b o e)
    have hfr : ∀ b ∈ [(h'.objs.size, go)], b.1 = h'.objs.size := fun b hb => by simp at hb; rw [hb]
    generalize hs5 : ({ s3 with gens := s3.gens.push (.fresh (.compStart gx 0 (.ref it) .none ge)), toks := s3.toks + 1 + 1 + 1, heap := h'.push go } : Shared) = s5
    have h5e : s5.heap = h'.push go := by rw [← hs5]
    have I4 : Inv (genCx X s3 H3 ge fp A') [(h'.objs.size, go)] (wipe σ (own.map (·.2))) H3 s5 := by
      have := gen_start (code := code) (A := A') (g := s3.gens.push (.fresh (.compStart gx 0 (.ref it) .none ge))) (tk := s3.toks + 1 + 1 + 1) (ga := h'.objs.size) (go := go) I3 ok hN hcell f3 (by rw [hge]; exact hf') hh' keep5 (hn'.push _) (I3.bare.push rfl) (Heap.get?_push_size _ (by rw [← hgo]; rfl)) (by omega) (by rw [← hgo]; exact fun v z => nomatch z)
      rw [hge] at this
      rw [← hs5]
      exact this
    have isG : ∀ {H : Hp} {s' : Shared}, Inv (genCx X s3 H3 ge fp A') [(h'.objs.size, go)] (wipe σ (own.map (·.2))) H s' → s'.heap.IsGen h'.objs.size s3.gens.size := fun {H s'} I' => by
      have z := (I'.pin (h'.objs.size, go) (by simp)).1
      exact ⟨go, _, _, z, by rw [← hgo], by rw [← hgo], by rw [← hgo]⟩
    have gsz : s3.gens.size < s5.gens.size := by rw [← hs5]; simp
    have ggs : s5.gens[s3.gens.size]? = some (.fresh (.compStart gx 0 (.ref it) .none ge)) := by rw [← hs5]; simp
    have hfpG : ∀ b ∈ fp, b ≠ (genCx X s3 H3 ge fp A').env.locals ∧ b ∉ (genCx X s3 H3 ge fp A').fs ∧ b ∈ (genCx X s3 H3 ge fp A').ex ∧ (∀ x c, (genCx X s3 H3 ge fp A').env.cells.lookup x = some c → c ≠ b) ∧ h'.objs.size ≠ b := fun b hb =>
      ⟨(I4.ok.exf b hb).1, I4.ok.exfs b hb, hb, (I4.ok.exf b hb).2, fun z => by have z1 := (f3 b hb).2; rw [← z, hsz] at z1; exact absurd z1 (Nat.not_lt_of_le (Nat.le_succ _))⟩
    have st5 : tn 0 s5.heap := T.keep _ _ _ st3 fun b _ o e => by rw [h5e]; exact keep5 b o e
    have seg := fun (s₀ s'' : Shared) (e1 : s''.heap = s5.heap) (e2 : s''.os = s5.os) (e3 : AllBare s''.gens) (e4 : s3.gens.size < s''.gens.size) =>
      seg_gexi (X := genCx X s3 H3 ge fp A') (A1 := X.A.in1.in1) (elt := elt) (tg := tg) (iter := iter) (scope := scope) (pos := gpos) (it := it) (p := (h'.objs.size, go)) (gi := s3.gens.size) (al := al) (Q := fun b H' => Q (.bl b) H') (by rw [hgx]; exact hA') hc rfl rfl (by rw [← hge]; exact hco) T
        (by rw [← hge]; exact hg _ _ _ _ _ _ room') (by rw [← hge]; exact htc _ _ _ _ _ _ room') (by rw [← hge]; exact he _ _ _ _ _ _ room') hfpG tw (m0 + 1) 0 m0 s₀ s'' H3 (inv_gens I4 e1 e2 e3) (by rw [e1]; exact st5) (fun b hb => (f3 b hb).1.1) w0 (Nat.lt_succ_self m0) e4
    rw [hgx] at seg
    have rdy : Rdy (genCx X s3 H3 ge fp A') X.A.in1.in1 (wipe σ (own.map (·.2))) (h'.objs.size, go) s3.gens.size al (fun b H' => Q (.bl b) H') (m0 + 1) s5 := by
      refine ⟨isG I4, I4.nolimit, ⟨_, ggs, fun s'' e1 e2 e3 e4 => ⟨rfl, ?_⟩⟩, I4.bare⟩
      have loop := seg s'' s'' e1 e2 e3 e4
      rw [← hgx] at loop ⊢
      show Seg _ X.A.in1.in1 _ _ _ s'' _ ((compStart (.GeneratorExp elt [⟨tg, iter, ifs, 0⟩] scope gpos) 0 (.ref it) .none ge).onRaise (leaving ge)) [] s''
      unfold compStart
      rw [Sem.onRaise_eq_wrap]
      show Seg _ X.A.in1.in1 _ _ _ s'' _ ((ask >>= _).wrap _ _ _ _) [] s''
      refine seg_bind_wrap (wpAny_askSetting ?_)
      split
      · exact seg_again rfl loop
      · first
          | exact seg_bind_wrap (wpAny_rule (seg_bind_wrap (wpAny_standAt (seg_bind_wrap (T.self _ 0 s'' _ _ (by rw [e1]; exact st5) (seg_again rfl loop))))))
          | (refine seg_bind_wrap (wpAny_rule ?_); show Seg _ X.A.in1.in1 _ _ _ s'' _ ((standAt iter.pos >>= _).wrap _ _ _ _) [] s''; exact seg_bind_wrap (wpAny_standAt (seg_bind_wrap (T.self _ 0 s'' _ _ (by rw [e1]; exact st5) (seg_again rfl loop)))))
    -- back in the def
    have back : ∀ (b : Bool) (H' : Hp) (s' : Shared), Inv (genCx X s3 H3 ge fp A') [(h'.objs.size, go)] (wipe σ (own.map (·.2))) H' s' → Q (.bl b) H' → EP X pins σ Q (.bool b) s' := fun b H' s' I6 qb => by
      have I7 : Inv X pins σ H' s' := I3.call' (ch := fp) I6.os I6.base I6.hok I6.bare fun b hb => ⟨(f3 b hb).1.2.2.2.1, (f3 b hb).1.2.1, (f3 b hb).1.2.2.2.2.1, (f3 b hb).1.2.2.2.2.2⟩
      exact ⟨.bl b, H', I7, rfl, qb⟩
    refine Calls.spliced_nil ?_
    cases al with
    | true =>
      simp only [if_true]
      refine call_function_tree F.kind_all F.plain_all F.entry_all (F.args_all1 _) ?_
      unfold Builtin.«all»
      refine wpAny_bind (m := oneArg "all" _) (wpAny_pure ?_)
      refine wpAny_bind (wpAny_pyIter_gen (isG I4) ?_)
      exact wpAny_pure ⟨plainId_quiet F.plain_all_loop _, all_loop (p := (h'.objs.size, go)) hr.hd hr.depth isG (fun b H' s' I6 qb => back b H' s' I6 qb) _ s5 rdy⟩
    | false =>
      simp only [Bool.false_eq_true, if_false]
      refine call_function_tree F.kind_any F.plain_any F.entry_any (F.args_any1 _) ?_
      unfold Builtin.«any»
      refine wpAny_bind (m := oneArg "any" _) (wpAny_pure ?_)
      refine wpAny_bind (wpAny_pyIter_gen (isG I4) ?_)
      exact wpAny_pure ⟨plainId_quiet F.plain_any_loop _, any_loop (p := (h'.objs.size, go)) hr.hd hr.depth isG (fun b H' s' I6 qb => back b H' s' I6 qb) _ s5 rdy⟩
  cases hf : codeAmong gpos ps.toList with
  | none =>
    refine wpAny_genexprCodeX hcode (cd.code hPs ht) (cd.tab hPs) hf fun c' h' tk hx hge hlt hco' _ htab' _ => ?_
    obtain ⟨o1, vs, f1, tf, fl, tg, inF, tx, tt, op, _, _, _, _, _, _, _, _, _, htr, _⟩ := hco'
    exact cont _ h' tk _ hx htab'.2 ⟨_, rfl⟩ htr
  | some cv =>
    refine wpAny_genexprCode_hit hcode (cd.code hPs ht) hf ?_
    exact cont cv s2.heap s2.toks ps (Heap.ExtBut.refl _ _) hPs ⟨#[], by simp⟩ ht
end
end GexX

/-! G12: xs.remove(x) where items are data of any depth. -/
namespace RmvD
open PySem PySem.Spec PyProof.Rows L2
variable {X : Cx}
def rRemD (K : PySem.W.Frag) : V → List V → Hp → VK → Prop := fun x xs H Q => ∃ (a : Addr) (y : V) (vs : List V) (d : PyData) (ds : List PyData) (j : Nat) (z : PyData), x = V.ref a ∧ xs = [y] ∧ H a = some (.lst vs) ∧ DpAll K H vs ds ∧ Dp K H y d ∧
  SeqAt.shaped (.list ds) = true ∧ SeqAt.shaped d = true ∧ ds[j]? = some z ∧ PyData.eqv z d = true ∧ (∀ (m : Nat) (z' : PyData), m < j → ds[m]? = some z' → PyData.eqv z' d = false) ∧ Q .non (upd H a (.lst (vs.eraseIdx j)))
theorem mt_removeD (hu : X.A.units + 65 < cLine) : MtM X "list.remove" (rRemD X.K) := by
  intro pins s σ H x xs v us Q I rx rxs h
  obtain ⟨a, y, vs, d, ds, j, z, rfl, rfl, hH, ha, hy, sl, sd, hz, hzj, hno, q⟩ := h
  cases rx
  cases rxs with
  | cons ry rt =>
    rename_i uy ut
    cases rt
    obtain ⟨bs, r1⟩ := Dp.reads I d y uy hy ry
    have hxs : PyData.canLayAll0 ds = true := SeqAt.canLay_of_shaped sl
    have hroom : X.A.units + 1 + min (PyData.depthAll ds) d.depth < cLine := room_in_shaped sd hu
    obtain ⟨zl, its, n, rv, hlen, ho⟩ := I.lstM hH
    obtain ⟨as, h4⟩ := Dp.readsAll I ds _ its ha rv
    have hn : its.length = ds.length := SeqAt.ReadsAll.length ds its as h4
    have hmap : its.map (SeqAt.readOf s.heap) = ds := SeqAt.readsAll_map ds its as hxs h4
    have hsl := sizeLine_eq
    obtain ⟨hjd, _⟩ := List.getElem?_eq_some_iff.mp hz
    have hjl : j < its.length := by omega
    have hj : j < its.toArray.size := by simpa using hjl
    have at_ : ∀ (m : Nat) (hm : m < its.toArray.size) (z' : PyData), ds[m]? = some z' → SeqAt.readOf s.heap its.toArray[m] = z' := by
      intro m hm z' hz'
      have hml : m < its.length := by simpa using hm
      rw [← hmap, List.getElem?_map, List.getElem?_eq_getElem hml] at hz'
      have e1 : SeqAt.readOf s.heap its[m] = z' := Option.some.inj (show some (SeqAt.readOf s.heap its[m]) = some z' from hz')
      simpa using e1
    refine call_meets PySem.F.slot_list_remove ⟨_, ho, rfl⟩ PySem.F.entry_list_remove (PySem.F.args_list_remove_2 _ _)
      (SeqAt.list_removeAt a its.toArray n _ _ uy (fun u => PyData.eqv (SeqAt.readOf s.heap u) d) j hj ?_ ?_ (by rw [List.size_toArray]; omega)) ⟨ho, SeqAt.items_eqAt (vs := its.toArray) (show ReadsAll s.heap its.toArray.toList ds as from h4) r1 hxs (SeqAt.canLay_of_shaped sd) hroom, ?_⟩
    · show PyData.eqv (SeqAt.readOf s.heap its.toArray[j]) d = true
      rw [at_ j hj z hz]
      exact hzj
    · intro m hm hmj
      have hmd : m < ds.length := by omega
      have hz' : ds[m]? = some ds[m] := List.getElem?_eq_getElem hmd
      show PyData.eqv (SeqAt.readOf s.heap its.toArray[m]) d = false
      rw [at_ m hm _ hz']
      exact hno m _ hmj hz'
    · have rr := rv.eraseIdx j
      refine ⟨.non, _, I.lset (its' := its.eraseIdx j) (t' := s.toks) hH ho ?_ rr ?_, rfl, q⟩
      · show its.toArray.eraseIdxIfInBounds j = (its.eraseIdx j).toArray
        rw [List.eraseIdxIfInBounds_toArray]
      · have z2 : (vs.eraseIdx j).length ≤ vs.length := List.length_eraseIdx_le ..
        omega
end RmvD

/-! T11: every expression that the check lets through. -/
namespace Tl
open PySem L2
variable [Tabs]
def isA : IE → Bool
  | .an => true
  | .ac _ _ => true
  | _ => false
/-- rows of arguments stand where they belong, and nowhere else -/
def wf : IE → Bool
  | .c _ => true
  | .v _ => true
  | .b _ => true
  | .bin _ x y => !isA x && !isA y && wf x && wf y
  | .neg x => !isA x && wf x
  | .nt x => !isA x && wf x
  | .cmp _ x y => !isA x && !isA y && wf x && wf y
  | .chn _ _ x y z => !isA x && !isA y && !isA z && wf x && wf y && wf z
  | .and x y => !isA x && !isA y && wf x && wf y
  | .or x y => !isA x && !isA y && wf x && wf y
  | .ife g x y => !isA g && !isA x && !isA y && wf g && wf x && wf y
  | .tup as => isA as && wf as
  | .lst as => isA as && wf as
  | .an => true
  | .ac x as => !isA x && isA as && wf x && wf as
  | .idx x i => !isA x && !isA i && wf x && wf i
  | .slc x l h => !isA x && !isA l && !isA h && wf x && wf l && wf h
  | .slst x l h k => !isA x && !isA l && !isA h && !isA k && wf x && wf l && wf h && wf k
  | .no => true
  | .rvs x => !isA x && wf x
  | .call _ as => isA as && wf as
  | .bi _ as => isA as && wf as
  | .isi _ x => !isA x && wf x
  | .me _ x as => !isA x && isA as && wf x && wf as
  | .rng as => isA as && wf as
  | .lc _ _ it g x => !isA it && !isA g && !isA x && wf it && wf g && wf x
  | .yes => true
  | .lc2 _ _ _ _ it it1 g x => !isA it && !isA it1 && !isA g && !isA x && wf it && wf it1 && wf g && wf x
  | .enm x => !isA x && wf x
  | .zip x y => !isA x && !isA y && wf x && wf y
  | .gc _ _ => true
  | .gcd as => isA as && wf as
  | .gex _ _ _ it x => !isA it && !isA x && wf it && wf x
  | .gxi _ _ _ it g x => !isA it && !isA g && !isA x && wf it && wf g && wf x
  | .lrg _ x y => !isA x && !isA y && wf x && wf y
  | .mmd _ x y => !isA x && !isA y && wf x && wf y
  | .sts _ x => !isA x && wf x
  | .dnw _ => true
  | .dsp k v => !isA k && !isA v && wf k && wf v
  | .dgt x k y => !isA x && !isA k && !isA y && wf x && wf k && wf y
  | .kys x => !isA x && wf x
  | .vls x => !isA x && wf x
  | .itm x => !isA x && wf x
  | .rvd x => !isA x && wf x
  | .rn3 as => isA as && wf as
  | .lck _ x => !isA x && wf x
  | .dso x => !isA x && wf x
  | .dls x => !isA x && wf x
  | .dcn _ => true
  | .kdx _ _ x => !isA x && wf x
  | .kdi _ _ _ x => !isA x && wf x
  | .upr x => !isA x && wf x
def isBO : Expr → Bool
  | .BoolOp .. => true
  | _ => false
structure Snd (c : CC) (F : Fn) (n : Nat) (x : IE) : Prop where
  e : isA x = false → ∀ sc X, GX c F n sc X → ∀ b e, ck c sc b .val x [e] = true → PE X e (tE X.K F b x)
  t : isA x = false → ∀ sc X, GX c F n sc X → ∀ b e, ck c sc b .test x [e] = true → PT X e (tTs X.K F x)
  w : isA x = false → ∀ sc X, GX c F n sc X → ∀ b e, ck c sc b .test x [e] = true → isBO e = true → PW X e (tTs X.K F x)
  a : isA x = true → ∀ sc X, GX c F n sc X → ∀ b es, ck c sc b .val x es = true → PA X es (tAs X.K F b x)
  s : isA x = true → ∀ sc b es, ck c sc b .val x es = true → (∀ e ∈ es, isStar e = false) ∧ (∀ e ds, ev F x false e = some (.tup ds) → ds.length = es.length) ∧ (es = [] → x = .an) ∧ (∀ e d, ev F x false e = some d → ∃ ds, d = .tup ds)
  i : isA x = false → ∀ sc X, GX c F n sc X → ∀ b e, ck c sc b .iter x [e] = true → ∀ tg, (isTupIt x = true → isTupE tg = true) → PI X tg e (tI X.K F b x)
  o : isA x = false → ∀ sc X, GX c F n sc X → ∀ l, ck c sc false .val x (Option.toList l) = true → PO X l (tOs X.K F x)
section
variable {c : CC} {F : Fn} {n : Nat} {x : IE}
/-- where a part of a slice stands, only ints come -/
theorem part_o (he : ∀ sc X, GX c F n sc X → ∀ b e, ck c sc b .val x [e] = true → PE X e (tE X.K F b x)) (hn : ∀ sc, ck c sc false .val x [] = true → x = .no) (hy : ∀ sc e, ck c sc false .val x [e] = true → isNo x = false) :
    ∀ sc X, GX c F n sc X → ∀ l, ck c sc false .val x (Option.toList l) = true → PO X l (tOs X.K F x) := by
  intro sc X g l h
  cases l with
  | none =>
    have := hn sc h
    subst this
    exact so_none'
  | some e => exact so_some (he sc X g false e h) (hy sc e h)
/-- a node whose test is its value's truth -/
theorem mkS (hA : isA x = false) (he : ∀ sc X, GX c F n sc X → ∀ b e, ck c sc b .val x [e] = true → PE X e (tE X.K F b x))
    (ht : ∀ sc b e, ck c sc b .test x [e] = true → ck c sc true .val x [e] = true ∧ (∀ env whole, isTrue e env whole = (do let v ← whole; standAt e.pos; holding [v] (truthy v))) ∧ isBO e = false)
    (hv : ∀ e k, ev F x true e = some (.bl k) → ∃ d, ev F x false e = some d ∧ truD d = some k)
    (hi : ∀ sc b e, ck c sc b .iter x [e] = true → ck c sc b .val x [e] = true) (hn : ∀ sc, ck c sc false .val x [] = true → x = .no) (hy : isNo x = false) : Snd c F n x where
  e := fun _ => he
  t := fun _ sc X g b e h => st_plain (he sc X g true e (ht sc b e h).1) ((ht sc b e h).2.1 X.env) hv
  w := fun _ sc X g b e h hb => by rw [(ht sc b e h).2.2] at hb; cases hb
  a := fun h => by rw [hA] at h; cases h
  s := fun h => by rw [hA] at h; cases h
  i := fun _ sc X g b e h tg _ => si_val (he sc X g b e (hi sc b e h))
  o := fun _ => part_o he hn fun _ _ _ => hy
theorem fin_tv {o : Option D} {k : Bool} (h : fin true o = some (.bl k)) : ∃ d, fin false o = some d ∧ truD d = some k := by
  obtain ⟨d, k', rfl, h2, h3⟩ := fin_t h
  cases h3
  exact ⟨d, rfl, h2⟩
/-! ### what the check saw -/
section
variable {sc : Scope} {b : Bool} {t : Mo} {x y z : IE} {e : Expr} {es : List Expr}
theorem ck_c {d : D} (h : ck c sc b t (.c d) [e] = true) : ∃ k j p, e = .Constant k j p ∧ constB d k = true := by
  cases e with
  | Constant k j p => exact ⟨k, j, p, rfl, h⟩
  | _ => cases h
theorem ck_v {i : Nat} (h : ck c sc b t (.v i) [e] = true) : ∃ nm p, e = .Name nm p ∧ nmB c sc i nm = true := by
  cases e with
  | Name nm p => exact ⟨nm, p, rfl, h⟩
  | _ => cases h
theorem ck_b {i : Nat} (h : ck c sc b t (.b i) [e] = true) : ∃ nm p, e = .Name nm p ∧ (b || decide (t = .test)) = true ∧ nmB c sc i nm = true := by
  cases e with
  | Name nm p =>
    have h : ((b || decide (t = .test)) && nmB c sc i nm) = true := h
    rw [Bool.and_eq_true] at h
    exact ⟨nm, p, rfl, h.1, h.2⟩
  | _ => cases h
theorem ck_bin {op : Operator} (h : ck c sc b t (.bin op x y) [e] = true) : ∃ a b' p, e = .BinOp a op b' p ∧ ck c sc true .val x [a] = true ∧ ck c sc true .val y [b'] = true := by
  cases e with
  | BinOp a o b' p =>
    have h : (decide (op = o) && ck c sc true .val x [a] && ck c sc true .val y [b']) = true := h
    simp only [Bool.and_eq_true, decide_eq_true_eq] at h
    obtain ⟨⟨rfl, h1⟩, h2⟩ := h
    exact ⟨_, _, _, rfl, h1, h2⟩
  | _ => cases h
theorem ck_neg (h : ck c sc b t (.neg x) [e] = true) : ∃ a p, e = .UnaryOp .USub a p ∧ ck c sc false .val x [a] = true := by
  cases e with
  | UnaryOp o a p =>
    cases o with
    | USub => exact ⟨a, p, rfl, h⟩
    | _ => cases h
  | _ => cases h
theorem ck_nt (h : ck c sc b t (.nt x) [e] = true) : ∃ a p, e = .UnaryOp .Not a p ∧ (if t = .test then ck c sc false .test x [a] else ck c sc true .val x [a]) = true := by
  cases e with
  | UnaryOp o a p =>
    cases o with
    | Not => exact ⟨a, p, rfl, h⟩
    | _ => cases h
  | _ => cases h
theorem ck_cmp {op : CmpOp} (h : ck c sc b t (.cmp op x y) [e] = true) :
    ∃ a b' p, e = .Compare a [op] [b'] p ∧ ck c sc true .val x [a] = true ∧ ck c sc true .val y [b'] = true ∧ isSetE b' = false := by
  cases e with
  | Compare a ops cs p =>
    cases ops with
    | nil => cases h
    | cons o os =>
      cases os with
      | cons _ _ => cases cs with
        | nil => cases h
        | cons _ r => cases r <;> cases h
      | nil =>
        cases cs with
        | nil => cases h
        | cons b' r =>
          cases r with
          | cons _ _ => cases h
          | nil =>
            have h : (decide (op = o) && ck c sc true .val x [a] && ck c sc true .val y [b'] && !isSetE b') = true := h
            simp only [Bool.and_eq_true, decide_eq_true_eq, Bool.not_eq_true'] at h
            obtain ⟨⟨⟨rfl, h1⟩, h2⟩, h3⟩ := h
            exact ⟨_, _, _, rfl, h1, h2, h3⟩
  | _ => cases h
theorem ck_chn {op op2 : CmpOp} (h : ck c sc b t (.chn op op2 x y z) [e] = true) :
    ∃ a b' c' p, e = .Compare a [op, op2] [b', c'] p ∧ ck c sc true .val x [a] = true ∧ ck c sc true .val y [b'] = true ∧ ck c sc true .val z [c'] = true ∧ isSetE c' = false := by
  cases e with
  | Compare a ops cs p =>
    rcases ops with _ | ⟨o1, _ | ⟨o2, _ | ⟨o3, os⟩⟩⟩ <;> rcases cs with _ | ⟨b', _ | ⟨c', _ | ⟨d', ds⟩⟩⟩ <;> try (cases h; done)
    have h : (decide (op = o1) && decide (op2 = o2) && ck c sc true .val x [a] && ck c sc true .val y [b'] && ck c sc true .val z [c'] && !isSetE c') = true := h
    simp only [Bool.and_eq_true, decide_eq_true_eq, Bool.not_eq_true'] at h
    obtain ⟨⟨⟨⟨⟨rfl, rfl⟩, h1⟩, h2⟩, h3⟩, h4⟩ := h
    exact ⟨_, _, _, _, rfl, h1, h2, h3, h4⟩
  | _ => cases h
theorem ck_and (h : ck c sc b t (.and x y) [e] = true) : ∃ a b' r p, e = .BoolOp .And (a :: b' :: r) p ∧ ck c sc false t.tv x [a] = true ∧ (r = [] ∧ ck c sc false t.tv y [b'] = true ∨ ck c sc false t.tv y [.BoolOp .And (b' :: r) p] = true) := by
  cases e with
  | BoolOp o es p =>
    cases o with
    | Or => cases h
    | And =>
      rcases es with _ | ⟨a, _ | ⟨b', _ | ⟨c', r⟩⟩⟩ <;> try (cases h; done)
      · have h : (ck c sc false t.tv x [a] && ck c sc false t.tv y [b']) = true := h
        rw [Bool.and_eq_true] at h
        exact ⟨_, _, _, _, rfl, h.1, .inl ⟨rfl, h.2⟩⟩
      · have h : (ck c sc false t.tv x [a] && ck c sc false t.tv y [.BoolOp .And (b' :: c' :: r) p]) = true := h
        rw [Bool.and_eq_true] at h
        exact ⟨_, _, _, _, rfl, h.1, .inr h.2⟩
  | _ => cases h
theorem ck_or (h : ck c sc b t (.or x y) [e] = true) : ∃ a b' r p, e = .BoolOp .Or (a :: b' :: r) p ∧ ck c sc false t.tv x [a] = true ∧ (r = [] ∧ ck c sc false t.tv y [b'] = true ∨ ck c sc false t.tv y [.BoolOp .Or (b' :: r) p] = true) := by
  cases e with
  | BoolOp o es p =>
    cases o with
    | And => cases h
    | Or =>
      rcases es with _ | ⟨a, _ | ⟨b', _ | ⟨c', r⟩⟩⟩ <;> try (cases h; done)
      · have h : (ck c sc false t.tv x [a] && ck c sc false t.tv y [b']) = true := h
        rw [Bool.and_eq_true] at h
        exact ⟨_, _, _, _, rfl, h.1, .inl ⟨rfl, h.2⟩⟩
      · have h : (ck c sc false t.tv x [a] && ck c sc false t.tv y [.BoolOp .Or (b' :: c' :: r) p]) = true := h
        rw [Bool.and_eq_true] at h
        exact ⟨_, _, _, _, rfl, h.1, .inr h.2⟩
  | _ => cases h
theorem ck_ife (h : ck c sc b t (.ife z x y) [e] = true) : ∃ g a b' p, e = .IfExp g a b' p ∧ t ≠ .test ∧ ck c sc false .test z [g] = true ∧ ck c sc false .val x [a] = true ∧ ck c sc false .val y [b'] = true := by
  cases e with
  | IfExp g a b' p =>
    have h : (decide (t ≠ .test) && ck c sc false .test z [g] && ck c sc false .val x [a] && ck c sc false .val y [b']) = true := h
    simp only [Bool.and_eq_true, decide_eq_true_eq] at h
    exact ⟨_, _, _, _, rfl, h.1.1.1, h.1.1.2, h.1.2, h.2⟩
  | _ => cases h
theorem ck_tup (h : ck c sc b t (.tup x) [e] = true) : ∃ es k p, e = .Tuple es k p ∧ es.length ≤ 100000 ∧ ck c sc false .val x es = true := by
  cases e with
  | Tuple es k p =>
    have h : (Nat.ble es.length 100000 && ck c sc false .val x es) = true := h
    rw [Bool.and_eq_true] at h
    exact ⟨_, _, _, rfl, Nat.le_of_ble_eq_true h.1, h.2⟩
  | _ => cases h
theorem ck_lst (h : ck c sc b t (.lst x) [e] = true) : ∃ es p, e = .List es p ∧ es.length ≤ 100000 ∧ ck c sc false .val x es = true := by
  cases e with
  | List es p =>
    have h : (Nat.ble es.length 100000 && ck c sc false .val x es) = true := h
    rw [Bool.and_eq_true] at h
    exact ⟨_, _, rfl, Nat.le_of_ble_eq_true h.1, h.2⟩
  | _ => cases h
theorem ck_ac (h : ck c sc b t (.ac x y) es = true) : ∃ e r, es = e :: r ∧ isStar e = false ∧ ck c sc b .val x [e] = true ∧ ck c sc b .val y r = true := by
  cases es with
  | nil => cases h
  | cons e r =>
    have h : (!isStar e && ck c sc b .val x [e] && ck c sc b .val y r) = true := by
      cases r with
      | nil => exact h
      | cons _ _ => exact h
    simp only [Bool.and_eq_true, Bool.not_eq_true'] at h
    exact ⟨_, _, rfl, h.1.1, h.1.2, h.2⟩
theorem ck_idx (h : ck c sc b t (.idx x y) [e] = true) : ∃ a b' p, e = .Subscript a b' p ∧ isSlice b' = false ∧ ck c sc true .val x [a] = true ∧ ck c sc false .val y [b'] = true := by
  cases e with
  | Subscript a b' p =>
    have h : (!isSlice b' && ck c sc true .val x [a] && ck c sc false .val y [b']) = true := h
    simp only [Bool.and_eq_true, Bool.not_eq_true'] at h
    exact ⟨_, _, _, rfl, h.1.1, h.1.2, h.2⟩
  | _ => cases h
theorem ck_slc (h : ck c sc b t (.slc x y z) [e] = true) : ∃ a l u p2 p, e = .Subscript a (.Slice l u none p2) p ∧ ck c sc true .val x [a] = true ∧ ck c sc false .val y (Option.toList l) = true ∧ ck c sc false .val z (Option.toList u) = true := by
  cases e with
  | Subscript a b' p =>
    cases b' with
    | Slice l u s p2 =>
      cases s with
      | some _ => cases h
      | none =>
        have h : (ck c sc true .val x [a] && ck c sc false .val y (Option.toList l) && ck c sc false .val z (Option.toList u)) = true := h
        simp only [Bool.and_eq_true] at h
        exact ⟨_, _, _, _, _, rfl, h.1.1, h.1.2, h.2⟩
    | _ => cases h
  | _ => cases h
theorem ck_slst {k : IE} (h : ck c sc b t (.slst x y z k) [e] = true) : ∃ a l u st p2 p, e = .Subscript a (.Slice l u (some st) p2) p ∧ ck c sc true .val x [a] = true ∧ ck c sc false .val y (Option.toList l) = true ∧ ck c sc false .val z (Option.toList u) = true ∧ ck c sc false .val k [st] = true ∧ isNo k = false := by
  cases e with
  | Subscript a b' p =>
    cases b' with
    | Slice l u s p2 =>
      cases s with
      | none => cases h
      | some st =>
        have h : (ck c sc true .val x [a] && ck c sc false .val y (Option.toList l) && ck c sc false .val z (Option.toList u) && ck c sc false .val k [st] && !isNo k) = true := h
        simp only [Bool.and_eq_true, Bool.not_eq_true'] at h
        exact ⟨_, _, _, _, _, _, rfl, h.1.1.1.1, h.1.1.1.2, h.1.1.2, h.1.2, h.2⟩
    | _ => cases h
  | _ => cases h
theorem ck_gc {j : Nat} {d : D} (h : ck c sc b t (.gc j d) [e] = true) : ∃ nm p, e = .Name nm p ∧ constOk c.C j d nm = true ∧ glB sc nm = true ∧ notOdd nm = true := by
  cases e with
  | Name nm p =>
    have h : (constOk c.C j d nm && glB sc nm && notOdd nm) = true := h
    simp only [Bool.and_eq_true] at h
    exact ⟨nm, p, rfl, h.1.1, h.1.2, h.2⟩
  | _ => cases h
theorem ck_gcd (h : ck c sc b t (.gcd x) [e] = true) : ∃ nm e1 es p1 p, e = .Call (.Name nm p1) (e1 :: es) [] p ∧ c.gc = true ∧ nm = ("gcd" : Str) ∧ glB sc nm = true ∧ ck c sc true .val x (e1 :: es) = true := by
  cases e with
  | Call g es kw p =>
    cases g with
    | Name nm p1 =>
      cases es with
      | nil => cases h
      | cons e1 es =>
        cases kw with
        | cons _ _ => cases h
        | nil =>
          have h : (c.gc && decide (nm = ("gcd" : Str)) && glB sc nm && ck c sc true .val x (e1 :: es)) = true := h
          simp only [Bool.and_eq_true, decide_eq_true_eq] at h
          exact ⟨_, _, _, _, _, rfl, h.1.1.1, h.1.1.2, h.1.2, h.2⟩
    | _ => cases es <;> cases h
  | _ => cases h
theorem ck_rvs (h : ck c sc b t (.rvs x) [e] = true) : ∃ a k p1 p2 p3 p, e = .Subscript a (.Slice none none (some (.UnaryOp .USub (.Constant (.int 1) k p1) p2)) p3) p ∧ ck c sc true .val x [a] = true := by
  cases e with
  | Subscript a b' p =>
    cases b' with
    | Slice l u s p2 =>
      rcases l with _ | l <;> rcases u with _ | u <;> rcases s with _ | s <;> try (cases h; done)
      cases s with
      | UnaryOp o a2 p3 =>
        cases o <;> try (cases h; done)
        cases a2 with
        | Constant k i p4 =>
          cases k with
          | int j =>
            have h : (decide (j = 1) && ck c sc true .val x [a]) = true := h
            simp only [Bool.and_eq_true, decide_eq_true_eq] at h
            obtain ⟨rfl, h⟩ := h
            exact ⟨_, _, _, _, _, _, rfl, h⟩
          | _ => cases h
        | _ => cases h
      | _ => cases h
    | _ => cases h
  | _ => cases h
theorem ck_call {k : Nat} (h : ck c sc b t (.call k x) [e] = true) : ∃ nm es p1 p, e = .Call (.Name nm p1) es [] p ∧ c.G[k]? = some nm ∧ glB sc nm = true ∧ notOdd nm = true ∧ ck c sc (hasB x) .val x es = true := by
  cases e with
  | Call f es kw p =>
    cases f with
    | Name nm p1 =>
      cases kw with
      | cons _ _ => cases h
      | nil =>
        have h : (decide (c.G[k]? = some nm) && glB sc nm && notOdd nm && ck c sc (hasB x) .val x es) = true := h
        simp only [Bool.and_eq_true, decide_eq_true_eq] at h
        exact ⟨_, _, _, _, rfl, h.1.1.1, h.1.1.2, h.1.2, h.2⟩
    | _ => cases h
  | _ => cases h
theorem ck_bi {f : BI} (h : ck c sc b t (.bi f x) [e] = true) : ∃ nm e1 es p1 p, e = .Call (.Name nm p1) (e1 :: es) [] p ∧ nm = biS f ∧ glB sc nm = true ∧ ck c sc true .val x (e1 :: es) = true := by
  cases e with
  | Call g es kw p =>
    cases g with
    | Name nm p1 =>
      cases es with
      | nil => cases h
      | cons e1 es =>
        cases kw with
        | cons _ _ => cases h
        | nil =>
          have h : (decide (nm = biS f) && glB sc nm && ck c sc true .val x (e1 :: es)) = true := h
          simp only [Bool.and_eq_true, decide_eq_true_eq] at h
          exact ⟨_, _, _, _, _, rfl, h.1.1, h.1.2, h.2⟩
    | _ => cases es <;> cases h
  | _ => cases h
theorem ck_isi {ty : TY} (h : ck c sc b t (.isi ty x) [e] = true) : ∃ f a nm p1 p2 p, e = .Call (.Name f p1) [a, .Name nm p2] [] p ∧ f = ("isinstance" : Str) ∧ nm = tyS ty ∧ glB sc f = true ∧ glB sc nm = true ∧ isStar a = false ∧ ck c sc true .val x [a] = true := by
  cases e with
  | Call g es kw p =>
    cases g with
    | Name f p1 =>
      rcases es with _ | ⟨a, _ | ⟨b', _ | ⟨c', r⟩⟩⟩ <;> try (cases h; done)
      · cases b' with
        | Name nm p2 =>
          cases kw with
          | cons _ _ => cases h
          | nil =>
            have h : (decide (f = ("isinstance" : Str)) && decide (nm = tyS ty) && glB sc f && glB sc nm && !isStar a && ck c sc true .val x [a]) = true := h
            simp only [Bool.and_eq_true, decide_eq_true_eq, Bool.not_eq_true'] at h
            exact ⟨_, _, _, _, _, _, rfl, h.1.1.1.1.1, h.1.1.1.1.2, h.1.1.1.2, h.1.1.2, h.1.2, h.2⟩
        | _ => cases h
      · cases b' <;> cases h
    | _ => cases h
  | _ => cases h
theorem ck_me {m : ME} (h : ck c sc b t (.me m x y) [e] = true) : ∃ a nm ap e1 es cp, e = .Call (.Attribute a nm ap) (e1 :: es) [] cp ∧ nm = meS m ∧ (ap.endLine == cp.line) = true ∧ isCall0 a = false ∧ es.length < 20 ∧ ck c sc true .val x [a] = true ∧ ck c sc true .val y (e1 :: es) = true := by
  cases e with
  | Call g es kw p =>
    cases g with
    | Attribute a nm ap =>
      cases es with
      | nil => cases h
      | cons e1 es =>
        cases kw with
        | cons _ _ => cases h
        | nil =>
          have h : (decide (nm = meS m) && (ap.endLine == p.line) && !isCall0 a && decide (es.length < 20) && ck c sc true .val x [a] && ck c sc true .val y (e1 :: es)) = true := h
          simp only [Bool.and_eq_true, decide_eq_true_eq, Bool.not_eq_true'] at h
          exact ⟨_, _, _, _, _, _, rfl, h.1.1.1.1.1, h.1.1.1.1.2, h.1.1.1.2, h.1.1.2, h.1.2, h.2⟩
    | _ => cases es <;> cases h
  | _ => cases h
theorem ck_rng (h : ck c sc b t (.rng x) [e] = true) : t = .iter ∧ ∃ nm es p1 p, e = .Call (.Name nm p1) es [] p ∧ nm = ("range" : Str) ∧ glB sc nm = true ∧ (es.length = 1 ∨ es.length = 2) ∧ ck c sc false .val x es = true := by
  cases e with
  | Call f es kw p =>
    cases f with
    | Name nm p1 =>
      cases kw with
      | cons _ _ => cases h
      | nil =>
        have h : (decide (t = .iter) && decide (nm = ("range" : Str)) && glB sc nm && decide (es.length = 1 ∨ es.length = 2) && ck c sc false .val x es) = true := h
        simp only [Bool.and_eq_true, decide_eq_true_eq] at h
        exact ⟨h.1.1.1.1, _, _, _, _, rfl, h.1.1.1.2, h.1.1.2, h.1.2, h.2⟩
    | _ => cases h
  | _ => cases h
theorem tupI {a b : Bool} (h : (!a || b) = true) (ha : a = true) : b = true := by
  subst ha
  simpa using h
theorem ck_lc {own : List Nat} {tp : TP} {it g : IE} (h : ck c sc b t (.lc own tp it g x) [e] = true) : ∃ elt tg iter ifs scope p, e = .ListComp elt [⟨tg, iter, ifs, 0⟩] scope p ∧
    (isTupIt it = true → isTupE tg = true) ∧ ck c sc true .iter it [iter] = true ∧ isSetE iter = false ∧ blkC c.N sc scope (ownOf c own) = true ∧ own.length = (ownOf c own).length ∧ ckT c (fun x => scope.names.lookup x == some .cell) (relS scope sc) tp tg = true ∧ (∀ i ∈ tpS tp, i ∈ own) ∧
    ifs.length ≤ 1 ∧ ck c (relS scope sc) false .test g ifs = true ∧ ck c (relS scope sc) false .val x [elt] = true := by
  cases e with
  | ListComp elt gens scope p =>
    rcases gens with _ | ⟨⟨tg, iter, ifs, asy⟩, _ | ⟨_, _⟩⟩ <;> try (cases h; done)
    have h : (decide (asy = 0) && (!isTupIt it || isTupE tg) && ck c sc true .iter it [iter] && !isSetE iter && blkC c.N sc scope (ownOf c own) && decide (own.length = (ownOf c own).length) && ckT c (fun x => scope.names.lookup x == some .cell) (relS scope sc) tp tg && (tpS tp).all (fun i => decide (i ∈ own)) &&
      decide (ifs.length ≤ 1) && ck c (relS scope sc) false .test g ifs && ck c (relS scope sc) false .val x [elt]) = true := h
    simp only [Bool.and_eq_true, decide_eq_true_eq, Bool.not_eq_true', List.all_eq_true] at h
    obtain ⟨⟨⟨⟨⟨⟨⟨⟨⟨⟨rfl, h0⟩, h1⟩, h2⟩, h3⟩, h4⟩, h5⟩, h6⟩, h9⟩, h7⟩, h8⟩ := h
    exact ⟨_, _, _, _, _, _, rfl, tupI h0, h1, h2, h3, h4, h5, h6, h9, h7, h8⟩
  | _ => cases h
theorem ck_lc2 {own own1 : List Nat} {tp tp1 : TP} {it it1 g : IE} (h : ck c sc b t (.lc2 own own1 tp tp1 it it1 g x) [e] = true) : ∃ elt tg iter tg1 iter1 ifs scope p, e = .ListComp elt [⟨tg, iter, [], 0⟩, ⟨tg1, iter1, ifs, 0⟩] scope p ∧
    (isTupIt it = true → isTupE tg = true) ∧ (isTupIt it1 = true → isTupE tg1 = true) ∧ ck c sc true .iter it [iter] = true ∧ isSetE iter = false ∧ isSetE iter1 = false ∧ blkC c.N sc scope (ownOf c own) = true ∧ own.length = (ownOf c own).length ∧ ckT c (fun x => scope.names.lookup x == some .cell) (relS scope sc) tp tg = true ∧ (∀ i ∈ tpS tp, i ∈ own) ∧
    (∀ i ∈ own1, i ∈ own) ∧ ckT c (fun x => scope.names.lookup x == some .cell) (relS scope sc) tp1 tg1 = true ∧ (∀ i ∈ tpS tp1, i ∈ own1) ∧ ck c (relS scope sc) false .iter it1 [iter1] = true ∧ ifs.length ≤ 1 ∧ ck c (relS scope sc) false .test g ifs = true ∧ ck c (relS scope sc) false .val x [elt] = true := by
  cases e with
  | ListComp elt gens scope p =>
    rcases gens with _ | ⟨⟨tg, iter, ifs0, asy⟩, _ | ⟨⟨tg1, iter1, ifs, asy1⟩, _ | ⟨_, _⟩⟩⟩ <;> try (cases h; done)
    · rcases ifs0 with _ | ⟨_, _⟩ <;> cases h
    · rcases ifs0 with _ | ⟨_, _⟩ <;> try (cases h; done)
      have h : (decide (asy = 0) && decide (asy1 = 0) && (!isTupIt it || isTupE tg) && (!isTupIt it1 || isTupE tg1) && ck c sc true .iter it [iter] && !isSetE iter && !isSetE iter1 && blkC c.N sc scope (ownOf c own) && decide (own.length = (ownOf c own).length) &&
        ckT c (fun x => scope.names.lookup x == some .cell) (relS scope sc) tp tg && (tpS tp).all (fun i => decide (i ∈ own)) && own1.all (fun i => decide (i ∈ own)) && ckT c (fun x => scope.names.lookup x == some .cell) (relS scope sc) tp1 tg1 && (tpS tp1).all (fun i => decide (i ∈ own1)) &&
        ck c (relS scope sc) false .iter it1 [iter1] && decide (ifs.length ≤ 1) && ck c (relS scope sc) false .test g ifs && ck c (relS scope sc) false .val x [elt]) = true := h
      simp only [Bool.and_eq_true, decide_eq_true_eq, Bool.not_eq_true', List.all_eq_true] at h
      obtain ⟨⟨⟨⟨⟨⟨⟨⟨⟨⟨⟨⟨⟨⟨⟨⟨⟨rfl, rfl⟩, k1⟩, k2⟩, h1⟩, h2⟩, h3⟩, h4⟩, h5⟩, h6⟩, h7⟩, h8⟩, h9⟩, h10⟩, h11⟩, h12⟩, h13⟩, h14⟩ := h
      exact ⟨_, _, _, _, _, _, _, _, rfl, tupI k1, tupI k2, h1, h2, h3, h4, h5, h6, h7, h8, h9, h10, h11, h12, h13, h14⟩
    · rcases ifs0 with _ | ⟨_, _⟩ <;> cases h
  | _ => cases h
theorem ck_enm (h : ck c sc b t (.enm x) [e] = true) : t = .iter ∧ ∃ nm a p1 p, e = .Call (.Name nm p1) [a] [] p ∧ nm = ("enumerate" : Str) ∧ glB sc nm = true ∧ isStar a = false ∧ ck c sc b .val x [a] = true := by
  cases e with
  | Call g es kw p =>
    cases g with
    | Name nm p1 =>
      rcases es with _ | ⟨a, _ | ⟨a2, r⟩⟩ <;> try (cases h; done)
      cases kw with
      | cons _ _ => cases h
      | nil =>
        have h : (decide (t = .iter) && decide (nm = ("enumerate" : Str)) && glB sc nm && !isStar a && ck c sc b .val x [a]) = true := h
        simp only [Bool.and_eq_true, decide_eq_true_eq, Bool.not_eq_true'] at h
        exact ⟨h.1.1.1.1, _, _, _, _, rfl, h.1.1.1.2, h.1.1.2, h.1.2, h.2⟩
    | _ => rcases es with _ | ⟨a, _ | ⟨a2, r⟩⟩ <;> cases h
  | _ => cases h
theorem ck_zip (h : ck c sc b t (.zip x y) [e] = true) : t = .iter ∧ ∃ nm a a2 p1 p, e = .Call (.Name nm p1) [a, a2] [] p ∧ nm = ("zip" : Str) ∧ glB sc nm = true ∧ isStar a = false ∧ isStar a2 = false ∧ ck c sc b .val x [a] = true ∧ ck c sc b .val y [a2] = true := by
  cases e with
  | Call g es kw p =>
    cases g with
    | Name nm p1 =>
      rcases es with _ | ⟨a, _ | ⟨a2, _ | ⟨a3, r⟩⟩⟩ <;> try (cases h; done)
      cases kw with
      | cons _ _ => cases h
      | nil =>
        have h : (decide (t = .iter) && decide (nm = ("zip" : Str)) && glB sc nm && !isStar a && !isStar a2 && ck c sc b .val x [a] && ck c sc b .val y [a2]) = true := h
        simp only [Bool.and_eq_true, decide_eq_true_eq, Bool.not_eq_true'] at h
        exact ⟨h.1.1.1.1.1.1, _, _, _, _, _, rfl, h.1.1.1.1.1.2, h.1.1.1.1.2, h.1.1.1.2, h.1.1.2, h.1.2, h.2⟩
    | _ => rcases es with _ | ⟨a, _ | ⟨a2, _ | ⟨a3, r⟩⟩⟩ <;> cases h
  | _ => cases h
theorem ck_nil (hA : isA x = false) (h : ck c sc b t x [] = true) : x = .no ∨ (x = .yes ∧ t = .test) := by
  cases x <;> first | exact .inl rfl | exact .inr ⟨rfl, of_decide_eq_true h⟩ | (cases hA; done) | (cases h; done)
end
/-- a node whose test stands for itself -/
theorem mkS2 (hA : isA x = false) (he : ∀ sc X, GX c F n sc X → ∀ b e, ck c sc b .val x [e] = true → PE X e (tE X.K F b x))
    (ht : ∀ sc X, GX c F n sc X → ∀ b e, ck c sc b .test x [e] = true → PT X e (tTs X.K F x)) (hw : ∀ sc X, GX c F n sc X → ∀ b e, ck c sc b .test x [e] = true → isBO e = true → PW X e (tTs X.K F x))
    (hi : ∀ sc b e, ck c sc b .iter x [e] = true → ck c sc b .val x [e] = true) (hn : ∀ sc, ck c sc false .val x [] = true → x = .no) (hy : isNo x = false) : Snd c F n x where
  e := fun _ => he
  t := fun _ => ht
  w := fun _ => hw
  a := fun h => by rw [hA] at h; cases h
  s := fun h => by rw [hA] at h; cases h
  i := fun _ sc X g b e h tg _ => si_val (he sc X g b e (hi sc b e h))
  o := fun _ => part_o he hn fun _ _ _ => hy
section
variable {y z : IE}
theorem snd_c (d : D) : Snd c F n (.c d) :=
  mkS rfl (fun sc X g b e h => by obtain ⟨k, j, p, rfl, h⟩ := ck_c h; exact se_c h)
    (fun sc b e h => by obtain ⟨k, j, p, rfl, h⟩ := ck_c h; exact ⟨h, fun _ _ => rfl, rfl⟩) (fun e k h => fin_tv h)
    (fun sc b e h => by obtain ⟨k, j, p, rfl, h⟩ := ck_c h; exact h) (fun sc h => by cases h) rfl
theorem snd_v (i : Nat) : Snd c F n (.v i) :=
  mkS rfl (fun sc X g b e h => by obtain ⟨k, p, rfl, h⟩ := ck_v h; exact se_v g h)
    (fun sc b e h => by obtain ⟨k, p, rfl, h⟩ := ck_v h; exact ⟨h, fun _ _ => rfl, rfl⟩) (fun e k h => fin_tv h)
    (fun sc b e h => by obtain ⟨k, p, rfl, h⟩ := ck_v h; exact h) (fun sc h => by cases h) rfl
theorem snd_b (i : Nat) : Snd c F n (.b i) :=
  mkS rfl (fun sc X g b e h => by
      obtain ⟨k, p, rfl, h1, h⟩ := ck_b h
      cases b with
      | true => exact se_b g h
      | false => cases h1)
    (fun sc b e h => by obtain ⟨k, p, rfl, h1, h⟩ := ck_b h; exact ⟨h, fun _ _ => rfl, rfl⟩) (fun e k h => fin_tv h)
    (fun sc b e h => by obtain ⟨k, p, rfl, h1, h2⟩ := ck_b h; exact h) (fun sc h => by cases h) rfl
theorem snd_bin (op : Operator) (ax : isA x = false) (ay : isA y = false) (hx : Snd c F n x) (hy : Snd c F n y) : Snd c F n (.bin op x y) :=
  mkS rfl (fun sc X g b e h => by obtain ⟨a, b', p, rfl, h1, h2⟩ := ck_bin h; exact se_bin g op (hx.e ax sc X g true a h1) (hy.e ay sc X g true b' h2))
    (fun sc b e h => by obtain ⟨a, b', p, rfl, h1, h2⟩ := ck_bin h; exact ⟨h, fun _ _ => rfl, rfl⟩) (fun e k h => fin_tv h)
    (fun sc b e h => by obtain ⟨a, b', p, rfl, h1, h2⟩ := ck_bin h; exact h) (fun sc h => by cases h) rfl
theorem snd_neg (ax : isA x = false) (hx : Snd c F n x) : Snd c F n (.neg x) :=
  mkS rfl (fun sc X g b e h => by obtain ⟨a, p, rfl, h1⟩ := ck_neg h; exact se_neg (hx.e ax sc X g false a h1))
    (fun sc b e h => by obtain ⟨a, p, rfl, h1⟩ := ck_neg h; exact ⟨h, fun _ _ => rfl, rfl⟩) (fun e k h => fin_tv h)
    (fun sc b e h => by obtain ⟨a, p, rfl, h1⟩ := ck_neg h; exact h) (fun sc h => by cases h) rfl
theorem snd_nt (ax : isA x = false) (hx : Snd c F n x) : Snd c F n (.nt x) :=
  mkS2 rfl (fun sc X g b e h => by
      obtain ⟨a, p, rfl, h1⟩ := ck_nt h
      rw [if_neg (fun z => nomatch z)] at h1
      exact se_not (hx.e ax sc X g true a h1))
    (fun sc X g b e h => by
      obtain ⟨a, p, rfl, h1⟩ := ck_nt h
      rw [if_pos rfl] at h1
      exact st_not (hx.t ax sc X g false a h1))
    (fun sc X g b e h hb => by obtain ⟨a, p, rfl, h1⟩ := ck_nt h; cases hb)
    (fun sc b e h => by obtain ⟨a, p, rfl, h1⟩ := ck_nt h; exact h) (fun sc h => by cases h) rfl
theorem snd_cmp (op : CmpOp) (ax : isA x = false) (ay : isA y = false) (hx : Snd c F n x) (hy : Snd c F n y) : Snd c F n (.cmp op x y) :=
  mkS2 rfl (fun sc X g b e h => by obtain ⟨a, b', p, rfl, h1, h2, h3⟩ := ck_cmp h; exact se_cmp g op (hx.e ax sc X g true a h1) (hy.e ay sc X g true b' h2) h3)
    (fun sc X g b e h => by obtain ⟨a, b', p, rfl, h1, h2, h3⟩ := ck_cmp h; exact st_cmp g op (hx.e ax sc X g true a h1) (hy.e ay sc X g true b' h2) h3)
    (fun sc X g b e h hb => by obtain ⟨a, b', p, rfl, h1, h2, h3⟩ := ck_cmp h; cases hb)
    (fun sc b e h => by obtain ⟨a, b', p, rfl, h1, h2, h3⟩ := ck_cmp h; exact h) (fun sc h => by cases h) rfl
theorem snd_chn (op op2 : CmpOp) (ax : isA x = false) (ay : isA y = false) (az : isA z = false) (hx : Snd c F n x) (hy : Snd c F n y) (hz : Snd c F n z) : Snd c F n (.chn op op2 x y z) :=
  mkS2 rfl (fun sc X g b e h => by obtain ⟨a, b', c', p, rfl, h1, h2, h3, h4⟩ := ck_chn h; exact se_chn g op op2 (hx.e ax sc X g true a h1) (hy.e ay sc X g true b' h2) (hz.e az sc X g true c' h3) h4)
    (fun sc X g b e h => by obtain ⟨a, b', c', p, rfl, h1, h2, h3, h4⟩ := ck_chn h; exact st_chn g op op2 (hx.e ax sc X g true a h1) (hy.e ay sc X g true b' h2) (hz.e az sc X g true c' h3) h4)
    (fun sc X g b e h hb => by obtain ⟨a, b', c', p, rfl, h1, h2, h3, h4⟩ := ck_chn h; cases hb)
    (fun sc b e h => by obtain ⟨a, b', c', p, rfl, h1, h2, h3, h4⟩ := ck_chn h; exact h) (fun sc h => by cases h) rfl
theorem snd_and (ax : isA x = false) (ay : isA y = false) (hx : Snd c F n x) (hy : Snd c F n y) : Snd c F n (.and x y) :=
  have hw : ∀ sc X, GX c F n sc X → ∀ b e, ck c sc b .test (.and x y) [e] = true → PW X e (tTs X.K F (.and x y)) := fun sc X g b e h => by
    obtain ⟨a, b', r, p, rfl, h1, h2⟩ := ck_and h
    refine sw_and (hx.t ax sc X g false a h1) ?_
    rcases h2 with ⟨rfl, h2⟩ | h2
    · exact pw_and1 (hy.t ay sc X g false b' h2)
    · exact hy.w ay sc X g false _ h2 rfl
  mkS2 rfl (fun sc X g b e h => by
      obtain ⟨a, b', r, p, rfl, h1, h2⟩ := ck_and h
      refine se_and (hx.e ax sc X g false a h1) ?_
      rcases h2 with ⟨rfl, h2⟩ | h2
      · exact pe_one (hy.e ay sc X g false b' h2)
      · exact hy.e ay sc X g false _ h2)
    (fun sc X g b e h => (hw sc X g b e h).pt) (fun sc X g b e h _ => hw sc X g b e h)
    (fun sc b e h => by obtain ⟨a, b', r, p, rfl, _, _⟩ := ck_and h; cases r <;> exact h) (fun sc h => by cases h) rfl
theorem snd_or (ax : isA x = false) (ay : isA y = false) (hx : Snd c F n x) (hy : Snd c F n y) : Snd c F n (.or x y) :=
  have hw : ∀ sc X, GX c F n sc X → ∀ b e, ck c sc b .test (.or x y) [e] = true → PW X e (tTs X.K F (.or x y)) := fun sc X g b e h => by
    obtain ⟨a, b', r, p, rfl, h1, h2⟩ := ck_or h
    refine sw_or (hx.t ax sc X g false a h1) ?_
    rcases h2 with ⟨rfl, h2⟩ | h2
    · exact pw_or1 (hy.t ay sc X g false b' h2)
    · exact hy.w ay sc X g false _ h2 rfl
  mkS2 rfl (fun sc X g b e h => by
      obtain ⟨a, b', r, p, rfl, h1, h2⟩ := ck_or h
      refine se_or (hx.e ax sc X g false a h1) ?_
      rcases h2 with ⟨rfl, h2⟩ | h2
      · exact pe_one (hy.e ay sc X g false b' h2)
      · exact hy.e ay sc X g false _ h2)
    (fun sc X g b e h => (hw sc X g b e h).pt) (fun sc X g b e h _ => hw sc X g b e h)
    (fun sc b e h => by obtain ⟨a, b', r, p, rfl, _, _⟩ := ck_or h; cases r <;> exact h) (fun sc h => by cases h) rfl
theorem snd_ife (ax : isA x = false) (ay : isA y = false) (az : isA z = false) (hx : Snd c F n x) (hy : Snd c F n y) (hz : Snd c F n z) : Snd c F n (.ife z x y) :=
  mkS2 rfl (fun sc X g b e h => by obtain ⟨t, a, b', p, rfl, h0, h1, h2, h3⟩ := ck_ife h; exact se_ife (hz.t az sc X g false t h1) (hx.e ax sc X g false a h2) (hy.e ay sc X g false b' h3))
    (fun sc X g b e h => by obtain ⟨t, a, b', p, rfl, h0, h1, h2, h3⟩ := ck_ife h; exact absurd rfl h0)
    (fun sc X g b e h hb => by obtain ⟨t, a, b', p, rfl, h0, h1, h2, h3⟩ := ck_ife h; cases hb)
    (fun sc b e h => by obtain ⟨t, a, b', p, rfl, h0, h1, h2, h3⟩ := ck_ife h; exact h) (fun sc h => by cases h) rfl
theorem snd_tup (ax : isA x = true) (hx : Snd c F n x) : Snd c F n (.tup x) :=
  mkS rfl (fun sc X g b e h => by
      obtain ⟨es, k, p, rfl, hl, h1⟩ := ck_tup h
      obtain ⟨s1, s2, s3, s4⟩ := hx.s ax sc false es h1
      exact se_tup (hx.a ax sc X g false es h1) hl s2 s4)
    (fun sc b e h => by obtain ⟨es, k, p, rfl, hl, h1⟩ := ck_tup h; exact ⟨h, fun _ _ => rfl, rfl⟩) (fun e k h => fin_tv h)
    (fun sc b e h => by obtain ⟨es, k, p, rfl, hl, h1⟩ := ck_tup h; exact h) (fun sc h => by cases h) rfl
theorem snd_lst (ax : isA x = true) (hx : Snd c F n x) : Snd c F n (.lst x) :=
  mkS rfl (fun sc X g b e h => by
      obtain ⟨es, p, rfl, hl, h1⟩ := ck_lst h
      obtain ⟨s1, s2, s3, s4⟩ := hx.s ax sc false es h1
      exact se_lst (hx.a ax sc X g false es h1) hl s2)
    (fun sc b e h => by obtain ⟨es, p, rfl, hl, h1⟩ := ck_lst h; exact ⟨h, fun _ _ => rfl, rfl⟩) (fun e k h => fin_tv h)
    (fun sc b e h => by obtain ⟨es, p, rfl, hl, h1⟩ := ck_lst h; exact h) (fun sc h => by cases h) rfl
theorem snd_an : Snd c F n .an where
  e := fun h => by cases h
  t := fun h => by cases h
  w := fun h => by cases h
  a := fun _ sc X g b es h => by
    cases es with
    | nil => exact sa_nil
    | cons e r => cases r <;> cases h
  s := fun _ sc b es h => by
    cases es with
    | nil =>
      refine ⟨fun e he => by simp at he, fun e ds hd => ?_, fun _ => rfl, fun e d hd => ?_⟩
      · cases hd; rfl
      · cases hd; exact ⟨_, rfl⟩
    | cons e r => cases r <;> cases h
  i := fun h => by cases h
  o := fun h => by cases h
theorem snd_ac (ax : isA x = false) (ay : isA y = true) (hx : Snd c F n x) (hy : Snd c F n y) : Snd c F n (.ac x y) where
  e := fun h => by cases h
  t := fun h => by cases h
  w := fun h => by cases h
  a := fun _ sc X g b es h => by
    obtain ⟨e, r, rfl, h1, h2, h3⟩ := ck_ac h
    exact sa_cons h1 (hx.e ax sc X g b e h2) (hy.a ay sc X g b r h3)
  s := fun _ sc b es h => by
    obtain ⟨e, r, rfl, h1, h2, h3⟩ := ck_ac h
    obtain ⟨s1, s2, s3, s4⟩ := hy.s ay sc b r h3
    have hh : ∀ {en : En} {d : D}, ev F (.ac x y) false en = some d → ∃ d0 l, d = .tup (d0 :: l) ∧ ev F y false en = some (.tup l) := fun {en d} h => by
      have h : (match ev F x false en, ev F y false en with
        | some d, some (.tup l) => some (.tup (d :: l))
        | _, _ => none) = some d := h
      split at h
      · rename_i d0 l h1 h2
        cases h
        exact ⟨d0, l, rfl, h2⟩
      · cases h
    refine ⟨fun e' he => ?_, fun en ds hd => ?_, (fun z => by cases z), fun en d hd => ?_⟩
    · rcases List.mem_cons.mp he with rfl | he
      · exact h1
      · exact s1 e' he
    · obtain ⟨d0, l, h4, h5⟩ := hh hd
      cases h4
      rw [List.length_cons, List.length_cons, s2 en l h5]
    · obtain ⟨d0, l, h4, h5⟩ := hh hd
      exact ⟨_, h4⟩
  i := fun h => by cases h
  o := fun h => by cases h
theorem snd_idx (ax : isA x = false) (ay : isA y = false) (hx : Snd c F n x) (hy : Snd c F n y) : Snd c F n (.idx x y) :=
  mkS rfl (fun sc X g b e h => by obtain ⟨a, b', p, rfl, h0, h1, h2⟩ := ck_idx h; exact se_idx g h0 (hx.e ax sc X g true a h1) (hy.e ay sc X g false b' h2))
    (fun sc b e h => by obtain ⟨a, b', p, rfl, h0, h1, h2⟩ := ck_idx h; exact ⟨h, fun _ _ => rfl, rfl⟩) (fun e k h => fin_tv h)
    (fun sc b e h => by obtain ⟨a, b', p, rfl, h0, h1, h2⟩ := ck_idx h; exact h) (fun sc h => by cases h) rfl
theorem snd_slc (ax : isA x = false) (ay : isA y = false) (az : isA z = false) (hx : Snd c F n x) (hy : Snd c F n y) (hz : Snd c F n z) : Snd c F n (.slc x y z) :=
  mkS rfl (fun sc X g b e h => by obtain ⟨a, l, u, p2, p, rfl, h1, h2, h3⟩ := ck_slc h; exact se_slc (hx.e ax sc X g true a h1) (hy.o ay sc X g l h2) (hz.o az sc X g u h3))
    (fun sc b e h => by obtain ⟨a, l, u, p2, p, rfl, h1, h2, h3⟩ := ck_slc h; exact ⟨h, fun _ _ => rfl, rfl⟩) (fun e k h => fin_tv h)
    (fun sc b e h => by obtain ⟨a, l, u, p2, p, rfl, h1, h2, h3⟩ := ck_slc h; exact h) (fun sc h => by cases h) rfl
theorem snd_slst {k : IE} (ax : isA x = false) (ay : isA y = false) (az : isA z = false) (ak : isA k = false) (hx : Snd c F n x) (hy : Snd c F n y) (hz : Snd c F n z) (hk : Snd c F n k) : Snd c F n (.slst x y z k) :=
  mkS rfl (fun sc X g b e h => by obtain ⟨a, l, u, st, p2, p, rfl, h1, h2, h3, h4, h5⟩ := ck_slst h; exact se_slst (hx.e ax sc X g true a h1) (hy.o ay sc X g l h2) (hz.o az sc X g u h3) (hk.e ak sc X g false st h4) h5)
    (fun sc b e h => by obtain ⟨a, l, u, st, p2, p, rfl, h1, h2, h3⟩ := ck_slst h; exact ⟨h, fun _ _ => rfl, rfl⟩) (fun e k h => fin_tv h)
    (fun sc b e h => by obtain ⟨a, l, u, st, p2, p, rfl, h1, h2, h3⟩ := ck_slst h; exact h) (fun sc h => by cases h) rfl
theorem snd_no : Snd c F n .no where
  e := fun _ sc X g b e h => by cases e <;> cases h
  t := fun _ sc X g b e h => by cases e <;> cases h
  w := fun _ sc X g b e h => by cases e <;> cases h
  a := fun h => by cases h
  s := fun h => by cases h
  i := fun _ sc X g b e h => by cases e <;> cases h
  o := fun _ sc X g l h => by
    cases l with
    | none => exact so_none'
    | some e => cases e <;> cases h
theorem snd_yes : Snd c F n .yes where
  e := fun _ sc X g b e h => by cases e <;> cases h
  t := fun _ sc X g b e h => by cases e <;> cases h
  w := fun _ sc X g b e h => by cases e <;> cases h
  a := fun h => by cases h
  s := fun h => by cases h
  i := fun _ sc X g b e h => by cases e <;> cases h
  o := fun _ sc X g l h => by
    cases l with
    | none => cases h
    | some e => cases e <;> cases h
theorem snd_rvs (ax : isA x = false) (hx : Snd c F n x) : Snd c F n (.rvs x) :=
  mkS rfl (fun sc X g b e h => by obtain ⟨a, k, p1, p2, p3, p, rfl, h1⟩ := ck_rvs h; exact se_rvs (hx.e ax sc X g true a h1))
    (fun sc b e h => by obtain ⟨a, k, p1, p2, p3, p, rfl, h1⟩ := ck_rvs h; exact ⟨h, fun _ _ => rfl, rfl⟩) (fun e k h => fin_tv h)
    (fun sc b e h => by obtain ⟨a, k, p1, p2, p3, p, rfl, h1⟩ := ck_rvs h; exact h) (fun sc h => by cases h) rfl
theorem snd_call (k : Nat) (ax : isA x = true) (hx : Snd c F n x) : Snd c F n (.call k x) :=
  mkS rfl (fun sc X g b e h => by
      obtain ⟨nm, es, p1, p, rfl, h1, h2, h3, h4⟩ := ck_call h
      obtain ⟨s1, s2, s3, s4⟩ := hx.s ax sc (hasB x) es h4
      exact se_call g h1 h2 h3 (hx.a ax sc X g (hasB x) es h4) s1 s3)
    (fun sc b e h => by obtain ⟨nm, es, p1, p, rfl, h1, h2, h3, h4⟩ := ck_call h; exact ⟨h, fun _ _ => rfl, rfl⟩) (fun e k h => fin_tv h)
    (fun sc b e h => by obtain ⟨nm, es, p1, p, rfl, h1, h2, h3, h4⟩ := ck_call h; exact h) (fun sc h => by cases h) rfl
theorem snd_bi (f : BI) (ax : isA x = true) (hx : Snd c F n x) : Snd c F n (.bi f x) :=
  mkS rfl (fun sc X g b e h => by
      obtain ⟨nm, e1, es, p1, p, rfl, h1, h2, h4⟩ := ck_bi h
      obtain ⟨s1, s2, s3, s4⟩ := hx.s ax sc true _ h4
      exact se_bi g h1 h2 (hx.a ax sc X g true _ h4) s1)
    (fun sc b e h => by obtain ⟨nm, e1, es, p1, p, rfl, h1, h2, h4⟩ := ck_bi h; exact ⟨h, fun _ _ => rfl, rfl⟩) (fun e k h => fin_tv h)
    (fun sc b e h => by obtain ⟨nm, e1, es, p1, p, rfl, h1, h2, h4⟩ := ck_bi h; exact h) (fun sc h => by cases h) rfl
theorem snd_gc (j : Nat) (d : D) : Snd c F n (.gc j d) :=
  mkS rfl (fun sc X g b e h => by obtain ⟨k, p, rfl, h1, h2, h3⟩ := ck_gc h; exact se_gc g h1 h2 h3)
    (fun sc b e h => by obtain ⟨k, p, rfl, h1, h2, h3⟩ := ck_gc h; exact ⟨h, fun _ _ => rfl, rfl⟩) (fun e k h => fin_tv h)
    (fun sc b e h => by obtain ⟨k, p, rfl, h1, h2, h3⟩ := ck_gc h; exact h) (fun sc h => by cases h) rfl
theorem snd_gcd (ax : isA x = true) (hx : Snd c F n x) : Snd c F n (.gcd x) :=
  mkS rfl (fun sc X g b e h => by
      obtain ⟨nm, e1, es, p1, p, rfl, h0, h1, h2, h4⟩ := ck_gcd h
      obtain ⟨s1, s2, s3, s4⟩ := hx.s ax sc true _ h4
      exact se_gcd g h0 h1 h2 (hx.a ax sc X g true _ h4) s1)
    (fun sc b e h => by obtain ⟨nm, e1, es, p1, p, rfl, h0, h1, h2, h4⟩ := ck_gcd h; exact ⟨h, fun _ _ => rfl, rfl⟩) (fun e k h => fin_tv h)
    (fun sc b e h => by obtain ⟨nm, e1, es, p1, p, rfl, h0, h1, h2, h4⟩ := ck_gcd h; exact h) (fun sc h => by cases h) rfl
theorem snd_isi (ty : TY) (ax : isA x = false) (hx : Snd c F n x) : Snd c F n (.isi ty x) :=
  mkS rfl (fun sc X g b e h => by
      obtain ⟨f, a, nm, p1, p2, p, rfl, h1, h2, h3, h4, h5, h6⟩ := ck_isi h
      exact se_isi g h1 h2 h3 h4 h5 (hx.e ax sc X g true a h6))
    (fun sc b e h => by obtain ⟨f, a, nm, p1, p2, p, rfl, h1, h2, h3, h4, h5, h6⟩ := ck_isi h; exact ⟨h, fun _ _ => rfl, rfl⟩) (fun e k h => fin_tv h)
    (fun sc b e h => by obtain ⟨f, a, nm, p1, p2, p, rfl, h1, h2, h3, h4, h5, h6⟩ := ck_isi h; exact h) (fun sc h => by cases h) rfl
theorem snd_me (m : ME) (ax : isA x = false) (ay : isA y = true) (hx : Snd c F n x) (hy : Snd c F n y) : Snd c F n (.me m x y) :=
  mkS rfl (fun sc X g b e h => by
      obtain ⟨a, nm, ap, e1, es, cp, rfl, h1, h2, h3, h4, h5, h6⟩ := ck_me h
      obtain ⟨s1, s2, s3, s4⟩ := hy.s ay sc true _ h6
      exact se_me g h1 h2 h3 h4 (hx.e ax sc X g true a h5) (hy.a ay sc X g true _ h6) s1)
    (fun sc b e h => by obtain ⟨a, nm, ap, e1, es, cp, rfl, h1, h2, h3, h4, h5, h6⟩ := ck_me h; exact ⟨h, fun _ _ => rfl, rfl⟩) (fun e k h => fin_tv h)
    (fun sc b e h => by obtain ⟨a, nm, ap, e1, es, cp, rfl, h1, h2, h3, h4, h5, h6⟩ := ck_me h; exact h) (fun sc h => by cases h) rfl
theorem snd_rng (ax : isA x = true) (hx : Snd c F n x) : Snd c F n (.rng x) where
  e := fun _ sc X g b e h => by cases (ck_rng h).1
  t := fun _ sc X g b e h => by cases (ck_rng h).1
  w := fun _ sc X g b e h => by cases (ck_rng h).1
  a := fun h => by cases h
  s := fun h => by cases h
  i := fun _ sc X g b e h tg _ => by
    obtain ⟨_, nm, es, p1, p, rfl, h1, h2, h3, h4⟩ := ck_rng h
    obtain ⟨s1, s2, s3, s4⟩ := hx.s ax sc false es h4
    exact si_rng g h1 h2 h3 (hx.a ax sc X g false es h4) s1 s2
  o := fun _ sc X g l h => by
    cases l with
    | none => cases h
    | some e => cases (ck_rng h).1
theorem snd_enm (ax : isA x = false) (hx : Snd c F n x) : Snd c F n (.enm x) where
  e := fun _ sc X g b e h => by cases (ck_enm h).1
  t := fun _ sc X g b e h => by cases (ck_enm h).1
  w := fun _ sc X g b e h => by cases (ck_enm h).1
  a := fun h => by cases h
  s := fun h => by cases h
  i := fun _ sc X g b e h tg ht => by
    obtain ⟨_, nm, a, p1, p, rfl, h1, h2, h3, h4⟩ := ck_enm h
    exact si_enm g (ht rfl) h1 h2 h3 (hx.e ax sc X g b a h4)
  o := fun _ sc X g l h => by
    cases l with
    | none => cases h
    | some e => cases (ck_enm h).1
theorem snd_zip (ax : isA x = false) (ay : isA y = false) (hx : Snd c F n x) (hy : Snd c F n y) : Snd c F n (.zip x y) where
  e := fun _ sc X g b e h => by cases (ck_zip h).1
  t := fun _ sc X g b e h => by cases (ck_zip h).1
  w := fun _ sc X g b e h => by cases (ck_zip h).1
  a := fun h => by cases h
  s := fun h => by cases h
  i := fun _ sc X g b e h tg ht => by
    obtain ⟨_, nm, a, a2, p1, p, rfl, h1, h2, h3, h4, h5, h6⟩ := ck_zip h
    exact si_zip g (ht rfl) h1 h2 h3 h4 (hx.e ax sc X g b a h5) (hy.e ay sc X g b a2 h6)
  o := fun _ sc X g l h => by
    cases l with
    | none => cases h
    | some e => cases (ck_zip h).1
theorem own_eq : ∀ (own : List Nat), own.length = (ownOf c own).length → (ownOf c own).map (·.2) = own
  | [], _ => rfl
  | i :: r, h => by
    have lt : ∀ l : List Nat, (ownOf c l).length ≤ l.length := fun l => by
      induction l with
      | nil => exact Nat.le_refl _
      | cons a l ih =>
        unfold ownOf
        split
        · exact Nat.succ_le_succ ih
        · exact Nat.le_succ_of_le ih
    unfold ownOf at h ⊢
    split at h
    · rename_i nm e
      show i :: (ownOf c r).map (·.2) = i :: r
      rw [own_eq r (by simpa using h)]
    · have := lt r
      simp at h
      omega
theorem GX.blk {sc : Scope} {X : Cx} (g : GX c F n sc X) (scope : Scope) (s : Shared) (H : Hp) (C : Addr) (cl : List (Str × Addr)) (fp : List Addr) : GX c F n (relS scope sc) (X.blk s H scope (compEnvC scope cl C X.env) fp) where
  hN := g.hN
  nd := g.nd
  hsc := by rw [← g.hsc]; rfl
  calm := g.calm
  room := g.room
  gen := g.gen
  nox := rfl
  blt := g.blt
  cons := g.cons
  dics := g.dics
  gcd := g.gcd
  fns := g.fns
theorem notFold {e : Expr} {env : PySem.Env} (h : isSetE e = false) : ∀ x, foldedSetIterable e env x = pure x := by
  intro x
  cases e <;> first | rfl | cases h
theorem snd_lc {it g : IE} (own : List Nat) (tp : TP) (ai : isA it = false) (ag : isA g = false) (ax : isA x = false) (hi : Snd c F n it) (hg : Snd c F n g) (hx : Snd c F n x) : Snd c F n (.lc own tp it g x) :=
  mkS rfl (fun sc X gx b e h => by
      obtain ⟨elt, tg, iter, ifs, scope, p, rfl, h0, h1, h2, h3, h4, h5, h6, h9, h7, h8⟩ := ck_lc h
      have ho := own_eq own h4
      have hfl : ∀ (s : Shared) (H : Hp) (C : Addr) (cl : List (Str × Addr)) (fp : List Addr), ∀ x, (scope.names.lookup x == some .cell) = true → (X.blk s H scope (compEnvC scope cl C X.env) fp).fn x = true := fun s H C cl fp x z => z
      have ht : ∀ (s : Shared) (H : Hp) (C : Addr) (cl : List (Str × Addr)) (fp : List Addr), PTs (X.blk s H scope (compEnvC scope cl C X.env) fp) ifs (tCd X.K F g) := fun s H C cl fp => by
        rcases ifs with _ | ⟨i, _ | ⟨j, r⟩⟩
        · rcases ck_nil ag h7 with rfl | ⟨rfl, _⟩
          · refine ⟨fun pins s σ H Q I hw => ?_⟩
            obtain ⟨_, _, _, _, z, _⟩ := hw
            cases z
          · exact pts_nil
        · have : tCd X.K F g = tTs X.K F g := by
            cases g <;> first | rfl | (cases i <;> cases h7)
          rw [this]
          exact pts_one (hg.t ag _ _ (gx.blk scope s H C cl fp) false i h7)
        · simp at h9
      have := pe_lc (X := X) (pos := p) (te := tE X.K F false x) (g := tG X.K tp) (tt := tCd X.K F g) gx.calm (by rw [gx.hN]; exact gx.nd) (hi.i ai sc X gx true iter h1 tg h0) (blkOk_by (by rw [gx.hN, gx.hsc]; exact h3)) (fun s H C cl fp => sg_ok (gx.blk scope s H C cl fp) (hfl s H C cl fp) h5) ht
        (fun s H C cl fp => hx.e ax _ _ (gx.blk scope s H C cl fp) false elt h8) (notFold h2)
      rw [ho] at this
      exact pe_imp this fun σ H Q q => rd_lc h6 q)
    (fun sc b e h => by obtain ⟨elt, tg, iter, ifs, scope, p, rfl, _⟩ := ck_lc h; exact ⟨h, fun _ _ => rfl, rfl⟩) (fun e k h => fin_tv h)
    (fun sc b e h => by obtain ⟨elt, tg, iter, ifs, scope, p, rfl, _⟩ := ck_lc h; exact h) (fun sc h => by cases h) rfl
end
/-- a comprehension of two clauses: as a value, and as what a name is set to -/
theorem lc2_both {it it1 g : IE} {own own1 : List Nat} {tp tp1 : TP} (ai : isA it = false) (ai1 : isA it1 = false) (ag : isA g = false) (ax : isA x = false) (hi : Snd c F n it) (hi1 : Snd c F n it1) (hg : Snd c F n g) (hx : Snd c F n x) {sc : Scope} {X : Cx} (gx : GX c F n sc X) {bb : Bool} {t : Mo} {e : Expr}
    (h : ck c sc bb t (.lc2 own own1 tp tp1 it it1 g x) [e] = true) : (∀ i ∈ tpS tp, i ∈ own) ∧ (∀ i ∈ tpS tp1, i ∈ own1) ∧ PE X e (tLc2 (tI X.K F true it) (tG X.K tp) tYes (tI X.K F false it1) (tG X.K tp1) (tCd X.K F g) (tE X.K F false x) own own1) ∧
      ∀ (i : Nat) (y : Str) (py spos : Pos), X.N[i]? = some y → X.env.scope.names.lookup y = some .local → swapsWith e (some (.Name y py)) spos.line X.env = pure true →
        PS X (.Assign [.Name y py] e spos) (tAsg (tLc2 (tI X.K F true it) (tG X.K tp) tYes (tI X.K F false it1) (tG X.K tp1) (tCd X.K F g) (tE X.K F false x) own own1) (gName i)) := by
  obtain ⟨elt, tg, iter, tg1, iter1, ifs, scope, p, rfl, h0, h0', h1, h2, h3, h4, h5, h6, h7, h8, h9, h10, h11, h12, h13, h14⟩ := ck_lc2 h
  have ho := own_eq own h5
  have hfl : ∀ (s : Shared) (H : Hp) (C : Addr) (cl : List (Str × Addr)) (fp : List Addr), ∀ x, (scope.names.lookup x == some .cell) = true → (X.blk s H scope (compEnvC scope cl C X.env) fp).fn x = true := fun s H C cl fp x z => z
  have ht : ∀ (s : Shared) (H : Hp) (C : Addr) (cl : List (Str × Addr)) (fp : List Addr), PTs (X.blk s H scope (compEnvC scope cl C X.env) fp) ifs (tCd X.K F g) := fun s H C cl fp => by
    rcases ifs with _ | ⟨i, _ | ⟨j, r⟩⟩
    · rcases ck_nil ag h13 with rfl | ⟨rfl, _⟩
      · refine ⟨fun pins s σ H Q I hw => ?_⟩
        obtain ⟨_, _, _, _, z, _⟩ := hw
        cases z
      · exact pts_nil
    · have : tCd X.K F g = tTs X.K F g := by
        cases g <;> first | rfl | (cases i <;> cases h13)
      rw [this]
      exact pts_one (hg.t ag _ _ (gx.blk scope s H C cl fp) false i h13)
    · simp at h12
  have hv : ∀ i ∈ own1, i ∈ (ownOf c own).map (·.2) := by rw [ho]; exact h8
  have hs1 : ∀ env x, foldedSetIterable iter1 env x = pure x := fun env => notFold h3
  refine ⟨h7, h10, ?_, fun i y py spos hN hl hsw => ?_⟩
  · have := pe_lc2 (X := X) (pos := p) (te := tE X.K F false x) (g := tG X.K tp) (tt := tYes) (g1 := tG X.K tp1) (tt1 := tCd X.K F g) (wi1 := tI X.K F false it1) gx.calm (by rw [gx.hN]; exact gx.nd) (hi.i ai sc X gx true iter h1 tg h0) (blkOk_by (by rw [gx.hN, gx.hsc]; exact h4)) hv (fun s H C cl fp => sg_ok (gx.blk scope s H C cl fp) (hfl s H C cl fp) h6) (fun s H C cl fp => pts_nil)
      (fun s H C cl fp => hi1.i ai1 _ _ (gx.blk scope s H C cl fp) false iter1 h11 tg1 h0') (fun s H C cl fp => sg_ok (gx.blk scope s H C cl fp) (hfl s H C cl fp) h9) ht (fun s H C cl fp => hx.e ax _ _ (gx.blk scope s H C cl fp) false elt h14) (notFold h2) hs1
    rw [ho] at this
    exact this
  · have := ps_setLc2 (X := X) (pos := p) (te := tE X.K F false x) (g := tG X.K tp) (tt := tYes) (g1 := tG X.K tp1) (tt1 := tCd X.K F g) (wi1 := tI X.K F false it1) gx.calm (by rw [gx.hN]; exact gx.nd) hN hl hsw (hi.i ai sc X gx true iter h1 tg h0) (blkOk_by (by rw [gx.hN, gx.hsc]; exact h4)) hv (fun s H C cl fp => sg_ok (gx.blk scope s H C cl fp) (hfl s H C cl fp) h6) (fun s H C cl fp => pts_nil)
      (fun s H C cl fp => hi1.i ai1 _ _ (gx.blk scope s H C cl fp) false iter1 h11 tg1 h0') (fun s H C cl fp => sg_ok (gx.blk scope s H C cl fp) (hfl s H C cl fp) h9) ht (fun s H C cl fp => hx.e ax _ _ (gx.blk scope s H C cl fp) false elt h14) (notFold h2) hs1
    rw [ho] at this
    exact this
theorem snd_lc2 {it it1 g : IE} (own own1 : List Nat) (tp tp1 : TP) (ai : isA it = false) (ai1 : isA it1 = false) (ag : isA g = false) (ax : isA x = false) (hi : Snd c F n it) (hi1 : Snd c F n it1) (hg : Snd c F n g) (hx : Snd c F n x) : Snd c F n (.lc2 own own1 tp tp1 it it1 g x) :=
  mkS rfl (fun sc X gx b e h => by
      obtain ⟨k1, k2, k3, _⟩ := lc2_both ai ai1 ag ax hi hi1 hg hx gx h
      exact pe_imp k3 fun σ H Q q => rd_lc2 k1 k2 q)
    (fun sc b e h => by obtain ⟨elt, tg, iter, tg1, iter1, ifs, scope, p, rfl, _⟩ := ck_lc2 h; exact ⟨h, fun _ _ => rfl, rfl⟩) (fun e k h => fin_tv h)
    (fun sc b e h => by obtain ⟨elt, tg, iter, tg1, iter1, ifs, scope, p, rfl, _⟩ := ck_lc2 h; exact h) (fun sc h => by cases h) rfl
/-! ### generator expressions -/
theorem GX.gn {sc scope : Scope} {X : Cx} (g : GX c F n sc X) {s : Shared} {H : Hp} {cl : List (Str × Addr)} {C : Addr} {code : Value} {fp : List Addr} {A : Around} (hA : Room (2 * n) A) : GX c.inGen F n scope (GexX.genCx X s H (genEnv scope cl C code builtinsNs X.env) fp A) where
  hN := g.hN
  nd := g.nd
  hsc := rfl
  calm := g.calm
  room := hA
  gen := fun z => nomatch z
  nox := rfl
  blt := g.blt
  cons := g.cons
  dics := g.dics
  gcd := g.gcd
  fns := g.fns
theorem rd_gex {K : PySem.W.Frag} {al : Bool} {own : List Nat} {tp : TP} {it : IE} {b : Bool} {P : Addr} {σ : L2.St} {H : Hp} {Q : VK} (hP : P ∈ Tabs.T) (hown : ∀ i ∈ tpS tp, i ∈ own) (h : tE K F b (.gex al own tp it x) σ H Q) :
    GexX.tGex al P (tI K F true it) (tG K tp) (tE K F false x) own σ H Q := by
  obtain ⟨S, e, dd, hs, hf, q⟩ := h
  have hf := fin_f hf
  split at hf
  · rename_i d0 hd0
    split at hf
    · rename_i ds hds
      rw [Option.map_eq_some_iff] at hf
      obtain ⟨r, hgo0, rfl⟩ := hf
      refine ⟨S, e, d0, ds, hs, hd0, hds, fun J H1 x1 sv => ⟨hs.tab.ex x1 P hP, fun H2 tb => ?_⟩⟩
      have x2 : Ex H1 H2 := Ex.tabbed (hs.tab.ex x1 P hP) tb
      have s2 : SR K (trS (nw S H) H1) H1 (wipe σ own) (wipeE e own) := ((hs.grow nw.of fun a z => z).ex x1).tr.wipe own
      refine ⟨fun i m H' => m = ds.length - i ∧ i ≤ ds.length ∧ Ex H1 H' ∧ gexGo al (ev F x false) tp (wipeE e own) (ds.drop i) = some r, ⟨ds.length, rfl, Nat.zero_le _, x2, hgo0⟩, ?_⟩
      rintro i m H' ⟨rfl, hi, xe, hgo⟩
      have ok : Okh (nw S H) true H1 H' := ⟨xe.le fun _ z => z, fun _ => xe⟩
      by_cases hlt : i < ds.length
      · right
        refine ⟨sv.go i H' ok hlt, fun H5 => (i + 1 ≤ ds.length ∧ Ex H1 H5 ∧ gexGo al (ev F x false) tp (wipeE e own) (ds.drop (i + 1)) = some r), fun H5 h5 => ⟨ds.length - (i + 1), by omega, rfl, h5⟩, ?_⟩
        intro v H3 y
        obtain ⟨x3, rv⟩ := sv.yld i H' v H3 ds[i] ok (List.getElem?_eq_getElem hlt) y
        rw [List.drop_eq_getElem_cons hlt] at hgo
        unfold gexGo at hgo
        split at hgo
        · cases hgo
        · rename_i e1 he1
          refine ⟨_, _, _, e1, s2.ex (xe.trans x3), rv, he1, fun σ2 s3 hw => ⟨(hw own hown).trans (wipe_wipe σ own), ?_⟩⟩
          split at hgo
          · rename_i bb hbb
            refine ⟨_, _, _, s3, hbb, fun v2 H4 x4 r4 => ⟨bb, r4.bl, ?_⟩⟩
            by_cases hb : bb = al
            · rw [if_pos hb]
              rw [if_pos (by rw [hb]; exact beq_self_eq_true al)] at hgo
              exact ⟨hlt, xe.trans (x3.trans x4), hgo⟩
            · rw [if_neg hb]
              rw [if_neg (by rw [beq_iff_eq]; exact hb)] at hgo
              cases hgo
              exact q _ H4 (x1.trans (xe.trans (x3.trans x4))) (.inl (.bl _))
          · cases hgo
      · left
        have ei : i = ds.length := by omega
        subst ei
        rw [List.drop_length] at hgo
        cases hgo
        exact ⟨sv.stop H' ok, q _ H' (x1.trans xe) (.inl (.bl _))⟩
    · cases hf
  · cases hf
theorem gex_of {e : Expr} {nm : Str} {elt tg iter : Expr} {scope : Scope} (h : gexOf e = some (nm, elt, tg, iter, scope)) : ∃ p1 gp p, e = .Call (.Name nm p1) [.GeneratorExp elt [⟨tg, iter, [], 0⟩] scope gp] [] p := by
  unfold gexOf at h
  split at h
  · cases h
    exact ⟨_, _, _, rfl⟩
  · cases h
theorem ck_gex {sc : Scope} {b : Bool} {t : Mo} {al : Bool} {own : List Nat} {tp : TP} {it : IE} {e : Expr} (h : ck c sc b t (.gex al own tp it x) [e] = true) : ∃ nm p1 elt tg iter scope gp p, e = .Call (.Name nm p1) [.GeneratorExp elt [⟨tg, iter, [], 0⟩] scope gp] [] p ∧ c.ge = true ∧ nm = gexS al ∧ glB sc nm = true ∧
    (isTupIt it = true → isTupE tg = true) ∧ ck c sc true .iter it [iter] = true ∧ isSetE iter = false ∧ isLst iter = false ∧ gblkB c.N sc scope (ownOf c own) = true ∧ own.length = (ownOf c own).length ∧ ckT c.inGen (fun _ => false) scope tp tg = true ∧ (∀ i ∈ tpS tp, i ∈ own) ∧ ck c.inGen scope false .val x [elt] = true := by
  change (match gexOf e with
        | some (nm, elt, tg, iter, scope) => c.ge && decide (nm = gexS al) && glB sc nm && (!isTupIt it || isTupE tg) && ck c sc true .iter it [iter] && !isSetE iter && !isLst iter && gblkB c.N sc scope (ownOf c own) && decide (own.length = (ownOf c own).length) &&
          ckT c.inGen (fun _ => false) scope tp tg && (tpS tp).all (fun i => decide (i ∈ own)) && ck c.inGen scope false .val x [elt]
        | none => false) = true at h
  split at h
  · rename_i nm elt tg iter scope he
    obtain ⟨p1, gp, p, rfl⟩ := gex_of he
    simp only [Bool.and_eq_true, decide_eq_true_eq, Bool.not_eq_true', List.all_eq_true] at h
    obtain ⟨⟨⟨⟨⟨⟨⟨⟨⟨⟨⟨h0, h1⟩, h2⟩, h3⟩, h4⟩, h5⟩, h6⟩, h7⟩, h8⟩, h9⟩, h10⟩, h11⟩ := h
    exact ⟨_, _, _, _, _, _, _, _, rfl, h0, h1, h2, tupI h3, h4, h5, h6, h7, h8, h9, h10, h11⟩
  · cases h
theorem noFold {iter : Expr} {env : PySem.Env} (h1 : isSetE iter = false) (h2 : isLst iter = false) : ∀ v, genFold iter env v = pure v := by
  intro v
  cases iter <;> first | rfl | (cases h1; done) | (cases h2; done)
theorem snd_gex {it : IE} (al : Bool) (own : List Nat) (tp : TP) (ai : isA it = false) (ax : isA x = false) (hi : Snd c F n it) (hx : Snd c.inGen F n x) : Snd c F n (.gex al own tp it x) :=
  mkS rfl (fun sc X gx b e h => by
      obtain ⟨nm, p1, elt, tg, iter, scope, gp, p, rfl, h0, h1, h2, h3, h4, h5, h6, h7, h8, h9, h10, h11⟩ := ck_gex h
      obtain ⟨cd, P, hcd, TB, hP, room⟩ := gx.gen h0
      unfold gblkB at h7
      simp only [Bool.and_eq_true, decide_eq_true_eq, Bool.not_eq_true', List.all_eq_true, decide_eq_false_iff_not] at h7
      obtain ⟨⟨⟨k1, k2⟩, k3⟩, k4⟩ := h7
      have ho := own_eq own h8
      have hmn : X.mg nm = none := gx.blt nm (by rw [h1]; cases al <;> decide +kernel)
      have := GexX.pe_gex (X := X) (al := al) (nm := nm) (p := p1) (pos := p) (gpos := gp) (te := tE X.K F false x) (g := tG X.K tp) (k := 2 * n) (by rw [h1]; cases al <;> rfl) room gx.calm (by rw [gx.hN]; exact gx.nd) (gx.gl h2) hmn TB hcd (blkOk_by (by rw [gx.hN, gx.hsc]; exact k1)) k2 k3 k4 (hi.i ai sc X gx true iter h4 tg h3)
        (fun s H C code fp A hA => sg_ok (gx.gn hA) (fun _ z => (Bool.false_ne_true z).elim) h9) (fun s H C code fp A hA => hx.e ax scope _ (gx.gn hA) false elt h11) (noFold h5 h6)
      rw [ho] at this
      exact pe_imp this fun σ H Q q => rd_gex hP h10 q)
    (fun sc b e h => by obtain ⟨nm, p1, elt, tg, iter, scope, gp, p, rfl, _⟩ := ck_gex h; exact ⟨h, fun _ _ => rfl, rfl⟩) (fun e k h => fin_tv h)
    (fun sc b e h => by obtain ⟨nm, p1, elt, tg, iter, scope, gp, p, rfl, _⟩ := ck_gex h; exact h) (fun sc h => by cases h) rfl
theorem rd_gxi {K : PySem.W.Frag} {al : Bool} {own : List Nat} {tp : TP} {it g : IE} {b : Bool} {P : Addr} {σ : L2.St} {H : Hp} {Q : VK} (hP : P ∈ Tabs.T) (hown : ∀ i ∈ tpS tp, i ∈ own) (h : tE K F b (.gxi al own tp it g x) σ H Q) :
    GexX.tGexi al P (tI K F true it) (tG K tp) (tTs K F g) (tE K F false x) own σ H Q := by
  obtain ⟨S, e, dd, hs, hf, q⟩ := h
  have hf := fin_f hf
  split at hf
  · rename_i d0 hd0
    split at hf
    · rename_i ds hds
      rw [Option.map_eq_some_iff] at hf
      obtain ⟨r, hgo0, rfl⟩ := hf
      refine ⟨S, e, d0, ds, hs, hd0, hds, fun J H1 x1 sv => ⟨hs.tab.ex x1 P hP, fun H2 tb => ?_⟩⟩
      have x2 : Ex H1 H2 := Ex.tabbed (hs.tab.ex x1 P hP) tb
      have s2 : SR K (trS (nw S H) H1) H1 (wipe σ own) (wipeE e own) := ((hs.grow nw.of fun a z => z).ex x1).tr.wipe own
      refine ⟨fun i m H' => m = ds.length - i ∧ i ≤ ds.length ∧ Ex H1 H' ∧ gxiGo al (ev F g true) (ev F x false) tp (wipeE e own) (ds.drop i) = some r, ⟨ds.length, rfl, Nat.zero_le _, x2, hgo0⟩, ?_⟩
      rintro i m H' ⟨rfl, hi, xe, hgo⟩
      have ok : Okh (nw S H) true H1 H' := ⟨xe.le fun _ z => z, fun _ => xe⟩
      by_cases hlt : i < ds.length
      · right
        refine ⟨sv.go i H' ok hlt, fun H5 => (i + 1 ≤ ds.length ∧ Ex H1 H5 ∧ gxiGo al (ev F g true) (ev F x false) tp (wipeE e own) (ds.drop (i + 1)) = some r), fun H5 h5 => ⟨ds.length - (i + 1), by omega, rfl, h5⟩, ?_⟩
        intro v H3 y
        obtain ⟨x3, rv⟩ := sv.yld i H' v H3 ds[i] ok (List.getElem?_eq_getElem hlt) y
        rw [List.drop_eq_getElem_cons hlt] at hgo
        unfold gxiGo at hgo
        split at hgo
        · cases hgo
        · rename_i e1 he1
          refine ⟨_, _, _, e1, s2.ex (xe.trans x3), rv, he1, fun σ2 s3 hw => ⟨(hw own hown).trans (wipe_wipe σ own), ?_⟩⟩
          split at hgo
          · rename_i htt
            refine ⟨_, _, true, s3, htt, fun H35 x35 => ?_⟩
            simp only [if_true]
            split at hgo
            · rename_i bb hbb
              refine ⟨_, _, _, s3.ex x35, hbb, fun v2 H4 x4 r4 => ⟨bb, r4.bl, ?_⟩⟩
              by_cases hb : bb = al
              · rw [if_pos hb]
                rw [if_pos (by rw [hb]; exact beq_self_eq_true al)] at hgo
                exact ⟨hlt, xe.trans (x3.trans (x35.trans x4)), hgo⟩
              · rw [if_neg hb]
                rw [if_neg (by rw [beq_iff_eq]; exact hb)] at hgo
                cases hgo
                exact q _ H4 (x1.trans (xe.trans (x3.trans (x35.trans x4)))) (.inl (.bl _))
            · cases hgo
          · rename_i htt
            refine ⟨_, _, false, s3, htt, fun H35 x35 => ?_⟩
            simp only [Bool.false_eq_true, if_false]
            exact ⟨hlt, xe.trans (x3.trans x35), hgo⟩
          · cases hgo
      · left
        have ei : i = ds.length := by omega
        subst ei
        rw [List.drop_length] at hgo
        cases hgo
        exact ⟨sv.stop H' ok, q _ H' (x1.trans xe) (.inl (.bl _))⟩
    · cases hf
  · cases hf
theorem gxi_of {e : Expr} {nm : Str} {elt tg iter g : Expr} {scope : Scope} (h : gxiOf e = some (nm, elt, tg, iter, g, scope)) : ∃ p1 gp p, e = .Call (.Name nm p1) [.GeneratorExp elt [⟨tg, iter, [g], 0⟩] scope gp] [] p := by
  unfold gxiOf at h
  split at h
  · cases h
    exact ⟨_, _, _, rfl⟩
  · cases h
theorem ck_gxi {sc : Scope} {b : Bool} {t : Mo} {al : Bool} {own : List Nat} {tp : TP} {it g : IE} {e : Expr} (h : ck c sc b t (.gxi al own tp it g x) [e] = true) : ∃ nm p1 elt tg iter cd scope gp p, e = .Call (.Name nm p1) [.GeneratorExp elt [⟨tg, iter, [cd], 0⟩] scope gp] [] p ∧ c.ge = true ∧ nm = gexS al ∧ glB sc nm = true ∧
    (isTupIt it = true → isTupE tg = true) ∧ ck c sc true .iter it [iter] = true ∧ isSetE iter = false ∧ isLst iter = false ∧ gblkB c.N sc scope (ownOf c own) = true ∧ own.length = (ownOf c own).length ∧ ckT c.inGen (fun _ => false) scope tp tg = true ∧ (∀ i ∈ tpS tp, i ∈ own) ∧ ck c.inGen scope false .test g [cd] = true ∧ ck c.inGen scope false .val x [elt] = true := by
  change (match gxiOf e with
        | some (nm, elt, tg, iter, cd, scope) => c.ge && decide (nm = gexS al) && glB sc nm && (!isTupIt it || isTupE tg) && ck c sc true .iter it [iter] && !isSetE iter && !isLst iter && gblkB c.N sc scope (ownOf c own) && decide (own.length = (ownOf c own).length) &&
          ckT c.inGen (fun _ => false) scope tp tg && (tpS tp).all (fun i => decide (i ∈ own)) && ck c.inGen scope false .test g [cd] && ck c.inGen scope false .val x [elt]
        | none => false) = true at h
  split at h
  · rename_i nm elt tg iter cd scope he
    obtain ⟨p1, gp, p, rfl⟩ := gxi_of he
    simp only [Bool.and_eq_true, decide_eq_true_eq, Bool.not_eq_true', List.all_eq_true] at h
    obtain ⟨⟨⟨⟨⟨⟨⟨⟨⟨⟨⟨⟨h0, h1⟩, h2⟩, h3⟩, h4⟩, h5⟩, h6⟩, h7⟩, h8⟩, h9⟩, h10⟩, h105⟩, h11⟩ := h
    exact ⟨_, _, _, _, _, _, _, _, _, rfl, h0, h1, h2, tupI h3, h4, h5, h6, h7, h8, h9, h10, h105, h11⟩
  · cases h
theorem snd_gxi {it g : IE} (al : Bool) (own : List Nat) (tp : TP) (ai : isA it = false) (ag : isA g = false) (ax : isA x = false) (hi : Snd c F n it) (hg : Snd c.inGen F n g) (hx : Snd c.inGen F n x) : Snd c F n (.gxi al own tp it g x) :=
  mkS rfl (fun sc X gx b e h => by
      obtain ⟨nm, p1, elt, tg, iter, cnd, scope, gp, p, rfl, h0, h1, h2, h3, h4, h5, h6, h7, h8, h9, h10, h105, h11⟩ := ck_gxi h
      obtain ⟨cd, P, hcd, TB, hP, room⟩ := gx.gen h0
      unfold gblkB at h7
      simp only [Bool.and_eq_true, decide_eq_true_eq, Bool.not_eq_true', List.all_eq_true, decide_eq_false_iff_not] at h7
      obtain ⟨⟨⟨k1, k2⟩, k3⟩, k4⟩ := h7
      have ho := own_eq own h8
      have hmn : X.mg nm = none := gx.blt nm (by rw [h1]; cases al <;> decide +kernel)
      have := GexX.pe_gexi (X := X) (al := al) (nm := nm) (p := p1) (pos := p) (gpos := gp) (ifs := [cnd]) (tc := tTs X.K F g) (te := tE X.K F false x) (g := tG X.K tp) (k := 2 * n) (by rw [h1]; cases al <;> rfl) room gx.calm (by rw [gx.hN]; exact gx.nd) (gx.gl h2) hmn TB hcd (blkOk_by (by rw [gx.hN, gx.hsc]; exact k1)) k2 k3 k4 (hi.i ai sc X gx true iter h4 tg h3)
        (fun s H C code fp A hA => sg_ok (gx.gn hA) (fun _ z => (Bool.false_ne_true z).elim) h9) (fun s H C code fp A hA => pts_one (hg.t ag scope _ (gx.gn hA) false cnd h105)) (fun s H C code fp A hA => hx.e ax scope _ (gx.gn hA) false elt h11) (noFold h5 h6)
      rw [ho] at this
      exact pe_imp this fun σ H Q q => rd_gxi hP h10 q)
    (fun sc b e h => by obtain ⟨nm, p1, elt, tg, iter, cd, scope, gp, p, rfl, _⟩ := ck_gxi h; exact ⟨h, fun _ _ => rfl, rfl⟩) (fun e k h => fin_tv h)
    (fun sc b e h => by obtain ⟨nm, p1, elt, tg, iter, cd, scope, gp, p, rfl, _⟩ := ck_gxi h; exact h) (fun sc h => by cases h) rfl
/-! ### list(range(..)), tuple(range(..)) -/
theorem upto_eq' : ∀ (n : Nat) (a : Int), upto n a = (List.range n).map fun (i : Nat) => .int (a + i)
  | 0, a => rfl
  | n + 1, a => by
    rw [List.range_succ_eq_map]
    unfold upto
    rw [upto_eq' n (a + 1)]
    simp only [List.map_cons, List.map_map]
    congr 1
    · simp
    · apply List.map_congr_left
      intro i _
      simp only [Function.comp]
      congr 1
      push_cast
      omega
theorem DR.int' {K : PySem.W.Frag} {S : Ad} {H : Hp} {v : V} {i : Int} (h : DR K S H v (.int i)) : v = .int i := by cases h; rfl
theorem lrg_of {e : Expr} {nm r : Str} {es : List Expr} (h : lrgOf e = some (nm, r, es)) : ∃ p1 p2 p3 p, e = .Call (.Name nm p1) [.Call (.Name r p2) es [] p3] [] p := by
  unfold lrgOf at h
  split at h
  · cases h
    exact ⟨_, _, _, _, rfl⟩
  · cases h
theorem ck_lrg {y : IE} {sc : Scope} {b : Bool} {t : Mo} {tu : Bool} {e : Expr} (h : ck c sc b t (.lrg tu x y) [e] = true) : ∃ nm r p1 p2 p3 p, nm = lrS tu ∧ glB sc nm = true ∧ r = ("range" : Str) ∧ glB sc r = true ∧
    ((∃ a, e = .Call (.Name nm p1) [.Call (.Name r p2) [a] [] p3] [] p ∧ isNo x = true ∧ isStar a = false ∧ ck c sc false .val y [a] = true) ∨
     ∃ a a2, e = .Call (.Name nm p1) [.Call (.Name r p2) [a, a2] [] p3] [] p ∧ isNo x = false ∧ isStar a = false ∧ isStar a2 = false ∧ ck c sc false .val x [a] = true ∧ ck c sc false .val y [a2] = true) := by
  change (match lrgOf e with
        | some (nm, r, [a]) => decide (nm = lrS tu) && glB sc nm && decide (r = ("range" : Str)) && glB sc r && isNo x && !isStar a && ck c sc false .val x [] && ck c sc false .val y [a]
        | some (nm, r, [a, a2]) => decide (nm = lrS tu) && glB sc nm && decide (r = ("range" : Str)) && glB sc r && !isNo x && !isStar a && !isStar a2 && ck c sc false .val x [a] && ck c sc false .val y [a2]
        | _ => false) = true at h
  split at h
  · rename_i nm r a he
    obtain ⟨p1, p2, p3, p, rfl⟩ := lrg_of he
    simp only [Bool.and_eq_true, decide_eq_true_eq, Bool.not_eq_true'] at h
    obtain ⟨⟨⟨⟨⟨⟨⟨h0, h1⟩, h2⟩, h3⟩, h4⟩, h5⟩, h6⟩, h7⟩ := h
    exact ⟨_, _, _, _, _, _, h0, h1, h2, h3, .inl ⟨_, rfl, h4, h5, h7⟩⟩
  · rename_i nm r a a2 he
    obtain ⟨p1, p2, p3, p, rfl⟩ := lrg_of he
    simp only [Bool.and_eq_true, decide_eq_true_eq, Bool.not_eq_true'] at h
    obtain ⟨⟨⟨⟨⟨⟨⟨⟨h0, h1⟩, h2⟩, h3⟩, h4⟩, h5⟩, h6⟩, h7⟩, h8⟩ := h
    exact ⟨_, _, _, _, _, _, h0, h1, h2, h3, .inr ⟨_, _, rfl, h4, h5, h6, h7, h8⟩⟩
  · cases h
theorem drs_rg {K : PySem.W.Frag} {S : Ad} {H : Hp} (a b : Int) : DRs K S H (rgV a b) (upto (b - a).toNat a) := by
  unfold rgV
  rw [upto_eq']
  generalize List.range (b - a).toNat = l
  induction l with
  | nil => exact .nil
  | cons i r ih => exact .cons (.int _) ih
theorem snd_lrg {y : IE} (tu : Bool) (ax : isA x = false) (ay : isA y = false) (hx : Snd c F n x) (hy : Snd c F n y) : Snd c F n (.lrg tu x y) :=
  mkS rfl (fun sc X g b e h => by
      obtain ⟨nm, r, p1, p2, p3, p, h0, h1, h2, h3, hc⟩ := ck_lrg h
      have hmn : X.mg nm = none := g.blt nm (by rw [h0]; cases tu <;> decide +kernel)
      have hmr : X.mg r = none := g.blt r (by rw [h2]; decide +kernel)
      have key : ∀ (te : L2.St → Hp → (Int → Int → Hp → Prop) → Prop) (es : List Expr), e = .Call (.Name nm p1) [.Call (.Name r p2) es [] p3] [] p → PRg X (.Call (.Name r p2) es [] p3) te →
          (∀ σ H Q, (∃ S e lo hi, SR X.K S H σ e ∧ rngD [.int lo, .int hi] = some (.lst (upto (hi - lo).toNat lo)) ∧ okLen (upto (hi - lo).toNat lo) = true ∧ ev F (.lrg tu x y) false e = some (if tu then .tup (upto (hi - lo).toNat lo) else .lst (upto (hi - lo).toNat lo)) ∧ (∀ R : Int → Int → Hp → Prop, (∀ H', Ex H H' → R lo hi H') → te σ H R) ∧
            ∀ v H', Ex H H' → DV b X.K (nw S H) H' v (if tu then .tup (upto (hi - lo).toNat lo) else .lst (upto (hi - lo).toNat lo)) → Q v H') → (if tu then tTupRg te else tLstRg te) σ H Q) := by
        intro te es he hp σ H Q ⟨S, en, lo, hi, hs, hr, hl, hev, ht, q⟩
        have hl := okLen_le hl
        rw [upto_len] at hl
        have hr2 : small b62 lo = true ∧ small b62 hi = true := by
          unfold rngD at hr
          simp only at hr
          split at hr
          · rename_i z
            rw [Bool.and_eq_true] at z
            exact z
          · cases hr
        have t1 := small62 hr2.1
        have t2 := small62 hr2.2
        have ok : RgOk lo hi := ⟨t1.1, t1.2, t2.1, t2.2, by omega⟩
        cases tu with
        | true =>
          refine ht _ fun H' x' => ⟨ok, fun p hp => q _ _ (x'.trans (Ex.new hp)) (.inl (.tup upd_same (drs_rg _ _)))⟩
        | false =>
          refine ht _ fun H' x' => ⟨ok, fun p hp => q _ _ (x'.trans (Ex.new hp)) (.inl (.lst (.inr (x'.free hp)) upd_same (drs_rg _ _)))⟩
      have fin2 : ∀ (te : L2.St → Hp → (Int → Int → Hp → Prop) → Prop) (es : List Expr), e = .Call (.Name nm p1) [.Call (.Name r p2) es [] p3] [] p → PRg X (.Call (.Name r p2) es [] p3) te → PE X e (if tu then tTupRg te else tLstRg te) := by
        intro te es he hp
        subst he h0
        cases tu with
        | true => exact pe_tupRg g.calm (g.gl h1) hmn hp
        | false => exact pe_listRg g.calm (g.gl h1) hmn hp
      rcases hc with ⟨a, he, hno, hst, hya⟩ | ⟨a, a2, he, hno, hst, hst2, hxa, hya⟩
      · have hp : PRg X (.Call (.Name r p2) [a] [] p3) (tRg1 (tE X.K F false y)) := by
          subst h2
          exact prg_1 (g.gl h3) hmr (hy.e ay sc X g false a hya) (star_of hst [] X.env)
        refine pe_imp (fin2 _ _ he hp) fun σ H Q z => key _ _ he hp σ H Q ?_
        obtain ⟨S, en, d, hs, hf, q⟩ := z
        have hf0 := hf
        have hf := fin_f hf
        split at hf
        · rename_i d1 d2 hx1 hy1
          rw [if_pos hno] at hf
          split at hf
          · rename_i rr hrr
            split at hf
            · rename_i hl
              cases hf
              have hd2 : ∃ hi, d2 = .int hi := by
                unfold rngD at hrr
                split at hrr
                · rename_i z
                  cases z
                · rename_i a0 b0 z
                  cases z
                  exact ⟨_, rfl⟩
                · cases hrr
              obtain ⟨hi, rfl⟩ := hd2
              have hrr2 : rr = upto (hi - 0).toNat 0 := by
                have z := hrr
                unfold rngD at z
                simp only at z
                split at z
                · cases z; rfl
                · cases z
              subst hrr2
              refine ⟨S, en, 0, hi, hs, hrr, hl, hf0, fun R hR => ?_, q⟩
              exact ⟨S, en, _, hs, hy1, fun v H' x' r' => ⟨hi, r'.int, hR H' x'⟩⟩
            · cases hf
          · cases hf
        · cases hf
      · have hp : PRg X (.Call (.Name r p2) [a, a2] [] p3) (tRg2 (tE X.K F false x) (tE X.K F false y)) := by
          subst h2
          exact prg_2 (g.gl h3) hmr (hx.e ax sc X g false a hxa) (hy.e ay sc X g false a2 hya) (star_of hst [a2] X.env) (star_of hst2 [] X.env) (by rw [star_of hst2 [] X.env]; rfl)
        refine pe_imp (fin2 _ _ he hp) fun σ H Q z => key _ _ he hp σ H Q ?_
        obtain ⟨S, en, d, hs, hf, q⟩ := z
        have hf0 := hf
        have hf := fin_f hf
        split at hf
        · rename_i d1 d2 hx1 hy1
          rw [if_neg (by rw [hno]; exact Bool.false_ne_true)] at hf
          split at hf
          · rename_i rr hrr
            split at hf
            · rename_i hl
              cases hf
              have hd2 : ∃ lo hi, d1 = .int lo ∧ d2 = .int hi ∧ rr = upto (hi - lo).toNat lo := by
                unfold rngD at hrr
                split at hrr
                · rename_i z
                  cases z
                · rename_i a0 b0 z
                  cases z
                  split at hrr
                  · cases hrr
                    exact ⟨_, _, rfl, rfl, rfl⟩
                  · cases hrr
                · cases hrr
              obtain ⟨lo, hi, rfl, rfl, rfl⟩ := hd2
              refine ⟨S, en, lo, hi, hs, hrr, hl, hf0, fun R hR => ?_, q⟩
              exact tE_at hs (Ex.refl H) hx1 fun v H1 x1 r1 => tE_at hs x1 hy1 fun v2 H2 x2 r2 => ⟨lo, hi, r1.f.int', r2.f.int', hR H2 (x1.trans x2)⟩
            · cases hf
          · cases hf
        · cases hf)
    (fun sc b e h => by
      obtain ⟨nm, r, p1, p2, p3, p, h0, h1, h2, h3, hc⟩ := ck_lrg h
      rcases hc with ⟨a, rfl, _⟩ | ⟨a, a2, rfl, _⟩ <;> exact ⟨h, fun _ _ => rfl, rfl⟩) (fun e k h => fin_tv h)
    (fun sc b e h => by
      obtain ⟨nm, r, p1, p2, p3, p, h0, h1, h2, h3, hc⟩ := ck_lrg h
      rcases hc with ⟨a, rfl, _⟩ | ⟨a, a2, rfl, _⟩ <;> exact h) (fun sc h => by cases h) rfl
theorem mmd_of {e : Expr} {nm k : Str} {a v : Expr} (h : mmdOf e = some (nm, a, k, v)) : ∃ p1 p2 p, e = .Call (.Name nm p1) [a] [⟨some k, v, p2⟩] p := by
  unfold mmdOf at h
  split at h
  · cases h
    exact ⟨_, _, _, rfl⟩
  · cases h
theorem ck_mmd {y : IE} {sc : Scope} {b : Bool} {t : Mo} {mx : Bool} {e : Expr} (h : ck c sc b t (.mmd mx x y) [e] = true) : ∃ nm k a v p1 p2 p, e = .Call (.Name nm p1) [a] [⟨some k, v, p2⟩] p ∧ nm = mmS mx ∧ k = ("default" : Str) ∧ glB sc nm = true ∧ isStar a = false ∧ ck c sc true .val x [a] = true ∧ ck c sc false .val y [v] = true := by
  change (match mmdOf e with
        | some (nm, a, k, v) => decide (nm = mmS mx) && glB sc nm && decide (k = ("default" : Str)) && !isStar a && ck c sc true .val x [a] && ck c sc false .val y [v]
        | none => false) = true at h
  split at h
  · rename_i nm a k v he
    obtain ⟨p1, p2, p, rfl⟩ := mmd_of he
    simp only [Bool.and_eq_true, decide_eq_true_eq, Bool.not_eq_true'] at h
    obtain ⟨⟨⟨⟨⟨h0, h1⟩, h2⟩, h3⟩, h4⟩, h5⟩ := h
    exact ⟨_, _, _, _, _, _, _, rfl, h0, h2, h1, h3, h4, h5⟩
  · cases h
theorem snd_mmd {y : IE} (mx : Bool) (ax : isA x = false) (ay : isA y = false) (hx : Snd c F n x) (hy : Snd c F n y) : Snd c F n (.mmd mx x y) :=
  mkS rfl (fun sc X g b e h => by obtain ⟨nm, k, a, v, p1, p2, p, rfl, h0, h1, h2, h3, h4, h5⟩ := ck_mmd h; exact se_mmd g h0 h1 h2 h3 (hx.e ax sc X g true a h4) (hy.e ay sc X g false v h5))
    (fun sc b e h => by obtain ⟨nm, k, a, v, p1, p2, p, rfl, h0, h1, h2, h3, h4, h5⟩ := ck_mmd h; exact ⟨h, fun _ _ => rfl, rfl⟩) (fun e k h => fin_tv h)
    (fun sc b e h => by obtain ⟨nm, k, a, v, p1, p2, p, rfl, h0, h1, h2, h3, h4, h5⟩ := ck_mmd h; exact h) (fun sc h => by cases h) rfl
theorem sts_of {e : Expr} {nm r : Str} {a : Expr} (h : stsOf e = some (nm, r, a)) : ∃ p1 p2 q p, e = .Call (.Name nm p1) [.Call (.Name r p2) [a] [] q] [] p := by
  unfold stsOf at h
  split at h
  · cases h
    exact ⟨_, _, _, _, rfl⟩
  · cases h
theorem ck_sts {sc : Scope} {b : Bool} {t : Mo} {so : Bool} {e : Expr} (h : ck c sc b t (.sts so x) [e] = true) : ∃ nm r a p1 p2 q p, e = .Call (.Name nm p1) [.Call (.Name r p2) [a] [] q] [] p ∧ nm = ssS so ∧ glB sc nm = true ∧ r = ("set" : Str) ∧ glB sc r = true ∧ isStar a = false ∧ ck c sc true .val x [a] = true := by
  change (match stsOf e with
        | some (nm, r, a) => decide (nm = ssS so) && glB sc nm && decide (r = ("set" : Str)) && glB sc r && !isStar a && ck c sc true .val x [a]
        | none => false) = true at h
  split at h
  · rename_i nm r a he
    obtain ⟨p1, p2, q, p, rfl⟩ := sts_of he
    simp only [Bool.and_eq_true, decide_eq_true_eq, Bool.not_eq_true'] at h
    obtain ⟨⟨⟨⟨⟨h0, h1⟩, h2⟩, h3⟩, h4⟩, h5⟩ := h
    exact ⟨_, _, _, _, _, _, _, rfl, h0, h1, h2, h3, h4, h5⟩
  · cases h
theorem snd_sts (so : Bool) (ax : isA x = false) (hx : Snd c F n x) : Snd c F n (.sts so x) :=
  mkS rfl (fun sc X g b e h => by obtain ⟨nm, r, a, p1, p2, q, p, rfl, h0, h1, h2, h3, h4, h5⟩ := ck_sts h; exact se_sts g h0 h1 h2 h3 h4 (hx.e ax sc X g true a h5))
    (fun sc b e h => by obtain ⟨nm, r, a, p1, p2, q, p, rfl, h0, h1, h2, h3, h4, h5⟩ := ck_sts h; exact ⟨h, fun _ _ => rfl, rfl⟩) (fun e k h => fin_tv h)
    (fun sc b e h => by obtain ⟨nm, r, a, p1, p2, q, p, rfl, h0, h1, h2, h3, h4, h5⟩ := ck_sts h; exact h) (fun sc h => by cases h) rfl
/-! ### dicts -/
section
variable {sc : Scope} {b : Bool} {t : Mo} {x y k : IE} {e : Expr}
theorem ck_dnw {tt : Bool} (h : ck c sc b t (.dnw tt) [e] = true) : ∃ p, e = .Dict [] [] p ∧ t ≠ .iter := by
  cases e with
  | Dict ks vs p =>
    cases ks with
    | nil => cases vs with
      | nil => exact ⟨p, rfl, of_decide_eq_true h⟩
      | cons _ _ => cases h
    | cons _ _ => cases h
  | _ => cases h
theorem ck_dsp (h : ck c sc b t (.dsp k y) [e] = true) : ∃ a a2 p, e = .Dict [some a] [a2] p ∧ t ≠ .iter ∧ ck c sc true .val k [a] = true ∧ ck c sc false .val y [a2] = true := by
  cases e with
  | Dict ks vs p =>
    rcases ks with _ | ⟨_ | a, _ | ⟨k2, r⟩⟩ <;> try (cases h; done)
    rcases vs with _ | ⟨a2, _ | ⟨k2, r⟩⟩ <;> try (cases h; done)
    have h : (decide (t ≠ .iter) && ck c sc true .val k [a] && ck c sc false .val y [a2]) = true := h
    simp only [Bool.and_eq_true, decide_eq_true_eq] at h
    exact ⟨_, _, _, rfl, h.1.1, h.1.2, h.2⟩
  | _ => cases h
theorem ck_kdx {j : Nat} {l : List (D × D)} (h : ck c sc b t (.kdx j l x) [e] = true) : ∃ nm b' p1 p, e = .Subscript (.Name nm p1) b' p ∧ kdOk c.C j l nm = true ∧ glB sc nm = true ∧ notOdd nm = true ∧ isSlice b' = false ∧ ck c sc false .val x [b'] = true := by
  cases e with
  | Subscript a b' p =>
    cases a with
    | Name nm p1 =>
      have h : (kdOk c.C j l nm && glB sc nm && notOdd nm && !isSlice b' && ck c sc false .val x [b']) = true := h
      simp only [Bool.and_eq_true, Bool.not_eq_true'] at h
      exact ⟨nm, b', p1, p, rfl, h.1.1.1.1, h.1.1.1.2, h.1.1.2, h.1.2, h.2⟩
    | _ => cases h
  | _ => cases h
theorem ck_kdi {neg : Bool} {j : Nat} {l : List (D × D)} (h : ck c sc b t (.kdi neg j l x) [e] = true) : ∃ a nm p1 p, e = .Compare a [if neg then .NotIn else .In] [.Name nm p1] p ∧ kdOk c.C j l nm = true ∧ glB sc nm = true ∧ notOdd nm = true ∧ ck c sc true .val x [a] = true := by
  cases e with
  | Compare a ops cs p =>
    cases ops with
    | nil => cases h
    | cons op os =>
      cases os with
      | cons _ _ =>
        cases cs with
        | nil => cases h
        | cons b' r => cases b' <;> cases r <;> cases h
      | nil =>
        cases cs with
        | nil => cases h
        | cons b' r =>
          cases r with
          | cons _ _ => cases b' <;> cases h
          | nil =>
            cases b' with
            | Name nm p1 =>
              have h : (decide (op = if neg then .NotIn else .In) && kdOk c.C j l nm && glB sc nm && notOdd nm && ck c sc true .val x [a]) = true := h
              simp only [Bool.and_eq_true, decide_eq_true_eq] at h
              obtain ⟨⟨⟨⟨rfl, h2⟩, h3⟩, h4⟩, h5⟩ := h
              exact ⟨a, nm, p1, p, rfl, h2, h3, h4, h5⟩
            | _ => cases h
  | _ => cases h
theorem ck_upr (h : ck c sc b t (.upr x) [e] = true) : ∃ o nm ap p, e = .Call (.Attribute o nm ap) [] [] p ∧ nm = ("upper" : Str) ∧ (ap.endLine == p.line) = true ∧ isCall0 o = false ∧ ck c sc true .val x [o] = true := by
  cases e with
  | Call g es kw p =>
    cases g with
    | Attribute o nm ap =>
      cases es with
      | cons _ _ => cases h
      | nil =>
        cases kw with
        | cons _ _ => cases h
        | nil =>
          have h : (decide (nm = ("upper" : Str)) && (ap.endLine == p.line) && !isCall0 o && ck c sc true .val x [o]) = true := h
          simp only [Bool.and_eq_true, decide_eq_true_eq, Bool.not_eq_true'] at h
          exact ⟨o, nm, ap, p, rfl, h.1.1.1, h.1.1.2, h.1.2, h.2⟩
    | _ => cases h
  | _ => cases h
theorem ck_dcn {l : List (D × D)} (h : ck c sc b t (.dcn l) [e] = true) : ∃ ks vs p, e = .Dict ks vs p ∧ t ≠ .iter ∧ 1 ≤ l.length ∧ l.length ≤ 15 ∧ dcOk l ks vs = true := by
  cases e with
  | Dict ks vs p =>
    have h : (decide (t ≠ .iter) && decide (1 ≤ l.length) && decide (l.length ≤ 15) && dcOk l ks vs) = true := h
    simp only [Bool.and_eq_true, decide_eq_true_eq] at h
    exact ⟨_, _, _, rfl, h.1.1.1, h.1.1.2, h.1.2, h.2⟩
  | _ => cases h
theorem ck_dgt (h : ck c sc b t (.dgt x k y) [e] = true) : ∃ o nm ap e1 es cp, e = .Call (.Attribute o nm ap) (e1 :: es) [] cp ∧ nm = ("get" : Str) ∧ (ap.endLine == cp.line) = true ∧ isSup o = false ∧ isStar e1 = false ∧ es.length ≤ 1 ∧ (∀ e' ∈ es, isStar e' = false) ∧ ck c sc true .val x [o] = true ∧ ck c sc true .val k [e1] = true ∧ ck c sc false .val y es = true := by
  cases e with
  | Call g es kw p =>
    cases g with
    | Attribute o nm ap =>
      rcases es with _ | ⟨e1, es⟩
      · cases h
      · cases kw with
        | cons _ _ => cases h
        | nil =>
          have h : (decide (nm = ("get" : Str)) && (ap.endLine == p.line) && !isSup o && !isStar e1 && decide (es.length ≤ 1) && es.all (fun e' => !isStar e') && ck c sc true .val x [o] && ck c sc true .val k [e1] && ck c sc false .val y es) = true := h
          simp only [Bool.and_eq_true, decide_eq_true_eq, Bool.not_eq_true', List.all_eq_true] at h
          obtain ⟨⟨⟨⟨⟨⟨⟨⟨h0, h1⟩, h2⟩, h3⟩, h4⟩, h5⟩, h6⟩, h7⟩, h8⟩ := h
          exact ⟨_, _, _, _, _, _, rfl, h0, h1, h2, h3, h4, h5, h6, h7, h8⟩
    | _ => rcases es with _ | ⟨e1, es⟩ <;> cases h
  | _ => cases h
theorem ck_kys (h : ck c sc b t (.kys x) [e] = true) : t = .iter ∧ ck c sc false .val x [e] = true := by
  have h : (decide (t = .iter) && ck c sc false .val x [e]) = true := h
  simpa [Bool.and_eq_true] using h
theorem ck_vls (h : ck c sc b t (.vls x) [e] = true) : t = .iter ∧ ∃ o nm ap cp, e = .Call (.Attribute o nm ap) [] [] cp ∧ nm = ("values" : Str) ∧ (ap.endLine == cp.line) = true ∧ isSup o = false ∧ ck c sc false .val x [o] = true := by
  cases e with
  | Call g es kw p =>
    cases g with
    | Attribute o nm ap =>
      rcases es with _ | ⟨e1, es⟩
      · cases kw with
        | cons _ _ => cases h
        | nil =>
          have h : (decide (t = .iter) && decide (nm = ("values" : Str)) && (ap.endLine == p.line) && !isSup o && ck c sc false .val x [o]) = true := h
          simp only [Bool.and_eq_true, decide_eq_true_eq, Bool.not_eq_true'] at h
          obtain ⟨⟨⟨⟨h0, h1⟩, h2⟩, h3⟩, h4⟩ := h
          exact ⟨h0, _, _, _, _, rfl, h1, h2, h3, h4⟩
      · cases h
    | _ => rcases es with _ | ⟨e1, es⟩ <;> cases h
  | _ => cases h
theorem ck_itm (h : ck c sc b t (.itm x) [e] = true) : t = .iter ∧ ∃ o nm ap cp, e = .Call (.Attribute o nm ap) [] [] cp ∧ nm = ("items" : Str) ∧ (ap.endLine == cp.line) = true ∧ isSup o = false ∧ ck c sc false .val x [o] = true := by
  cases e with
  | Call g es kw p =>
    cases g with
    | Attribute o nm ap =>
      rcases es with _ | ⟨e1, es⟩
      · cases kw with
        | cons _ _ => cases h
        | nil =>
          have h : (decide (t = .iter) && decide (nm = ("items" : Str)) && (ap.endLine == p.line) && !isSup o && ck c sc false .val x [o]) = true := h
          simp only [Bool.and_eq_true, decide_eq_true_eq, Bool.not_eq_true'] at h
          obtain ⟨⟨⟨⟨h0, h1⟩, h2⟩, h3⟩, h4⟩ := h
          exact ⟨h0, _, _, _, _, rfl, h1, h2, h3, h4⟩
      · cases h
    | _ => rcases es with _ | ⟨e1, es⟩ <;> cases h
  | _ => cases h
theorem ck_rvd (h : ck c sc b t (.rvd x) [e] = true) : t = .iter ∧ ∃ nm a p1 p, e = .Call (.Name nm p1) [a] [] p ∧ nm = ("reversed" : Str) ∧ glB sc nm = true ∧ isStar a = false ∧ ck c sc b .val x [a] = true := by
  cases e with
  | Call g es kw p =>
    cases g with
    | Name nm p1 =>
      rcases es with _ | ⟨a, _ | ⟨a2, r⟩⟩ <;> try (cases h; done)
      cases kw with
      | cons _ _ => cases h
      | nil =>
        have h : (decide (t = .iter) && decide (nm = ("reversed" : Str)) && glB sc nm && !isStar a && ck c sc b .val x [a]) = true := h
        simp only [Bool.and_eq_true, decide_eq_true_eq, Bool.not_eq_true'] at h
        exact ⟨h.1.1.1.1, _, _, _, _, rfl, h.1.1.1.2, h.1.1.2, h.1.2, h.2⟩
    | _ => rcases es with _ | ⟨a, _ | ⟨a2, r⟩⟩ <;> cases h
  | _ => cases h
theorem ck_rn3 (h : ck c sc b t (.rn3 x) [e] = true) : t = .iter ∧ ∃ nm es p1 p, e = .Call (.Name nm p1) es [] p ∧ nm = ("range" : Str) ∧ glB sc nm = true ∧ es.length = 3 ∧ ck c sc false .val x es = true := by
  cases e with
  | Call f es kw p =>
    cases f with
    | Name nm p1 =>
      cases kw with
      | cons _ _ => cases h
      | nil =>
        have h : (decide (t = .iter) && decide (nm = ("range" : Str)) && glB sc nm && decide (es.length = 3) && ck c sc false .val x es) = true := h
        simp only [Bool.and_eq_true, decide_eq_true_eq] at h
        exact ⟨h.1.1.1.1, _, _, _, _, rfl, h.1.1.1.2, h.1.1.2, h.1.2, h.2⟩
    | _ => cases h
  | _ => cases h
theorem ck_lck {i : Nat} (h : ck c sc b t (.lck i x) [e] = true) : t = .val ∧ ck c sc b .val x [e] = true := by
  have h : (decide (t = .val) && ck c sc b .val x [e]) = true := h
  simpa [Bool.and_eq_true] using h
theorem ck_dso (h : ck c sc b t (.dso x) [e] = true) : ∃ nm a p1 p, e = .Call (.Name nm p1) [a] [] p ∧ nm = ("sorted" : Str) ∧ glB sc nm = true ∧ isStar a = false ∧ ck c sc true .val x [a] = true := by
  cases e with
  | Call g es kw p =>
    cases g with
    | Name nm p1 =>
      rcases es with _ | ⟨a, _ | ⟨a2, r⟩⟩ <;> try (cases h; done)
      cases kw with
      | cons _ _ => cases h
      | nil =>
        have h : (decide (nm = ("sorted" : Str)) && glB sc nm && !isStar a && ck c sc true .val x [a]) = true := h
        simp only [Bool.and_eq_true, decide_eq_true_eq, Bool.not_eq_true'] at h
        exact ⟨_, _, _, _, rfl, h.1.1.1, h.1.1.2, h.1.2, h.2⟩
    | _ => rcases es with _ | ⟨a, _ | ⟨a2, r⟩⟩ <;> cases h
  | _ => cases h
theorem ck_dls (h : ck c sc b t (.dls x) [e] = true) : ∃ nm a p1 p, e = .Call (.Name nm p1) [a] [] p ∧ nm = ("list" : Str) ∧ glB sc nm = true ∧ isStar a = false ∧ ck c sc true .val x [a] = true := by
  cases e with
  | Call g es kw p =>
    cases g with
    | Name nm p1 =>
      rcases es with _ | ⟨a, _ | ⟨a2, r⟩⟩ <;> try (cases h; done)
      cases kw with
      | cons _ _ => cases h
      | nil =>
        have h : (decide (nm = ("list" : Str)) && glB sc nm && !isStar a && ck c sc true .val x [a]) = true := h
        simp only [Bool.and_eq_true, decide_eq_true_eq, Bool.not_eq_true'] at h
        exact ⟨_, _, _, _, rfl, h.1.1.1, h.1.1.2, h.1.2, h.2⟩
    | _ => rcases es with _ | ⟨a, _ | ⟨a2, r⟩⟩ <;> cases h
  | _ => cases h
end
section
variable {x y k : IE}
theorem snd_dnw (t : Bool) : Snd c F n (.dnw t) :=
  mkS rfl (fun sc X g b e h => by obtain ⟨p, rfl, _⟩ := ck_dnw h; exact se_dnw)
    (fun sc b e h => by obtain ⟨p, rfl, _⟩ := ck_dnw h; exact ⟨rfl, fun _ _ => rfl, rfl⟩) (fun e k h => by unfold ev at h; cases h)
    (fun sc b e h => by obtain ⟨p, rfl, z⟩ := ck_dnw h; exact (z rfl).elim) (fun sc h => by cases h) rfl
theorem snd_dsp (ak : isA k = false) (ay : isA y = false) (hk : Snd c F n k) (hy : Snd c F n y) : Snd c F n (.dsp k y) :=
  mkS rfl (fun sc X g b e h => by obtain ⟨a, a2, p, rfl, _, h1, h2⟩ := ck_dsp h; exact se_dsp g (hk.e ak sc X g true a h1) (hy.e ay sc X g false a2 h2))
    (fun sc b e h => by
      obtain ⟨a, a2, p, rfl, _, h1, h2⟩ := ck_dsp h
      refine ⟨?_, fun _ _ => rfl, rfl⟩
      show (decide (Mo.val ≠ .iter) && ck c sc true .val k [a] && ck c sc false .val y [a2]) = true
      rw [h1, h2]; rfl) (fun e k' h => by
      unfold ev at h
      split at h
      · split at h <;> cases h
      · cases h)
    (fun sc b e h => by obtain ⟨a, a2, p, rfl, z, _⟩ := ck_dsp h; exact (z rfl).elim) (fun sc h => by cases h) rfl
theorem snd_dcn (l : List (D × D)) : Snd c F n (.dcn l) :=
  mkS rfl (fun sc X g b e h => by obtain ⟨ks, vs, p, rfl, _, h1, h2, h3⟩ := ck_dcn h; exact se_dcn h1 h2 h3)
    (fun sc b e h => by
      obtain ⟨ks, vs, p, rfl, _, h1, h2, h3⟩ := ck_dcn h
      refine ⟨?_, fun _ _ => rfl, rfl⟩
      show (decide (Mo.val ≠ .iter) && decide (1 ≤ l.length) && decide (l.length ≤ 15) && dcOk l ks vs) = true
      rw [h3, decide_eq_true h1, decide_eq_true h2]; rfl) (fun e k' h => by
      have h : some (D.dic false l) = some (.bl k') := h
      cases h)
    (fun sc b e h => by obtain ⟨ks, vs, p, rfl, z, _⟩ := ck_dcn h; exact (z rfl).elim) (fun sc h => by cases h) rfl
theorem snd_dgt (ax : isA x = false) (ak : isA k = false) (ay : isA y = false) (hx : Snd c F n x) (hk : Snd c F n k) (hy : Snd c F n y) : Snd c F n (.dgt x k y) :=
  mkS rfl (fun sc X g b e h => by
      obtain ⟨o, nm, ap, e1, es, cp, rfl, h0, h1, h2, h3, h4, h5, h6, h7, h8⟩ := ck_dgt h
      rcases es with _ | ⟨a3, _ | ⟨a4, r⟩⟩
      · rcases ck_nil ay h8 with rfl | ⟨rfl, hm⟩
        · exact se_dgt1 g h0 h1 h2 h3 (hx.e ax sc X g true o h6) (hk.e ak sc X g true e1 h7)
        · cases hm
      · exact se_dgt2 g h0 h1 h2 h3 (h5 a3 (by simp)) (hx.e ax sc X g true o h6) (hk.e ak sc X g true e1 h7) (hy.e ay sc X g false a3 h8)
      · simp at h4)
    (fun sc b e h => by obtain ⟨o, nm, ap, e1, es, cp, rfl, _⟩ := ck_dgt h; exact ⟨h, fun _ _ => rfl, rfl⟩) (fun e k h => fin_tv h)
    (fun sc b e h => by obtain ⟨o, nm, ap, e1, es, cp, rfl, _⟩ := ck_dgt h; exact h) (fun sc h => by cases h) rfl
theorem snd_kys (ax : isA x = false) (hx : Snd c F n x) : Snd c F n (.kys x) where
  e := fun _ sc X g b e h => by cases (ck_kys h).1
  t := fun _ sc X g b e h => by cases (ck_kys h).1
  w := fun _ sc X g b e h => by cases (ck_kys h).1
  a := fun h => by cases h
  s := fun h => by cases h
  i := fun _ sc X g b e h tg _ => si_kys (hx.e ax sc X g false e (ck_kys h).2)
  o := fun _ sc X g l h => by
    cases l with
    | none => cases h
    | some e => cases (ck_kys h).1
theorem snd_vls (ax : isA x = false) (hx : Snd c F n x) : Snd c F n (.vls x) where
  e := fun _ sc X g b e h => by cases (ck_vls h).1
  t := fun _ sc X g b e h => by cases (ck_vls h).1
  w := fun _ sc X g b e h => by cases (ck_vls h).1
  a := fun h => by cases h
  s := fun h => by cases h
  i := fun _ sc X g b e h tg _ => by
    obtain ⟨_, o, nm, ap, cp, rfl, h1, h2, h3, h4⟩ := ck_vls h
    exact si_vls h1 h2 h3 (hx.e ax sc X g false o h4)
  o := fun _ sc X g l h => by
    cases l with
    | none => cases h
    | some e => cases (ck_vls h).1
theorem snd_itm (ax : isA x = false) (hx : Snd c F n x) : Snd c F n (.itm x) where
  e := fun _ sc X g b e h => by cases (ck_itm h).1
  t := fun _ sc X g b e h => by cases (ck_itm h).1
  w := fun _ sc X g b e h => by cases (ck_itm h).1
  a := fun h => by cases h
  s := fun h => by cases h
  i := fun _ sc X g b e h tg ht => by
    obtain ⟨_, o, nm, ap, cp, rfl, h1, h2, h3, h4⟩ := ck_itm h
    exact si_itm (ht rfl) h1 h2 h3 (hx.e ax sc X g false o h4)
  o := fun _ sc X g l h => by
    cases l with
    | none => cases h
    | some e => cases (ck_itm h).1
theorem snd_rvd (ax : isA x = false) (hx : Snd c F n x) : Snd c F n (.rvd x) where
  e := fun _ sc X g b e h => by cases (ck_rvd h).1
  t := fun _ sc X g b e h => by cases (ck_rvd h).1
  w := fun _ sc X g b e h => by cases (ck_rvd h).1
  a := fun h => by cases h
  s := fun h => by cases h
  i := fun _ sc X g b e h tg ht => by
    obtain ⟨_, nm, a, p1, p, rfl, h1, h2, h3, h4⟩ := ck_rvd h
    exact si_rvd g h1 h2 h3 (hx.e ax sc X g b a h4)
  o := fun _ sc X g l h => by
    cases l with
    | none => cases h
    | some e => cases (ck_rvd h).1
theorem snd_rn3 (ax : isA x = true) (hx : Snd c F n x) : Snd c F n (.rn3 x) where
  e := fun _ sc X g b e h => by cases (ck_rn3 h).1
  t := fun _ sc X g b e h => by cases (ck_rn3 h).1
  w := fun _ sc X g b e h => by cases (ck_rn3 h).1
  a := fun h => by cases h
  s := fun h => by cases h
  i := fun _ sc X g b e h tg _ => by
    obtain ⟨_, nm, es, p1, p, rfl, h1, h2, h3, h4⟩ := ck_rn3 h
    obtain ⟨s1, s2, s3, s4⟩ := hx.s ax sc false es h4
    exact si_rn3 g h1 h2 h3 s1 (hx.a ax sc X g false es h4)
  o := fun _ sc X g l h => by
    cases l with
    | none => cases h
    | some e => cases (ck_rn3 h).1
theorem snd_lck (i : Nat) (ax : isA x = false) (hx : Snd c F n x) : Snd c F n (.lck i x) where
  e := fun _ sc X g b e h => se_lck (hx.e ax sc X g b e (ck_lck h).2)
  t := fun _ sc X g b e h => by cases (ck_lck h).1
  w := fun _ sc X g b e h => by cases (ck_lck h).1
  a := fun h => by cases h
  s := fun h => by cases h
  i := fun _ sc X g b e h => by cases (ck_lck h).1
  o := fun _ => part_o (fun sc X g b e h => se_lck (hx.e ax sc X g b e (ck_lck h).2)) (fun sc h => by cases h) fun _ _ _ => rfl
theorem snd_kdx (j : Nat) (l : List (D × D)) (ax : isA x = false) (hx : Snd c F n x) : Snd c F n (.kdx j l x) :=
  mkS rfl (fun sc X g b e h => by obtain ⟨nm, b', p1, p, rfl, h1, h2, h3, h4, h5⟩ := ck_kdx h; exact se_kdx g h1 h2 h3 h4 (hx.e ax sc X g false b' h5))
    (fun sc b e h => by obtain ⟨nm, b', p1, p, rfl, _⟩ := ck_kdx h; exact ⟨h, fun _ _ => rfl, rfl⟩) (fun e k h => fin_tv h)
    (fun sc b e h => by obtain ⟨nm, b', p1, p, rfl, _⟩ := ck_kdx h; exact h) (fun sc h => by cases h) rfl
theorem snd_kdi (neg : Bool) (j : Nat) (l : List (D × D)) (ax : isA x = false) (hx : Snd c F n x) : Snd c F n (.kdi neg j l x) :=
  mkS2 rfl (fun sc X g b e h => by obtain ⟨a, nm, p1, p, rfl, h1, h2, h3, h4⟩ := ck_kdi h; exact se_kdi g h1 h2 h3 (hx.e ax sc X g true a h4))
    (fun sc X g b e h => by obtain ⟨a, nm, p1, p, rfl, h1, h2, h3, h4⟩ := ck_kdi h; exact st_kdi g h1 h2 h3 (hx.e ax sc X g true a h4))
    (fun sc X g b e h hb => by obtain ⟨a, nm, p1, p, rfl, _⟩ := ck_kdi h; cases hb)
    (fun sc b e h => by obtain ⟨a, nm, p1, p, rfl, _⟩ := ck_kdi h; exact h) (fun sc h => by cases h) rfl
theorem snd_upr (ax : isA x = false) (hx : Snd c F n x) : Snd c F n (.upr x) :=
  mkS rfl (fun sc X g b e h => by obtain ⟨o, nm, ap, p, rfl, h1, h2, h3, h4⟩ := ck_upr h; exact se_upr h1 h2 h3 (hx.e ax sc X g true o h4))
    (fun sc b e h => by obtain ⟨o, nm, ap, p, rfl, _⟩ := ck_upr h; exact ⟨h, fun _ _ => rfl, rfl⟩) (fun e k h => fin_tv h)
    (fun sc b e h => by obtain ⟨o, nm, ap, p, rfl, _⟩ := ck_upr h; exact h) (fun sc h => by cases h) rfl
theorem snd_dso (ax : isA x = false) (hx : Snd c F n x) : Snd c F n (.dso x) :=
  mkS rfl (fun sc X g b e h => by obtain ⟨nm, a, p1, p, rfl, h1, h2, h3, h4⟩ := ck_dso h; exact se_dso g h1 h2 h3 (hx.e ax sc X g true a h4))
    (fun sc b e h => by obtain ⟨nm, a, p1, p, rfl, _⟩ := ck_dso h; exact ⟨h, fun _ _ => rfl, rfl⟩) (fun e k h => fin_tv h)
    (fun sc b e h => by obtain ⟨nm, a, p1, p, rfl, _⟩ := ck_dso h; exact h) (fun sc h => by cases h) rfl
theorem snd_dls (ax : isA x = false) (hx : Snd c F n x) : Snd c F n (.dls x) :=
  mkS rfl (fun sc X g b e h => by obtain ⟨nm, a, p1, p, rfl, h1, h2, h3, h4⟩ := ck_dls h; exact se_dls g h1 h2 h3 (hx.e ax sc X g true a h4))
    (fun sc b e h => by obtain ⟨nm, a, p1, p, rfl, _⟩ := ck_dls h; exact ⟨h, fun _ _ => rfl, rfl⟩) (fun e k h => fin_tv h)
    (fun sc b e h => by obtain ⟨nm, a, p1, p, rfl, _⟩ := ck_dls h; exact h) (fun sc h => by cases h) rfl
end
theorem snd_every : ∀ (x : IE), wf x = true → ∀ c : CC, Snd c F n x := by
  intro x
  induction x <;> intro h c <;> (try unfold wf at h) <;> (try simp only [Bool.and_eq_true, Bool.not_eq_true'] at h)
  case c d => exact snd_c d
  case v i => exact snd_v i
  case b i => exact snd_b i
  case bin op x y ix iy => exact snd_bin op h.1.1.1 h.1.1.2 (ix h.1.2 c) (iy h.2 c)
  case neg x ix => exact snd_neg h.1 (ix h.2 c)
  case nt x ix => exact snd_nt h.1 (ix h.2 c)
  case cmp op x y ix iy => exact snd_cmp op h.1.1.1 h.1.1.2 (ix h.1.2 c) (iy h.2 c)
  case chn o1 o2 x y z ix iy iz => exact snd_chn o1 o2 h.1.1.1.1.1 h.1.1.1.1.2 h.1.1.1.2 (ix h.1.1.2 c) (iy h.1.2 c) (iz h.2 c)
  case and x y ix iy => exact snd_and h.1.1.1 h.1.1.2 (ix h.1.2 c) (iy h.2 c)
  case or x y ix iy => exact snd_or h.1.1.1 h.1.1.2 (ix h.1.2 c) (iy h.2 c)
  case ife g x y ig ix iy => exact snd_ife h.1.1.1.1.2 h.1.1.1.2 h.1.1.1.1.1 (ix h.1.2 c) (iy h.2 c) (ig h.1.1.2 c)
  case tup x ix => exact snd_tup h.1 (ix h.2 c)
  case lst x ix => exact snd_lst h.1 (ix h.2 c)
  case an => exact snd_an
  case ac x y ix iy => exact snd_ac h.1.1.1 h.1.1.2 (ix h.1.2 c) (iy h.2 c)
  case idx x y ix iy => exact snd_idx h.1.1.1 h.1.1.2 (ix h.1.2 c) (iy h.2 c)
  case slc x y z ix iy iz => exact snd_slc h.1.1.1.1.1 h.1.1.1.1.2 h.1.1.1.2 (ix h.1.1.2 c) (iy h.1.2 c) (iz h.2 c)
  case slst x y z k ix iy iz ik => exact snd_slst h.1.1.1.1.1.1.1 h.1.1.1.1.1.1.2 h.1.1.1.1.1.2 h.1.1.1.1.2 (ix h.1.1.1.2 c) (iy h.1.1.2 c) (iz h.1.2 c) (ik h.2 c)
  case no => exact snd_no
  case rvs x ix => exact snd_rvs h.1 (ix h.2 c)
  case call k x ix => exact snd_call k h.1 (ix h.2 c)
  case bi f x ix => exact snd_bi f h.1 (ix h.2 c)
  case isi t x ix => exact snd_isi t h.1 (ix h.2 c)
  case me m x y ix iy => exact snd_me m h.1.1.1 h.1.1.2 (ix h.1.2 c) (iy h.2 c)
  case rng x ix => exact snd_rng h.1 (ix h.2 c)
  case lc own tp it g x ii ig ix => exact snd_lc own tp h.1.1.1.1.1 h.1.1.1.1.2 h.1.1.1.2 (ii h.1.1.2 c) (ig h.1.2 c) (ix h.2 c)
  case yes => exact snd_yes
  case lc2 own own1 tp tp1 it it1 g x ii ii1 ig ix => exact snd_lc2 own own1 tp tp1 h.1.1.1.1.1.1.1 h.1.1.1.1.1.1.2 h.1.1.1.1.1.2 h.1.1.1.1.2 (ii h.1.1.1.2 c) (ii1 h.1.1.2 c) (ig h.1.2 c) (ix h.2 c)
  case enm x ix => exact snd_enm h.1 (ix h.2 c)
  case zip x y ix iy => exact snd_zip h.1.1.1 h.1.1.2 (ix h.1.2 c) (iy h.2 c)
  case gc j d => exact snd_gc j d
  case gcd x ix => exact snd_gcd h.1 (ix h.2 c)
  case gex al own tp it x ii ix => exact snd_gex al own tp h.1.1.1 h.1.1.2 (ii h.1.2 c) (ix h.2 c.inGen)
  case gxi al own tp it g x ii ig ix => exact snd_gxi al own tp h.1.1.1.1.1 h.1.1.1.1.2 h.1.1.1.2 (ii h.1.1.2 c) (ig h.1.2 c.inGen) (ix h.2 c.inGen)
  case lrg tu x y ix iy => exact snd_lrg tu h.1.1.1 h.1.1.2 (ix h.1.2 c) (iy h.2 c)
  case sts so x ix => exact snd_sts so h.1 (ix h.2 c)
  case dnw t => exact snd_dnw t
  case dsp x y ix iy => exact snd_dsp h.1.1.1 h.1.1.2 (ix h.1.2 c) (iy h.2 c)
  case dgt x y z ix iy iz => exact snd_dgt h.1.1.1.1.1 h.1.1.1.1.2 h.1.1.1.2 (ix h.1.1.2 c) (iy h.1.2 c) (iz h.2 c)
  case kys x ix => exact snd_kys h.1 (ix h.2 c)
  case vls x ix => exact snd_vls h.1 (ix h.2 c)
  case itm x ix => exact snd_itm h.1 (ix h.2 c)
  case rvd x ix => exact snd_rvd h.1 (ix h.2 c)
  case rn3 x ix => exact snd_rn3 h.1 (ix h.2 c)
  case lck i x ix => exact snd_lck i h.1 (ix h.2 c)
  case dso x ix => exact snd_dso h.1 (ix h.2 c)
  case dls x ix => exact snd_dls h.1 (ix h.2 c)
  case dcn l => exact snd_dcn l
  case kdx j l x ix => exact snd_kdx j l h.1 (ix h.2 c)
  case kdi neg j l x ix => exact snd_kdi neg j l h.1 (ix h.2 c)
  case upr x ix => exact snd_upr h.1 (ix h.2 c)
  case mmd mx x y ix iy => exact snd_mmd mx h.1.1.1 h.1.1.2 (ix h.1.2 c) (iy h.2 c)
theorem snd_all (x : IE) (h : wf x = true) : Snd c F n x := snd_every x h c
end
end Tl

/-! T12: statements. -/
namespace Tl
open PySem L2
variable [Tabs]
/-! ### where a block stands -/
/-- S0, H0 of the def's start; S, H of now -/
structure ST (K : PySem.W.Frag) (S0 : Ad) (H0 : Hp) (S : Ad) (H : Hp) (σ : L2.St) (e : En) : Prop where
  sr : SR K S H σ e
  trk : ∀ a, S a → H a ≠ none
  sub : ∀ a, S a → nw S0 H0 a
  ex : Ex H0 H
  own : ∀ i d a, eget e i = .ow d → σ[i]? = some (some (.ref a)) → H0 a = none
/-- what came to be shared from H to H' -/
def up (S : Ad) (H H' : Hp) : Ad := trS (nw S H) H'
section
variable {K : PySem.W.Frag} {S0 S S' : Ad} {H0 H H' : Hp} {σ : L2.St} {e : En}
theorem ST.nw0 (h : ST K S0 H0 S H σ e) : ∀ a, nw S H a → nw S0 H0 a := fun a z => by
  rcases z with z | z
  · exact h.sub a z
  · exact .inr (h.ex.free z)
theorem ST.upl (h : ST K S0 H0 S H σ e) (x : Ex H H') : Le S H (up S H H') H' := x.le fun a z => ⟨.inl z, fun w => h.trk a z (x.free w)⟩
/-- an address that is not owned, before and behind -/
theorem ST.to (h : ST K S0 H0 S H σ e) (x : Ex H H') {A : Ad} (h1 : ∀ a, S a → A a) (h2 : ∀ a, A a → nw S H a) : ST K S0 H0 (trS A H') H' σ e := by
  refine ⟨((h.sr.grow h1 h2).ex x).tr, fun a z => z.2, fun a z => h.nw0 a (h2 a z.1), h.ex.trans x, h.own⟩
theorem ST.up (h : ST K S0 H0 S H σ e) (x : Ex H H') : ST K S0 H0 (up S H H') H' σ e := h.to x nw.of fun _ z => z
theorem ST.same (h : ST K S0 H0 S H σ e) (x : Ex H H') : ST K S0 H0 S H' σ e := ⟨h.sr.ex x, fun a z w => h.trk a z (x.free w), h.sub, h.ex.trans x, h.own⟩
theorem eset_ow {i j : Nat} {d d' : D} (g : eget (eset e i (.sh d)) j = .ow d') : j ≠ i ∧ eget e j = .ow d' := by
  by_cases hj : i = j
  · subst hj
    by_cases hi : i < e.length
    · rw [eget_same hi] at g; cases g
    · have : eget (eset e i (.sh d)) i ≠ .no := by rw [g]; exact fun z => nomatch z
      exact absurd (by rw [← eset_len e i (.sh d)]; exact eget_lt this) hi
  · rw [eget_ne hj] at g
    exact ⟨fun z => hj z.symm, g⟩
theorem ST.set_sh (h : ST K S0 H0 S H σ e) {i : Nat} {v : V} {d : D} (r : DR K S H v d) : ST K S0 H0 S H (σ.set i (some v)) (eset e i (.sh d)) := by
  refine ⟨h.sr.set_sh r, h.trk, h.sub, h.ex, fun j d' a g e1 => ?_⟩
  obtain ⟨n, g1⟩ := eset_ow g
  rw [List.getElem?_set_ne (Ne.symm n)] at e1
  exact h.own j d' a g1 e1
/-- a list just made, now of slot i -/
theorem ST.set_owG (h : ST K S0 H0 S H σ e) (x : Ex H H') {i : Nat} {a : Addr} {dd : D} (h1 : H a = none) (r : OW K (fun b => nw S H b ∧ b ≠ a) H' a dd) :
    ST K S0 H0 (trS (fun b => nw S H b ∧ b ≠ a) H') H' (σ.set i (some (.ref a))) (eset e i (.ow dd)) ∧ Le S H (trS (fun b => nw S H b ∧ b ≠ a) H') H' := by
  have hne : ∀ b, S b → b ≠ a := fun b z w => h.trk b z (by rw [w]; exact h1)
  have t := h.to (A := fun b => nw S H b ∧ b ≠ a) x (fun b z => ⟨.inl z, hne b z⟩) fun b z => z.1
  have fr : ∀ {j d'}, eget e j = .ow d' → σ[j]? = some (some (.ref a)) → False := fun {j d'} g e1 => by
    obtain ⟨a', q, n, o⟩ := h.sr.ow g
    rw [e1] at q
    cases q
    exact o.there h1
  refine ⟨⟨⟨h.sr.tab.ex x, ?_, fun j => ?_, fun j k d1 d2 b g1 g2 e1 e2 => ?_⟩, t.trk, t.sub, t.ex, fun j d' b g e1 => ?_⟩, x.le fun b z => ⟨⟨.inl z, hne b z⟩, fun w => h.trk b z (x.free w)⟩⟩
  · rw [List.length_set, eset_len]; exact h.sr.len
  · by_cases hj : i = j
    · subst hj
      by_cases hi : i < e.length
      · rw [eget_same hi]
        exact ⟨a, List.getElem?_set_self (by rw [h.sr.len]; exact hi), fun z => z.1.2 rfl, r.tr⟩
      · cases g : eget (eset e i (.ow dd)) i with
        | no => trivial
        | sh _ => exact absurd (by rw [← eset_len e i (.ow dd)]; exact eget_lt (by rw [g]; exact fun z => nomatch z)) hi
        | ow _ => exact absurd (by rw [← eset_len e i (.ow dd)]; exact eget_lt (by rw [g]; exact fun z => nomatch z)) hi
    · rw [eget_ne hj]
      have := t.sr.at_ j
      rw [List.getElem?_set_ne hj]
      exact this
  · by_cases hj : i = j
    · by_cases hk : i = k
      · exact hj.symm.trans hk
      · subst hj
        rw [eget_ne hk] at g2
        rw [List.getElem?_set_ne hk] at e2
        by_cases hi : i < σ.length
        · rw [List.getElem?_set_self hi] at e1
          cases e1
          exact (fr g2 e2).elim
        · rw [List.getElem?_eq_none (by rw [List.length_set]; omega)] at e1
          cases e1
    · by_cases hk : i = k
      · subst hk
        rw [eget_ne hj] at g1
        rw [List.getElem?_set_ne hj] at e1
        by_cases hi : i < σ.length
        · rw [List.getElem?_set_self hi] at e2
          cases e2
          exact (fr g1 e1).elim
        · rw [List.getElem?_eq_none (by rw [List.length_set]; omega)] at e2
          cases e2
      · rw [eget_ne hj] at g1
        rw [eget_ne hk] at g2
        rw [List.getElem?_set_ne hj] at e1
        rw [List.getElem?_set_ne hk] at e2
        exact h.sr.sep j k d1 d2 b g1 g2 e1 e2
  · by_cases hj : i = j
    · subst hj
      by_cases hi : i < σ.length
      · rw [List.getElem?_set_self hi] at e1
        cases e1
        exact h.ex.free h1
      · rw [List.getElem?_eq_none (by rw [List.length_set]; omega)] at e1
        cases e1
    · rw [eget_ne hj] at g
      rw [List.getElem?_set_ne hj] at e1
      exact h.own j d' b g e1
theorem ST.set_ow (h : ST K S0 H0 S H σ e) (x : Ex H H') {i : Nat} {a : Addr} {vs : List V} {ds : List D} (h1 : H a = none) (h2 : H' a = some (.lst vs)) (r : DRs K (fun b => nw S H b ∧ b ≠ a) H' vs ds) :
    ST K S0 H0 (trS (fun b => nw S H b ∧ b ≠ a) H') H' (σ.set i (some (.ref a))) (eset e i (.ow (.lst ds))) ∧ Le S H (trS (fun b => nw S H b ∧ b ≠ a) H') H' := h.set_owG x h1 ⟨vs, h2, r⟩
/-- one's own list, changed -/
theorem ST.mutG (h : ST K S0 H0 S H σ e) {i : Nat} {a : Addr} {d dd : D} {u u' : HO} (g : eget e i = .ow d) (e1 : σ[i]? = some (some (.ref a))) (h1 : H a = some u) (hm : Mut (some u)) (r : OW K S (upd H a u') a dd) :
    ST K S0 H0 S (upd H a u') σ (eset e i (.ow dd)) ∧ Le S H S (upd H a u') := by
  obtain ⟨a', q, nS, o⟩ := h.sr.ow g
  rw [e1] at q
  cases q
  have lm : Le S H S (upd H a u') := le_mutG (Ex.refl H) h1 (fun xs z => by rw [z] at hm; exact hm) fun b z => ⟨z, fun w => nS (by rw [← w]; exact z)⟩
  have hi : i < e.length := eget_lt (by rw [g]; exact fun z => nomatch z)
  refine ⟨⟨⟨h.sr.tab.upd (fun ps z => by rw [h1] at z; cases z; exact hm), by rw [eset_len]; exact h.sr.len, fun j => ?_, fun j k d1 d2 b g1 g2 e1' e2' => ?_⟩, fun b z => ?_, h.sub, ⟨fun b u n z => ?_, fun b ps z => ?_⟩, fun j d' b g1 e1' => ?_⟩, lm⟩
  · by_cases hj : i = j
    · subst hj
      rw [eget_same hi]
      exact ⟨a, e1, nS, r⟩
    · rw [eget_ne hj]
      cases g2 : eget e j with
      | no => trivial
      | sh d' =>
        obtain ⟨v, q, r⟩ := h.sr.sh g2
        exact ⟨v, q, r.mono lm⟩
      | ow d' =>
        obtain ⟨b, q, n, o'⟩ := h.sr.ow g2
        have hne : b ≠ a := fun w => by
          subst w
          exact hj (h.sr.sep i j d d' b g g2 e1 q)
        refine ⟨b, q, n, ?_⟩
        cases d' with
        | lst l =>
          obtain ⟨vs, q1, q2⟩ := o'
          exact ⟨vs, by rw [upd_ne hne]; exact q1, q2.mono lm⟩
        | dic t l =>
          obtain ⟨u2, vs, q1, q2, q3⟩ := o'
          exact ⟨u2, vs, by rw [upd_ne hne]; exact q1, q2, q3.mono lm⟩
        | _ => exact o'
  · have gg : ∀ {j d'}, eget (eset e i (.ow dd)) j = .ow d' → ∃ d', eget e j = .ow d' := fun {j d'} g1 => by
      by_cases hj : i = j
      · subst hj; exact ⟨_, g⟩
      · rw [eget_ne hj] at g1; exact ⟨_, g1⟩
    obtain ⟨_, g1⟩ := gg g1
    obtain ⟨_, g2⟩ := gg g2
    exact h.sr.sep j k _ _ b g1 g2 e1' e2'
  · have hne : b ≠ a := fun w => nS (by rw [← w]; exact z)
    rw [upd_ne hne]
    exact h.trk b z
  · have hne : b ≠ a := fun w => by
      subst w
      rw [h.own i d b g e1] at z
      cases z
    rw [upd_ne hne]
    exact h.ex.to b u n z
  · have hne : b ≠ a := fun w => by
      subst w
      rw [h.own i d b g e1] at z
      cases z
    rw [upd_ne hne]
    exact h.ex.tb b ps z
  · by_cases hj : i = j
    · subst hj
      exact h.own i d b g e1'
    · rw [eget_ne hj] at g1
      exact h.own j d' b g1 e1'
theorem ST.mut (h : ST K S0 H0 S H σ e) {i : Nat} {a : Addr} {d : D} {xs ys : List V} {ds : List D} (g : eget e i = .ow d) (e1 : σ[i]? = some (some (.ref a))) (h1 : H a = some (.lst xs)) (r : DRs K S H ys ds) :
    ST K S0 H0 S (upd H a (.lst ys)) σ (eset e i (.ow (.lst ds))) ∧ Le S H S (upd H a (.lst ys)) := by
  refine h.mutG g e1 h1 True.intro ⟨ys, upd_same, r.mono (le_mut (Ex.refl H) h1 fun b z => ⟨z, fun w => ?_⟩)⟩
  obtain ⟨a', q, nS, o⟩ := h.sr.ow g
  rw [e1] at q
  cases q
  exact nS (by rw [← w]; exact z)
/-- one's own list, from now on shared -/
theorem ST.frz (h : ST K S0 H0 S H σ e) {i : Nat} {d : D} (g : eget e i = .ow d) (nd : notDic d = true) : ∃ S', ST K S0 H0 S' H σ (eset e i (.sh d)) ∧ Le S H S' H := by
  obtain ⟨a, q, nS, o⟩ := h.sr.ow g
  have hi : i < e.length := eget_lt (by rw [g]; exact fun z => nomatch z)
  have up1 : ∀ b, S b → S b ∨ b = a := fun b z => .inl z
  have le : Le S H (fun b => S b ∨ b = a) H := (Ex.refl H).le up1
  refine ⟨fun b => S b ∨ b = a, ⟨⟨h.sr.tab, by rw [eset_len]; exact h.sr.len, fun j => ?_, fun j k d1 d2 b g1 g2 e1 e2 => ?_⟩, fun b z => ?_, fun b z => ?_, h.ex, fun j d' b g1 e1 => ?_⟩, le⟩
  · by_cases hj : i = j
    · subst hj
      rw [eget_same hi]
      refine ⟨.ref a, q, ?_⟩
      cases d with
      | lst ds =>
        obtain ⟨vs, h1, h2⟩ := o
        exact .lst (.inr rfl) h1 (h2.mono le)
      | dic _ _ => cases nd
      | _ => exact o.elim
    · rw [eget_ne hj]
      cases g2 : eget e j with
      | no => trivial
      | sh d' =>
        obtain ⟨v, q, r⟩ := h.sr.sh g2
        exact ⟨v, q, r.mono le⟩
      | ow d' =>
        obtain ⟨b, q2, n, o'⟩ := h.sr.ow g2
        refine ⟨b, q2, fun z => ?_, o'.mono le fun _ _ z => z⟩
        rcases z with z | z
        · exact n z
        · subst z
          exact hj (h.sr.sep i j d d' b g g2 q q2)
  · obtain ⟨_, g1⟩ := eset_ow g1
    obtain ⟨_, g2⟩ := eset_ow g2
    exact h.sr.sep j k d1 d2 b g1 g2 e1 e2
  · rcases z with z | z
    · exact h.trk b z
    · subst z; exact o.there
  · rcases z with z | z
    · exact h.sub b z
    · subst z; exact .inr (h.own i d b g q)
  · obtain ⟨_, g1⟩ := eset_ow g1
    exact h.own j d' b g1 e1
/-- one's own dict, from now on shared: it is locked -/
theorem ST.frzD (h : ST K S0 H0 S H σ e) {i : Nat} {t : Bool} {l : List (D × D)} (g : eget e i = .ow (.dic t l)) : ∃ (a : Addr) (u : HO), H a = some u ∧ Mut (some u) ∧ ∀ od : Obj, ∃ S', ST K S0 H0 S' (upd H a (.frz od u)) σ (eset e i (.sh (.dic t l))) ∧ Le S H S' (upd H a (.frz od u)) := by
  obtain ⟨a, q, nS, u, vs, h1, hk, r⟩ := h.sr.ow g
  have hm := hk.mut
  refine ⟨a, u, h1, hm, fun od => ⟨fun b => S b ∨ b = a, ⟨h.sr.lock g q h1 hk r, fun b z => ?_, fun b z => ?_, ⟨fun b o n z => ?_, fun b ps z => ?_⟩, fun j d' b g1 e1 => ?_⟩, ?_⟩⟩
  · rcases z with z | z
    · by_cases hb : b = a
      · subst hb; rw [upd_same]; exact fun z => nomatch z
      · rw [upd_ne hb]; exact h.trk b z
    · subst z; rw [upd_same]; exact fun z => nomatch z
  · rcases z with z | z
    · exact h.sub b z
    · subst z; exact .inr (h.own i _ b g q)
  · have hne : b ≠ a := fun w => by
      subst w
      rw [h.own i _ b g q] at z
      cases z
    rw [upd_ne hne]
    exact h.ex.to b o n z
  · have hne : b ≠ a := fun w => by
      subst w
      rw [h.own i _ b g q] at z
      cases z
    rw [upd_ne hne]
    exact h.ex.tb b ps z
  · obtain ⟨_, g1⟩ := eset_ow g1
    exact h.own j d' b g1 e1
  · have l1 : Le S H S (upd H a (.frz od u)) := le_mutG (Ex.refl H) h1 (fun xs z => by rw [z] at hm; exact hm) fun b z => ⟨z, fun w => nS (by rw [← w]; exact z)⟩
    exact l1.trans ((Ex.refl _).le fun b z => .inl z)
end
/-- what is wanted behind a block -/
def Fin (K : PySem.W.Frag) (S0 : Ad) (H0 : Hp) (S : Ad) (H : Hp) (D : Ends) : Out → Prop
  | .nx e => ∀ σ' H' S', Le S H S' H' → ST K S0 H0 S' H' σ' e → D.nx σ' H'
  | .rt d => ∀ v H', Ex H0 H' → DR K (nw S0 H0) H' v d → D.rt v H'
  | .bk e => ∀ σ' H' S', Le S H S' H' → ST K S0 H0 S' H' σ' e → D.bk σ' H'
  | .ct e => ∀ σ' H' S', Le S H S' H' → ST K S0 H0 S' H' σ' e → D.ct σ' H'
theorem Fin.step {K : PySem.W.Frag} {S0 S S1 : Ad} {H0 H H1 : Hp} {D : Ends} {o : Out} (l : Le S H S1 H1) (h : Fin K S0 H0 S H D o) : Fin K S0 H0 S1 H1 D o := by
  cases o with
  | nx e => exact fun σ' H' S' l' t => h σ' H' S' (l.trans l') t
  | rt d => exact h
  | bk e => exact fun σ' H' S' l' t => h σ' H' S' (l.trans l') t
  | ct e => exact fun σ' H' S' l' t => h σ' H' S' (l.trans l') t
def tS (K : PySem.W.Frag) (F : Fn) (gas : Nat) (s : IS) : TS := fun D σ H => ∃ S0 H0 S e o, ST K S0 H0 S H σ e ∧ exec F gas s e = some o ∧ Fin K S0 H0 S H D o
theorem ps_imp {X : Cx} {st : Stmt} {t t' : TS} (h : PS X st t) (g : ∀ D σ H, t' D σ H → t D σ H) : PS X st t' := ⟨fun pins s σ H D I q => h.run pins s σ H D I (g D σ H q)⟩
theorem pss_imp {X : Cx} {st : List Stmt} {t t' : TS} (h : PSs X st t) (g : ∀ D σ H, t' D σ H → t D σ H) : PSs X st t' := ⟨fun pins s σ H D I q => h.run pins s σ H D I (g D σ H q)⟩
end Tl

/-! T13: blocks that the check lets through. -/
namespace Tl
open PySem L2
variable [Tabs]
/-! ### the check -/
def isLc : IE → Bool
  | .lc .. => true
  | .lc2 .. => true
  | _ => false
/-- a lock stands about a comprehension -/
def lckOk : IE → Bool
  | .lck _ x => isLc x
  | _ => true
def isFr : IE → Bool
  | .lst _ => true
  | .lc .. => true
  | .lc2 .. => true
  | .bin .. => true
  | .bi .list _ => true
  | .dso _ => true
  | _ => false
def isFun (sc : Scope) : Bool := match sc.kind with
  | .function => true
  | _ => false
def swOk (sc : Scope) (nm : Str) (np : Pos) : Expr → Bool
  | .ListComp _ _ scope pos => isFun sc && (decide (sc.names.lookup nm = some .cell) || (decide (sc.names.lookup nm = some .local) && (np.line == pos.line) && !(scope.names.any fun (n, k) => n == nm && (k == .local || k == .cell))))
  | .SetComp .. => false
  | .DictComp .. => false
  | _ => true
def compE : Expr → Bool
  | .ListComp .. => true
  | .SetComp .. => true
  | .DictComp .. => true
  | _ => false
def isLstE : Expr → Bool
  | .List .. => true
  | _ => false
def locB (sc : Scope) (x : Str) : Bool := decide (sc.names.lookup x = some .local)
def noSw (sc : Scope) : Expr → Expr → Bool
  | .Tuple [.Name nx _, .Name ny _] _ _, .Tuple _ _ _ => !(locB sc nx && locB sc ny)
  | _, _ => false
def isOne : IS → Bool
  | .skip => false
  | .seq _ _ => false
  | .frz _ _ => false
  | _ => true
def ckS (c : CC) (fl : Str → Bool) (sc : Scope) : IS → List Stmt → Bool
  | .skip, sts => match sts with
    | [] => true
    | [.Pass _] => true
    | _ => false
  | .seq s t, sts => match sts with
    | st :: r => isOne s && ckS c fl sc s [st] && ckS c fl sc t r
    | [] => false
  | .frz _ s, sts => ckS c fl sc s sts
  | .asg i fr x, sts => match sts with
    | [.Assign [.Name nm np] e _] => decide (c.N[i]? = some nm) && locK fl sc nm && swOk sc nm np e && ((!fr || isFr x) && lckOk x) && (!isA x && wf x) && ck c sc false .val x [e]
    | _ => false
  | .asgT tp x, sts => match sts with
    | [.Assign [tg] e _] => isTupE tg && (!isTupE e || noSw sc tg e) && !isLstE e && !compE e && ckT c fl sc tp tg && (!isA x && wf x) && ck c sc false .val x [e]
    | _ => false
  | .par i j x y, sts => match sts with
    | [.Assign [.Tuple [.Name nx px, .Name ny py] _ _] (.Tuple [a, b] _ _) _] => decide (c.N[i]? = some nx) && decide (c.N[j]? = some ny) && decide (i ≠ j) && isFun sc && locB sc nx && locB sc ny && decide (nx ≠ ny) && (px.line == py.line) && !isStar a && !isStar b &&
        !([a, b].all (foldedForSure 8)) && !([a, b].all (constantsAlone 8)) && (!isA x && wf x) && (!isA y && wf y) && ck c sc false .val x [a] && ck c sc false .val y [b]
    | _ => false
  | .aug i op x, sts => match sts with
    | [.AugAssign (.Name nm _) op' e _] => decide (op = op') && decide (c.N[i]? = some nm) && locK fl sc nm && (!isA x && wf x) && ck c sc true .val x [e]
    | _ => false
  | .setI i k x, sts => match sts with
    | [.Assign [.Subscript (.Name nm _) ie _] e _] => nmB c sc i nm && !isSlice ie && !compE e && (!isA k && wf k) && (!isA x && wf x) && ck c sc false .val k [ie] && ck c sc false .val x [e]
    | _ => false
  | .augI i op k x, sts => match sts with
    | [.AugAssign (.Subscript (.Name nm _) ie _) op' e _] => decide (op = op') && nmB c sc i nm && !isSlice ie && (!isA k && wf k) && (!isA x && wf x) && ck c sc false .val k [ie] && ck c sc true .val x [e]
    | _ => false
  | .app i x, sts => match sts with
    | [.Expr (.Call (.Attribute (.Name nm _) m ap) [e] [] cp) _] => nmB c sc i nm && decide (m = ("append" : Str)) && (ap.endLine == cp.line) && !isStar e && (!isA x && wf x) && ck c sc false .val x [e]
    | _ => false
  | .ext i x, sts => match sts with
    | [.Expr (.Call (.Attribute (.Name nm _) m ap) [e] [] cp) _] => nmB c sc i nm && decide (m = ("extend" : Str)) && (ap.endLine == cp.line) && !isStar e && (!isA x && wf x) && ck c sc false .val x [e]
    | _ => false
  | .popA i j, sts => match sts with
    | [.Assign [.Name nm _] (.Call (.Attribute (.Name mm _) m ap) [] [] cp) _] => decide (c.N[i]? = some nm) && locK fl sc nm && nmB c sc j mm && decide (m = ("pop" : Str)) && (ap.endLine == cp.line)
    | _ => false
  | .pop2 i j k, sts => match sts with
    | [.Assign [.Name nm _] (.Call (.Attribute (.Name mm _) m ap) [ke] [] cp) _] => decide (c.N[i]? = some nm) && locK fl sc nm && nmB c sc j mm && decide (m = ("pop" : Str)) && (ap.endLine == cp.line) && !isStar ke && (!isA k && wf k) && ck c sc false .val k [ke]
    | _ => false
  | .ins i k x, sts => match sts with
    | [.Expr (.Call (.Attribute (.Name nm _) m ap) [ke, e] [] cp) _] => nmB c sc i nm && decide (m = ("insert" : Str)) && (ap.endLine == cp.line) && !isStar ke && !isStar e && (!isA k && wf k) && (!isA x && wf x) && ck c sc false .val k [ke] && ck c sc false .val x [e]
    | _ => false
  | .rmv i x, sts => match sts with
    | [.Expr (.Call (.Attribute (.Name nm _) m ap) [e] [] cp) _] => nmB c sc i nm && decide (m = ("remove" : Str)) && (ap.endLine == cp.line) && !isStar e && (!isA x && wf x) && ck c sc false .val x [e]
    | _ => false
  | .dnew i t, sts => match sts with
    | [.Assign [.Name nm _] (.Dict [] [] _) _] => decide (c.N[i]? = some nm) && locK fl sc nm
    | _ => false
  | .dnw1 i t k x, sts => match sts with
    | [.Assign [.Name nm _] (.Dict [some a] [a2] _) _] => decide (c.N[i]? = some nm) && locK fl sc nm && (!isA k && wf k) && (!isA x && wf x) && ck c sc true .val k [a] && ck c sc false .val x [a2]
    | _ => false
  | .dput i k x, sts => match sts with
    | [.Assign [.Subscript (.Name nm _) ie _] e _] => nmB c sc i nm && !isSlice ie && !compE e && (!isA k && wf k) && (!isA x && wf x) && ck c sc false .val k [ie] && ck c sc false .val x [e]
    | _ => false
  | .daug i op k x, sts => match sts with
    | [.AugAssign (.Subscript (.Name nm _) ie _) op' e _] => decide (op = op') && nmB c sc i nm && !isSlice ie && (!isA k && wf k) && (!isA x && wf x) && ck c sc false .val k [ie] && ck c sc true .val x [e]
    | _ => false
  | .iff g s t, sts => match sts with
    | [.If ge a b _] => (!isA g && wf g) && ck c sc false .test g [ge] && ckS c fl sc s a && ckS c fl sc t b
    | _ => false
  | .for tp it s, sts => match sts with
    | [.For tg iter body [] _] => (!isA it && wf it) && (!isTupIt it || isTupE tg) && ck c sc false .iter it [iter] && !isSetE iter && ckT c fl sc tp tg && ckS c fl sc s body
    | _ => false
  | .whl g s, sts => match sts with
    | [.While ge body [] _] => (!isA g && wf g) && ck c sc false .test g [ge] && ckS c fl sc s body
    | _ => false
  | .ret x, sts => match sts with
    | [.Return (some e) _] => (!isA x && wf x) && ck c sc false .val x [e]
    | _ => false
  | .retN, sts => match sts with
    | [.Return none _] => true
    | _ => false
  | .brk, sts => match sts with
    | [.Break _] => true
    | _ => false
  | .cnt, sts => match sts with
    | [.Continue _] => true
    | _ => false

section
variable {c : CC} {F : Fn} {n : Nat} {sc : Scope} {X : Cx} {x y : IE} {a b e : Expr} {p : Pos} {gas : Nat}
/-! ### lists just made -/
def rFr (K : PySem.W.Frag) (op : Operator) : R2 := fun x y H Q => ∃ S dx dy ds, DV true K S H x dx ∧ DV true K S H y dy ∧ binD op dx dy = some (.lst ds) ∧ ∀ p vs, H p = none → DRs K S H vs ds → Q (.ref p) (upd H p (.lst vs))
theorem op_fr (op : Operator) : OpR X (binaryOp op) (rFr X.K op) := by
  intro pins s σ H x y v u Q I rx ry h
  obtain ⟨S, dx, dy, ds, hx, hy, hf, q⟩ := h
  unfold binD at hf
  split at hf <;> (try split at hf) <;> first | (cases hf; done) | skip
  · rename_i a b hl
    cases hf
    obtain ⟨p, vs, e, hs, r⟩ := hx.lst
    obtain ⟨p2, ws, e2, hs2, r2⟩ := hy.lst
    refine op_cat pins s σ H x y v u Q I rx ry ⟨p, p2, vs, ws, e, e2, hs, hs2, ?_, fun p hp => q p _ hp (r.append r2)⟩
    have := okLen_le hl
    rw [List.length_append] at this
    rw [r.length, r2.length]
    exact szOf this
  · rename_i l k hl
    cases hf
    simp only [Bool.and_eq_true] at hl
    obtain ⟨p, vs, e, hs, r⟩ := hx.lst
    have h1 := small_lt hl.1.2
    have hlim : ((lim : Nat) : Int) = 100000 := rfl
    rw [hlim] at h1
    refine op_rep pins s σ H x y v u Q I rx ry ⟨p, k, vs, e, hy.int, hs, by omega, by omega, ?_, fun p hp => q p _ hp (r.rep _)⟩
    have h2 := okLen_le hl.2
    rw [PyProof.Rows.lm_len_rep_flat, Nat.mul_comm] at h2
    rw [r.length]
    exact szOf h2
theorem fr_new {K : PySem.W.Frag} {S : Ad} {H H1 : Hp} {p : Addr} {vs : List V} {ds : List D} (hp : H1 p = none) (r : DRs K (nw S H) H1 vs ds) : DRs K (fun b => nw S H b ∧ b ≠ p) (upd H1 p (.lst vs)) vs ds :=
  r.tr.mono ((Ex.new hp).le fun b z => ⟨z.1, fun w => z.2 (by rw [w]; exact hp)⟩)
theorem se_binF (op : Operator) (hx : PE X a (tE X.K F true x)) (hy : PE X b (tE X.K F true y)) : PE X (.BinOp a op b p) (tF X.K F (.bin op x y)) := by
  refine pe_imp (pe_op (op_fr op) hx hy) ?_
  rintro σ H Q ⟨S, e, d, hs, hf, q⟩
  have hf := fin_f hf
  split at hf
  · rename_i u w hu hw
    refine tE_at hs (Ex.refl H) hu fun v1 H1 x1 r1 => ?_
    refine tE_at hs x1 hw fun v2 H2 x2 r2 => ?_
    refine ⟨nw S H, u, w, d, r1.mono x2 (fun _ z => z), r2, hf, fun p vs hp r => ?_⟩
    exact q p vs _ ((x1.trans x2).trans (Ex.new hp)) ((x1.trans x2).free hp) upd_same (fr_new hp r)
  · cases hf
theorem se_lstF {es : List Expr} (hx : PA X es (tAs X.K F false x)) (hl : es.length ≤ 100000) (hln : ∀ e ds, ev F x false e = some (.tup ds) → ds.length = es.length) : PE X (.List es p) (tF X.K F (.lst x)) := by
  refine pe_imp (pe_lst hx) ?_
  rintro σ H Q ⟨S, e, d, hs, hf, q⟩
  have hf := fin_f hf
  split at hf
  · rename_i ds hf2
    cases hf
    refine tA_at hs (Ex.refl H) hf2 fun vs H1 x1 r1 => ?_
    refine ⟨by rw [r1.length, hln e _ hf2]; exact szOf hl, fun p hp => ?_⟩
    exact q p vs _ (x1.trans (Ex.new hp)) (x1.free hp) upd_same (fr_new hp r1.f)
  · cases hf
/-- a comprehension: as a value, and as what a name is set to -/
theorem lc_both {it g : IE} {own : List Nat} {tp : TP} (ai : isA it = false) (ag : isA g = false) (ax : isA x = false) (hi : Snd c F n it) (hg : Snd c F n g) (hx : Snd c F n x) (gx : GX c F n sc X) {bb : Bool} {t : Mo}
    (h : ck c sc bb t (.lc own tp it g x) [e] = true) : (∀ i ∈ tpS tp, i ∈ own) ∧ PE X e (tLc (tI X.K F true it) (tG X.K tp) (tCd X.K F g) (tE X.K F false x) own) ∧
      ∀ (i : Nat) (y : Str) (py spos : Pos), X.N[i]? = some y → X.env.scope.names.lookup y = some .local → swapsWith e (some (.Name y py)) spos.line X.env = pure true →
        PS X (.Assign [.Name y py] e spos) (tAsg (tLc (tI X.K F true it) (tG X.K tp) (tCd X.K F g) (tE X.K F false x) own) (gName i)) := by
  obtain ⟨elt, tg, iter, ifs, scope, p, rfl, h0, h1, h2, h3, h4, h5, h6, h9, h7, h8⟩ := ck_lc h
  have ho := own_eq own h4
  have hfl : ∀ (s : Shared) (H : Hp) (C : Addr) (cl : List (Str × Addr)) (fp : List Addr), ∀ x, (scope.names.lookup x == some .cell) = true → (X.blk s H scope (compEnvC scope cl C X.env) fp).fn x = true := fun s H C cl fp x z => z
  have ht : ∀ (s : Shared) (H : Hp) (C : Addr) (cl : List (Str × Addr)) (fp : List Addr), PTs (X.blk s H scope (compEnvC scope cl C X.env) fp) ifs (tCd X.K F g) := fun s H C cl fp => by
    rcases ifs with _ | ⟨i, _ | ⟨j, r⟩⟩
    · rcases ck_nil ag h7 with rfl | ⟨rfl, _⟩
      · refine ⟨fun pins s σ H Q I hw => ?_⟩
        obtain ⟨_, _, _, _, z, _⟩ := hw
        cases z
      · exact pts_nil
    · have : tCd X.K F g = tTs X.K F g := by
        cases g <;> first | rfl | (cases i <;> cases h7)
      rw [this]
      exact pts_one (hg.t ag _ _ (gx.blk scope s H C cl fp) false i h7)
    · simp at h9
  refine ⟨h6, ?_, fun i y py spos hN hl hsw => ?_⟩
  · have := pe_lc (X := X) (pos := p) (te := tE X.K F false x) (g := tG X.K tp) (tt := tCd X.K F g) gx.calm (by rw [gx.hN]; exact gx.nd) (hi.i ai sc X gx true iter h1 tg h0) (blkOk_by (by rw [gx.hN, gx.hsc]; exact h3)) (fun s H C cl fp => sg_ok (gx.blk scope s H C cl fp) (hfl s H C cl fp) h5) ht
      (fun s H C cl fp => hx.e ax _ _ (gx.blk scope s H C cl fp) false elt h8) (notFold h2)
    rw [ho] at this
    exact this
  · have := ps_setLc (X := X) (pos := p) (te := tE X.K F false x) (g := tG X.K tp) (tt := tCd X.K F g) gx.calm (by rw [gx.hN]; exact gx.nd) hN hl hsw (hi.i ai sc X gx true iter h1 tg h0) (blkOk_by (by rw [gx.hN, gx.hsc]; exact h3)) (fun s H C cl fp => sg_ok (gx.blk scope s H C cl fp) (hfl s H C cl fp) h5) ht
      (fun s H C cl fp => hx.e ax _ _ (gx.blk scope s H C cl fp) false elt h8) (notFold h2)
    rw [ho] at this
    exact this
theorem se_listF (g : GX c F n sc X) {nm : Str} {p1 : Pos} {e : Expr} {r : List Expr} (hn : nm = biS .list) (hgl : glB sc nm = true) (hx : PA X (e :: r) (tAs X.K F true x)) (hst : ∀ e' ∈ e :: r, isStar e' = false) :
    PE X (.Call (.Name nm p1) (e :: r) [] p) (tF X.K F (.bi .list x)) := by
  obtain ⟨h1, h2⟩ := plainArgs (X := X) (p := p) hst rfl
  subst hn
  have hm := g.blt _ (bi_in .list)
  have o := bi_odd .list
  refine pe_imp (pe_callTy (CallR.or call_list_of (cr_listS g.calm)) (g.gl hgl) hm (boot_bi .list) hx o.2 o.1 h1 h2) ?_
  rintro σ H Q ⟨S, e, d, hs, hf, q⟩
  have hf := fin_f hf
  split at hf
  · rename_i ds hds
    refine tA_at hs (Ex.refl H) hds fun vs H1 x1 r1 => ?_
    unfold biD at hf
    split at hf <;> try (exact (BI.noConfusion (by assumption)))
    · cases hf
      obtain ⟨v, rfl, h⟩ := r1.one
      obtain ⟨a, ws, rfl, hs2, r2⟩ := h.lst
      exact .inl ⟨a, ws, rfl, .inl (.of hs2), fun p hp => q p _ _ (x1.trans (Ex.new hp)) (x1.free hp) upd_same (fr_new hp r2)⟩
    · cases hf
      obtain ⟨v, rfl, h⟩ := r1.one
      obtain ⟨a, ws, rfl, hs2, r2⟩ := h.tup
      exact .inl ⟨a, ws, rfl, .inr (.of hs2), fun p hp => q p _ _ (x1.trans (Ex.new hp)) (x1.free hp) upd_same (fr_new hp r2)⟩
    · split at hf
      · rename_i hok
        cases hf
        obtain ⟨v, rfl, h⟩ := r1.one
        have hv := h.str
        subst hv
        exact .inr ⟨_, rfl, szOf (okLen_le hok), fun p hp => q p _ _ (x1.trans (Ex.new hp)) (x1.free hp) upd_same (fr_new hp (chars_dr _))⟩
      · cases hf
    · cases hf
  · cases hf
theorem se_dsoF (g : GX c F n sc X) {nm : Str} {p1 : Pos} {a : Expr} (hn : nm = ("sorted" : Str)) (hgl : glB sc nm = true) (hs : isStar a = false) (hx : PE X a (tE X.K F true x)) : PE X (.Call (.Name nm p1) [a] [] p) (tF X.K F (.dso x)) := by
  have hst : ∀ e' ∈ [a], isStar e' = false := by intro e' he; simp at he; subst he; exact hs
  obtain ⟨h1, h2⟩ := plainArgs (X := X) (p := p) hst rfl
  subst hn
  have o := bi_odd .sorted
  refine pe_imp (pe_callB ((call_sortedK g.calm g.hu).or (call_sortedT g.calm g.hu)) (g.gl hgl) (g.blt _ (by decide +kernel)) (boot_bi .sorted) (pa_cons hx pa_nil (star_of hs _ _)) o.2 o.1 h1 h2) ?_
  rintro σ H Q ⟨S, e, ds, hs', hf, q⟩
  have hf := fin_f hf
  split at hf
  · rename_i l hl
    split at hf
    · rename_i hc
      cases hf
      rw [Bool.and_eq_true, Bool.or_eq_true] at hc
      refine tE_at hs' (Ex.refl H) hl fun v1 H1 x1 r1 => ?_
      obtain ⟨ad, u, vs, rfl, hr, hk, r⟩ := r1.dic
      obtain ⟨kvs, rfl, hkk, rfl⟩ := hk
      have el : l.length = kvs.length := by have := congrArg List.length hkk; simpa using this
      have hlk : likeOk (l.map Prod.fst) = true := by
        unfold likeOk
        rw [Bool.or_eq_true, Bool.or_eq_true]
        left
        rcases hc.2 with h | h
        · left; rw [List.all_map]; exact h
        · right; rw [List.all_map]; exact h
      refine .inl ⟨ad, kvs, rfl, hr, by rw [← el]; exact okLen_le hc.1, by rw [← hkk]; exact hlk, fun p ks hks hp => q p _ _ (x1.trans (Ex.new hp)) (x1.free hp) upd_same ?_⟩
      rw [hkk, ← hks]
      exact drKeys ks
    · cases hf
  · rename_i l hl
    split at hf
    · rename_i hc
      cases hf
      rw [Bool.and_eq_true, Bool.and_eq_true] at hc
      refine tE_at hs' (Ex.refl H) hl fun v1 H1 x1 r1 => ?_
      obtain ⟨ad, u, vs, rfl, hr, hk, r⟩ := r1.dic
      obtain ⟨kvs, rfl, hkk, rfl⟩ := hk
      have el : l.length = kvs.length := by have := congrArg List.length hkk; simpa using this
      have hkk2 : l.map Prod.fst = kvs.map fun p => kT p.1 := hkk
      refine .inr ⟨ad, kvs, rfl, hr, by rw [← el]; exact okLen_le hc.1.1, by rw [← hkk2]; exact hc.1.2, by rw [← hkk2]; exact hc.2, fun p L hL hat hp => q p _ _ (x1.trans (Ex.new hp)) (x1.free hp) upd_same ?_⟩
      rw [hkk2, ← hL]
      have : ∀ M : List (Addr × List Key), (∀ w ∈ M, H1 w.1 = some (.tup (w.2.map kV))) → DRs X.K (fun b => nw S H b ∧ b ≠ p) (upd H1 p (.lst (L.map fun q => V.ref q.1))) (M.map fun q => V.ref q.1) (M.map fun q => kT q.2) := fun M => by
        induction M with
        | nil => exact fun _ => .nil
        | cons w M ih =>
          intro hM
          refine .cons (.tup ((Ex.new hp) _ _ (hM w List.mem_cons_self)) (drKeys w.2)) (ih fun v hv => hM v (List.mem_cons_of_mem _ hv))
      exact this L hat
    · cases hf
  · cases hf
theorem fr_ok (hw : wf x = true) (hf : isFr x = true) (g : GX c F n sc X) (h : ck c sc false .val x [e] = true) : PE X e (tF X.K F x) := by
  cases x with
  | lst as =>
    unfold wf at hw
    rw [Bool.and_eq_true] at hw
    obtain ⟨es, p, rfl, hl, h1⟩ := ck_lst h
    have hs := snd_all (c := c) (F := F) (n := n) as hw.2
    obtain ⟨s1, s2, s3, s4⟩ := hs.s hw.1 sc false es h1
    exact se_lstF (hs.a hw.1 sc X g false es h1) hl s2
  | lc own tp it g' x =>
    unfold wf at hw
    simp only [Bool.and_eq_true, Bool.not_eq_true'] at hw
    obtain ⟨h1, h2, _⟩ := lc_both hw.1.1.1.1.1 hw.1.1.1.1.2 hw.1.1.1.2 (snd_all it hw.1.1.2) (snd_all g' hw.1.2) (snd_all x hw.2) g h
    exact pe_imp h2 fun σ H Q q => rd_lcF h1 q
  | lc2 own own1 tp tp1 it it1 g' x =>
    unfold wf at hw
    simp only [Bool.and_eq_true, Bool.not_eq_true'] at hw
    obtain ⟨h1, h1', h2, _⟩ := lc2_both hw.1.1.1.1.1.1.1 hw.1.1.1.1.1.1.2 hw.1.1.1.1.1.2 hw.1.1.1.1.2 (snd_all it hw.1.1.1.2) (snd_all it1 hw.1.1.2) (snd_all g' hw.1.2) (snd_all x hw.2) g h
    exact pe_imp h2 fun σ H Q q => rd_lc2F h1 h1' q
  | bin op x y =>
    unfold wf at hw
    simp only [Bool.and_eq_true, Bool.not_eq_true'] at hw
    obtain ⟨a, b', p, rfl, h1, h2⟩ := ck_bin h
    exact se_binF op ((snd_all x hw.1.2).e hw.1.1.1 sc X g true a h1) ((snd_all y hw.2).e hw.1.1.2 sc X g true b' h2)
  | bi f as =>
    cases f with
    | list =>
      unfold wf at hw
      rw [Bool.and_eq_true] at hw
      obtain ⟨nm, e1, es, p1, p, rfl, h1, h2, h4⟩ := ck_bi h
      obtain ⟨s1, s2, s3, s4⟩ := (snd_all (c := c) (F := F) (n := n) as hw.2).s hw.1 sc true _ h4
      exact se_listF g h1 h2 ((snd_all as hw.2).a hw.1 sc X g true _ h4) s1
    | _ => cases hf
  | dso x =>
    unfold wf at hw
    simp only [Bool.and_eq_true, Bool.not_eq_true'] at hw
    obtain ⟨nm, a, p1, p, rfl, h1, h2, h3, h4⟩ := ck_dso h
    exact se_dsoF g h1 h2 h3 ((snd_all x hw.2).e hw.1 sc X g true a h4)
  | _ => cases hf

/-! ### name = value -/
theorem rd_asg {i : Nat} {D : Ends} {σ : L2.St} {H : Hp} (h : tS X.K F gas (.asg i false x) D σ H) : tAsg (tE X.K F false x) (gName i) D σ H := by
  obtain ⟨S0, H0, S, e, o, st, hx, fin⟩ := h
  unfold exec at hx
  split at hx
  · rename_i d hd
    cases hx
    exact ⟨S, e, d, st.sr, hd, fun v H' x r => fin _ _ _ (st.upl x) ((st.up x).set_sh r.f.tr)⟩
  · cases hx
theorem rd_asgF {i : Nat} {D : Ends} {σ : L2.St} {H : Hp} (h : tS X.K F gas (.asg i true x) D σ H) : tAsg (tF X.K F x) (gName i) D σ H := by
  obtain ⟨S0, H0, S, e, o, st, hx, fin⟩ := h
  unfold exec at hx
  split at hx
  · rename_i d hd
    simp only [if_true] at hx
    split at hx
    · cases hx
      refine ⟨S, e, _, st.sr, hd, fun a vs H' x h1 h2 h3 => ?_⟩
      obtain ⟨t1, t2⟩ := st.set_ow x h1 h2 h3 (i := i)
      exact fin _ _ _ t2 t1
    · cases hx
  · cases hx
theorem not_sw {nm : Str} {np : Pos} {l : Nat} {env : PySem.Env} (h : compE e = false) (t : Option Expr) : swapsWith e t l env = pure false := by
  cases e <;> first | rfl | cases h
theorem isFun_of (h : isFun sc = true) : sc.kind = .function := by
  unfold isFun at h
  split at h
  · assumption
  · cases h
theorem sw_false {elt : Expr} {gs : List Comprehension} {scope : Scope} {pos py : Pos} {y : Str} {l : Nat} {env : PySem.Env} (hy : env.scope.names.lookup y = some .cell) : swapsWith (.ListComp elt gs scope pos) (some (.Name y py)) l env = pure false := by
  have ky : env.kindOf y = some .cell := hy
  unfold swapsWith
  simp only [ky]
  have : (some NameKind.cell == some NameKind.local) = false := rfl
  rw [this]
  simp
theorem ss_asg {fl : Str → Bool} (hfl : ∀ x, fl x = true → X.fn x = true) (g : GX c F n sc X) {i : Nat} {fr : Bool} {nm : Str} {np p : Pos} (hi : c.N[i]? = some nm) (hk : locK fl sc nm = true) (hs : swOk sc nm np e = true) (hf : ((!fr || isFr x) && lckOk x) = true) (ha : isA x = false) (hw : wf x = true)
    (h : ck c sc false .val x [e] = true) : PS X (.Assign [.Name nm np] e p) (tS X.K F gas (.asg i fr x)) := by
  obtain ⟨l1, l2⟩ := g.loc hfl hk
  have plain : swapsWith e (some (.Name nm np)) p.line X.env = pure false → PS X (.Assign [.Name nm np] e p) (tS X.K F gas (.asg i fr x)) := fun hsw => by
    cases fr with
    | false =>
      exact ps_imp (ps_set (by rw [g.hN]; exact g.nd) (by rw [g.hN]; exact hi) l1 ((snd_all x hw).e ha sc X g false e h) hsw l2) fun D σ H => rd_asg
    | true => exact ps_imp (ps_set (by rw [g.hN]; exact g.nd) (by rw [g.hN]; exact hi) l1 (fr_ok hw (by rw [Bool.and_eq_true] at hf; simpa using hf.1) g h) hsw l2) fun D σ H => rd_asgF
  by_cases hc : compE e = true
  · cases e with
    | ListComp elt gs scope pos =>
      unfold swOk at hs
      simp only [Bool.and_eq_true, Bool.or_eq_true, decide_eq_true_eq, Bool.not_eq_true'] at hs
      rcases hs.2 with z | ⟨⟨z1, z2⟩, z3⟩
      · exact plain (sw_false (by rw [g.hsc]; exact z))
      · have hsw : swapsWith (.ListComp elt gs scope pos) (some (.Name nm np)) p.line X.env = pure true := sw_true (by rw [g.hsc]; exact isFun_of hs.1) (by rw [g.hsc]; exact z1) z2 z3
        cases x with
        | lc own tp it g' x =>
          unfold wf at hw
          simp only [Bool.and_eq_true, Bool.not_eq_true'] at hw
          obtain ⟨h1, _, h2⟩ := lc_both hw.1.1.1.1.1 hw.1.1.1.1.2 hw.1.1.1.2 (snd_all it hw.1.1.2) (snd_all g' hw.1.2) (snd_all x hw.2) g h
          refine ps_imp (h2 i nm np p (by rw [g.hN]; exact hi) (by rw [g.hsc]; exact z1) hsw) fun D σ H q => ?_
          cases fr with
          | false => exact rd_lc h1 (rd_asg q)
          | true => exact rd_lcF h1 (rd_asgF q)
        | lc2 own own1 tp tp1 it it1 g' x =>
          unfold wf at hw
          simp only [Bool.and_eq_true, Bool.not_eq_true'] at hw
          obtain ⟨h1, h1', _, h2⟩ := lc2_both hw.1.1.1.1.1.1.1 hw.1.1.1.1.1.1.2 hw.1.1.1.1.1.2 hw.1.1.1.1.2 (snd_all it hw.1.1.1.2) (snd_all it1 hw.1.1.2) (snd_all g' hw.1.2) (snd_all x hw.2) g h
          refine ps_imp (h2 i nm np p (by rw [g.hN]; exact hi) (by rw [g.hsc]; exact z1) hsw) fun D σ H q => ?_
          cases fr with
          | false => exact rd_lc2 h1 h1' (rd_asg q)
          | true => exact rd_lc2F h1 h1' (rd_asgF q)
        | lck i2 y =>
          have hwy : isA y = false ∧ wf y = true := by
            unfold wf at hw
            simpa [Bool.and_eq_true] using hw
          have hy : ck c sc false .val y [.ListComp elt gs scope pos] = true := (ck_lck h).2
          cases fr with
          | true => simp [isFr] at hf
          | false =>
            have base : PS X (.Assign [.Name nm np] (.ListComp elt gs scope pos) p) (tAsg (tE X.K F false y) (gName i)) := by
              cases y with
              | lc own tp it g' x =>
                have hw := hwy.2
                unfold wf at hw
                simp only [Bool.and_eq_true, Bool.not_eq_true'] at hw
                obtain ⟨h1, _, h2⟩ := lc_both hw.1.1.1.1.1 hw.1.1.1.1.2 hw.1.1.1.2 (snd_all it hw.1.1.2) (snd_all g' hw.1.2) (snd_all x hw.2) g hy
                exact ps_imp (h2 i nm np p (by rw [g.hN]; exact hi) (by rw [g.hsc]; exact z1) hsw) fun D σ H q => rd_lc h1 q
              | lc2 own own1 tp tp1 it it1 g' x =>
                have hw := hwy.2
                unfold wf at hw
                simp only [Bool.and_eq_true, Bool.not_eq_true'] at hw
                obtain ⟨h1, h1', _, h2⟩ := lc2_both hw.1.1.1.1.1.1.1 hw.1.1.1.1.1.1.2 hw.1.1.1.1.1.2 hw.1.1.1.1.2 (snd_all it hw.1.1.1.2) (snd_all it1 hw.1.1.2) (snd_all g' hw.1.2) (snd_all x hw.2) g hy
                exact ps_imp (h2 i nm np p (by rw [g.hN]; exact hi) (by rw [g.hsc]; exact z1) hsw) fun D σ H q => rd_lc2 h1 h1' q
              | lck _ _ => simp [lckOk, isLc] at hf
              | _ => first | (cases hy; done) | (cases hwy.1; done)
            exact ps_imp (ps_lock base) fun D σ H q => rd_lck (rd_asg q)
        | _ => first | (cases h; done) | (cases ha; done)
    | _ => first | (cases hs; done) | (cases hc; done)
  · exact plain (not_sw (nm := nm) (np := np) (by simpa using hc) _)

/-! ### targets of several names, pairs, op= -/
theorem bind_ow : ∀ {tp : TP} {d : D} {e e' : En}, bindT tp d e = some e' → ∀ j d', eget e' j = .ow d' → j ∉ tpS tp ∧ eget e j = .ow d'
  | .one i, d, e, e', h, j, d', g => by
    cases h
    obtain ⟨h1, h2⟩ := eset_ow g
    exact ⟨by simp [tpS, h1], h2⟩
  | .tn, d, e, e', h, j, d', g => by
    cases d with
    | tup l => cases l with
      | nil => cases h; exact ⟨by simp [tpS], g⟩
      | cons _ _ => cases h
    | _ => cases h
  | .tc p ps, d, e, e', h, j, d', g => by
    cases d with
    | tup l => cases l with
      | nil => cases h
      | cons d ds =>
        unfold bindT at h
        split at h
        · rename_i e1 he1
          obtain ⟨h1, h2⟩ := bind_ow h j d' g
          obtain ⟨h3, h4⟩ := bind_ow he1 j d' h2
          exact ⟨by simp only [tpS, List.mem_append, not_or]; exact ⟨h3, h1⟩, h4⟩
        · cases h
    | _ => cases h
theorem wipe_at {σ σ' : L2.St} {vs : List Nat} {j : Nat} (h : wipe σ' vs = wipe σ vs) (hj : j ∉ vs) : σ'[j]? = σ[j]? := by
  have := congrArg (fun z : L2.St => z[j]?) h
  simp only [wipe_get] at this
  rw [if_neg (fun z => hj z.1), if_neg (fun z => hj z.1)] at this
  exact this
/-- slots set by a target -/
theorem ST.bind {K : PySem.W.Frag} {S0 S : Ad} {H0 H : Hp} {σ σ' : L2.St} {e e' : En} {tp : TP} {d : D} (st : ST K S0 H0 S H σ e) (hb : bindT tp d e = some e') (s' : SR K S H σ' e') (hw : ∀ vs, (∀ i ∈ tpS tp, i ∈ vs) → wipe σ' vs = wipe σ vs) : ST K S0 H0 S H σ' e' := by
  refine ⟨s', st.trk, st.sub, st.ex, fun j d' a g e1 => ?_⟩
  obtain ⟨h1, h2⟩ := bind_ow hb j d' g
  rw [wipe_at (hw _ fun _ z => z) h1] at e1
  exact st.own j d' a h2 e1
theorem sw_non {env : PySem.Env} {sc : Scope} (hs : env.scope = sc) {tg e : Expr} (h : noSw sc tg e = true) : swappedStores [tg] e env = pure none := by
  unfold noSw at h
  split at h
  · rename_i nx px ny py _ _ vs _ _
    rw [Bool.not_eq_true', Bool.and_eq_false_iff] at h
    unfold swappedStores
    simp only
    by_cases c1 : (!([Expr.Name nx px, Expr.Name ny py].length == 2 || [Expr.Name nx px, Expr.Name ny py].length == 3) || vs.length != [Expr.Name nx px, Expr.Name ny py].length || env.blockKind != .function) = true
    · simp only [c1, if_true]
    · rw [Bool.not_eq_true] at c1
      simp only [c1, Bool.false_eq_true, if_false]
      have kn : ∀ x, locB sc x = false → (env.kindOf x == some .local) = false := fun x hx => by
        have hx := of_decide_eq_false hx
        rw [beq_eq_false_iff_ne]
        unfold Env.kindOf
        rw [hs]
        exact hx
      have nl : ((List.filterMap (fun z : Expr => match z with
          | .Name id pos => if (env.kindOf id == some .local && pos.line == (([Expr.Name nx px, Expr.Name ny py].head?.map (·.pos.line)).getD 0)) = true then some id else none
          | _ => none) [Expr.Name nx px, Expr.Name ny py]).length != [Expr.Name nx px, Expr.Name ny py].length) = true := by
        rcases h with h | h
        · simp only [List.filterMap_cons, List.filterMap_nil, kn _ h, Bool.false_and, Bool.false_eq_true, if_false]
          split <;> rfl
        · simp only [List.filterMap_cons, List.filterMap_nil, kn _ h, Bool.false_and, Bool.false_eq_true, if_false]
          split <;> rfl
      split
      · rfl
      · erw [nl]
        rfl
  · cases h
theorem ss_asgT {fl : Str → Bool} (hfl : ∀ x, fl x = true → X.fn x = true) (g : GX c F n sc X) {tp : TP} {tg : Expr} (h1 : isTupE tg = true) (h2 : (!isTupE e || noSw sc tg e) = true) (h3 : isLstE e = false) (h4 : compE e = false) (h5 : ckT c fl sc tp tg = true) (ha : isA x = false) (hw : wf x = true)
    (h : ck c sc false .val x [e] = true) : PS X (.Assign [tg] e p) (tS X.K F gas (.asgT tp x)) := by
  have sw : swappedStores [tg] e X.env = pure none := by
    cases h0 : isTupE e with
    | false => cases tg <;> first | (cases h1; done) | (cases e <;> first | (cases h0; done) | (cases h3; done) | rfl)
    | true =>
      rw [h0] at h2
      exact sw_non g.hsc h2
  have sa : (assignEach [tg] X.env).map (·.2) = [assign tg X.env] := by
    cases tg <;> first | (cases h1; done) | rfl
  refine ps_imp (ps_asg ((snd_all x hw).e ha sc X g false e h) (sg_ok g hfl h5) (not_sw (nm := "") (np := p) h4 (some tg)) sw sa) ?_
  rintro D σ H ⟨S0, H0, S, en, o, st, hx, fin⟩
  unfold exec at hx
  split at hx
  · rename_i d hd
    rw [Option.map_eq_some_iff] at hx
    obtain ⟨e', hb, rfl⟩ := hx
    refine ⟨S, en, d, st.sr, hd, fun v H' x r => ?_⟩
    have t := st.up x
    exact ⟨_, en, d, e', t.sr, r.f.tr, hb, fun σ' s' hw => fin _ _ _ (st.upl x) (t.bind hb s' hw)⟩
  · cases hx
theorem noStar2 {a b : Expr} (ha : isStar a = false) (hb : isStar b = false) : ([a, b].any fun | .Starred .. => true | _ => false) = false := by
  cases a <;> first | (cases ha; done) | (cases b <;> first | (cases hb; done) | rfl)
theorem sw_pair {nx ny : Str} {px py pt pt2 : Pos} {kt k2 : Nat} {a b : Expr} {env : PySem.Env} (hk : env.scope.kind = .function) (hx : env.scope.names.lookup nx = some .local) (hy : env.scope.names.lookup ny = some .local) (hne : nx ≠ ny) (hl : (px.line == py.line) = true)
    (ha : isStar a = false) (hb : isStar b = false) (h1 : [a, b].all (foldedForSure 8) = false) (h2 : [a, b].all (constantsAlone 8) = false) :
    swappedStores [.Tuple [.Name nx px, .Name ny py] kt pt] (.Tuple [a, b] k2 pt2) env = pure (some [nx, ny]) := by
  have kx : env.kindOf nx = some .local := hx
  have ky : env.kindOf ny = some .local := hy
  have hbk : env.blockKind = .function := by unfold Env.blockKind; rw [hk]; rfl
  have hl' : (py.line == px.line) = true := by
    rw [beq_iff_eq] at hl ⊢
    exact hl.symm
  have hq : (ny == nx) = false := by
    rw [beq_eq_false_iff_ne]
    exact fun z => hne z.symm
  have hq2 : (nx == ny) = false := by
    rw [beq_eq_false_iff_ne]
    exact hne
  unfold swappedStores
  simp only [noStar2 ha hb, hbk, h1, h2]
  simp [List.filterMap, kx, ky, Expr.pos, hl', List.eraseDups, List.eraseDupsBy, List.eraseDupsBy.loop, hq, hq2]
  intro z
  exfalso
  rcases z with z | z
  · cases a <;> first | (cases ha; done) | (cases z; done)
  · cases b <;> first | (cases hb; done) | (cases z; done)
theorem ss_par (g : GX c F n sc X) {i j : Nat} {nx ny : Str} {px py pt pt2 : Pos} {kt k2 : Nat} {a b : Expr} (hi : c.N[i]? = some nx) (hj : c.N[j]? = some ny) (hij : i ≠ j) (hk : isFun sc = true) (hx : locB sc nx = true) (hy : locB sc ny = true) (hne : nx ≠ ny) (hl : (px.line == py.line) = true)
    (ha : isStar a = false) (hb : isStar b = false) (h1 : [a, b].all (foldedForSure 8) = false) (h2 : [a, b].all (constantsAlone 8) = false) (ax : isA x = false) (wx : wf x = true) (ay : isA y = false) (wy : wf y = true)
    (cx : ck c sc false .val x [a] = true) (cy : ck c sc false .val y [b] = true) : PS X (.Assign [.Tuple [.Name nx px, .Name ny py] kt pt] (.Tuple [a, b] k2 pt2) p) (tS X.K F gas (.par i j x y)) := by
  have lx : X.env.scope.names.lookup nx = some .local := by rw [g.hsc]; exact of_decide_eq_true hx
  have ly : X.env.scope.names.lookup ny = some .local := by rw [g.hsc]; exact of_decide_eq_true hy
  have hA : PA X [a, b] (tAs X.K F false (.ac x (.ac y .an))) := sa_cons ha ((snd_all x wx).e ax sc X g false a cx) (sa_cons hb ((snd_all y wy).e ay sc X g false b cy) sa_nil)
  refine ps_imp (ps_par g.calm (by rw [g.hN]; exact g.nd) (by rw [g.hN]; exact hi) (by rw [g.hN]; exact hj) hij lx ly hA (sw_pair (by rw [g.hsc]; exact isFun_of hk) lx ly hne hl ha hb h1 h2)) ?_
  rintro D σ H ⟨S0, H0, S, en, o, st, hx, fin⟩
  unfold exec at hx
  split at hx
  · rename_i u w hu hw
    cases hx
    refine ⟨S, en, [u, w], st.sr, by simp only [ev, hu, hw], fun vs H' x r => ?_⟩
    obtain ⟨v1, v2, rfl, r1, r2⟩ := r.two
    exact ⟨v1, v2, rfl, fin _ _ _ (st.upl x) (((st.up x).set_sh r1.f.tr).set_sh r2.f.tr)⟩
  · cases hx
def ipD (K : PySem.W.Frag) (op : Operator) : TIp := r2 K (augD op)
theorem ip_ok (op : Operator) : PIp X op (ipD X.K op) := by
  intro pins s σ H x y v u Q I rx ry h
  obtain ⟨S, dx, dy, d, hx, hy, hf, q⟩ := h
  unfold augD at hf
  split at hf
  · cases hf
    exact ip_add pins s σ H x y v u Q I rx ry ⟨_, _, hx.int, hy.int, ans0 q (.int _)⟩
  · cases hf
    exact ip_sub pins s σ H x y v u Q I rx ry ⟨_, _, hx.int, hy.int, ans0 q (.int _)⟩
  · rename_i i j
    split at hf
    · rename_i hl
      cases hf
      have e1 := hx.int
      have e2 := hy.int
      subst e1 e2
      obtain ⟨t, rfl⟩ := rx
      obtain ⟨t', rfl⟩ := ry
      have hm : CMul i j := by
        rw [Bool.or_eq_true] at hl
        rcases hl with hl | hl
        · exact .inl (small_lt hl)
        · exact .inr (small_lt hl)
      exact PyProof.Rows.imul_int ⟨.int _, H, I.tok _, ⟨_, rfl⟩, ans0 q (.int _)⟩ hm.ok
    · cases hf
  · rename_i i j
    split at hf
    · rename_i hl
      cases hf
      have e1 := hx.int
      have e2 := hy.int
      subst e1 e2
      obtain ⟨t, rfl⟩ := rx
      obtain ⟨t', rfl⟩ := ry
      simp only [Bool.and_eq_true, decide_eq_true_eq] at hl
      have h1 := (small_lt hl.2).2
      refine PyProof.Rows.ifloordiv_int (by omega) ?_ (.inl (PyProof.noPylong_small (by omega)))
      rw [Int.fdiv_eq_ediv_of_nonneg i (by omega)]
      exact ⟨.int _, H, I.tok _, ⟨_, rfl⟩, ans0 q (.int _)⟩
    · cases hf
  · rename_i a b
    split at hf
    · rename_i hl
      cases hf
      refine iop_add_str pins s σ H x y v u Q I rx ry ⟨_, _, hx.str, hy.str, ?_, ?_⟩
      · rw [strLen, strLen]
        have := okLen_le hl
        rw [List.length_append] at this
        exact szOf this
      · rw [strAp]
        exact ans0 q (.str _)
    · cases hf
  · rename_i a b
    split at hf
    · rename_i hl
      cases hf
      obtain ⟨p, vs, e, hs, r⟩ := hx.tup
      obtain ⟨p2, ws, e2, hs2, r2⟩ := hy.tup
      refine op_icatA pins s σ H x y v u Q I rx ry ⟨p, p2, vs, ws, e, e2, .of hs, .of hs2, ?_, ?_, ?_, ?_⟩
      · have := okLen_le hl
        rw [List.length_append] at this
        rw [r.length, r2.length]
        exact szOf this
      · intro z
        have z2 := r.nil_iff.mp z
        subst z2
        rw [List.nil_append] at q
        exact ans0 q (.tup hs2 r2)
      · intro _ z
        have z2 := r2.nil_iff.mp z
        subst z2
        rw [List.append_nil] at q
        exact ans0 q (.tup hs r)
      · intro _ _ p hp
        exact ansT q (r.append r2) hp
    · cases hf
  · cases hf
theorem ss_aug {fl : Str → Bool} (hfl : ∀ x, fl x = true → X.fn x = true) (g : GX c F n sc X) {i : Nat} {nm : Str} {np : Pos} {op : Operator} (hi : c.N[i]? = some nm) (hk : locK fl sc nm = true) (ha : isA x = false) (hw : wf x = true)
    (h : ck c sc true .val x [e] = true) : PS X (.AugAssign (.Name nm np) op e p) (tS X.K F gas (.aug i op x)) := by
  obtain ⟨l1, l2⟩ := g.loc hfl hk
  refine ps_imp (ps_aug (by rw [g.hN]; exact g.nd) (by rw [g.hN]; exact hi) l1 ((snd_all x hw).e ha sc X g true e h) (ip_ok op) l2) ?_
  rintro D σ H ⟨S0, H0, S, en, o, st, hx, fin⟩
  unfold exec at hx
  split at hx
  · rename_i u w hu hw
    rw [Option.map_eq_some_iff] at hx
    obtain ⟨d, hd, rfl⟩ := hx
    obtain ⟨v, q, r⟩ := st.sr.sh hu
    refine ⟨v, q, S, en, w, st.sr, hw, fun v2 H' x' r2 => ?_⟩
    refine ⟨nw S H, u, w, d, .inl (r.mono (x'.le nw.of)), r2, hd, fun z H2 x2 r3 => ?_⟩
    have xx := x'.trans x2
    have r4 : DR X.K (nw S H) H2 z d := r3.mono ((Ex.refl _).le (nw.nw x'))
    exact fin _ _ _ (st.upl xx) ((st.up xx).set_sh r4.tr)
  · cases hx
end
end Tl

/-! T14: blocks, the rest. -/
namespace Tl
open PySem L2
variable [Tabs]
section
variable {c : CC} {F : Fn} {n : Nat} {sc : Scope} {X : Cx} {x y : IE} {a b e : Expr} {p : Pos} {gas : Nat}
open PySem.Spec PyProof.Rows in
theorem get_L : PGet X (fun o i H Q => ∃ S l k d, DV true X.K S H o (.lst l) ∧ i = .int k ∧ idxD (.lst l) (.int k) = some d ∧ ∀ v H', Ex H H' → DR X.K (nw S H) H' v d → Q v H') := by
  intro pins s σ H o i ov iv Q I ro ri h
  obtain ⟨S, l, k, d, hx, rfl, hd, q⟩ := h
  obtain ⟨p, vs, rfl, hs, r⟩ := hx.lst
  obtain ⟨z, he, qd⟩ := atI_of r hd
  cases ro
  obtain ⟨t, rfl⟩ := ri
  obtain ⟨its, r2, pl, hz⟩ := I.list (.of hs)
  obtain ⟨j, h1, h2, h3, h4, h5⟩ := atI_get he
  obtain ⟨w, ew, rw'⟩ := r2.get h2
  have hl := r2.length
  have hn := line63
  have fin : EP X pins σ Q w s := ⟨z, H, I, rw', ans0 q qd⟩
  by_cases h0 : 0 ≤ k
  · have hj : k.toNat = j := by
      rw [seqIndex_of h0 h5] at h1
      exact Option.some.inj h1
    exact wpAny_getItem_list pl.isList h0 (by omega) (by rw [hj]; simpa using ew) fin
  · have hj : (k + (its.toArray.size : Int)).toNat = j := by
      rw [seqIndex_neg (by omega) h4] at h1
      rw [List.size_toArray, ← hl]
      exact Option.some.inj h1
    exact wpAny_getItem_list_neg pl.isList (by omega) (by rw [List.size_toArray] <;> omega) (by omega) (by rw [hj]; simpa using ew) fin
end
section
variable {c : CC} {F : Fn} {n : Nat} {sc : Scope} {X : Cx} {x y k : IE} {a b e : Expr} {p : Pos} {gas : Nat}
theorem ss_setI (g : GX c F n sc X) {i : Nat} {nm : Str} {np sp : Pos} {ie : Expr} (hn : nmB c sc i nm = true) (hi : isSlice ie = false) (hc : compE e = false) (ak : isA k = false) (wk : wf k = true) (ax : isA x = false) (wx : wf x = true)
    (ck1 : ck c sc false .val k [ie] = true) (cx : ck c sc false .val x [e] = true) : PS X (.Assign [.Subscript (.Name nm np) ie sp] e p) (tS X.K F gas (.setI i k x)) := by
  have sw : swappedStores [.Subscript (.Name nm np) ie sp] e X.env = pure none := by cases e <;> rfl
  have pg : PG X (.Subscript (.Name nm np) ie sp) (gSub (tVar i) (tE X.K F false k) rSetL) := pg_sub (g.nm hn) ((snd_all k wk).e ak sc X g false ie ck1) set_list (by
    intro v
    cases ie <;> first | (cases hi; done) | rfl)
  refine ps_imp (ps_asg ((snd_all x wx).e ax sc X g false e cx) pg (not_sw (nm := nm) (np := np) (l := p.line) (env := X.env) hc (some (.Subscript (.Name nm np) ie sp))) sw rfl) ?_
  rintro D σ H ⟨S0, H0, S, en, o, st, hx, fin⟩
  unfold exec at hx
  split at hx
  · rename_i d kd l hd hk hl
    rw [Option.map_eq_some_iff] at hx
    obtain ⟨r, hr, rfl⟩ := hx
    unfold setD at hr
    split at hr
    · rename_i l kk
      split at hr
      · rename_i j hj
        cases hr
        refine ⟨S, en, d, st.sr, hd, fun v H1 x1 r1 => ?_⟩
        have st1 := st.up x1
        obtain ⟨a, q, nS, vs, hv, rv⟩ := st1.sr.ow hl
        refine ⟨.ref a, q, _, en, _, st1.sr, hk, fun v2 H2 x2 r2 => ?_⟩
        have st2 := st1.same x2
        have h2 : H2 a = some (.lst vs) := x2 a _ hv
        have rv2 : DRs X.K (up S H H1) H2 vs l := rv.mono (x2.le fun _ z => z)
        obtain ⟨t1, t2⟩ := st2.mut hl q h2 (ys := vs.set j v) (ds := l.set j d) (rv2.set (r1.f.tr.mono (x2.le fun _ z => z)) j)
        exact ⟨a, vs, kk, j, rfl, r2.int, h2, by rw [rv.length]; exact hj, fin _ _ _ (((st.upl x1).trans (x2.le fun _ z => z)).trans t2) t1⟩
      · cases hr
    · cases hr
  · cases hx
theorem ss_augI (g : GX c F n sc X) {i : Nat} {nm : Str} {np sp : Pos} {ie : Expr} {op : Operator} (hn : nmB c sc i nm = true) (hi : isSlice ie = false) (ak : isA k = false) (wk : wf k = true) (ax : isA x = false) (wx : wf x = true)
    (ck1 : ck c sc false .val k [ie] = true) (cx : ck c sc true .val x [e] = true) : PS X (.AugAssign (.Subscript (.Name nm np) ie sp) op e p) (tS X.K F gas (.augI i op k x)) := by
  refine ps_imp (ps_augS (g.nm hn) ((snd_all k wk).e ak sc X g false ie ck1) get_L ((snd_all x wx).e ax sc X g true e cx) (ip_ok op) set_list (by
    intro ov iv new
    cases ie <;> first | (cases hi; done) | rfl)) ?_
  rintro D σ H ⟨S0, H0, S, en, o, st, hx, fin⟩
  unfold exec at hx
  split at hx
  · rename_i l kd d hl hk hd
    split at hx
    · rename_i old hold
      split at hx
      · rename_i z hz
        rw [Option.map_eq_some_iff] at hx
        obtain ⟨r, hr, rfl⟩ := hx
        unfold setD at hr
        split at hr
        · rename_i l kk
          split at hr
          · rename_i j hj
            cases hr
            obtain ⟨a, q, nS, vs, hv, rv⟩ := st.sr.ow hl
            refine ⟨.ref a, q, S, en, _, st.sr, hk, fun v2 H2 x2 r2 => ?_⟩
            have st2 := st.up x2
            have h2 : H2 a = some (.lst vs) := x2 a _ hv
            have rv2 : DRs X.K (up S H H2) H2 vs l := rv.mono (st.upl x2)
            refine ⟨up S H H2, l, kk, old, .inr ⟨rfl, a, rfl, vs, h2, rv2⟩, r2.int, hold, fun v3 H3 x3 r3 => ?_⟩
            have st3 := st2.up x3
            refine ⟨_, en, d, st3.sr, hd, fun v4 H4 x4 r4 => ?_⟩
            refine ⟨nw (up (up S H H2) H2 H3) H3, old, d, z, .inl (r3.tr.mono (x4.le nw.of)), r4, hz, fun v5 H5 x5 r5 => ?_⟩
            have x45 := x4.trans x5
            have r6 : DR X.K (nw (up (up S H H2) H2 H3) H3) H5 v5 z := r5.mono ((Ex.refl _).le (nw.nw x4))
            have st5 := st3.up x45
            have h5 : H5 a = some (.lst vs) := (x3.trans x45) a _ h2
            have rv5 : DRs X.K (up (up (up S H H2) H2 H3) H3 H5) H5 vs l := (rv2.mono (st2.upl x3)).mono (st3.upl x45)
            obtain ⟨t1, t2⟩ := st5.mut hl q h5 (ys := vs.set j v5) (ds := l.set j z) (rv5.set r6.tr j)
            exact ⟨a, vs, kk, j, rfl, r2.int, h5, by rw [rv.length]; exact hj, fin _ _ _ ((((st.upl x2).trans (st2.upl x3)).trans (st3.upl x45)).trans t2) t1⟩
          · cases hr
        · cases hr
      · cases hx
    · cases hx
  · cases hx
theorem noCompCall {f : Expr} {es : List Expr} {kw : List Keyword} {cp : Pos} {l : Nat} {env : PySem.Env} : swapsWith (.Call f es kw cp) none l env = pure false := rfl
theorem few1 {e : Expr} (h : isStar e = false) : ∀ e' ∈ [e], isStar e' = false := by
  intro e' he
  simp at he
  subst he
  exact h
theorem ss_app (g : GX c F n sc X) {i : Nat} {nm m : Str} {np ap cp : Pos} (hn : nmB c sc i nm = true) (hm : m = ("append" : Str)) (hl : (ap.endLine == cp.line) = true) (hs : isStar e = false) (ax : isA x = false) (wx : wf x = true) (cx : ck c sc false .val x [e] = true) :
    PS X (.Expr (.Call (.Attribute (.Name nm np) m ap) [e] [] cp) p) (tS X.K F gas (.app i x)) := by
  subst hm
  have hA : PA X [e] (tAs X.K F false (.ac x .an)) := sa_cons hs ((snd_all x wx).e ax sc X g false e cx) sa_nil
  obtain ⟨h1, h2⟩ := plainArgs (X := X) (p := cp) (few1 hs) rfl
  refine ps_imp (ps_expr (pe_bm PySem.F.plainAttrs_list PySem.F.slot_list_append PySem.F.type_list_append mt_append (g.nm hn) hA rfl (few_of (few1 hs) (by simp) _ _) hl h1 h2) noCompCall) ?_
  rintro D σ H ⟨S0, H0, S, en, o, st, hx, fin⟩
  unfold exec at hx
  split at hx
  · rename_i d l hd hg
    split at hx
    · rename_i hz
      cases hx
      obtain ⟨a, q, nS, vs, hv, rv⟩ := st.sr.ow hg
      refine ⟨.ref a, q, .inl ⟨rfl, vs, .of hv⟩, S, en, [d], st.sr, by simp only [ev, hd], fun us H2 x2 r2 => ?_⟩
      obtain ⟨v, rfl, r⟩ := r2.one
      have st2 := st.up x2
      have h2 : H2 a = some (.lst vs) := x2 a _ hv
      obtain ⟨t1, t2⟩ := st2.mut hg q h2 (ys := vs ++ [v]) (ds := l ++ [d]) ((rv.mono (st.upl x2)).append (.cons r.f.tr .nil))
      exact ⟨a, vs, v, rfl, rfl, h2, by rw [rv.length]; exact szLt (okLen_le hz), fin _ _ _ ((st.upl x2).trans t2) t1⟩
    · cases hx
  · cases hx
theorem ss_ext (g : GX c F n sc X) {i : Nat} {nm m : Str} {np ap cp : Pos} (hn : nmB c sc i nm = true) (hm : m = ("extend" : Str)) (hl : (ap.endLine == cp.line) = true) (hs : isStar e = false) (ax : isA x = false) (wx : wf x = true) (cx : ck c sc false .val x [e] = true) :
    PS X (.Expr (.Call (.Attribute (.Name nm np) m ap) [e] [] cp) p) (tS X.K F gas (.ext i x)) := by
  subst hm
  have hA : PA X [e] (tAs X.K F false (.ac x .an)) := sa_cons hs ((snd_all x wx).e ax sc X g false e cx) sa_nil
  obtain ⟨h1, h2⟩ := plainArgs (X := X) (p := cp) (few1 hs) rfl
  refine ps_imp (ps_expr (pe_bm PySem.F.plainAttrs_list PySem.F.slot_list_extend PySem.F.type_list_extend mt_extend (g.nm hn) hA rfl (few_of (few1 hs) (by simp) _ _) hl h1 h2) noCompCall) ?_
  rintro D σ H ⟨S0, H0, S, en, o, st, hx, fin⟩
  unfold exec at hx
  split at hx
  · rename_i m l hd hg
    split at hx
    · rename_i hz
      cases hx
      obtain ⟨a, q, nS, vs, hv, rv⟩ := st.sr.ow hg
      refine ⟨.ref a, q, .inl ⟨rfl, vs, .of hv⟩, S, en, [.lst m], st.sr, by simp only [ev, hd], fun us H2 x2 r2 => ?_⟩
      obtain ⟨v, rfl, r⟩ := r2.one
      obtain ⟨b, ws, rfl, hb, rw'⟩ := DV.lst r
      have st2 := st.up x2
      have h2 : H2 a = some (.lst vs) := x2 a _ hv
      have r3 : DR X.K (nw S H) H2 (.ref b) (.lst m) := r.f
      have rw2 : DRs X.K (up S H H2) H2 ws m := by
        have z := r3.tr
        cases z with
        | lst s h' r' =>
          rw [hb] at h'
          cases h'
          exact r'
      obtain ⟨t1, t2⟩ := st2.mut hg q h2 (ys := vs ++ ws) (ds := l ++ m) ((rv.mono (st.upl x2)).append rw2)
      refine ⟨a, b, vs, ws, rfl, rfl, h2, hb, ?_, fin _ _ _ ((st.upl x2).trans t2) t1⟩
      have := okLen_le hz
      rw [List.length_append] at this
      rw [rv.length, rw'.length]
      exact szOf this
    · cases hx
  · cases hx
theorem ss_pop {fl : Str → Bool} (hfl : ∀ x, fl x = true → X.fn x = true) (g : GX c F n sc X) {i j : Nat} {nm mm m : Str} {np mp ap cp : Pos} (hi : c.N[i]? = some nm) (hk : locK fl sc nm = true) (hn : nmB c sc j mm = true) (hm : m = ("pop" : Str)) (hl : (ap.endLine == cp.line) = true) :
    PS X (.Assign [.Name nm np] (.Call (.Attribute (.Name mm mp) m ap) [] [] cp) p) (tS X.K F gas (.popA i j)) := by
  subst hm
  obtain ⟨l1, l2⟩ := g.loc hfl hk
  refine ps_imp (ps_set (by rw [g.hN]; exact g.nd) (by rw [g.hN]; exact hi) l1 (pe_bm0 PySem.F.plainAttrs_list PySem.F.slot_list_pop PySem.F.type_list_pop mt_pop (g.nm hn) rfl hl) (not_sw (nm := nm) (np := np) (l := p.line) (env := X.env) rfl (some (.Name nm np))) l2) ?_
  rintro D σ H ⟨S0, H0, S, en, o, st, hx, fin⟩
  unfold exec at hx
  split at hx
  · rename_i l hg
    split at hx
    · rename_i d hd
      cases hx
      obtain ⟨a, q, nS, vs, hv, rv⟩ := st.sr.ow hg
      obtain ⟨v, hvd, rd⟩ := rv.get hd
      have et : vs.dropLast = vs.take (l.length - 1) := by rw [List.dropLast_eq_take, rv.length]
      obtain ⟨t1, t2⟩ := st.mut hg q hv (ys := vs.take (l.length - 1)) (ds := l.take (l.length - 1)) (rv.take _)
      refine ⟨.ref a, q, .inl ⟨rfl, vs, .of hv⟩, a, vs, v, rfl, rfl, hv, by rw [rv.length]; exact hvd, ?_⟩
      rw [et]
      exact fin _ _ _ t2 (t1.set_sh (rd.mono t2))
    · cases hx
  · cases hx
/-! ### more of lists -/
theorem DRs.erase {K : PySem.W.Frag} {S : Ad} {H : Hp} : ∀ {ds : List D} {vs : List V} (j : Nat), DRs K S H vs ds → DRs K S H (vs.eraseIdx j) (ds.eraseIdx j)
  | _, _, _, .nil => .nil
  | _, _, 0, .cons _ r => r
  | _, _, j + 1, .cons a r => .cons a (DRs.erase j r)
theorem b62_lt {i : Int} (h : small b62 i = true) : -(2 ^ 63) ≤ i ∧ i < 2 ^ 63 := by
  have := small62 h
  omega
theorem ss_pop2 {fl : Str → Bool} (hfl : ∀ x, fl x = true → X.fn x = true) (g : GX c F n sc X) {i j : Nat} {nm mm m : Str} {np mp ap cp : Pos} {ke : Expr} (hi : c.N[i]? = some nm) (hk : locK fl sc nm = true) (hn : nmB c sc j mm = true) (hm : m = ("pop" : Str)) (hl : (ap.endLine == cp.line) = true)
    (hs : isStar ke = false) (ax : isA k = false) (wx : wf k = true) (cx : ck c sc false .val k [ke] = true) : PS X (.Assign [.Name nm np] (.Call (.Attribute (.Name mm mp) m ap) [ke] [] cp) p) (tS X.K F gas (.pop2 i j k)) := by
  subst hm
  obtain ⟨l1, l2⟩ := g.loc hfl hk
  have hA : PA X [ke] (tAs X.K F false (.ac k .an)) := sa_cons hs ((snd_all k wx).e ax sc X g false ke cx) sa_nil
  obtain ⟨h1, h2⟩ := plainArgs (X := X) (p := cp) (few1 hs) rfl
  refine ps_imp (ps_set (by rw [g.hN]; exact g.nd) (by rw [g.hN]; exact hi) l1 (pe_bm PySem.F.plainAttrs_list PySem.F.slot_list_pop PySem.F.type_list_pop mt_popAt (g.nm hn) hA rfl (few_of (few1 hs) (by simp) _ _) hl h1 h2) (not_sw (nm := nm) (np := np) (l := p.line) (env := X.env) rfl (some (.Name nm np))) l2) ?_
  rintro D σ H ⟨S0, H0, S, en, o, st, hx, fin⟩
  unfold exec at hx
  split at hx
  · rename_i l mi hg hki
    split at hx
    · rename_i hc
      rw [Bool.and_eq_true, decide_eq_true_eq] at hc
      split at hx
      · rename_i d hd
        cases hx
        obtain ⟨a, q, nS, vs, hv, rv⟩ := st.sr.ow hg
        refine ⟨.ref a, q, .inl ⟨rfl, vs, .of hv⟩, S, en, [.int mi], st.sr, by simp only [ev, hki], fun us H2 x2 r2 => ?_⟩
        obtain ⟨v, rfl, r⟩ := r2.one
        have st2 := st.up x2
        have h2 : H2 a = some (.lst vs) := x2 a _ hv
        have rv2 := rv.mono (st.upl x2)
        obtain ⟨v', hvd, rd⟩ := rv2.get hd
        have hlt : mi.toNat < l.length := (List.getElem?_eq_some_iff.mp hd).1
        obtain ⟨t1, t2⟩ := st2.mut hg q h2 (ys := vs.eraseIdx mi.toNat) (ds := l.eraseIdx mi.toNat) (rv2.erase _)
        refine ⟨a, vs, mi, mi.toNat, v', rfl, by rw [r.int], h2, (b62_lt hc.2).1, (b62_lt hc.2).2, seqIndex_of hc.1 (by rw [rv2.length]; omega), hvd, ?_⟩
        exact fin _ _ _ ((st.upl x2).trans t2) (t1.set_sh (rd.mono t2))
      · cases hx
    · cases hx
  · cases hx
theorem ss_ins (g : GX c F n sc X) {i : Nat} {nm m : Str} {np ap cp : Pos} {ke : Expr} (hn : nmB c sc i nm = true) (hm : m = ("insert" : Str)) (hl : (ap.endLine == cp.line) = true) (hs1 : isStar ke = false) (hs : isStar e = false) (ak : isA k = false) (wk : wf k = true) (ax : isA x = false) (wx : wf x = true) (ckk : ck c sc false .val k [ke] = true) (cx : ck c sc false .val x [e] = true) :
    PS X (.Expr (.Call (.Attribute (.Name nm np) m ap) [ke, e] [] cp) p) (tS X.K F gas (.ins i k x)) := by
  subst hm
  have hA : PA X [ke, e] (tAs X.K F false (.ac k (.ac x .an))) := sa_cons hs1 ((snd_all k wk).e ak sc X g false ke ckk) (sa_cons hs ((snd_all x wx).e ax sc X g false e cx) sa_nil)
  have hst : ∀ e' ∈ [ke, e], isStar e' = false := by intro e' he; simp at he; rcases he with rfl | rfl <;> assumption
  obtain ⟨h1, h2⟩ := plainArgs (X := X) (p := cp) hst rfl
  refine ps_imp (ps_expr (pe_bm PySem.F.plainAttrs_list PySem.F.slot_list_insert PySem.F.type_list_insert mt_insert (g.nm hn) hA rfl (few_of hst (by simp) _ _) hl h1 h2) noCompCall) ?_
  rintro D σ H ⟨S0, H0, S, en, o, st, hx, fin⟩
  unfold exec at hx
  split at hx
  · rename_i l mi d hg hki hd
    split at hx
    · rename_i hc
      cases hx
      rw [Bool.and_eq_true, Bool.and_eq_true, decide_eq_true_eq] at hc
      obtain ⟨a, q, nS, vs, hv, rv⟩ := st.sr.ow hg
      refine ⟨.ref a, q, .inl ⟨rfl, vs, .of hv⟩, S, en, [.int mi, d], st.sr, by simp only [ev, hki, hd], fun us H2 x2 r2 => ?_⟩
      obtain ⟨v1, v2, rfl, r1, r2⟩ := r2.two
      have st2 := st.up x2
      have h2 : H2 a = some (.lst vs) := x2 a _ hv
      have rv2 := rv.mono (st.upl x2)
      obtain ⟨t1, t2⟩ := st2.mut hg q h2 (ys := vs.take mi.toNat ++ [v2] ++ vs.drop mi.toNat) (ds := l.take mi.toNat ++ [d] ++ l.drop mi.toNat) (((rv2.take _).append (.cons r2.f.tr .nil)).append (rv2.drop _))
      exact ⟨a, vs, mi, v2, rfl, by rw [r1.int], h2, by rw [rv.length]; exact szLt (okLen_le hc.2), hc.1.1, (b62_lt hc.1.2).2, fin _ _ _ ((st.upl x2).trans t2) t1⟩
    · cases hx
  · cases hx
theorem flats_all : ∀ (n : Nat) (l : List D), flats n l = true → ∀ x ∈ l, flat n x = true := fun n l => by
  induction l with
  | nil => intro _ x hx; simp at hx
  | cons a l ih =>
    intro h x hx
    unfold flats at h
    rw [Bool.and_eq_true] at h
    rcases List.mem_cons.mp hx with rfl | hx
    · exact h.1
    · exact ih h.2 x hx
theorem ss_rmv (g : GX c F n sc X) {i : Nat} {nm m : Str} {np ap cp : Pos} (hn : nmB c sc i nm = true) (hm : m = ("remove" : Str)) (hl : (ap.endLine == cp.line) = true) (hs : isStar e = false) (ax : isA x = false) (wx : wf x = true) (cx : ck c sc false .val x [e] = true) :
    PS X (.Expr (.Call (.Attribute (.Name nm np) m ap) [e] [] cp) p) (tS X.K F gas (.rmv i x)) := by
  subst hm
  have hA : PA X [e] (tAs X.K F false (.ac x .an)) := sa_cons hs ((snd_all x wx).e ax sc X g false e cx) sa_nil
  obtain ⟨h1, h2⟩ := plainArgs (X := X) (p := cp) (few1 hs) rfl
  refine ps_imp (ps_expr (pe_bm PySem.F.plainAttrs_list PySem.F.slot_list_remove PySem.F.type_list_remove (RmvD.mt_removeD g.hu) (g.nm hn) hA rfl (few_of (few1 hs) (by simp) _ _) hl h1 h2) noCompCall) ?_
  rintro D σ H ⟨S0, H0, S, en, o, st, hx, fin⟩
  unfold exec at hx
  split at hx
  · rename_i l d hg hki
    split at hx
    · rename_i hfl
      rw [Bool.and_eq_true] at hfl
      split at hx
      · rename_i j hj
        cases hx
        obtain ⟨a, q, nS, vs, hv, rv⟩ := st.sr.ow hg
        refine ⟨.ref a, q, .inl ⟨rfl, vs, .of hv⟩, S, en, [d], st.sr, by simp only [ev, hki], fun us H2 x2 r2 => ?_⟩
        obtain ⟨v, rfl, r⟩ := r2.one
        have st2 := st.up x2
        have h2 : H2 a = some (.lst vs) := x2 a _ hv
        have rv2 := rv.mono (st.upl x2)
        obtain ⟨t1, t2⟩ := st2.mut hg q h2 (ys := vs.eraseIdx j) (ds := l.eraseIdx j) (rv2.erase _)
        obtain ⟨hi, hp, hno⟩ := List.findIdx?_eq_some_iff_getElem.mp hj
        have fl : ∀ z ∈ l, flat 39 z = true := flats_all 39 l hfl.2
        refine ⟨a, v, vs, toP d, toPs l, j, toP l[j], rfl, rfl, h2, dpsE _ rv2 39 hfl.2, dv_dp r hfl.1, shapedP (x := .lst l) hfl.2, shapedP hfl.1, ?_, ?_, fun m z hm hz => ?_, ?_⟩
        · rw [toPs_eq, List.getElem?_map, List.getElem?_eq_getElem hi]; rfl
        · rw [eqP _ _ _ _ (fl _ (List.getElem_mem hi)) hfl.1]; exact hp
        · rw [toPs_eq, List.getElem?_map] at hz
          have hml : m < l.length := by omega
          rw [List.getElem?_eq_getElem hml] at hz
          cases hz
          rw [eqP _ _ _ _ (fl _ (List.getElem_mem hml)) hfl.1]
          have := hno m hm
          simpa using this
        · exact fin _ _ _ ((st.upl x2).trans t2) t1
      · cases hx
    · cases hx
  · cases hx
/-! ### dicts of one's own -/
theorem ss_dnew {fl : Str → Bool} (hfl : ∀ x, fl x = true → X.fn x = true) (g : GX c F n sc X) {i : Nat} {t : Bool} {nm : Str} {np p2 : Pos} (hi : c.N[i]? = some nm) (hk : locK fl sc nm = true) : PS X (.Assign [.Name nm np] (.Dict [] [] p2) p) (tS X.K F gas (.dnew i t)) := by
  obtain ⟨l1, l2⟩ := g.loc hfl hk
  cases t with
  | false =>
    refine ps_imp (ps_set (by rw [g.hN]; exact g.nd) (by rw [g.hN]; exact hi) l1 (pe_dnewK (pos := p2)) (not_sw (nm := nm) (np := np) (l := p.line) (env := X.env) rfl (some (.Name nm np))) l2) ?_
    rintro D σ H ⟨S0, H0, S, en, o, st, hx, fin⟩ a ha
    cases hx
    obtain ⟨t1, t2⟩ := st.set_owG (i := i) (dd := .dic false []) (Ex.new ha) ha ⟨.dK [], [], upd_same, ⟨[], rfl, rfl, rfl⟩, .nil⟩
    exact fin _ _ _ t2 t1
  | true =>
    refine ps_imp (ps_set (by rw [g.hN]; exact g.nd) (by rw [g.hN]; exact hi) l1 (pe_dnewT (pos := p2)) (not_sw (nm := nm) (np := np) (l := p.line) (env := X.env) rfl (some (.Name nm np))) l2) ?_
    rintro D σ H ⟨S0, H0, S, en, o, st, hx, fin⟩ a ha
    cases hx
    obtain ⟨t1, t2⟩ := st.set_owG (i := i) (dd := .dic true []) (Ex.new ha) ha ⟨.dT [], [], upd_same, ⟨[], rfl, rfl, rfl⟩, .nil⟩
    exact fin _ _ _ t2 t1
mutual
theorem keepN {K : PySem.W.Frag} {S : Ad} {H1 : Hp} {d : Addr} {o2 : HO} {u : HO} (h1 : H1 d = some u) (hm : Mut (some u)) (hl : ∀ xs, u ≠ .lst xs) : ∀ {x : D} {w : V}, DR K S H1 w x → DR K (fun b => S b ∧ b ≠ d) (upd H1 d o2) w x
  | _, _, .non => .non
  | _, _, .bl b => .bl b
  | _, _, .int i => .int i
  | _, _, .str s => .str s
  | _, _, .tup h r => .tup (by rw [upd_ne (fun z => by subst z; rw [h1] at h; cases h; exact hm)]; exact h) (keepNs h1 hm hl r)
  | _, _, .lst (a := a) s h r => by
    have ne : a ≠ d := fun z => by subst z; rw [h1] at h; exact hl _ (Option.some.inj h)
    exact .lst ⟨s, ne⟩ (by rw [upd_ne ne]; exact h) (keepNs h1 hm hl r)
  | _, _, .ro (a := a) h r => .ro (by
      rcases h with ⟨s, h | ⟨o, h⟩⟩ | h
      · have ne : a ≠ d := fun z => by subst z; rw [h1] at h; exact hl _ (Option.some.inj h)
        exact .inl ⟨⟨s, ne⟩, .inl (by rw [upd_ne ne]; exact h)⟩
      · have ne : a ≠ d := fun z => by subst z; rw [h1] at h; cases h; exact hm
        exact .inl ⟨⟨s, ne⟩, .inr ⟨o, by rw [upd_ne ne]; exact h⟩⟩
      · exact .inr h) (keepNs h1 hm hl r)
  | _, _, .dic (a := a) s h k r => by
    have ne : a ≠ d := fun z => by subst z; rw [h1] at h; cases h; exact hm
    exact .dic ⟨s, ne⟩ (by rw [upd_ne ne]; exact h) k (keepNs h1 hm hl r)
theorem keepNs {K : PySem.W.Frag} {S : Ad} {H1 : Hp} {d : Addr} {o2 : HO} {u : HO} (h1 : H1 d = some u) (hm : Mut (some u)) (hl : ∀ xs, u ≠ .lst xs) : ∀ {x : List D} {w : List V}, DRs K S H1 w x → DRs K (fun b => S b ∧ b ≠ d) (upd H1 d o2) w x
  | _, _, .nil => .nil
  | _, _, .cons a b => .cons (keepN h1 hm hl a) (keepNs h1 hm hl b)
end
/-- name = {k: v} -/
theorem ss_dnw1 {fl : Str → Bool} (hfl : ∀ x, fl x = true → X.fn x = true) (g : GX c F n sc X) {i : Nat} {t : Bool} {nm : Str} {np p2 : Pos} {a a2 : Expr} (hi : c.N[i]? = some nm) (hk : locK fl sc nm = true) (ak : isA k = false) (wk : wf k = true) (ax : isA x = false) (wx : wf x = true)
    (ck1 : ck c sc true .val k [a] = true) (cx : ck c sc false .val x [a2] = true) : PS X (.Assign [.Name nm np] (.Dict [some a] [a2] p2) p) (tS X.K F gas (.dnw1 i t k x)) := by
  obtain ⟨l1, l2⟩ := g.loc hfl hk
  have ek := (snd_all (c := c) (F := F) (n := n) k wk).e ak sc X g true a ck1
  have ex := (snd_all (c := c) (F := F) (n := n) x wx).e ax sc X g false a2 cx
  cases t with
  | false =>
    refine ps_imp (ps_set (by rw [g.hN]; exact g.nd) (by rw [g.hN]; exact hi) l1 (pe_disp (pos := p2) (pps_cons ek ex pps_nil) rfl rfl (fun z => nomatch z) (by simp)) (not_sw (nm := nm) (np := np) (l := p.line) (env := X.env) rfl (some (.Name nm np))) l2) ?_
    rintro D σ H ⟨S0, H0, S, en, o, st, hx, fin⟩ pa hp
    unfold exec at hx
    split at hx
    · rename_i kd vd h1 h2
      split at hx
      · rename_i hkt
        cases hx
        have x0 : Ex H (upd H pa (.dK [])) := Ex.new hp
        refine tE_at st.sr x0 h1 fun v1 H1 x1 r1 => tE_at st.sr (x0.trans x1) h2 fun v2 H2 x2 r2 => ?_
        have hp2 : H2 pa = some (.dK []) := x2 pa _ (x1 pa _ upd_same)
        have hik : isKey kd = true := by cases kd <;> first | rfl | (unfold keyT at hkt; simp at hkt)
        obtain ⟨kk, rfl⟩ := key_of_D hik
        have hxv : v1 = kV kk := by
          cases kk with
          | inl i => exact r1.int
          | inr z =>
            have := DV.str (s := z.cps.toList) r1
            rw [this]
            show V.str ⟨z.cps.toList.toArray⟩ = V.str z
            cases z
            simp
        subst hxv
        refine ⟨hp2, [(kk, v2)], rfl, by simp, ?_⟩
        have em : mergeK [] [(kk, v2)] = [(kk, v2)] := rfl
        rw [em]
        have xx : Ex H (upd H2 pa (.dK [(kk, v2)])) := ((x0.trans x1).trans x2).mut hp
        have r3 := keepN (o2 := .dK [(kk, v2)]) hp2 True.intro (fun _ z => nomatch z) r2.f
        obtain ⟨t1, t2⟩ := st.set_owG (i := i) (dd := .dic false [(kD kk, vd)]) xx hp ⟨.dK [(kk, v2)], [v2], upd_same, ⟨[(kk, v2)], rfl, rfl, rfl⟩, .cons r3 .nil⟩
        exact fin _ _ _ t2 t1
      · cases hx
    · cases hx
  | true =>
    refine ps_imp (ps_set (by rw [g.hN]; exact g.nd) (by rw [g.hN]; exact hi) l1 (pe_dispT (pos := p2) (by have := g.hu; omega) ek ex) (not_sw (nm := nm) (np := np) (l := p.line) (env := X.env) rfl (some (.Name nm np))) l2) ?_
    rintro D σ H ⟨S0, H0, S, en, o, st, hx, fin⟩ pa hp
    unfold exec at hx
    split at hx
    · rename_i kd vd h1 h2
      split at hx
      · rename_i hkt
        cases hx
        have x0 : Ex H (upd H pa (.dT [])) := Ex.new hp
        refine tE_at st.sr x0 h1 fun v1 H1 x1 r1 => tE_at st.sr (x0.trans x1) h2 fun v2 H2 x2 r2 => ?_
        have hp2 : H2 pa = some (.dT []) := x2 pa _ (x1 pa _ upd_same)
        obtain ⟨l, rfl, hal⟩ : ∃ l, kd = .tup l ∧ l.all isKey = true := by
          cases kd <;> first | (unfold keyT at hkt; simp at hkt; done) | skip
          rename_i l
          have hkt : (true && l.all isKey) = true := hkt
          rw [Bool.true_and] at hkt
          exact ⟨l, rfl, hkt⟩
        obtain ⟨ks, rfl⟩ := keys_of_D hal
        obtain ⟨ab, ws, rfl, hb, rw1⟩ := r1.tup
        have ew := kVs_of rw1
        subst ew
        refine ⟨hp2, ab, ks, rfl, x2 ab _ hb, ?_⟩
        have xx : Ex H (upd H2 pa (.dT [(ks, v2)])) := ((x0.trans x1).trans x2).mut hp
        have r3 := keepN (o2 := .dT [(ks, v2)]) hp2 True.intro (fun _ z => nomatch z) r2.f
        obtain ⟨t1, t2⟩ := st.set_owG (i := i) (dd := .dic true [(.tup (ks.map kD), vd)]) xx hp ⟨.dT [(ks, v2)], [v2], upd_same, ⟨[(ks, v2)], rfl, rfl, rfl⟩, .cons r3 .nil⟩
        exact fin _ _ _ t2 t1
      · cases hx
    · cases hx
theorem okz {α : Type} {l : List α} (h : okLen l = true) : l.length < sizeLine := szLt (okLen_le h)
theorem noSl {i : Expr} (h : isSlice i = false) : NoSl i := by
  intro ov iv
  cases i <;> first | (cases h; done) | rfl
theorem key_imm {t : Bool} {d : D} (h : keyT t d = true) : imm d = true := by
  cases d with
  | tup l =>
    unfold keyT at h
    rw [Bool.and_eq_true] at h
    unfold imm
    have : ∀ l : List D, l.all isKey = true → immAll l = true := fun l => by
      induction l with
      | nil => intro _; rfl
      | cons a r ih =>
        intro h
        rw [List.all_cons, Bool.and_eq_true] at h
        unfold immAll
        rw [ih h.2, Bool.and_true]
        cases a <;> first | rfl | (cases h.1; done)
    exact this l h.2
  | int _ => rfl
  | str _ => rfl
  | non => rfl
  | bl _ => rfl
  | _ => first | (cases h; done) | rfl
theorem ss_dput (g : GX c F n sc X) {i : Nat} {nm : Str} {np sp : Pos} {ie : Expr} (hn : nmB c sc i nm = true) (hi : isSlice ie = false) (hc : compE e = false) (ak : isA k = false) (wk : wf k = true) (ax : isA x = false) (wx : wf x = true)
    (ck1 : ck c sc false .val k [ie] = true) (cx : ck c sc false .val x [e] = true) : PS X (.Assign [.Subscript (.Name nm np) ie sp] e p) (tS X.K F gas (.dput i k x)) := by
  refine ps_imp (ps_dput (by have := g.hu; omega) (g.nm hn) ((snd_all k wk).e ak sc X g false ie ck1) ((snd_all x wx).e ax sc X g false e cx) (not_sw (nm := nm) (np := np) (l := p.line) (env := X.env) hc (some (.Subscript (.Name nm np) ie sp)))) ?_
  rintro D σ H ⟨S0, H0, S, en, o, st, hx, fin⟩
  unfold exec at hx
  split at hx
  · rename_i d kd t l hd hk hl
    split at hx
    · rename_i hc
      cases hx
      rw [Bool.and_eq_true] at hc
      refine ⟨S, en, d, st.sr, hd, fun v H1 x1 r1 => ?_⟩
      have st1 := st.up x1
      obtain ⟨a, q, nS, u, vs, hv, hkk, rv⟩ := st1.sr.ow hl
      refine ⟨.ref a, q, _, en, _, st1.sr, hk, fun v2 H2 x2 r2 => ?_⟩
      have st2 := st1.same x2
      have h2 : H2 a = some u := x2.to a _ hkk.ntbl hv
      have rv2 : DRs X.K (up S H H1) H2 vs (l.map Prod.snd) := rv.mono (x2.le fun _ z => z)
      have rd : DR X.K (up S H H1) H2 v d := r1.f.tr.mono (x2.le fun _ z => z)
      have rk : DR X.K (up S H H1) H2 v2 kd := imm_DR (key_imm hc.1) r2.f
      obtain ⟨u', vs', p1, p2, p3⟩ := dput_of hc.1 (.inl rk) rd h2 hkk rv2 (okz hc.2)
      have lm : Le (up S H H1) H2 (up S H H1) (upd H2 a u') := le_mutG (Ex.refl H2) h2 (fun xs z => hkk.ntup z) fun b z => ⟨z, fun w => nS (by rw [← w]; exact z)⟩
      obtain ⟨t1, t2⟩ := st2.mutG hl q h2 hkk.mut (u' := u') (dd := .dic t (dPut l kd d)) ⟨u', vs', upd_same, p2, p3.mono lm⟩
      exact ⟨a, _, rfl, p1, fin _ _ _ (((st.upl x1).trans (x2.le fun _ z => z)).trans t2) t1⟩
    · cases hx
  · cases hx
theorem ss_daug (g : GX c F n sc X) {i : Nat} {nm : Str} {np sp : Pos} {ie : Expr} {op : Operator} (hn : nmB c sc i nm = true) (hi : isSlice ie = false) (ak : isA k = false) (wk : wf k = true) (ax : isA x = false) (wx : wf x = true)
    (ck1 : ck c sc false .val k [ie] = true) (cx : ck c sc true .val x [e] = true) : PS X (.AugAssign (.Subscript (.Name nm np) ie sp) op e p) (tS X.K F gas (.daug i op k x)) := by
  refine ps_imp (ps_daug (by have := g.hu; omega) (g.nm hn) ((snd_all k wk).e ak sc X g false ie ck1) ((snd_all x wx).e ax sc X g true e cx) (ip_ok op) (by
    intro ov iv new
    cases ie <;> first | (cases hi; done) | rfl)) ?_
  rintro D σ H ⟨S0, H0, S, en, o, st, hx, fin⟩
  unfold exec at hx
  split at hx
  · rename_i t l kd d hl hk hd
    split at hx
    · rename_i hc
      rw [Bool.and_eq_true] at hc
      split at hx
      · rename_i old hold
        split at hx
        · rename_i z hz
          cases hx
          obtain ⟨a, q, nS, u, vs, hv, hkk, rv⟩ := st.sr.ow hl
          refine ⟨.ref a, q, S, en, _, st.sr, hk, fun v2 H2 x2 r2 => ?_⟩
          have st2 := st.up x2
          have h2 : H2 a = some u := x2.to a _ hkk.ntbl hv
          have rv2 : DRs X.K (up S H H2) H2 vs (l.map Prod.snd) := rv.mono (st.upl x2)
          have rk : DR X.K (up S H H2) H2 v2 kd := imm_DR (key_imm hc.1) r2.f
          obtain ⟨a', e', o', g', lk⟩ := dget_of (K := X.K) (S := up S H H2) hc.1 (.inl rk) (.inr ⟨rfl, a, rfl, u, vs, h2, hkk, rv2⟩)
          cases e'
          rw [hold] at lk
          obtain ⟨w, rfl, rold⟩ := lk
          refine ⟨a, w, rfl, g', _, en, d, st2.sr, hd, fun v4 H4 x4 r4 => ?_⟩
          refine ⟨nw (up S H H2) H2, old, d, z, .inl (rold.mono (x4.le nw.of)), r4, hz, fun v5 H5 x5 r5 => ?_⟩
          have x45 := x4.trans x5
          have r6 : DR X.K (nw (up S H H2) H2) H5 v5 z := r5.mono ((Ex.refl _).le (nw.nw x4))
          have st5 := st2.up x45
          have h5 : H5 a = some u := x45.to a _ hkk.ntbl h2
          obtain ⟨_, q', nS5, _⟩ := st5.sr.ow hl
          rw [q] at q'
          cases q'
          have rv5 : DRs X.K (up (up S H H2) H2 H5) H5 vs (l.map Prod.snd) := rv2.mono (st2.upl x45)
          have rk5 : DR X.K (up (up S H H2) H2 H5) H5 v2 kd := rk.mono (st2.upl x45)
          obtain ⟨u', vs', p1, p2, p3⟩ := dput_of hc.1 (.inl rk5) r6.tr h5 hkk rv5 (okz hc.2)
          have lm : Le (up (up S H H2) H2 H5) H5 (up (up S H H2) H2 H5) (upd H5 a u') := le_mutG (Ex.refl H5) h5 (fun xs z => hkk.ntup z) fun b z => ⟨z, fun w => nS5 (by rw [← w]; exact z)⟩
          obtain ⟨t1, t2⟩ := st5.mutG hl q h5 hkk.mut (u' := u') (dd := .dic t (dPut l kd z)) ⟨u', vs', upd_same, p2, p3.mono lm⟩
          exact ⟨_, p1, fin _ _ _ (((st.upl x2).trans (st2.upl x45)).trans t2) t1⟩
        · cases hx
      · cases hx
    · cases hx
  · cases hx
theorem ss_ret (g : GX c F n sc X) (ax : isA x = false) (wx : wf x = true) (cx : ck c sc false .val x [e] = true) : PS X (.Return (some e) p) (tS X.K F gas (.ret x)) := by
  refine ps_imp (ps_ret ((snd_all x wx).e ax sc X g false e cx)) ?_
  rintro D σ H ⟨S0, H0, S, en, o, st, hx, fin⟩
  unfold exec at hx
  rw [Option.map_eq_some_iff] at hx
  obtain ⟨d, hd, rfl⟩ := hx
  exact ⟨S, en, d, st.sr, hd, fun v H' x r => fin v H' (st.ex.trans x) (r.f.mono ((Ex.refl _).le st.nw0))⟩
theorem ss_if (g : GX c F n sc X) {s t : IS} {ge : Expr} {as bs : List Stmt} (ax : isA x = false) (wx : wf x = true) (cx : ck c sc false .test x [ge] = true) (ha : PSs X as (tS X.K F gas s)) (hb : PSs X bs (tS X.K F gas t)) : PS X (.If ge as bs p) (tS X.K F gas (.iff x s t)) := by
  refine ps_imp (ps_if ((snd_all x wx).t ax sc X g false ge cx) ha hb) ?_
  rintro D σ H ⟨S0, H0, S, en, o, st, hx, fin⟩
  unfold exec at hx
  split at hx
  · rename_i hk
    refine ⟨S, en, true, st.sr, hk, fun H' x' => ?_⟩
    show (if true = true then _ else _)
    rw [if_pos rfl]
    exact ⟨S0, H0, S, en, o, st.same x', hx, fin.step (x'.le fun _ z => z)⟩
  · rename_i hk
    refine ⟨S, en, false, st.sr, hk, fun H' x' => ?_⟩
    show (if false = true then _ else _)
    rw [if_neg Bool.false_ne_true]
    exact ⟨S0, H0, S, en, o, st.same x', hx, fin.step (x'.le fun _ z => z)⟩
  · cases hx
theorem ss_while (g : GX c F n sc X) {s : IS} {ge : Expr} {as : List Stmt} (ax : isA x = false) (wx : wf x = true) (cx : ck c sc false .test x [ge] = true) (ha : PSs X as (tS X.K F gas s)) : PS X (.While ge as [] p) (tS X.K F gas (.whl x s)) := by
  refine ps_imp (ps_while (by rw [g.nox]; exact PassesOwn.never) ((snd_all x wx).t ax sc X g false ge cx) ha) ?_
  rintro D σ H ⟨S0, H0, S, en, o, st, hx, fin⟩
  unfold exec at hx
  refine ⟨fun m σ' H' => ∃ S' e', Le S H S' H' ∧ ST X.K S0 H0 S' H' σ' e' ∧ whlGo (ev F x true) (exec F gas s) m e' = some o, ⟨gas, S, en, Le.refl S H, st, hx⟩, ?_⟩
  rintro m σ1 H1 ⟨S1, e1, l1, st1, hgo⟩
  cases m with
  | zero => cases hgo
  | succ m =>
    unfold whlGo at hgo
    split at hgo
    · rename_i hk
      refine ⟨S1, e1, true, st1.sr, hk, fun H2 x2 => ?_⟩
      show (if true = true then _ else _)
      rw [if_pos rfl]
      have st2 := st1.same x2
      have l2 := l1.trans (x2.le (S := S1) (S' := S1) fun _ z => z)
      refine ⟨fun σ' H' => ∃ m', m' < m + 1 ∧ ∃ S' e', Le S H S' H' ∧ ST X.K S0 H0 S' H' σ' e' ∧ whlGo (ev F x true) (exec F gas s) m' e' = some o, fun σ' H' z => z, ?_⟩
      split at hgo
      · rename_i e2 hb
        exact ⟨S0, H0, S1, e1, .nx e2, st2, hb, fun σ' H' S' l t => ⟨m, Nat.lt_succ_self m, S', e2, l2.trans l, t, hgo⟩⟩
      · rename_i e2 hb
        exact ⟨S0, H0, S1, e1, .ct e2, st2, hb, fun σ' H' S' l t => ⟨m, Nat.lt_succ_self m, S', e2, l2.trans l, t, hgo⟩⟩
      · rename_i e2 hb
        cases hgo
        exact ⟨S0, H0, S1, e1, .bk e2, st2, hb, fun σ' H' S' l t => fin σ' H' S' (l2.trans l) t⟩
      · rename_i d hb
        cases hgo
        exact ⟨S0, H0, S1, e1, .rt d, st2, hb, fin⟩
      · cases hgo
    · rename_i hk
      cases hgo
      refine ⟨S1, e1, false, st1.sr, hk, fun H2 x2 => ?_⟩
      show (if false = true then _ else _)
      rw [if_neg Bool.false_ne_true]
      exact fin σ1 H2 S1 (l1.trans (x2.le fun _ z => z)) (st1.same x2)
    · cases hgo
theorem ss_for {fl : Str → Bool} (hfl : ∀ x, fl x = true → X.fn x = true) (g : GX c F n sc X) {s : IS} {tp : TP} {tg iter : Expr} {as : List Stmt} (ax : isA x = false) (wx : wf x = true) (htu : isTupIt x = true → isTupE tg = true) (cx : ck c sc false .iter x [iter] = true) (hns : isSetE iter = false) (ht : ckT c fl sc tp tg = true)
    (ha : PSs X as (tS X.K F gas s)) : PS X (.For tg iter as [] p) (tS X.K F gas (.for tp x s)) := by
  refine ps_imp (ps_for (by rw [g.nox]; exact PassesOwn.never) g.calm ((snd_all x wx).i ax sc X g false iter cx tg htu) (sg_ok g hfl ht) ha (notFold hns)) ?_
  rintro D σ H ⟨S0, H0, S, en, o, st, hx, fin⟩
  unfold exec at hx
  split at hx
  · rename_i d hd
    split at hx
    · rename_i ds hds
      refine ⟨S, en, d, ds, st.sr, hd, hds, fun J H1 x1 sv => ?_⟩
      have st1 := st.up x1
      have fin1 := fin.step (st.upl x1)
      refine ⟨fun i m σ' H' => m = ds.length - i ∧ i ≤ ds.length ∧ ∃ S' e', Le (up S H H1) H1 S' H' ∧ ST X.K S0 H0 S' H' σ' e' ∧ forGo (exec F gas s) tp (ds.drop i) e' = some o,
        ⟨ds.length, rfl, Nat.zero_le _, _, en, Le.refl _ _, st1, hx⟩, ?_⟩
      rintro i m σ2 H2 ⟨rfl, hi, S2, e2, l2, st2, hgo⟩
      have ok : Okh (nw S H) false H1 H2 := ⟨⟨fun _ z => z, l2.tups, fun a xs z h => l2.lsts a xs ⟨z, by rw [h]; exact fun w => nomatch w⟩ h, fun a xs z h => l2.ros a xs ⟨z, rd_some h⟩ h, fun a o u z h => l2.fzs a o u ⟨z, by rw [h]; exact fun w => nomatch w⟩ h⟩, fun z => by cases z⟩
      by_cases hlt : i < ds.length
      · right
        refine ⟨sv.go i H2 ok hlt, fun σ' H' => ∃ m', m' < ds.length - i ∧ m' = ds.length - (i + 1) ∧ i + 1 ≤ ds.length ∧ ∃ S' e', Le (up S H H1) H1 S' H' ∧ ST X.K S0 H0 S' H' σ' e' ∧ forGo (exec F gas s) tp (ds.drop (i + 1)) e' = some o, fun σ' H' z => z, ?_⟩
        intro v H3 y
        have hdi : ds[i]? = some ds[i] := List.getElem?_eq_getElem hlt
        obtain ⟨x3, rv⟩ := sv.yld i H2 v H3 ds[i] ok hdi y
        rw [List.drop_eq_getElem_cons hlt] at hgo
        unfold forGo at hgo
        split at hgo
        · cases hgo
        · rename_i e3 he3
          have st3 := st2.same x3
          have l3 := l2.trans (x3.le (S := S2) (S' := S2) fun _ z => z)
          refine ⟨S2, e2, _, e3, st3.sr, rv.mono ((Ex.refl _).le l2.sub), he3, fun σ4 s4 hw => ?_⟩
          have st4 := st3.bind he3 s4 hw
          split at hgo
          · rename_i e5 hb
            exact ⟨S0, H0, S2, e3, .nx e5, st4, hb, fun σ' H' S' l t => ⟨_, by omega, rfl, hlt, S', e5, l3.trans l, t, hgo⟩⟩
          · rename_i e5 hb
            exact ⟨S0, H0, S2, e3, .ct e5, st4, hb, fun σ' H' S' l t => ⟨_, by omega, rfl, hlt, S', e5, l3.trans l, t, hgo⟩⟩
          · rename_i e5 hb
            cases hgo
            exact ⟨S0, H0, S2, e3, .bk e5, st4, hb, fun σ' H' S' l t => fin1 σ' H' S' (l3.trans l) t⟩
          · rename_i d hb
            cases hgo
            exact ⟨S0, H0, S2, e3, .rt d, st4, hb, fin1⟩
          · cases hgo
      · left
        have ei : i = ds.length := by omega
        subst ei
        rw [List.drop_length] at hgo
        cases hgo
        exact ⟨sv.stop H2 ok, fin1 σ2 H2 S2 l2 st2⟩
    · cases hx
  · cases hx
/-! ### all together -/
structure SndS (c : CC) (F : Fn) (n gas : Nat) (s : IS) : Prop where
  one : isOne s = true → ∀ fl sc X, (∀ x, fl x = true → X.fn x = true) → GX c F n sc X → ∀ st, ckS c fl sc s [st] = true → PS X st (tS X.K F gas s)
  many : ∀ fl sc X, (∀ x, fl x = true → X.fn x = true) → GX c F n sc X → ∀ sts, ckS c fl sc s sts = true → PSs X sts (tS X.K F gas s)
/-- a statement that stands alone -/
theorem mkO {s : IS} (h : ∀ fl sc X, (∀ x, fl x = true → X.fn x = true) → GX c F n sc X → ∀ sts, ckS c fl sc s sts = true → ∃ st, sts = [st] ∧ PS X st (tS X.K F gas s)) : SndS c F n gas s where
  one := fun _ fl sc X hfl g st hk => by
    obtain ⟨st', e, q⟩ := h fl sc X hfl g _ hk
    cases e
    exact q
  many := fun fl sc X hfl g sts hk => by
    obtain ⟨st', rfl, q⟩ := h fl sc X hfl g _ hk
    exact pss_one q
theorem snds_all : ∀ s : IS, SndS c F n gas s := by
  intro s
  induction s with
  | skip =>
    refine ⟨(fun h => by cases h), fun fl sc X hfl g sts hk => ?_⟩
    have rd : ∀ D σ H, tS X.K F gas .skip D σ H → tNext D σ H := by
      rintro D σ H ⟨S0, H0, S, en, o, st, hx, fin⟩
      cases hx
      exact fin σ H S (Le.refl S H) st
    unfold ckS at hk
    split at hk
    · exact pss_imp pss_nil rd
    · exact pss_imp (pss_one ps_pass) rd
    · cases hk
  | seq s t hs ht =>
    refine ⟨(fun h => by cases h), fun fl sc X hfl g sts hk => ?_⟩
    unfold ckS at hk
    split at hk
    · simp only [Bool.and_eq_true] at hk
      refine pss_imp (pss_cons (hs.one hk.1.1 fl sc X hfl g _ hk.1.2) (ht.many fl sc X hfl g _ hk.2)) ?_
      rintro D σ H ⟨S0, H0, S, en, o, st, hx, fin⟩
      unfold exec at hx
      split at hx
      · rename_i e1 he1
        exact ⟨S0, H0, S, en, .nx e1, st, he1, fun σ' H' S' l t => ⟨S0, H0, S', e1, o, t, hx, fin.step l⟩⟩
      · rename_i r hr
        refine ⟨S0, H0, S, en, o, st, hx, ?_⟩
        cases o with
        | nx e1 => exact absurd hx (hr e1)
        | rt d => exact fin
        | bk e1 => exact fin
        | ct e1 => exact fin
    · cases hk
  | frz i s hs =>
    refine ⟨(fun h => by cases h), fun fl sc X hfl g sts hk => ?_⟩
    have hk : ckS c fl sc s sts = true := hk
    have base := hs.many fl sc X hfl g sts hk
    refine ⟨fun pins s' σ H D I q => ?_⟩
    obtain ⟨S0, H0, S, en, o, st, hx, fin⟩ := q
    unfold exec at hx
    split at hx
    · rename_i d hd
      by_cases nd : notDic d = true
      · obtain ⟨S', t, l⟩ := st.frz hd nd
        exact base.run pins s' σ H D I ⟨S0, H0, S', _, o, t, hx, fin.step l⟩
      · cases d with
        | dic t l =>
          obtain ⟨a, u, h1, hm, hq⟩ := st.frzD hd
          refine (pss_frz base).run pins s' σ H D I ⟨a, u, h1, hm, fun od => ?_⟩
          obtain ⟨S', t', l'⟩ := hq od
          exact ⟨S0, H0, S', _, o, t', hx, fin.step l'⟩
        | _ => exact absurd rfl nd
    · exact base.run pins s' σ H D I ⟨S0, H0, S, en, o, st, hx, fin⟩
    · cases hx
  | pop2 i j k =>
    refine mkO fun fl sc X hfl g sts hk => ?_
    unfold ckS at hk
    split at hk
    · simp only [Bool.and_eq_true, decide_eq_true_eq, Bool.not_eq_true'] at hk
      obtain ⟨⟨⟨⟨⟨⟨⟨h1, h2⟩, h3⟩, h4⟩, h5⟩, h6⟩, h7⟩, h8⟩ := hk
      exact ⟨_, rfl, ss_pop2 hfl g h1 h2 h3 h4 h5 h6 h7.1 h7.2 h8⟩
    · cases hk
  | ins i k x =>
    refine mkO fun fl sc X hfl g sts hk => ?_
    unfold ckS at hk
    split at hk
    · simp only [Bool.and_eq_true, decide_eq_true_eq, Bool.not_eq_true'] at hk
      obtain ⟨⟨⟨⟨⟨⟨⟨⟨h1, h2⟩, h3⟩, h4⟩, h5⟩, h6⟩, h7⟩, h8⟩, h9⟩ := hk
      exact ⟨_, rfl, ss_ins g h1 h2 h3 h4 h5 h6.1 h6.2 h7.1 h7.2 h8 h9⟩
    · cases hk
  | rmv i x =>
    refine mkO fun fl sc X hfl g sts hk => ?_
    unfold ckS at hk
    split at hk
    · simp only [Bool.and_eq_true, decide_eq_true_eq, Bool.not_eq_true'] at hk
      obtain ⟨⟨⟨⟨⟨h1, h2⟩, h3⟩, h4⟩, h5⟩, h6⟩ := hk
      exact ⟨_, rfl, ss_rmv g h1 h2 h3 h4 h5.1 h5.2 h6⟩
    · cases hk
  | dnew i t =>
    refine mkO fun fl sc X hfl g sts hk => ?_
    unfold ckS at hk
    split at hk
    · simp only [Bool.and_eq_true, decide_eq_true_eq] at hk
      exact ⟨_, rfl, ss_dnew hfl g hk.1 hk.2⟩
    · cases hk
  | dnw1 i t k x =>
    refine mkO fun fl sc X hfl g sts hk => ?_
    unfold ckS at hk
    split at hk
    · simp only [Bool.and_eq_true, decide_eq_true_eq, Bool.not_eq_true'] at hk
      obtain ⟨⟨⟨⟨⟨h1, h2⟩, h3⟩, h4⟩, h5⟩, h6⟩ := hk
      exact ⟨_, rfl, ss_dnw1 hfl g h1 h2 h3.1 h3.2 h4.1 h4.2 h5 h6⟩
    · cases hk
  | dput i k x =>
    refine mkO fun fl sc X hfl g sts hk => ?_
    unfold ckS at hk
    split at hk
    · simp only [Bool.and_eq_true, decide_eq_true_eq, Bool.not_eq_true'] at hk
      obtain ⟨⟨⟨⟨⟨⟨h1, h2⟩, h3⟩, h4⟩, h5⟩, h6⟩, h7⟩ := hk
      exact ⟨_, rfl, ss_dput g h1 h2 h3 h4.1 h4.2 h5.1 h5.2 h6 h7⟩
    · cases hk
  | daug i op k x =>
    refine mkO fun fl sc X hfl g sts hk => ?_
    unfold ckS at hk
    split at hk
    · simp only [Bool.and_eq_true, decide_eq_true_eq, Bool.not_eq_true'] at hk
      obtain ⟨⟨⟨⟨⟨⟨rfl, h2⟩, h3⟩, h4⟩, h5⟩, h6⟩, h7⟩ := hk
      exact ⟨_, rfl, ss_daug g h2 h3 h4.1 h4.2 h5.1 h5.2 h6 h7⟩
    · cases hk
  | asg i fr x =>
    refine mkO fun fl sc X hfl g sts hk => ?_
    unfold ckS at hk
    split at hk
    · simp only [Bool.and_eq_true, decide_eq_true_eq, Bool.not_eq_true'] at hk
      exact ⟨_, rfl, ss_asg hfl g hk.1.1.1.1.1 hk.1.1.1.1.2 hk.1.1.1.2 (by rw [Bool.and_eq_true]; exact hk.1.1.2) hk.1.2.1 hk.1.2.2 hk.2⟩
    · cases hk
  | asgT tp x =>
    refine mkO fun fl sc X hfl g sts hk => ?_
    unfold ckS at hk
    split at hk
    · simp only [Bool.and_eq_true, decide_eq_true_eq, Bool.not_eq_true'] at hk
      exact ⟨_, rfl, ss_asgT hfl g hk.1.1.1.1.1.1 hk.1.1.1.1.1.2 hk.1.1.1.1.2 hk.1.1.1.2 hk.1.1.2 hk.1.2.1 hk.1.2.2 hk.2⟩
    · cases hk
  | par i j x y =>
    refine mkO fun fl sc X hfl g sts hk => ?_
    unfold ckS at hk
    split at hk
    · simp only [Bool.and_eq_true, decide_eq_true_eq, Bool.not_eq_true'] at hk
      obtain ⟨⟨⟨⟨⟨⟨⟨⟨⟨⟨⟨⟨⟨⟨⟨h1, h2⟩, h3⟩, h4⟩, h5⟩, h6⟩, h7⟩, h8⟩, h9⟩, h10⟩, h11⟩, h12⟩, h13⟩, h14⟩, h15⟩, h16⟩ := hk
      exact ⟨_, rfl, ss_par g h1 h2 h3 h4 h5 h6 h7 h8 h9 h10 h11 h12 h13.1 h13.2 h14.1 h14.2 h15 h16⟩
    · cases hk
  | aug i op x =>
    refine mkO fun fl sc X hfl g sts hk => ?_
    unfold ckS at hk
    split at hk
    · simp only [Bool.and_eq_true, decide_eq_true_eq, Bool.not_eq_true'] at hk
      obtain ⟨⟨⟨⟨rfl, h2⟩, h3⟩, h4⟩, h5⟩ := hk
      exact ⟨_, rfl, ss_aug hfl g h2 h3 h4.1 h4.2 h5⟩
    · cases hk
  | setI i k x =>
    refine mkO fun fl sc X hfl g sts hk => ?_
    unfold ckS at hk
    split at hk
    · simp only [Bool.and_eq_true, decide_eq_true_eq, Bool.not_eq_true'] at hk
      obtain ⟨⟨⟨⟨⟨⟨h1, h2⟩, h3⟩, h4⟩, h5⟩, h6⟩, h7⟩ := hk
      exact ⟨_, rfl, ss_setI g h1 h2 h3 h4.1 h4.2 h5.1 h5.2 h6 h7⟩
    · cases hk
  | augI i op k x =>
    refine mkO fun fl sc X hfl g sts hk => ?_
    unfold ckS at hk
    split at hk
    · simp only [Bool.and_eq_true, decide_eq_true_eq, Bool.not_eq_true'] at hk
      obtain ⟨⟨⟨⟨⟨⟨rfl, h2⟩, h3⟩, h4⟩, h5⟩, h6⟩, h7⟩ := hk
      exact ⟨_, rfl, ss_augI g h2 h3 h4.1 h4.2 h5.1 h5.2 h6 h7⟩
    · cases hk
  | app i x =>
    refine mkO fun fl sc X hfl g sts hk => ?_
    unfold ckS at hk
    split at hk
    · simp only [Bool.and_eq_true, decide_eq_true_eq, Bool.not_eq_true'] at hk
      obtain ⟨⟨⟨⟨⟨h1, h2⟩, h3⟩, h4⟩, h5⟩, h6⟩ := hk
      exact ⟨_, rfl, ss_app g h1 h2 h3 h4 h5.1 h5.2 h6⟩
    · cases hk
  | ext i x =>
    refine mkO fun fl sc X hfl g sts hk => ?_
    unfold ckS at hk
    split at hk
    · simp only [Bool.and_eq_true, decide_eq_true_eq, Bool.not_eq_true'] at hk
      obtain ⟨⟨⟨⟨⟨h1, h2⟩, h3⟩, h4⟩, h5⟩, h6⟩ := hk
      exact ⟨_, rfl, ss_ext g h1 h2 h3 h4 h5.1 h5.2 h6⟩
    · cases hk
  | popA i j =>
    refine mkO fun fl sc X hfl g sts hk => ?_
    unfold ckS at hk
    split at hk
    · simp only [Bool.and_eq_true, decide_eq_true_eq] at hk
      exact ⟨_, rfl, ss_pop hfl g hk.1.1.1.1 hk.1.1.1.2 hk.1.1.2 hk.1.2 hk.2⟩
    · cases hk
  | iff x s t hs ht =>
    refine mkO fun fl sc X hfl g sts hk => ?_
    unfold ckS at hk
    split at hk
    · simp only [Bool.and_eq_true, decide_eq_true_eq, Bool.not_eq_true'] at hk
      obtain ⟨⟨⟨h1, h2⟩, h3⟩, h4⟩ := hk
      exact ⟨_, rfl, ss_if g h1.1 h1.2 h2 (hs.many fl sc X hfl g _ h3) (ht.many fl sc X hfl g _ h4)⟩
    · cases hk
  | «for» tp x s hs =>
    refine mkO fun fl sc X hfl g sts hk => ?_
    unfold ckS at hk
    split at hk
    · simp only [Bool.and_eq_true, decide_eq_true_eq, Bool.not_eq_true'] at hk
      obtain ⟨⟨⟨⟨⟨h1, h0⟩, h2⟩, h3⟩, h4⟩, h5⟩ := hk
      exact ⟨_, rfl, ss_for hfl g h1.1 h1.2 (tupI h0) h2 h3 h4 (hs.many fl sc X hfl g _ h5)⟩
    · cases hk
  | whl x s hs =>
    refine mkO fun fl sc X hfl g sts hk => ?_
    unfold ckS at hk
    split at hk
    · simp only [Bool.and_eq_true, decide_eq_true_eq, Bool.not_eq_true'] at hk
      obtain ⟨⟨h1, h2⟩, h3⟩ := hk
      exact ⟨_, rfl, ss_while g h1.1 h1.2 h2 (hs.many fl sc X hfl g _ h3)⟩
    · cases hk
  | ret x =>
    refine mkO fun fl sc X hfl g sts hk => ?_
    unfold ckS at hk
    split at hk
    · simp only [Bool.and_eq_true, decide_eq_true_eq, Bool.not_eq_true'] at hk
      exact ⟨_, rfl, ss_ret g hk.1.1 hk.1.2 hk.2⟩
    · cases hk
  | retN =>
    refine mkO fun fl sc X hfl g sts hk => ?_
    unfold ckS at hk
    split at hk
    · refine ⟨_, rfl, ps_imp ps_retN ?_⟩
      rintro D σ H ⟨S0, H0, S, en, o, st, hx, fin⟩
      cases hx
      exact fin _ H st.ex .non
    · cases hk
  | brk =>
    refine mkO fun fl sc X hfl g sts hk => ?_
    unfold ckS at hk
    split at hk
    · refine ⟨_, rfl, ps_imp ps_break ?_⟩
      rintro D σ H ⟨S0, H0, S, en, o, st, hx, fin⟩
      cases hx
      exact fin σ H S (Le.refl S H) st
    · cases hk
  | cnt =>
    refine mkO fun fl sc X hfl g sts hk => ?_
    unfold ckS at hk
    split at hk
    · refine ⟨_, rfl, ps_imp ps_continue ?_⟩
      rintro D σ H ⟨S0, H0, S, en, o, st, hx, fin⟩
      cases hx
      exact fin σ H S (Le.refl S H) st
    · cases hk
end
end Tl

/-! T15: the defs of a text, all at once; a law's end. -/
namespace Tl
open PySem L2
variable [Tabs]
/-- a def: its name, its statement, its names (parameters first), its term -/
structure Rc where
  nm : Str
  st : Stmt
  N : List Str
  ps : List Str
  fd : Fd
def scB (N ps : List Str) (sc : Scope) : Bool := isFun sc && !sc.isCoroutine && !sc.isGenerator && decide N.Nodup && decide (N.take ps.length = ps) && ps.all (fun x => visB sc x && !(decide (sc.names.lookup x = some .free))) && sc.names.all (fun y => !decide (y.2 = .free))
theorem sc_of {N ps : List Str} {sc : Scope} (h : scB N ps sc = true) : FnScope N ps sc := by
  unfold scB at h
  simp only [Bool.and_eq_true, decide_eq_true_eq, Bool.not_eq_true', List.all_eq_true, decide_eq_false_iff_not] at h
  obtain ⟨⟨⟨⟨⟨⟨h1, h2⟩, h3⟩, h4⟩, h5⟩, h6⟩, h7⟩ := h
  refine ⟨isFun_of h1, h2, h3, h4, h5, fun x hx => ?_, h7⟩
  obtain ⟨a, b⟩ := h6 x hx
  unfold visB at a
  split at a
  · exact .inl (by assumption)
  · exact .inr (by assumption)
  · exact absurd (by assumption) b
  · cases a
def ckR (C : List (Str × D)) (gc : Bool) (G : List Str) (r : Rc) : Bool := scB r.N r.ps (defScope r.st) && decide (r.fd.par = r.ps.length) && decide (r.fd.slots = r.N.length) && decide (r.ps.length ≤ r.N.length) && ckS ⟨r.N, G, C, gc, true⟩ (fun _ => true) (defScope r.st) r.fd.body (defBody r.st)
theorem entry_get : ∀ (as : List D) (m i : Nat), eget (as.map Sl.sh ++ List.replicate m .no) i = match as[i]? with
    | some d => .sh d
    | none => .no
  | [], m, i => by
    simp only [List.map_nil, List.nil_append, List.getElem?_nil]
    induction m generalizing i with
    | zero => rfl
    | succ m ih => cases i with
      | zero => rfl
      | succ i => exact ih i
  | a :: as, m, 0 => by simp [eget]
  | a :: as, m, i + 1 => by
    simp only [List.map_cons, List.cons_append, eget, List.getElem?_cons_succ]
    exact entry_get as m i
section
variable {P : Program} {w : World} {K : PySem.W.Frag} {mg : Str → Option Value} {base : Heap}
theorem st_start {S : Ad} {H : Hp} {vs : List V} {ds : List D} {N : List Str} {sl : Nat} (ht : HasT H) (h : DRs K S H vs ds) (hs : sl = N.length) : ST K S H (trS S H) H (L2.start N vs) (entry sl ds) := by
  have ge := entry_get ds (sl - ds.length)
  refine ⟨⟨ht, ?_, fun i => ?_, fun i j d d' a g1 => ?_⟩, fun a z => z.2, fun a z => .inl z.1, Ex.refl H, fun i d a g => ?_⟩
  · unfold L2.start entry
    simp only [List.length_append, List.length_map, List.length_replicate]
    rw [h.length, hs]
  · unfold entry
    rw [ge i]
    cases q : ds[i]? with
    | none => trivial
    | some d =>
      obtain ⟨v, e, r⟩ := h.get q
      refine ⟨v, ?_, r.tr⟩
      unfold L2.start
      have hl : i < vs.length := (List.getElem?_eq_some_iff.mp e).1
      rw [List.getElem?_append_left (by rw [List.length_map]; exact hl), List.getElem?_map, e]
      rfl
  · unfold entry at g1
    rw [ge i] at g1
    split at g1 <;> cases g1
  · unfold entry at g
    rw [ge i] at g
    split at g <;> cases g
/-- the defs as they stand behind the top -/
structure Top (w : World) (K : PySem.W.Frag) (mg : Str → Option Value) (C : List (Str × D)) (gc : Bool) (R : List Rc) : Prop where
  fns : ∀ (k : Nat) (r : Rc), R[k]? = some r → ∃ f fd, mg r.nm = some (.ref f) ∧ Fun K r.nm r.nm r.st f fd ∧ Binds K fd r.ps []
  blt : ∀ x ∈ bltNames, mg x = none
  cons : ∀ (j : Nat) (x : Str) (d : D), C[j]? = some (x, d) → notDic d = true → ∃ u v, mg x = some u ∧ RelV v u ∧ ∀ S H, DR K S H v d
  dics : ∀ (j : Nat) (x : Str) (t : Bool) (l : List (D × D)), C[j]? = some (x, .dic t l) → KD K w mg x l
  gcd : gc = true → mg "gcd" = some (.builtin "math.gcd")
def tab (R : List Rc) : List Fd := R.map (·.fd)
theorem run_zero {T : List Fd} {k : Nat} {ds : List D} : run T 0 k ds = none := rfl
/-- where a def's table of code objects lies -/
def Coded (base : Heap) (mg : Str → Option Value) (R : List Rc) (K : PySem.W.Frag) : Prop := ∀ (k : Nat) (r : Rc), R[k]? = some r → ∀ f fd, mg r.nm = some (.ref f) → Fun K r.nm r.nm r.st f fd → ∃ c P, fd.code = .ref c ∧ GxR.TabB base mg c P ∧ P ∈ Tabs.T
theorem fn_all {C : List (Str × D)} {gc : Bool} {R : List Rc} (t : Top w K mg C gc R) (hcode : Coded base mg R K) (hR : R.all (ckR C gc (R.map (·.nm))) = true) : ∀ (n k : Nat) (r : Rc), R[k]? = some r → ∀ f fd, mg r.nm = some (.ref f) → Fun K r.nm r.nm r.st f fd → Binds K fd r.ps [] → FnOk P w K mg base CX0 (2 * n) f fd r.ps (spF K (run (tab R) n) k)
  | 0, k, r, hr, f, fd, hm, hf, hb => by
    have no : ∀ vs H Q E, ¬ spF K (run (tab R) 0) k vs H Q E := fun vs H Q E h => by
      obtain ⟨_, _, _, _, _, h, _⟩ := h
      cases h
    exact ⟨fun vs H Q E h => absurd h (no vs H Q E), fun A outer s H args us vs Q E _ _ _ _ h => absurd h (no vs H Q E)⟩
  | n + 1, k, r, hr, f, fd, hm, hf, hb => by
    have hk := List.all_eq_true.mp hR r (List.mem_of_getElem? hr)
    unfold ckR at hk
    simp only [Bool.and_eq_true, decide_eq_true_eq] at hk
    obtain ⟨⟨⟨⟨h1, h2⟩, h3⟩, h4⟩, h5⟩ := hk
    have hT : (tab R)[k]? = some r.fd := by unfold tab; rw [List.getElem?_map, hr]; rfl
    have sc := sc_of h1
    have len : ∀ vs H Q E, spF K (run (tab R) (n + 1)) k vs H Q E → vs.length = r.ps.length := fun vs H Q E h => by
      obtain ⟨_, S, ds, d, hd, hrun, _⟩ := h
      unfold run at hrun
      rw [hT] at hrun
      simp only at hrun
      split at hrun
      · rename_i hl
        rw [hd.length, hl, h2]
      · cases hrun
    obtain ⟨cd, PT, hcd, TB, hPT⟩ := hcode k r hr f fd hm hf
    obtain ⟨oc, od, kV, doc, pm, an, cdv, ct, osl, efd, lk, hcdIn⟩ := hf.ex
    subst efd
    have ecd : cdv = .ref cd := hcd
    subst ecd
    refine fn_of (k := 2 * n + 1) lk hcdIn sc len fun A outer s H vs Q E hroom h => ?_
    obtain ⟨ht, S, ds, d, hd, hrun, q⟩ := h
    have g : GX ⟨r.N, R.map (·.nm), C, gc, true⟩ (run (tab R) n) n (defScope r.st) (cxOf CX0 P w K mg base r.N r.nm (defScope r.st) f (.ref cd) A outer s H E).nox :=
      { hN := rfl, nd := sc.nd, hsc := rfl, calm := rfl, room := hroom.mono (by omega), gen := fun _ => ⟨cd, PT, rfl, TB, hPT, hroom⟩, nox := rfl, blt := t.blt, cons := t.cons, dics := t.dics, gcd := t.gcd, fns := fun k' x hx => by
          have hx : (R.map (·.nm))[k']? = some x := hx
          rw [List.getElem?_map, Option.map_eq_some_iff] at hx
          obtain ⟨r', hr', rfl⟩ := hx
          obtain ⟨f', fd', m1, m2, m3⟩ := t.fns k' r' hr'
          exact ⟨f', fd', r'.ps, m1, m2.kp, m3, fn_all t hcode hR n k' r' hr' f' fd' m1 m2 m3⟩ }
    refine ⟨_, ((snds_all (gas := gas0) r.fd.body).many _ _ _ (fun _ _ => rfl) g _ h5).nox, ?_⟩
    unfold run at hrun
    rw [hT] at hrun
    simp only at hrun
    split at hrun
    · rename_i hl
      split at hrun
      · rename_i d' hx
        cases hrun
        exact ⟨S, H, trS S H, _, .rt d, st_start ht hd h3, hx, fun v H' x r => q v H' x r⟩
      · rename_i e' hx
        cases hrun
        exact ⟨S, H, trS S H, _, .nx e', st_start ht hd h3, hx, fun σ' H' S' l t => q _ H' t.ex .non⟩
      · cases hrun
    · cases hrun
/-- what law(script) promises -/
def spLaw (K : PySem.W.Frag) : Sp := fun vs H Q _ => HasT H ∧ ∃ (a : Addr) (ns : List Int), vs = [.ref a] ∧ SqL K H a (ns.map V.int) ∧ ns.length ≤ 63 ∧ ∀ H', Q (.bl true) H'
theorem drs_ints {S : Ad} {H : Hp} : ∀ ns : List Int, DRs K S H (ns.map V.int) (ns.map D.int)
  | [] => .nil
  | _ :: r => .cons (.int _) (drs_ints r)
theorem law_ok {C : List (Str × D)} {gc : Bool} {R : List Rc} (t : Top w K mg C gc R) (hcode : Coded base mg R K) (hR : R.all (ckR C gc (R.map (·.nm))) = true) {n k : Nat} {r : Rc} (hr : R[k]? = some r) {f : Addr} {fd : FuncData} (hm : mg r.nm = some (.ref f)) (hf : Fun K r.nm r.nm r.st f fd) (hb : Binds K fd r.ps [])
    (h : ∀ ns : List Int, ns.length ≤ 63 → run (tab R) n k [.ro (ns.map D.int)] = some (.bl true)) : FnOk P w K mg base CX0 (2 * n) f fd r.ps (spLaw K) := by
  refine (fn_all t hcode hR n k r hr f fd hm hf hb).imp fun vs H Q E hs => ?_
  obtain ⟨ht, a, ns, rfl, hq, hl, q⟩ := hs
  refine ⟨ht, fun _ => True, [.ro (ns.map D.int)], .bl true, .cons (.ro ?_ (drs_ints ns)) .nil, h ns hl, fun v H' x r => ?_⟩
  · rcases hq with hq | hq
    · exact .inl ⟨trivial, hq⟩
    · exact .inr hq
  · cases r
    exact q H'
end
end Tl
namespace Tl
open PySem L2
/-! ### what is known of the head, the empty tables left out -/
def emT (o : Obj) : Bool := match o.cls, o.data with
  | .none, .fields vs => vs.isEmpty
  | _, _ => false
def keepT (K : PySem.W.Frag) (a : Addr) : Option Obj := match K.lookup a with
  | some o => if emT o then none else some o
  | none => none
def cutK (K : PySem.W.Frag) : PySem.W.Frag := (K.map (·.1)).filterMap fun a => (keepT K a).map fun o => (a, o)
theorem cut_look (g : Addr → Option Obj) (a : Addr) : ∀ l : List Addr, (l.filterMap fun a => (g a).map fun o => (a, o)).lookup a = if a ∈ l then g a else none
  | [] => rfl
  | b :: l => by
    have ih := cut_look g a l
    rw [List.filterMap_cons]
    by_cases hb : a = b
    · subst hb
      rw [if_pos List.mem_cons_self]
      cases e : g a with
      | none =>
        rw [e] at ih
        simp only [ite_self, Option.map_none] at ih ⊢
        exact ih
      | some o =>
        simp only [Option.map_some]
        rw [List.lookup_cons_self]
    · have hm : (a ∈ b :: l) = (a ∈ l) := by simp [hb]
      simp only [hm]
      cases e : g b with
      | none => simp only [Option.map_none]; exact ih
      | some o =>
        simp only [Option.map_some]
        rw [List.lookup_cons]
        have : (a == b) = false := by rw [beq_eq_false_iff_ne]; exact hb
        rw [this]
        exact ih
theorem lookup_key {α : Type} {β : Type} [BEq α] [LawfulBEq α] : ∀ {l : List (α × β)} {a : α} {o : β}, l.lookup a = some o → a ∈ l.map (·.1)
  | (k, v) :: r, a, o, h => by
    rw [List.lookup_cons] at h
    split at h
    · rename_i e
      rw [eq_of_beq e]
      exact List.mem_cons_self
    · exact List.mem_cons_of_mem _ (lookup_key h)
theorem cut_of {K : PySem.W.Frag} {a : Addr} {o : Obj} (h : K.lookup a = some o) (he : emT o = false) : (cutK K).lookup a = some o := by
  unfold cutK
  rw [cut_look, if_pos (lookup_key h)]
  unfold keepT
  rw [h]
  simp [he]
theorem of_cut {K : PySem.W.Frag} {a : Addr} {o : Obj} (h : (cutK K).lookup a = some o) : K.lookup a = some o ∧ emT o = false := by
  unfold cutK at h
  rw [cut_look] at h
  split at h
  · unfold keepT at h
    split at h
    · rename_i u hu
      cases em : emT u with
      | true => rw [em] at h; simp at h
      | false =>
        rw [em] at h
        simp at h
        subst h
        exact ⟨hu, em⟩
    · cases h
  · cases h
theorem cut_in {K : PySem.W.Frag} {h : Heap} (x : K.In h) : (cutK K).In h := fun a o e => x a o (of_cut e).1
theorem cut_none {K : PySem.W.Frag} {h : Heap} {a : Addr} {o : Obj} (x : K.In h) (e : h.get? a = some o) (he : emT o = true) : (cutK K).lookup a = none := by
  cases q : (cutK K).lookup a with
  | none => rfl
  | some u =>
    obtain ⟨q1, q2⟩ := of_cut q
    have := x a u q1
    rw [e] at this
    cases this
    rw [he] at q2
    cases q2
theorem cut_fun {K : PySem.W.Frag} {x qual : Str} {st : Stmt} {f : Addr} {fd : FuncData} (F : Fun K x qual st f fd) : Fun (cutK K) x qual st f fd := by
  obtain ⟨⟨oc, od, kV, doc, pm, an, cdv, ct, osl, e, lk, hcd⟩, kp⟩ := F
  have lk' : (cutK K).lookup f = some ⟨oc, od, .func fd, osl⟩ := cut_of lk (by cases oc <;> rfl)
  refine ⟨⟨oc, od, kV, doc, pm, an, cdv, ct, osl, e, lk', ?_⟩, ?_⟩
  · unfold PySem.W.codeIn at hcd ⊢
    split at hcd
    · rename_i c
      split at hcd
      · rename_i a b vs d hc
        have : (cutK K).lookup c = some ⟨a, b, .fields vs, d⟩ := cut_of hc (by
          split at hcd
          · rename_i hvs
            cases a <;> first | rfl | (show vs.isEmpty = false; rw [← Array.isEmpty_toList, hvs]; rfl)
          · cases hcd)
        simp only [this]
        exact hcd
      · cases hcd
    · cases hcd
  · unfold PySem.W.keepIn
    simp only [lk']
/-- the entries of a written dict with text keys, and what they stand for -/
def KvOk (w : World) : List DictEntry → List (D × D) → Prop
  | [], [] => True
  | e :: es, p :: l => (∃ (z : List Nat) (t : Tok), p.1 = .str z ∧ e.key = .str ⟨z.toArray⟩ t ∧ e.hash = PyData.keyHash w.params ⟨z.toArray⟩) ∧ (∃ v, RelV v e.val ∧ ∀ K S H, DR K S H v p.2) ∧ KvOk w es l
  | _, _ => False
theorem KvOk.lit {w : World} : ∀ {es : List DictEntry} {l : List (D × D)}, KvOk w es l → PySem.W.KeysLit w.params es
  | [], [], _ => trivial
  | _ :: _, _ :: _, ⟨⟨z, t, _, h2, h3⟩, _, r⟩ => ⟨⟨_, t, h2, h3⟩, KvOk.lit r⟩
  | [], _ :: _, h => by cases h
  | _ :: _, [], h => by cases h
theorem KvOk.find {w : World} (z : List Nat) : ∀ {es : List DictEntry} {l : List (D × D)}, KvOk w es l → es.any (·.refKey) = false ∧ match dGet l (.str z) with
    | some dv => ∃ e, es.find? (fun e => e.key.isStr ⟨z.toArray⟩) = some e ∧ ∃ v, RelV v e.val ∧ ∀ K S H, DR K S H v dv
    | none => es.find? (fun e => e.key.isStr ⟨z.toArray⟩) = none
  | [], [], _ => ⟨rfl, rfl⟩
  | e :: es, (k, v) :: l, ⟨⟨z', t, h1, h2, h3⟩, hv, r⟩ => by
    obtain ⟨i1, i2⟩ := KvOk.find z r
    have h1 : k = .str z' := h1
    subst h1
    refine ⟨?_, ?_⟩
    · rw [List.any_cons, i1, Bool.or_false]
      unfold DictEntry.refKey
      rw [h2]
    · have es : e.key.isStr ⟨z.toArray⟩ = (z' == z) := by
        rw [h2]
        show decide ((⟨z'.toArray⟩ : Str) = ⟨z.toArray⟩) = (z' == z)
        by_cases q : z' = z
        · rw [q, decide_eq_true rfl, beq_self_eq_true]
        · have ne : (⟨z'.toArray⟩ : Str) ≠ ⟨z.toArray⟩ := fun w => q (by
            have w2 : z'.toArray = z.toArray := congrArg Str.cps w
            have w3 := congrArg Array.toList w2
            simpa using w3)
          rw [decide_eq_false ne, beq_eq_false_iff_ne.mpr q]
      show match (if (z' == z) = true then some v else dGet l (.str z)) with
        | some dv => _
        | none => _
      rw [List.find?_cons, es]
      cases q : z' == z with
      | true => exact ⟨e, rfl, hv⟩
      | false => exact i2
  | [], _ :: _, h => by cases h
  | _ :: _, [], h => by cases h
theorem kd_of {K : PySem.W.Frag} {w : World} {mg : Str → Option Value} {x : Str} {d : Addr} {n : Nat} {l : List (D × D)} {es : List DictEntry} (hm : mg x = some (.ref d)) (lk : K.lookup d = some ⟨.type "dict", none, .dict ⟨es⟩ n, #[]⟩) (hs : (d == sysModules) = false) (h : KvOk w es l) : KD (cutK K) w mg x l := by
  have lk' : (cutK K).lookup d = some ⟨.type "dict", none, .dict ⟨es⟩ n, #[]⟩ := cut_of lk rfl
  refine ⟨d, ⟨es⟩, n, hm, ⟨lk', h.lit, hs⟩, fun z => ?_⟩
  obtain ⟨i1, i2⟩ := h.find z
  cases q : dGet l (.str z) with
  | some dv =>
    rw [q] at i2
    obtain ⟨e, e1, v, e2, e3⟩ := i2
    refine ⟨e.val, v, ?_, e2, fun S H => e3 _ S H⟩
    unfold PySem.W.nsIn
    rw [lk']
    dsimp only
    rw [e1]
  | none =>
    rw [q] at i2
    show PySem.W.nsIn (cutK K) d ⟨z.toArray⟩ = some none
    unfold PySem.W.nsIn
    rw [lk']
    dsimp only
    rw [i2]
    dsimp only
    rw [i1]
    rfl
/-- each def's code object, its table -/
theorem defs_tabs {q : Program} {h : Heap} {mg : Str → Option Value} {K : PySem.W.Frag} (KX : K.In h)
    (hall : ∀ d ∈ PyProof.Rows.recsOf q, ∃ a o fd c P, mg d.name = some (.ref a) ∧ h.get? a = some o ∧ o.data = .func fd ∧ fd.code = .ref c ∧ h.IsCode c P #[] ∧ h.TableAt c P #[]) : ∀ R : List Rc, R.all (fun r => (PyProof.Rows.recsOf q).any fun e => e.name == r.nm) = true →
      ∃ cs : List (Addr × Addr), (∀ p ∈ cs, h.get? p.2 = some { cls := .none, data := .fields #[] } ∧ PySem.W.CodeHd h p.1 p.2) ∧ ∀ r ∈ R, ∀ f fd, mg r.nm = some (.ref f) → Fun K r.nm r.nm r.st f fd → ∃ p ∈ cs, fd.code = .ref p.1
  | [], _ => ⟨[], ⟨fun p hp => absurd hp List.not_mem_nil, fun r hr => absurd hr List.not_mem_nil⟩⟩
  | r :: R, hR => by
    rw [List.all_cons, Bool.and_eq_true] at hR
    obtain ⟨cs, h1, h2⟩ := defs_tabs KX hall R hR.2
    obtain ⟨d, hd, hn⟩ := List.any_eq_true.mp hR.1
    have hn : d.name = r.nm := beq_iff_eq.mp hn
    obtain ⟨a, o, fd0, c, P, m1, g1, g2, g3, g4, g5⟩ := hall d hd
    refine ⟨(c, P) :: cs, fun p hp => ?_, fun r' hr' f fd hm hf => ?_⟩
    · rcases List.mem_cons.mp hp with e | hp
      · subst e
        exact ⟨g5.2, PySem.W.CodeHd.of g4 g5⟩
      · exact h1 p hp
    · rcases List.mem_cons.mp hr' with e | hr'
      · subst e
        refine ⟨(c, P), List.mem_cons_self, ?_⟩
        rw [hn, hm] at m1
        cases m1
        obtain ⟨oc, od, kV, doc, pm, an, cdv, ct, osl, e, lk, hcd⟩ := hf.ex
        have := KX _ _ lk
        rw [g1] at this
        cases this
        cases g2
        exact g3
      · obtain ⟨p, hp, e⟩ := h2 r' hr' f fd hm hf
        exact ⟨p, List.mem_cons_of_mem _ hp, e⟩
end Tl
namespace Tl
open PySem L2
/-- the law's end: R the defs, all found in the program's top -/
theorem walkT {l : PySem.W.OpenLaw} {k : Nat} {q : Program} {loose : List Str} {XP : (Str → Option Value) → Heap → Prop} {YP : World → Heap → Prop} {d : DefRec} {K : Params → PySem.W.Frag} {C : List (Str × D)} {gc : Bool} {R : List Rc} {L : Nat} {rl : Rc}
    (hn : l.most = some 63) (hr : Room (2 * k) callerA) (hdf : d.params.defaults = [])
    (hY : ∀ (w : World) (h : Heap), YP w h → (K w.params).In h) (hrec : R.all (fun r => (PyProof.Rows.recsOf q).any fun e => e.name == r.nm) = true) (hR : R.all (ckR C gc (R.map (·.nm))) = true) (hL : R[L]? = some rl) (hnl : rl.nm = d.name) (hps : rl.ps = [("script" : Str)])
    (pure : ∀ ns : List Int, ns.length ≤ 63 → run (tab R) k L [.ro (ns.map D.int)] = some (.bl true))
    (F : ∀ (w : World) (mg : Str → Option Value) (fa : Addr) (h : Heap), (K w.params).In h → h.Ns mainGlobals mg → mg d.name = some (.ref fa) →
      Top w (cutK (K w.params)) mg C gc R ∧ ∃ fd : FuncData, Fun (cutK (K w.params)) rl.nm rl.nm rl.st fa fd ∧ ∀ (s : Shared) (u : Value), BindsTo s fd ⟨[u], []⟩ [("script", u)]) :
    PySem.W.WalkO q loose XP YP l.row.toRowW d [] (fun f vs => PySem.call f vs) := by
  refine Att.attach_callB hn hdf fun w s₀ s₁ mg mb fa o pm cd doc a vs ns G Y ho hd hcd hmg hobj hints hlen hbits hg => ?_
  have KX := hY w _ Y
  obtain ⟨t, fd, hfun, hb⟩ := F w mg fa _ KX G.T.g hmg
  have KX' := cut_in KX
  have nTab : ∀ P, s₁.heap.get? P = some { cls := .none, data := .fields #[] } → (cutK (K w.params)).lookup P = none := fun P hP => cut_none KX hP rfl
  generalize cutK (K w.params) = K' at t hfun KX' nTab
  obtain ⟨cs, h1, h2⟩ := defs_tabs KX' G.T.tab R hrec
  letI : Tabs := ⟨cs.map (·.2)⟩
  obtain ⟨f', fd', m1, m2, m3⟩ := t.fns L rl hL
  rw [hnl, hmg] at m1
  cases m1
  obtain ⟨oc, od, kV, dc, pm', an, cdv, ct, osl, e1, lk, _⟩ := hfun.ex
  obtain ⟨oc', od', kV', dc', pm'', an', cdv', ct', osl', e1', lk', _⟩ := m2.ex
  have efd : fd = fd' := by
    rw [lk] at lk'
    cases lk'
    rfl
  subst efd
  refine LamX.law_callTs (cs := cs) (fd := fd) (x := ("script" : Str)) (sp := spLaw K') (CX := CX0) (k := 2 * k) KX' G.T.g G.T.b G.T.builtins G.T.nolimit hg (fun p hp => (h1 p hp).1) (fun p hp => nTab _ (h1 p hp).1) (fun p hp => (h1 p hp).2) G.T.bmain hobj hints (Nat.le_trans hlen (by decide)) hr ?_ hb ?_ fun _ _ _ z => z
  · intro base _ _ TB
    have := law_ok (P := l.prog) (w := w) t (fun k r hr f fd hm hf => by
      obtain ⟨p, hp, e⟩ := h2 r (List.mem_of_getElem? hr) f fd hm hf
      exact ⟨p.1, p.2, e, ⟨(TB p hp).1, (TB p hp).2, (TB p hp).3⟩, List.mem_map.mpr ⟨p, hp, rfl⟩⟩) hR hL (by rw [hnl]; exact hmg) hfun m3 pure
    rw [hps] at this
    exact this
  · intro H hH hS
    refine ⟨fun P hP => ?_, a, ns, rfl, hS, hlen, fun _ => rfl⟩
    obtain ⟨p, hp, e⟩ := List.mem_map.mp hP
    exact ⟨#[], by rw [← e]; exact hH p hp, trivial⟩
end Tl

/-! T16: tools for what a term comes to; the words that every law begins with. -/
namespace Tl
theorem run_of {T : List Fd} {n k : Nat} {as : List D} {fd : Fd} (h : T[k]? = some fd) (hp : as.length = fd.par) : run T (n + 1) k as = (match exec (run T n) gas0 fd.body (entry fd.slots as) with
    | some (.rt d) => some d
    | some (.nx _) => some .non
    | _ => none) := by
  unfold run
  rw [h]
  simp only [hp, if_true]
  all_goals rfl
theorem run_rt {T : List Fd} {n k : Nat} {as : List D} {fd : Fd} {d : D} (h : T[k]? = some fd) (hp : as.length = fd.par) (hx : exec (run T n) gas0 fd.body (entry fd.slots as) = some (.rt d)) : run T (n + 1) k as = some d := by
  rw [run_of h hp, hx]
/-- a loop over a list, by its invariant -/
theorem for_go {bd : En → Option Out} {tp : TP} (I : Nat → En → Prop) (J : Out → Prop) : ∀ (ds : List D) (i : Nat) (e : En), I i e →
    (∀ j d e, ds[j]? = some d → I (i + j) e → ∃ e1 o, bindT tp d e = some e1 ∧ bd e1 = some o ∧ match o with
      | .nx e2 => I (i + j + 1) e2
      | .ct e2 => I (i + j + 1) e2
      | .bk e2 => J (.nx e2)
      | .rt r => J (.rt r)) → (∀ e, I (i + ds.length) e → J (.nx e)) → ∃ o, forGo bd tp ds e = some o ∧ J o
  | [], i, e, h, _, hn => ⟨_, rfl, hn e h⟩
  | d :: ds, i, e, h, hs, hn => by
    obtain ⟨e1, o, h1, h2, h3⟩ := hs 0 d e rfl h
    have go : ∀ e2, I (i + 1) e2 → ∃ o, forGo bd tp ds e2 = some o ∧ J o := fun e2 h4 =>
      for_go I J ds (i + 1) e2 h4 (fun j d e hd hi => by
        have := hs (j + 1) d e hd (by rw [show i + (j + 1) = i + 1 + j by omega]; exact hi)
        rw [show i + (j + 1) + 1 = i + 1 + j + 1 by omega] at this
        exact this) (fun e hi => hn e (by rw [List.length_cons, show i + (ds.length + 1) = i + 1 + ds.length by omega]; exact hi))
    unfold forGo
    rw [h1]
    simp only [h2]
    cases o with
    | nx e2 => exact go e2 h3
    | ct e2 => exact go e2 h3
    | bk e2 => exact ⟨_, rfl, h3⟩
    | rt r => exact ⟨_, rfl, h3⟩
/-- a loop that looks for the first item at which it answers -/
theorem for_find {bd : En → Option Out} {tp : TP} (g : D → Option D) (I : En → Prop) : ∀ (ds : List D) (e : En), I e →
    (∀ d ∈ ds, ∀ e, I e → ∃ e1 o, bindT tp d e = some e1 ∧ bd e1 = some o ∧ match g d with
      | some r => o = .rt r
      | none => ∃ e2, (o = .nx e2 ∨ o = .ct e2) ∧ I e2) →
    ∃ o, forGo bd tp ds e = some o ∧ match ds.findSome? g with
      | some r => o = .rt r
      | none => ∃ e2, o = .nx e2 ∧ I e2
  | [], e, h, _ => ⟨_, rfl, e, rfl, h⟩
  | d :: ds, e, h, hs => by
    obtain ⟨e1, o, h1, h2, h3⟩ := hs d (by simp) e h
    unfold forGo
    rw [h1]
    simp only [h2]
    rw [List.findSome?_cons]
    cases hg : g d with
    | some r =>
      rw [hg] at h3
      simp only at h3
      subst h3
      exact ⟨_, rfl, rfl⟩
    | none =>
      rw [hg] at h3
      obtain ⟨e2, h4, h5⟩ := h3
      obtain ⟨o', h6, h7⟩ := for_find g I ds e2 h5 fun d hd => hs d (by simp [hd])
      rcases h4 with rfl | rfl
      · exact ⟨o', h6, h7⟩
      · exact ⟨o', h6, h7⟩
/-- a while loop, by its invariant and measure -/
theorem whl_go {c : En → Option D} {bd : En → Option Out} (I : Nat → En → Prop) (J : Out → Prop)
    (hs : ∀ m e, I m e → (c e = some (.bl false) ∧ J (.nx e)) ∨ (c e = some (.bl true) ∧ ∃ o, bd e = some o ∧ match o with
      | .nx e2 => ∃ k, k < m ∧ I k e2
      | .ct e2 => ∃ k, k < m ∧ I k e2
      | .bk e2 => J (.nx e2)
      | .rt r => J (.rt r))) : ∀ (g m : Nat) (e : En), m < g → I m e → ∃ o, whlGo c bd g e = some o ∧ J o
  | 0, m, e, hg, _ => absurd hg (Nat.not_lt_zero _)
  | g + 1, m, e, hg, h => by
    unfold whlGo
    rcases hs m e h with ⟨h1, h2⟩ | ⟨h1, o, h2, h3⟩
    · rw [h1]
      exact ⟨_, rfl, h2⟩
    · rw [h1]
      simp only [h2]
      cases o with
      | nx e2 =>
        obtain ⟨k, hk, h4⟩ := h3
        exact whl_go I J hs g k e2 (by omega) h4
      | ct e2 =>
        obtain ⟨k, hk, h4⟩ := h3
        exact whl_go I J hs g k e2 (by omega) h4
      | bk e2 => exact ⟨_, rfl, h3⟩
      | rt r => exact ⟨_, rfl, h3⟩
/-- a comprehension that keeps what p says -/
theorem lc_filter {t x : En → Option D} {tp : TP} {e : En} (p : D → Bool) (f : D → D) : ∀ (ds : List D), (∀ d ∈ ds, ∃ e1, bindT tp d e = some e1 ∧ t e1 = some (.bl (p d)) ∧ (p d = true → x e1 = some (f d))) → lcGo t x tp e ds = some ((ds.filter p).map f)
  | [], _ => rfl
  | d :: ds, h => by
    obtain ⟨e1, h1, h2, h3⟩ := h d (by simp)
    have ih := lc_filter p f ds fun d hd => h d (by simp [hd])
    unfold lcGo
    rw [h1]
    simp only [h2]
    cases hp : p d with
    | true =>
      rw [List.filter_cons_of_pos hp]
      simp only [h3 hp, ih]
      rfl
    | false =>
      rw [List.filter_cons_of_neg (by rw [hp]; exact Bool.false_ne_true)]
      exact ih
/-- a comprehension without a test -/
theorem lc_map {x : En → Option D} {tp : TP} {e : En} (f : D → D) (ds : List D) (h : ∀ d ∈ ds, ∃ e1, bindT tp d e = some e1 ∧ x e1 = some (f d)) : lcGo (fun _ => some (.bl true)) x tp e ds = some (ds.map f) := by
  have := lc_filter (t := fun _ => some (.bl true)) (x := x) (tp := tp) (e := e) (fun _ => true) f ds fun d hd => by
    obtain ⟨e1, h1, h2⟩ := h d hd
    exact ⟨e1, h1, rfl, fun _ => h2⟩
  rw [this, List.filter_eq_self.mpr (fun _ _ => rfl)]
theorem upto_eq : ∀ (n : Nat) (a : Int), upto n a = (List.range n).map fun i => .int (a + i)
  | 0, a => rfl
  | n + 1, a => by
    rw [List.range_succ_eq_map]
    unfold upto
    rw [upto_eq n (a + 1)]
    simp only [List.map_cons, List.map_map]
    congr 1
    · simp
    · apply List.map_congr_left
      intro i _
      simp only [Function.comp]
      congr 1
      push_cast
      omega
theorem okLen_of {α : Type} {l : List α} (h : l.length ≤ 100000) : okLen l = true := Nat.ble_eq_true_of_le h
theorem small_of' {n : Nat} {i : Int} (h1 : -(n : Int) < i) (h2 : i < n) : small n i = true := by
  unfold small
  rw [Nat.blt_eq]
  omega
theorem cut_nat {α : Type} {s : List α} {lo hi : Nat} (h1 : lo ≤ hi) (h2 : hi ≤ s.length) : cutL s (some (lo : Int)) (some (hi : Int)) = (s.drop lo).take (hi - lo) := by
  unfold cutL sIx
  simp only
  rw [if_neg (by omega), if_neg (by omega)]
  congr 1
  · omega
  · congr 1
    omega
theorem find_congr {α β : Type} {f g : α → Option β} : ∀ {l : List α}, (∀ x ∈ l, f x = g x) → l.findSome? f = l.findSome? g
  | [], _ => rfl
  | x :: r, h => by
    rw [List.findSome?_cons, List.findSome?_cons, h x (by simp), find_congr fun y hy => h y (by simp [hy])]
theorem find_upto (n : Nat) (a : Nat) (g : D → Option D) : (upto n (a : Int)).findSome? g = (List.range n).findSome? fun i => g (.int ((a + i : Nat) : Int)) := by
  rw [upto_eq, List.findSome?_map]
  apply find_congr
  intro i _
  simp only [Function.comp]
  congr 2
theorem upto_memN {n a : Nat} {d : D} (h : d ∈ upto n (a : Int)) : ∃ i, i < n ∧ d = .int ((a + i : Nat) : Int) := by
  rw [upto_eq] at h
  obtain ⟨i, h1, h2⟩ := List.mem_map.mp h
  exact ⟨i, List.mem_range.mp h1, by rw [← h2]; simp⟩
/-! ### the common words -/
/-- _law_cell -/
def tCell : Fd := ⟨2, 2, (.seq (.iff (.cmp .Lt (.v 1) (.bi .len (.ac (.v 0) .an))) (.seq (.ret (.idx (.v 0) (.v 1))) .skip) .skip) (.seq (.ret (.bin .Add (.bin .Mult (.c (.int 5)) (.v 1)) (.c (.int 3)))) .skip))⟩
/-- one turn of _law_draws -/
def bDraws : IS := .seq (.iff (.and (.v 3) (.cmp .Gt (.v 2) (.c (.int 0)))) (.seq (.app 5 (.bin .Mod (.bi .int (.ac (.v 2) .an)) (.c (.int 5040)))) (.seq (.asg 2 false (.bin .FloorDiv (.v 2) (.c (.int 5040)))) .skip)) (.seq (.asg 7 false (.bin .Mod (.bi .int (.ac (.bin .Add (.bin .Add (.bin .Mult (.v 4) (.c (.int 48271))) (.bin .Mult (.bin .Add (.v 6) (.c (.int 1))) (.c (.int 69621)))) (.c (.int 11))) .an)) (.c (.int 2147483647)))) (.seq (.asg 7 false (.bin .Mod (.bi .int (.ac (.bin .Add (.bin .Mult (.v 7) (.v 7)) (.bin .Mult (.c (.int 40692)) (.bin .Add (.v 6) (.c (.int 3))))) .an)) (.c (.int 2147483399)))) (.seq (.app 5 (.bin .Mod (.bi .int (.ac (.bin .FloorDiv (.v 7) (.c (.int 64))) .an)) (.c (.int 5040)))) .skip)))) .skip
/-- _law_draws -/
def tDraws : Fd := ⟨2, 8,
  (.seq (.asg 2 false (.bi .abs (.ac (.bi .int (.ac (.v 0) .an)) .an))) (.seq (.asg 3 false (.cmp .GtE (.v 2) (.bin .Pow (.c (.int 10)) (.c (.int 18))))) (.seq (.asg 4 false (.v 2)) (.seq (.asg 5 true (.lst .an)) (.seq (.for (.one 6) (.rng (.ac (.v 1) .an)) bDraws) (.frz 5 (.seq (.ret (.v 5)) .skip)))))))⟩
/-- _law_is_integer -/
def tIsInt : Fd := ⟨1, 1, (.seq (.ret (.and (.isi .int (.v 0)) (.nt (.isi .bool (.v 0))))) .skip)⟩
/-- one turn of _law_is -/
def xIs (b : Nat) : IE := .call b (.ac (.idx (.v 0) (.v 2)) (.ac (.idx (.v 1) (.v 2)) .an))
/-- _law_is, where _law_is_integer is the a-th, _law_is the b-th def -/
def tIs (a b : Nat) : Fd := ⟨2, 3,
  (.seq (.iff (.cmp .Is (.v 1) (.c .non)) (.seq (.ret (.cmp .Is (.v 0) (.c .non))) .skip) .skip) (.seq (.iff (.isi .bool (.v 1)) (.seq (.ret (.and (.isi .bool (.v 0)) (.cmp .Eq (.v 0) (.v 1)))) .skip) .skip) (.seq (.iff (.isi .int (.v 1)) (.seq (.ret (.and (.call a (.ac (.v 0) .an)) (.cmp .Eq (.v 0) (.v 1)))) .skip) .skip) (.seq (.iff (.isi .str (.v 1)) (.seq (.ret (.and (.isi .str (.v 0)) (.cmp .Eq (.v 0) (.v 1)))) .skip) .skip) (.seq (.iff (.or (.nt (.isi .tuple (.v 0))) (.cmp .NotEq (.bi .len (.ac (.v 0) .an)) (.bi .len (.ac (.v 1) .an)))) (.seq (.ret (.c (.bl false))) .skip) .skip) (.seq (.ret (.bi .all (.ac (.lc [2] (.one 2) (.rng (.ac (.bi .len (.ac (.v 1) .an)) .an)) .yes (xIs b)) .an))) .skip))))))⟩
section
variable {T : List Fd} {n : Nat}
theorem cell_run {k : Nat} (hT : T[k]? = some tCell) (ns : List Int) (i : Nat) (hi : i ≤ 1000) : ∃ z : Int, run T (n + 1) k [.ro (ns.map .int), .int i] = some (.int z) := by
  rw [run_of hT rfl]
  by_cases h : i < ns.length
  · refine ⟨ns[i], ?_⟩
    have h1 : ixD ns.length (i : Int) = some i := by
      unfold ixD
      rw [if_pos (by omega), if_pos (by omega)]
      rfl
    simp [tCell, exec, ev, fin, entry, eget, eset, biD, cmpD, cmpD0, idxD, List.length_map, h, h1]
  · refine ⟨5 * i + 3, ?_⟩
    have : small b64 5 = true := by decide
    simp [tCell, exec, ev, fin, entry, eget, eset, biD, cmpD, cmpD0, idxD, List.length_map, h, binD, this]
theorem okI {l : List Int} (h : l.length ≤ 100000) : okLen (l.map D.int) = true := okLen_of (by rw [List.length_map]; exact h)
theorem draws_turn {F : Nat → List D → Option D} (c m rest seed j : Int) (dg : Bool) (ds : List Int) (t : Sl) (hl : ds.length ≤ 1000) :
    ∃ (rest' x : Int) (t' : Sl), 0 ≤ x ∧ x < 5040 ∧ exec F gas0 bDraws [.sh (.int c), .sh (.int m), .sh (.int rest), .sh (.bl dg), .sh (.int seed), .ow (.lst (ds.map .int)), .sh (.int j), t] =
      some (.nx [.sh (.int c), .sh (.int m), .sh (.int rest'), .sh (.bl dg), .sh (.int seed), .ow (.lst ((ds ++ [x]).map .int)), .sh (.int j), t']) := by
  have ok : okLen (ds.map D.int) = true := okI (by omega)
  have s3 : small b64 48271 = true := by decide
  have s4 : small b64 69621 = true := by decide
  have s5 : small b64 40692 = true := by decide
  have s6 : small 1073741824 5040 = true := by decide
  have s7 : small 1073741824 64 = true := by decide
  have old : ∀ r : Bool, (dg = true ∧ 0 < rest) → _ := fun r c1 => (⟨rest / 5040, rest % 5040, t, by omega, by omega, by
      simp [bDraws, exec, ev, fin, eget, eset, biD, cmpD, cmpD0, binD, truD, s6, c1.1, c1.2, ok]⟩ : ∃ (rest' x : Int) (t' : Sl), 0 ≤ x ∧ x < 5040 ∧ exec F gas0 bDraws [.sh (.int c), .sh (.int m), .sh (.int rest), .sh (.bl dg), .sh (.int seed), .ow (.lst (ds.map .int)), .sh (.int j), t] =
      some (.nx [.sh (.int c), .sh (.int m), .sh (.int rest'), .sh (.bl dg), .sh (.int seed), .ow (.lst ((ds ++ [x]).map .int)), .sh (.int j), t']))
  by_cases c1 : dg = true ∧ 0 < rest
  · exact old true c1
  · have hm : ∀ z : Int, small b64 (z % 2147483647) = true := fun z => small_of' (by unfold b64; omega) (by unfold b64; omega)
    cases dg with
    | false =>
      exact ⟨rest, _, _, Int.emod_nonneg _ (by decide : (5040 : Int) ≠ 0), Int.emod_lt_of_pos _ (by decide), by
        simp [bDraws, exec, ev, fin, eget, eset, biD, cmpD, cmpD0, binD, truD, s3, s4, s5, s7, ok, hm]
        exact ⟨rfl, rfl⟩⟩
    | true =>
      have c2 : decide (0 < rest) = false := decide_eq_false fun z => c1 ⟨rfl, z⟩
      exact ⟨rest, _, _, Int.emod_nonneg _ (by decide : (5040 : Int) ≠ 0), Int.emod_lt_of_pos _ (by decide), by
        simp [bDraws, exec, ev, fin, eget, eset, biD, cmpD, cmpD0, binD, truD, s3, s4, s5, s7, ok, hm, c2]
        exact ⟨rfl, rfl⟩⟩
theorem draws_run {k : Nat} (hT : T[k]? = some tDraws) (c : Int) (m : Nat) (hm : m ≤ 1000) : ∃ ds : List Int, ds.length = m ∧ (∀ d ∈ ds, 0 ≤ d ∧ d < 5040) ∧ run T (n + 1) k [.int c, .int m] = some (.lst (ds.map .int)) := by
  have s1 : small 1000000 18 = true := by decide
  have s2 : small b64 10 = true := by decide
  have s8 : small b62 (m : Int) = true := small_of' (by unfold b62; omega) (by unfold b62; omega)
  obtain ⟨seed, hseed⟩ : ∃ z : Int, z = if c < 0 then -c else c := ⟨_, rfl⟩
  obtain ⟨dg, hdg⟩ : ∃ z : Bool, z = decide ((1000000000000000000 : Int) ≤ seed) := ⟨_, rfl⟩
  obtain ⟨o, ho, rest, ds, s, t, h1, h2, rfl⟩ := for_go (bd := exec (run T n) gas0 bDraws) (tp := .one 6)
    (fun i e => ∃ (rest : Int) (ds : List Int) (s t : Sl), ds.length = i ∧ (∀ d ∈ ds, 0 ≤ d ∧ d < 5040) ∧ e = [.sh (.int c), .sh (.int m), .sh (.int rest), .sh (.bl dg), .sh (.int seed), .ow (.lst (ds.map .int)), s, t])
    (fun o => ∃ (rest : Int) (ds : List Int) (s t : Sl), ds.length = m ∧ (∀ d ∈ ds, 0 ≤ d ∧ d < 5040) ∧ o = .nx [.sh (.int c), .sh (.int m), .sh (.int rest), .sh (.bl dg), .sh (.int seed), .ow (.lst (ds.map .int)), s, t])
    (upto m 0) 0 [.sh (.int c), .sh (.int m), .sh (.int seed), .sh (.bl dg), .sh (.int seed), .ow (.lst []), .no, .no] ⟨_, [], _, _, rfl, by simp, rfl⟩ (by
      rintro j d e hj ⟨rest, ds, s, t, h1, h2, rfl⟩
      have hjm : j < m := by
        have := (List.getElem?_eq_some_iff.mp hj).1
        rw [upto_len] at this
        exact this
      have hd := upto_get _ _ _ _ hj
      subst hd
      obtain ⟨rest', x, t', h3, h4, h5⟩ := draws_turn (F := run T n) c m rest seed (0 + j) dg ds t (by omega)
      refine ⟨_, .nx _, rfl, h5, rest', ds ++ [x], _, t', by simp [h1], ?_, rfl⟩
      intro d hd
      rcases List.mem_append.mp hd with hd | hd
      · exact h2 d hd
      · simp at hd; subst hd; exact ⟨h3, h4⟩) (by
      rintro e ⟨rest, ds, s, t, h1, h2, rfl⟩
      exact ⟨rest, ds, s, t, by rw [h1, upto_len]; omega, h2, rfl⟩)
  refine ⟨ds, h1, h2, run_rt hT rfl ?_⟩
  subst hdg hseed
  simp [tDraws, exec, ev, fin, entry, eget, eset, biD, cmpD, cmpD0, binD, rngD, walkD, hasB, s1, s2, s8, List.replicate, ho]
theorem isInt_run {k : Nat} (hT : T[k]? = some tIsInt) (v : D) (hv : notDic v = true) : run T (n + 1) k [v] = some (.bl (match v with | .int _ => true | _ => false)) := by
  rw [run_of hT rfl]
  cases v <;> first | (cases hv; done) | simp [tIsInt, exec, ev, fin, entry, eget, eset, isTy, notDic, truD]
mutual
/-- what _law_is says: None, bools, ints, texts, and tuples of these -/
def isD : D → D → Bool
  | v, .non => (match v with | .non => true | _ => false)
  | v, .bl b => (match v with | .bl c => c == b | _ => false)
  | v, .int i => (match v with | .int j => j == i | _ => false)
  | v, .str s => (match v with | .str t => t == s | _ => false)
  | v, .tup ds => (match v with | .tup vs => isDs vs ds | _ => false)
  | _, _ => false
def isDs : List D → List D → Bool
  | [], [] => true
  | v :: vs, d :: ds => isD v d && isDs vs ds
  | _, _ => false
end
mutual
def dueOk : Nat → D → Bool
  | _, .non => true
  | _, .bl _ => true
  | _, .int _ => true
  | _, .str _ => true
  | n + 1, .tup ds => Nat.ble ds.length 100000 && duesOk n ds
  | _, _ => false
def duesOk : Nat → List D → Bool
  | _, [] => true
  | n, d :: ds => dueOk n d && duesOk n ds
end
theorem duesOk_get : ∀ {n : Nat} {ds : List D} {i : Nat} {d : D}, duesOk n ds = true → ds[i]? = some d → dueOk n d = true
  | _, [], _, _, _, h => by simp at h
  | _, _ :: _, 0, _, h, e => by
    unfold duesOk at h
    rw [Bool.and_eq_true] at h
    simp at e
    subst e
    exact h.1
  | _, _ :: _, i + 1, _, h, e => by
    unfold duesOk at h
    rw [Bool.and_eq_true] at h
    exact duesOk_get h.2 (by simpa using e)
theorem bsOf_map {α : Type} (g : α → Bool) : ∀ l : List α, bsOf (l.map fun x => D.bl (g x)) = some (l.map g)
  | [] => rfl
  | x :: r => by
    simp only [List.map_cons, bsOf, bsOf_map g r, Option.map_some]
theorem isDs_len : ∀ {vs ds : List D}, vs.length ≠ ds.length → isDs vs ds = false
  | [], [], h => absurd rfl h
  | [], _ :: _, _ => rfl
  | _ :: _, [], _ => rfl
  | v :: vs, d :: ds, h => by
    unfold isDs
    rw [isDs_len (fun e => h (by simp [e])), Bool.and_false]
theorem isDs_all : ∀ {vs ds : List D}, vs.length = ds.length → isDs vs ds = (List.range ds.length).all fun i => isD (vs.getD i .non) (ds.getD i .non)
  | [], [], _ => rfl
  | v :: vs, d :: ds, h => by
    unfold isDs
    rw [isDs_all (by simpa using h), List.length_cons, List.range_succ_eq_map, List.all_cons, List.all_map]
    rfl
theorem ixD_nat {n i : Nat} (h : i < n) : ixD n (i : Int) = some i := by
  unfold ixD
  rw [if_pos (by omega), if_pos (by omega)]
  rfl
theorem upto_mem {n : Nat} {d : D} (h : d ∈ upto n 0) : ∃ i, i < n ∧ d = .int (i : Int) := by
  rw [upto_eq] at h
  obtain ⟨i, h1, h2⟩ := List.mem_map.mp h
  exact ⟨i, List.mem_range.mp h1, by rw [← h2]; simp⟩
theorem noDics_get : ∀ {l : List D}, noDics l = true → ∀ {d : D}, d ∈ l → noDic d = true
  | a :: r, h, d, hd => by
    unfold noDics at h
    rw [Bool.and_eq_true] at h
    rcases List.mem_cons.mp hd with rfl | hd
    · exact h.1
    · exact noDics_get h.2 hd
theorem noDics_of : ∀ {l : List D}, (∀ d ∈ l, noDic d = true) → noDics l = true
  | [], _ => rfl
  | a :: r, h => by
    unfold noDics
    rw [h a (by simp), noDics_of fun d hd => h d (by simp [hd])]
    rfl
theorem noDics_map {α : Type} {f : α → D} (h : ∀ x, noDic (f x) = true) (l : List α) : noDics (l.map f) = true := noDics_of fun d hd => by
  obtain ⟨x, _, rfl⟩ := List.mem_map.mp hd
  exact h x
theorem is_run {k a : Nat} (hI : T[a]? = some tIsInt) (hT : T[k]? = some (tIs a k)) : ∀ (N m : Nat) (v due : D), dueOk m due = true → m + 2 ≤ N → (hv : noDic v = true := by rfl) → run T N k [v, due] = some (.bl (isD v due))
  | 0, m, v, due, hd, hN, _ => by omega
  | 1, m, v, due, hd, hN, _ => by omega
  | N + 2, m, v, due, hd, hN, hv => by
    rw [run_of hT rfl]
    have hI' := fun (v : D) (hv : noDic v = true) => isInt_run (n := N) hI v (by cases v <;> first | rfl | (unfold noDic at hv; cases hv))
    cases due with
    | tup ds =>
      cases m with
      | zero => unfold dueOk at hd; cases hd
      | succ m =>
        unfold dueOk at hd
        rw [Bool.and_eq_true] at hd
        have hl := Nat.le_of_ble_eq_true hd.1
        have s1 : small b62 (ds.length : Int) = true := small_of' (by unfold b62; omega) (by unfold b62; omega)
        have s2 : okLen (upto ds.length 0) = true := okLen_of (by rw [upto_len]; exact hl)
        cases v with
        | tup vs =>
          by_cases hlen : vs.length = ds.length
          · have hlc : lcGo (fun _ => some (.bl true)) (ev (run T (N + 1)) (xIs k) false) (.one 2) [.sh (.tup vs), .sh (.tup ds), .no] (upto ds.length 0) = some ((upto ds.length 0).map fun d => .bl (match d with | .int i => isD ((vs[i.toNat]?.getD .non)) ((ds[i.toNat]?.getD .non)) | _ => false)) := by
              refine lc_map _ _ fun d hd' => ?_
              obtain ⟨i, hi, rfl⟩ := upto_mem hd'
              refine ⟨_, rfl, ?_⟩
              have hi2 : i < vs.length := by omega
              have ih := is_run hI hT (N + 1) m vs[i] ds[i] (duesOk_get hd.2 (List.getElem?_eq_getElem hi)) (by omega) (noDics_get (by unfold noDic at hv; exact hv) (List.getElem_mem hi2))
              simp [xIs, ev, fin, eget, eset, hasB, idxD, ixD_nat hi, ixD_nat hi2, hi, hi2, ih]
            have hb := bsOf_map (fun d : D => match d with | .int i => isD ((vs[i.toNat]?.getD .non)) ((ds[i.toNat]?.getD .non)) | _ => false) (upto ds.length 0)
            have hb2 : (((upto ds.length 0).map fun d => match d with | .int i => isD ((vs[i.toNat]?.getD .non)) ((ds[i.toNat]?.getD .non)) | _ => false).all id) = isDs vs ds := by
              rw [isDs_all hlen, List.all_map, upto_eq, List.all_map]
              congr 1
              funext i
              simp
            simp [tIs, exec, ev, fin, entry, eget, eset, isTy, notDic, truD, cmpD, cmpD0, hasB, biD, isD, eqD, flat, wipeE, rngD, walkD, s1, hlen, hlc, hb, okLen_of, upto_len, hl]
            simp only [List.all_map, Function.id_comp] at hb2
            simpa using hb2
          · have hlen2 : ((vs.length : Int) == (ds.length : Int)) = false := by rw [beq_eq_false_iff_ne]; omega
            simp [tIs, exec, ev, fin, entry, eget, eset, isTy, notDic, truD, cmpD, cmpD0, hasB, biD, isD, eqD, flat, hlen2, isDs_len hlen]
        | dic _ _ => unfold noDic at hv; cases hv
        | _ => simp [tIs, exec, ev, fin, entry, eget, eset, isTy, notDic, truD, cmpD, cmpD0, hasB, isD, eqD, flat]
    | _ => cases v <;> first | (unfold noDic at hv; cases hv; done) | (have hI2 := hI' _ hv; simp [tIs, exec, ev, fin, entry, eget, eset, isTy, notDic, truD, cmpD, cmpD0, hasB, hI2, isD, eqD, flat, dueOk] at hd ⊢)
end
end Tl

/-! T17: counts of signs; facts that the laws share. -/
namespace Tl
open PySem L2
theorem at_one (s : List Nat) (ch j : Nat) : PySem.StrLaws.At (⟨s.toArray⟩ : Str) ⟨#[ch]⟩ (Str.length ⟨s.toArray⟩) j ↔ s[j]? = some ch := by
  unfold PySem.StrLaws.At
  rw [strLen]
  show j + 1 ≤ s.length ∧ _ ↔ _
  constructor
  · rintro ⟨h1, h2⟩
    have := (subAt_iff s [ch] j h1).mp h2
    simp only [List.length_singleton] at this
    have h3 := congrArg (fun l => l[0]?) this
    simpa using h3
  · intro e
    have hlt : j < s.length := (List.getElem?_eq_some_iff.mp e).1
    refine ⟨hlt, (subAt_iff s [ch] j hlt).mpr ?_⟩
    simp only [List.length_singleton]
    rw [List.drop_eq_getElem_cons hlt]
    have := (List.getElem?_eq_some_iff.mp e).2
    simp [this]
theorem occ_count (s : List Nat) (ch : Nat) : ∀ (n a : Nat) (st : Array Nat × Nat), a + n = s.length + 1 → st.2 ≤ a → st.1.size ≤ a →
    (forIn (List.range' a n) st (PySem.StrLaws.occBody ⟨s.toArray⟩ ⟨#[ch]⟩ (Str.length ⟨s.toArray⟩) (s.length + 1))).run.fst.size = st.1.size + (s.drop a).count ch
  | 0, a, st, h, _, _ => by
    rw [List.drop_eq_nil_of_le (by omega)]
    rfl
  | n + 1, a, st, h, h1, h2 => by
    rw [List.range'_succ, List.forIn_cons]
    have hb : PySem.StrLaws.occBody ⟨s.toArray⟩ ⟨#[ch]⟩ (Str.length ⟨s.toArray⟩) (s.length + 1) a st = pure (ForInStep.yield (if s[a]? = some ch then (st.1.push a, a + 1) else st)) := by
      unfold PySem.StrLaws.occBody
      have hat := at_one s ch a
      unfold PySem.StrLaws.At at hat
      by_cases hc : s[a]? = some ch
      · have hlt : a < s.length := (List.getElem?_eq_some_iff.mp hc).1
        rw [if_pos ⟨⟨⟨by omega, h1⟩, (hat.mpr hc).1⟩, (hat.mpr hc).2⟩, if_pos hc]
        rfl
      · rw [if_neg (fun z => hc (hat.mp ⟨z.1.2, z.2⟩)), if_neg hc]
    rw [hb]
    show (forIn (List.range' (a + 1) n) (if s[a]? = some ch then (st.1.push a, a + 1) else st) (PySem.StrLaws.occBody ⟨s.toArray⟩ ⟨#[ch]⟩ (Str.length ⟨s.toArray⟩) (s.length + 1))).run.fst.size = _
    by_cases hc : s[a]? = some ch
    · have hlt : a < s.length := (List.getElem?_eq_some_iff.mp hc).1
      rw [if_pos hc, occ_count s ch n (a + 1) _ (by omega) (Nat.le_refl _) (by simp; omega), List.drop_eq_getElem_cons hlt, (List.getElem?_eq_some_iff.mp hc).2]
      simp
      omega
    · rw [if_neg hc, occ_count s ch n (a + 1) _ (by omega) (by omega) (by omega)]
      by_cases hlt : a < s.length
      · have hne : s[a] ≠ ch := fun e => hc (by rw [List.getElem?_eq_getElem hlt, e])
        rw [List.drop_eq_getElem_cons hlt, List.count_cons_of_ne hne]
      · rw [List.drop_eq_nil_of_le (by omega), List.drop_eq_nil_of_le (by omega)]
/-- text.count of one sign -/
theorem count_one (s : List Nat) (ch : Nat) : PySem.Txt.count ⟨s.toArray⟩ ⟨[ch].toArray⟩ = (s.count ch : Nat) := by
  unfold PySem.Txt.count
  rw [PySem.StrLaws.occ_eq]
  have h := occ_count s ch (s.length + 1) 0 (#[], 0) (by omega) (Nat.le_refl _) (Nat.le_refl _)
  rw [strLen] at h ⊢
  simp only [Nat.sub_zero]
  have e : (⟨[ch].toArray⟩ : Str) = ⟨#[ch]⟩ := rfl
  rw [e, Array.length_toList, h]
  simp
/-! ### facts that the laws share -/
theorem strs_map {α : Type} (g : α → List Nat) : ∀ l : List α, strsOf (l.map fun x => D.str (g x)) = some (l.map g)
  | [] => rfl
  | x :: r => by simp only [List.map_cons, strsOf, strs_map g r, Option.map_some]
theorem join_nil {α : Type} (g : α → Nat) : ∀ l : List α, joinL [] (l.map fun x => [g x]) = l.map g
  | [] => rfl
  | [x] => rfl
  | x :: y :: r => by
    have := join_nil g (y :: r)
    simp only [List.map_cons] at this ⊢
    unfold joinL
    rw [this]
    rfl
theorem join_me {α : Type} (g : α → Nat) (l : List α) (h : l.length ≤ 100000) : meD .join (.str []) [.lst (l.map fun x => D.str [g x])] = some (.str (l.map g)) := by
  have h1 := strs_map (fun x : α => [g x]) l
  unfold meD
  simp only [h1, join_nil]
  rw [if_pos]
  simp [okLen_of, h]
theorem cut_pre {s : List Nat} {i : Nat} (h : i ≤ s.length) : cutL s none (some (i : Int)) = s.take i := by
  unfold cutL sIx
  simp only
  rw [if_neg (by omega), List.drop_zero]
  congr 1
  omega
theorem cut_suf {s : List Nat} {i : Nat} (h : i ≤ s.length) : cutL s (some (i : Int)) none = s.drop i := by
  unfold cutL sIx
  simp only
  rw [if_neg (by omega)]
  have e : min (i : Int).toNat s.length = i := by omega
  rw [e]
  apply List.take_of_length_le
  rw [List.length_drop]
  exact Nat.le_refl _
/-- draws: a list of ints below 5040 -/
structure Dr (ds : List Int) (m : Nat) : Prop where
  len : ds.length = m
  bd : ∀ d ∈ ds, 0 ≤ d ∧ d < 5040
theorem Dr.at {ds : List Int} {m : Nat} (h : Dr ds m) {z : Int} (h0 : 0 ≤ z) (h1 : z < m) : ∃ x : Int, 0 ≤ x ∧ x < 5040 ∧ idxD (.lst (ds.map .int)) (.int z) = some (.int x) := by
  obtain ⟨i, rfl⟩ := Int.eq_ofNat_of_zero_le h0
  have hi : i < ds.length := by rw [h.len]; omega
  refine ⟨ds[i], (h.bd _ (List.getElem_mem hi)).1, (h.bd _ (List.getElem_mem hi)).2, ?_⟩
  show ((ixD (ds.map D.int).length (i : Int)).bind fun j => (ds.map D.int)[j]?) = _
  rw [List.length_map, ixD_nat hi]
  simp [hi]
theorem Dr.cut {ds : List Int} {m : Nat} (h : Dr ds m) {a b : Int} (h0 : 0 ≤ a) (h1 : a ≤ b) (h2 : b ≤ m) : ∃ ws : List Int, Dr ws (b - a).toNat ∧ slcD (.lst (ds.map .int)) (some a) (some b) = some (.lst (ws.map .int)) := by
  obtain ⟨i, rfl⟩ := Int.eq_ofNat_of_zero_le h0
  obtain ⟨j, rfl⟩ := Int.eq_ofNat_of_zero_le (Int.le_trans h0 h1)
  have hl := h.len
  refine ⟨(ds.drop i).take (j - i), ⟨by rw [List.length_take, List.length_drop]; omega, fun d hd => h.bd d (List.mem_of_mem_drop (List.mem_of_mem_take hd))⟩, ?_⟩
  unfold slcD
  simp only
  rw [cut_nat (by omega) (by rw [List.length_map]; omega), ← List.map_drop, ← List.map_take]
theorem draws_at {T : List Fd} {n k : Nat} (hT : T[k]? = some tDraws) (c : Int) (m : Nat) (hm : m ≤ 1000) : ∃ ds : List Int, Dr ds m ∧ run T (n + 1) k [.int c, .int m] = some (.lst (ds.map .int)) := by
  obtain ⟨ds, h1, h2, h3⟩ := draws_run (T := T) (n := n) (k := k) hT c m hm
  exact ⟨ds, ⟨h1, h2⟩, h3⟩
theorem cut_len {α : Type} (s : List α) (lo hi : Option Int) : (cutL s lo hi).length ≤ s.length := by
  unfold cutL
  rw [List.length_take, List.length_drop]
  omega
theorem last_ix (l : List D) (x : D) : idxD (.lst (l ++ [x])) (.int (-1)) = some x := by
  show ((ixD (l ++ [x]).length (-1)).bind fun j => (l ++ [x])[j]?) = _
  have : ixD (l ++ [x]).length (-1) = some l.length := by
    unfold ixD
    rw [List.length_append, List.length_singleton, if_neg (by omega), if_pos (by omega)]
    congr 1
    omega
  rw [this]
  simp
end Tl

/-! T18: rows of texts: min, sorted, set. -/
namespace Tl
open PySem
/-! ### walking -/
def nats (l : List Nat) : List D := l.map fun (n : Nat) => D.int n
theorem nats_len (l : List Nat) : (nats l).length = l.length := by unfold nats; rw [List.length_map]
theorem nats_filter (p : Nat → Bool) (q : D → Bool) (h : ∀ n : Nat, q (.int (n : Nat)) = p n) : ∀ l : List Nat, (nats l).filter q = nats (l.filter p)
  | [] => rfl
  | x :: r => by
    show (D.int (x : Nat) :: nats r).filter q = _
    rw [List.filter_cons, List.filter_cons, h x, nats_filter p q h r]
    split <;> rfl
theorem upto_nats (n a : Nat) : upto n (a : Int) = nats ((List.range n).map (a + ·)) := by
  rw [upto_eq]
  unfold nats
  rw [List.map_map]
  apply List.map_congr_left
  intro i _
  simp
theorem upto_nats0 (n : Nat) : upto n 0 = nats (List.range n) := by
  have := upto_nats n 0
  rw [show (List.range n).map (0 + ·) = List.range n by simp] at this
  exact this
theorem mem_nats {l : List Nat} {d : D} (h : d ∈ nats l) : ∃ n ∈ l, d = .int (n : Nat) := by
  unfold nats at h
  obtain ⟨n, h1, h2⟩ := List.mem_map.mp h
  exact ⟨n, h1, h2.symm⟩
def onN (p : Nat → Bool) : D → Bool
  | .int i => p i.toNat
  | _ => false
theorem onN_nat (p : Nat → Bool) (n : Nat) : onN p (.int (n : Nat)) = p n := by simp [onN]
theorem lc_ev {F : Nat → List D → Option D} {own : List Nat} {tp : TP} {it c x : IE} {e : En} {d : D} {ds ys : List D} (h1 : ev F it false e = some d) (hw : walkD d = some ds) (h2 : lcGo (ev F c true) (ev F x false) tp (wipeE e own) ds = some ys) (ok : okLen ys = true) : ev F (.lc own tp it c x) false e = some (.lst ys) := by
  unfold ev
  simp only [h1, hw, h2, ok, if_true, fin, Bool.false_eq_true, if_false]
theorem seq_nx {F : Nat → List D → Option D} {gas : Nat} {s t : IS} {e e1 : En} {r : Option Out} (h : exec F gas s e = some (.nx e1)) (h2 : exec F gas t e1 = r) : exec F gas (.seq s t) e = r := by
  simp only [exec, h, h2]
theorem for_ev {F : Nat → List D → Option D} {gas : Nat} {tp : TP} {it : IE} {s : IS} {e : En} {d : D} {ds : List D} {r : Option Out} (h1 : ev F it false e = some d) (hw : walkD d = some ds) (h2 : forGo (exec F gas s) tp ds e = r) : exec F gas (.for tp it s) e = r := by
  simp only [exec, h1, hw, h2]
theorem lc_two {F : Nat → List D → Option D} {x : IE} {tp : TP} {e : En} (g : Nat → List Nat) (n : Nat) (h : ∀ i, i < n → ∃ e1, bindT tp (.int (i : Nat)) e = some e1 ∧ ev F x false e1 = some (.str (g i))) : lcGo (fun _ => some (.bl true)) (ev F x false) tp e (upto n 0) = some (((List.range n).map g).map .str) := by
  rw [upto_nats0]
  refine (lc_map (fun d => match d with | .int i => .str (g i.toNat) | d => d) _ fun d hd => ?_).trans ?_
  · obtain ⟨i, hi, rfl⟩ := mem_nats hd
    exact h i (List.mem_range.mp hi)
  · unfold nats
    rw [List.map_map, List.map_map]
    congr 1
theorem idx_str {s : List Nat} {i : Nat} (h : i < s.length) (hs : s.length ≤ 100000) : idxD (.str s) (.int (i : Int)) = some (.str [s.getD i 0]) := by
  show (if okLen s then ((ixD s.length (i : Int)).bind fun j => s[j]?).map fun c => D.str [c] else none) = _
  rw [if_pos (okLen_of hs), ixD_nat h]
  show (s[i]?).map _ = _
  rw [List.getD_eq_getElem?_getD, List.getElem?_eq_getElem h]
  rfl
/-- a text joined of signs -/
theorem join_ev {F : Nat → List D → Option D} {own : List Nat} {k : Nat} {x : IE} {e : En} {n : Nat} {it : IE} (P : Nat → Prop) (hn : n ≤ 1000) (hit : ev F it false e = some (.lst (upto n 0)))
    (h : ∀ i, i < n → ∃ c, P c ∧ ∃ e1, bindT (.one k) (.int (i : Nat)) (wipeE e own) = some e1 ∧ ev F x false e1 = some (.str [c])) :
    ∃ s : List Nat, s.length = n ∧ (∀ c ∈ s, P c) ∧ ev F (.me .join (.c (.str [])) (.ac (.lc own (.one k) it .yes x) .an)) false e = some (.str s) := by
  obtain ⟨g, hg⟩ : ∃ g : Nat → Nat, ∀ i, i < n → P (g i) ∧ ∃ e1, bindT (.one k) (.int (i : Nat)) (wipeE e own) = some e1 ∧ ev F x false e1 = some (.str [g i]) :=
    ⟨fun i => if hi : i < n then Classical.choose (h i hi) else 0, fun i hi => by
      simp only [hi, dif_pos]
      exact Classical.choose_spec (h i hi)⟩
  have hlc : ev F (.lc own (.one k) it .yes x) false e = some (.lst ((List.range n).map fun i => D.str [g i])) := by
    refine lc_ev (d := .lst (upto n 0)) (ds := upto n 0) hit rfl ?_ (okLen_of (by rw [List.length_map, List.length_range]; omega))
    refine (lc_two (fun i => [g i]) n fun i hi => (hg i hi).2).trans ?_
    rw [List.map_map]
    rfl
  refine ⟨(List.range n).map g, by rw [List.length_map, List.length_range], fun c hc => ?_, ?_⟩
  · obtain ⟨i, hi, rfl⟩ := List.mem_map.mp hc
    exact (hg i (List.mem_range.mp hi)).1
  · have hj := join_me g (List.range n) (by rw [List.length_range]; omega)
    generalize IE.lc own (.one k) it .yes x = q at hlc ⊢
    simp only [ev, fin, Bool.false_eq_true, if_false, hlc, hj]
theorem cut_mem {α : Type} {s : List α} {lo hi : Option Int} {x : α} (h : x ∈ cutL s lo hi) : x ∈ s := List.mem_of_mem_drop (List.mem_of_mem_take h)
/-! ### texts -/
def Chr (W : List (List Nat)) : Prop := ∀ w ∈ W, ∀ c ∈ w, c < 1114112
theorem t_flat : ∀ (k : Nat) (r : List Nat), (∀ c ∈ r, c < 1114112) → flat k (.str r) = true := fun k r h => by
  have : (r.all fun c => Nat.blt c 1114112) = true := List.all_eq_true.mpr fun c hc => Nat.ble_eq_true_of_le (h c hc)
  cases k <;> exact this
theorem t_flats : ∀ (k : Nat) (rows : List (List Nat)), Chr rows → flats k (rows.map .str) = true
  | _, [], _ => rfl
  | k, r :: q, h => by
    show (flat k (.str r) && flats k (q.map .str)) = true
    rw [t_flats k q fun x hx => h x (by simp [hx]), Bool.and_true]
    exact t_flat k r (h r (by simp))
theorem t_allS (W : List (List Nat)) : (W.map D.str).all isS = true := by
  rw [List.all_eq_true]
  intro y hy
  obtain ⟨w, _, rfl⟩ := List.mem_map.mp hy
  rfl
theorem t_like (W : List (List Nat)) : likeOk (W.map D.str) = true := by
  unfold likeOk
  rw [t_allS, Bool.or_true, Bool.true_or]
theorem t_lt (a b : List Nat) : ltP (.str a) (.str b) = decide (a < b) := by
  unfold ltP toP
  rw [PySem.W.dataLt_str]
theorem t_le (a b : List Nat) : leD (.str a) (.str b) = decide (a ≤ b) := by
  show (!PySem.W.dataLt (toP (.str b)) (toP (.str a))) = _
  have := t_lt b a
  unfold ltP at this
  rw [this, PySem.W.not_lt_str]
def minT : List (List Nat) → List Nat
  | [] => []
  | x :: xs => xs.foldl (fun a y => if y < a then y else a) x
theorem minL_strs : ∀ (xs : List (List Nat)) (x : List Nat), minL (.str x) (xs.map D.str) = .str (xs.foldl (fun a y => if y < a then y else a) x)
  | [], _ => rfl
  | y :: ys, x => by
    rw [List.map_cons]
    show minL (if ltP (.str y) (.str x) = true then .str y else .str x) (ys.map D.str) = _
    rw [t_lt, List.foldl_cons]
    by_cases h : y < x
    · rw [decide_eq_true h, if_pos rfl, if_pos h]
      exact minL_strs ys y
    · rw [decide_eq_false h, if_neg Bool.false_ne_true, if_neg h]
      exact minL_strs ys x
theorem t_min {W : List (List Nat)} (hW : W ≠ []) (hc : Chr W) : biD .min [.lst (W.map .str)] = some (.str (minT W)) := by
  cases W with
  | nil => exact absurd rfl hW
  | cons x xs =>
    show (if flats 40 ((x :: xs).map D.str) && likeOk ((x :: xs).map D.str) && ((x :: xs).map D.str).all notNon then some (minL (.str x) (xs.map D.str)) else none) = _
    have a : ((x :: xs).map D.str).all notNon = true := by
      rw [List.all_eq_true]
      intro y hy
      obtain ⟨w, _, rfl⟩ := List.mem_map.mp hy
      rfl
    rw [t_flats 40 _ hc, t_like, a, minL_strs]
    rfl
theorem t_min2 {a b : List Nat} (ha : ∀ c ∈ a, c < 1114112) (hb : ∀ c ∈ b, c < 1114112) : biD .min [.str a, .str b] = some (.str (if b < a then b else a)) := by
  show (if flat 40 (.str a) && (flat 40 (.str b) && true) then some (D.str (if ltP (.str b) (.str a) then b else a)) else none) = _
  rw [t_flat 40 a ha, t_flat 40 b hb, t_lt]
  simp
theorem min_fold : ∀ (xs : List (List Nat)) (x : List Nat), xs.foldl (fun a y => if y < a then y else a) x ∈ x :: xs ∧ ∀ y ∈ x :: xs, xs.foldl (fun a y => if y < a then y else a) x ≤ y
  | [], x => ⟨by simp, fun y hy => by
    rw [List.mem_singleton] at hy
    rw [hy]
    exact List.le_refl x⟩
  | z :: zs, x => by
    rw [List.foldl_cons]
    by_cases h : z < x
    · rw [if_pos h]
      obtain ⟨h1, h2⟩ := min_fold zs z
      refine ⟨List.mem_cons_of_mem _ h1, fun y hy => ?_⟩
      rcases List.mem_cons.mp hy with rfl | hy
      · exact List.le_trans (h2 z (by simp)) (List.le_of_lt h)
      · exact h2 y hy
    · rw [if_neg h]
      obtain ⟨h1, h2⟩ := min_fold zs x
      refine ⟨?_, fun y hy => ?_⟩
      · rcases List.mem_cons.mp h1 with h1 | h1
        · rw [h1]; simp
        · simp [h1]
      · rcases List.mem_cons.mp hy with rfl | hy
        · exact h2 _ (by simp)
        · rcases List.mem_cons.mp hy with rfl | hy
          · exact List.le_trans (h2 x (by simp)) (List.not_lt.mp h)
          · exact h2 y (by simp [hy])
theorem minT_mem {W : List (List Nat)} (hW : W ≠ []) : minT W ∈ W := by
  cases W with
  | nil => exact absurd rfl hW
  | cons x xs => exact (min_fold xs x).1
theorem minT_le {W : List (List Nat)} {y : List Nat} (hy : y ∈ W) : minT W ≤ y := by
  cases W with
  | nil => cases hy
  | cons x xs => exact (min_fold xs x).2 y hy
theorem minT_is {W : List (List Nat)} {m : List Nat} (hm : m ∈ W) (h : ∀ y ∈ W, m ≤ y) : minT W = m :=
  List.le_antisymm (minT_le hm) (h _ (minT_mem (fun e => by rw [e] at hm; cases hm)))
/-- sets in order -/
def ins1 (x : List Nat) : List (List Nat) → List (List Nat)
  | [] => [x]
  | y :: r => if x ≤ y then x :: y :: r else y :: ins1 x r
def insT : List (List Nat) → List (List Nat)
  | [] => []
  | x :: r => ins1 x (insT r)
theorem ins1_perm (x : List Nat) : ∀ r, (ins1 x r).Perm (x :: r)
  | [] => List.Perm.refl _
  | y :: r => by
    unfold ins1
    split
    · exact List.Perm.refl _
    · exact ((ins1_perm x r).cons y).trans (List.Perm.swap x y r)
theorem insT_perm : ∀ r, (insT r).Perm r
  | [] => List.Perm.refl _
  | x :: r => (ins1_perm x _).trans ((insT_perm r).cons x)
theorem ins1_sorted (x : List Nat) : ∀ r : List (List Nat), r.Pairwise (· ≤ ·) → (ins1 x r).Pairwise (· ≤ ·)
  | [], _ => by simp [ins1]
  | y :: r, h => by
    rw [List.pairwise_cons] at h
    unfold ins1
    split
    · rename_i hxy
      refine List.pairwise_cons.mpr ⟨fun z hz => ?_, List.pairwise_cons.mpr h⟩
      rcases List.mem_cons.mp hz with rfl | hz
      · exact hxy
      · exact List.le_trans hxy (h.1 z hz)
    · rename_i hxy
      refine List.pairwise_cons.mpr ⟨fun z hz => ?_, ins1_sorted x r h.2⟩
      rcases List.mem_cons.mp ((ins1_perm x r).mem_iff.mp hz) with rfl | hz
      · rcases List.le_total y z with g | g
        · exact g
        · exact absurd g hxy
      · exact h.1 z hz
theorem insT_sorted : ∀ r, (insT r).Pairwise (· ≤ ·)
  | [] => List.Pairwise.nil
  | x :: r => ins1_sorted x _ (insT_sorted r)
theorem sort_ins (W : List (List Nat)) : (W.mergeSort fun a b => decide (a ≤ b)) = insT W := by
  have h := List.pairwise_mergeSort (le := fun a b : List Nat => decide (a ≤ b)) (fun a b c h1 h2 => decide_eq_true (List.le_trans (of_decide_eq_true h1) (of_decide_eq_true h2)))
    (fun a b => by rcases List.le_total a b with h | h <;> simp [h]) W
  refine List.Perm.eq_of_pairwise (le := fun a b : List Nat => a ≤ b) (fun a b _ _ h1 h2 => List.le_antisymm h1 h2) (h.imp fun z => of_decide_eq_true z) (insT_sorted W) ((List.mergeSort_perm _ _).trans (insT_perm W).symm)
theorem msort_strs (W : List (List Nat)) : (W.map D.str).mergeSort leD = (insT W).map D.str := by
  rw [← sort_ins W, List.map_mergeSort (s := leD)]
  intro x _ y _
  rw [t_le]
theorem t_sorted (W : List (List Nat)) (hc : Chr W) (hl : W.length ≤ 100000) : biD .sorted [.lst (W.map D.str)] = some (.lst ((insT W).map D.str)) := by
  have c : (W.map D.str).all plainK = true := by
    rw [List.all_eq_true]
    intro y hy
    obtain ⟨w, _, rfl⟩ := List.mem_map.mp hy
    rfl
  have ok : okLen (W.map D.str) = true := okLen_of (by rw [List.length_map]; omega)
  show (if flats 40 (W.map D.str) && okLen (W.map D.str) && likeOk (W.map D.str) && ((W.map D.str).all tupNe || ((W.map D.str).all plainK || tupE (W.map D.str))) then some (D.lst ((W.map D.str).mergeSort leD)) else none) = _
  rw [t_flats 40 W hc, t_like, c, ok, Bool.true_or, Bool.or_true, msort_strs]
  rfl
/-- one of each kind -/
def ddT : List (List Nat) → List (List Nat)
  | [] => []
  | x :: r => if r.contains x then ddT r else x :: ddT r
theorem uniq_strs : ∀ W : List (List Nat), uniq (W.map D.str) = (ddT W).map D.str
  | [] => rfl
  | x :: r => by
    have e : ((r.map D.str).any (eqD (.str x))) = r.contains x := by
      rw [List.any_map, Bool.eq_iff_iff, List.any_eq_true, List.contains_iff_mem]
      constructor
      · rintro ⟨y, hy, h⟩
        have h : (x == y) = true := h
        rw [eq_of_beq h]
        exact hy
      · intro h
        exact ⟨x, h, beq_self_eq_true x⟩
    rw [List.map_cons]
    unfold uniq ddT
    rw [e, uniq_strs r]
    split <;> rfl
theorem ddT_mem : ∀ (W : List (List Nat)) x, x ∈ ddT W ↔ x ∈ W
  | [], _ => Iff.rfl
  | y :: r, x => by
    unfold ddT
    split
    · rename_i h
      rw [ddT_mem r, List.mem_cons]
      constructor
      · exact .inr
      · rintro (rfl | h2)
        · exact List.contains_iff_mem.mp h
        · exact h2
    · rw [List.mem_cons, List.mem_cons, ddT_mem r]
theorem ddT_nodup : ∀ W : List (List Nat), (ddT W).Nodup
  | [] => List.nodup_nil
  | y :: r => by
    unfold ddT
    split
    · exact ddT_nodup r
    · rename_i h
      exact List.nodup_cons.mpr ⟨fun z => h (List.contains_iff_mem.mpr ((ddT_mem r y).mp z)), ddT_nodup r⟩
theorem ddT_len {W V : List (List Nat)} (nd : V.Nodup) (h : ∀ x, x ∈ V ↔ x ∈ W) : (ddT W).length = V.length :=
  ((List.perm_ext_iff_of_nodup (ddT_nodup W) nd).mpr fun x => (ddT_mem W x).trans (h x).symm).length_eq
theorem t_set (so : Bool) (W : List (List Nat)) (hl : W.length ≤ 4000) : setF so (.lst (W.map D.str)) = some (if so then D.lst ((insT (ddT W)).map D.str) else D.int (ddT W).length) := by
  show (if Nat.ble (W.map D.str).length 4000 && ((W.map D.str).all isI || (W.map D.str).all isS) then some (if so then D.lst ((uniq (W.map D.str)).mergeSort leD) else D.int (uniq (W.map D.str)).length) else if Nat.ble (W.map D.str).length 63 && (W.map D.str).all isTI && (!so || (W.map D.str).all tupNe) then some (if so then D.lst ((uniq (W.map D.str)).mergeSort leD) else D.int (uniq (W.map D.str)).length) else none) = _
  rw [t_allS, Bool.or_true, List.length_map, Nat.ble_eq_true_of_le hl, uniq_strs, msort_strs, List.length_map]
  rfl
end Tl

/-! T19: rows of ints; dicts whose keys are ints. -/
namespace Tl
open PySem
theorem fin_ff (o : Option D) : fin false o = o := by cases o <;> rfl
theorem seq_rt {F : Nat → List D → Option D} {gas : Nat} {s t : IS} {e : En} {d : D} (h : exec F gas s e = some (.rt d)) : exec F gas (.seq s t) e = some (.rt d) := by
  simp only [exec, h]
theorem seq_bk {F : Nat → List D → Option D} {gas : Nat} {s t : IS} {e e1 : En} (h : exec F gas s e = some (.bk e1)) : exec F gas (.seq s t) e = some (.bk e1) := by
  simp only [exec, h]
theorem seq_ct {F : Nat → List D → Option D} {gas : Nat} {s t : IS} {e e1 : En} (h : exec F gas s e = some (.ct e1)) : exec F gas (.seq s t) e = some (.ct e1) := by
  simp only [exec, h]
theorem iff_t {F : Nat → List D → Option D} {gas : Nat} {c : IE} {s t : IS} {e : En} {r : Option Out} (h : ev F c true e = some (.bl true)) (h2 : exec F gas s e = r) : exec F gas (.iff c s t) e = r := by
  simp only [exec, h, h2]
theorem iff_f {F : Nat → List D → Option D} {gas : Nat} {c : IE} {s t : IS} {e : En} {r : Option Out} (h : ev F c true e = some (.bl false)) (h2 : exec F gas t e = r) : exec F gas (.iff c s t) e = r := by
  simp only [exec, h, h2]
theorem frz_ow {F : Nat → List D → Option D} {gas : Nat} {i : Nat} {s : IS} {e : En} {d : D} {r : Option Out} (h : eget e i = .ow d) (h2 : exec F gas s (eset e i (.sh d)) = r) : exec F gas (.frz i s) e = r := by
  simp only [exec, h, h2]
theorem frz_sh {F : Nat → List D → Option D} {gas : Nat} {i : Nat} {s : IS} {e : En} {d : D} {r : Option Out} (h : eget e i = .sh d) (h2 : exec F gas s e = r) : exec F gas (.frz i s) e = r := by
  simp only [exec, h, h2]
theorem intsOf_map : ∀ ns : List Int, intsOf (ns.map D.int) = some ns
  | [] => rfl
  | n :: r => by simp only [List.map_cons, intsOf, intsOf_map r, Option.map_some]
theorem i_sum (ns : List Int) : biD .sum [.lst (ns.map .int)] = some (.int ns.sum) := by
  show (intsOf (ns.map D.int)).map (fun ns => D.int ns.sum) = _
  rw [intsOf_map]; rfl
theorem i_sumT (ns : List Int) : biD .sum [.tup (ns.map .int)] = some (.int ns.sum) := by
  show (intsOf (ns.map D.int)).map (fun ns => D.int ns.sum) = _
  rw [intsOf_map]; rfl
theorem i_max (n : Int) (r : List Int) : biD .max [.lst ((n :: r).map .int)] = some (.int (mostOf n r)) := by
  show (match intsOf ((n :: r).map D.int) with
    | some (n :: ns) => some (D.int (mostOf n ns))
    | _ => maxB [.lst ((n :: r).map D.int)]) = _
  rw [intsOf_map]
theorem i_min (n : Int) (r : List Int) : biD .min [.lst ((n :: r).map .int)] = some (.int (leastOf n r)) := by
  show (match intsOf ((n :: r).map D.int) with
    | some (n :: ns) => some (D.int (leastOf n ns))
    | _ => minB [.lst ((n :: r).map D.int)]) = _
  rw [intsOf_map]
theorem i_flats : ∀ (k : Nat) (ns : List Int), flats k (ns.map .int) = true
  | _, [] => rfl
  | k, n :: r => by
    show (flat k (.int n) && flats k (r.map .int)) = true
    rw [i_flats k r]
    cases k <;> rfl
theorem i_allI (ns : List Int) : (ns.map D.int).all isI = true := by
  rw [List.all_eq_true]
  intro y hy
  obtain ⟨w, _, rfl⟩ := List.mem_map.mp hy
  rfl
theorem i_like (ns : List Int) : likeOk (ns.map D.int) = true := by
  unfold likeOk
  rw [i_allI, Bool.true_or, Bool.true_or]
theorem i_plain (ns : List Int) : (ns.map D.int).all plainK = true := by
  rw [List.all_eq_true]
  intro y hy
  obtain ⟨w, _, rfl⟩ := List.mem_map.mp hy
  rfl
theorem i_lt (a b : Int) : ltP (.int a) (.int b) = decide (a < b) := by
  unfold ltP toP
  rw [PySem.W.dataLt_int]
theorem i_le (a b : Int) : leD (.int a) (.int b) = decide (a ≤ b) := by
  show (!PySem.W.dataLt (toP (.int b)) (toP (.int a))) = _
  have := i_lt b a
  unfold ltP at this
  rw [this]
  by_cases h : a ≤ b
  · rw [decide_eq_true h, decide_eq_false (by omega)]; rfl
  · rw [decide_eq_false h, decide_eq_true (by omega)]; rfl
theorem perm_sum {a b : List Int} (p : a.Perm b) : a.sum = b.sum := by
  induction p with
  | nil => rfl
  | cons x _ ih => rw [List.sum_cons, List.sum_cons, ih]
  | swap x y l => simp only [List.sum_cons]; omega
  | trans _ _ h1 h2 => rw [h1, h2]
def isort (ns : List Int) : List Int := ns.mergeSort fun a b => decide (a ≤ b)
theorem isort_perm (ns : List Int) : (isort ns).Perm ns := List.mergeSort_perm _ _
theorem isort_sorted (ns : List Int) : (isort ns).Pairwise (· ≤ ·) := by
  have h := List.pairwise_mergeSort (le := fun a b : Int => decide (a ≤ b)) (fun a b c h1 h2 => decide_eq_true (Int.le_trans (of_decide_eq_true h1) (of_decide_eq_true h2)))
    (fun a b => by rcases Int.le_total a b with h | h <;> simp [h]) ns
  exact h.imp fun z => of_decide_eq_true z
theorem isort_len (ns : List Int) : (isort ns).length = ns.length := (isort_perm ns).length_eq
theorem isort_mem {ns : List Int} {x : Int} : x ∈ isort ns ↔ x ∈ ns := (isort_perm ns).mem_iff
theorem msort_ints (ns : List Int) : (ns.map D.int).mergeSort leD = (isort ns).map D.int := by
  unfold isort
  rw [List.map_mergeSort (s := leD)]
  intro x _ y _
  rw [i_le]
theorem sorted_eq {a b : List Int} (p : a.Perm b) (ha : a.Pairwise (· ≤ ·)) (hb : b.Pairwise (· ≤ ·)) : a = b :=
  List.Perm.eq_of_pairwise (le := fun a b : Int => a ≤ b) (fun a b _ _ h1 h2 => Int.le_antisymm h1 h2) ha hb p
theorem i_sorted {ns : List Int} (hl : ns.length ≤ 100000) : biD .sorted [.lst (ns.map D.int)] = some (.lst ((isort ns).map D.int)) := by
  have ok : okLen (ns.map D.int) = true := okLen_of (by rw [List.length_map]; omega)
  show (if flats 40 (ns.map D.int) && okLen (ns.map D.int) && likeOk (ns.map D.int) && ((ns.map D.int).all tupNe || ((ns.map D.int).all plainK || tupE (ns.map D.int))) then some (D.lst ((ns.map D.int).mergeSort leD)) else none) = _
  rw [i_flats, i_like, i_plain, ok, Bool.true_or, Bool.or_true, msort_ints]
  rfl
theorem i_sortedT {ns : List Int} (hl : ns.length ≤ 100000) : biD .sorted [.tup (ns.map D.int)] = some (.lst ((isort ns).map D.int)) := by
  have ok : okLen (ns.map D.int) = true := okLen_of (by rw [List.length_map]; omega)
  show (if flats 40 (ns.map D.int) && okLen (ns.map D.int) && likeOk (ns.map D.int) && ((ns.map D.int).all tupNe || ((ns.map D.int).all plainK || tupE (ns.map D.int))) then some (D.lst ((ns.map D.int).mergeSort leD)) else none) = _
  rw [i_flats, i_like, i_plain, ok, Bool.true_or, Bool.or_true, msort_ints]
  rfl
theorem i_any (x : Int) (ns : List Int) : ((ns.map D.int).any fun y => eqD y (.int x)) = decide (x ∈ ns) := by
  rw [List.any_map, Bool.eq_iff_iff, List.any_eq_true, decide_eq_true_iff]
  constructor
  · rintro ⟨y, hy, h⟩
    have : y = x := by simpa [eqD] using h
    rw [← this]; exact hy
  · intro h
    exact ⟨x, h, by simp [eqD]⟩
theorem flat_int (k : Nat) (x : Int) : flat k (.int x) = true := by cases k <;> rfl
theorem i_in (x : Int) (ns : List Int) : cmpD .In (.int x) (.lst (ns.map .int)) = some (decide (x ∈ ns)) := by
  show (if flat 40 (.int x) && flats 40 (ns.map .int) then some ((ns.map D.int).any fun y => eqD y (.int x)) else none) = _
  rw [i_flats, flat_int, i_any]; rfl
theorem i_inT (x : Int) (ns : List Int) : cmpD .In (.int x) (.tup (ns.map .int)) = some (decide (x ∈ ns)) := by
  show (if flat 40 (.int x) && flats 40 (ns.map .int) then some ((ns.map D.int).any fun y => eqD y (.int x)) else none) = _
  rw [i_flats, flat_int, i_any]; rfl
theorem i_nin (x : Int) (ns : List Int) : cmpD .NotIn (.int x) (.lst (ns.map .int)) = some (!decide (x ∈ ns)) := by
  show (if flat 40 (.int x) && flats 40 (ns.map .int) then some (!(ns.map D.int).any fun y => eqD y (.int x)) else none) = _
  rw [i_flats, flat_int, i_any]; rfl
/-! ### ranges of ints, loops over ints -/
def irange (n : Int) : List Int := (List.range n.toNat).map fun (i : Nat) => (i : Int)
theorem mem_irange {n j : Int} : j ∈ irange n ↔ 0 ≤ j ∧ j < n := by
  unfold irange
  rw [List.mem_map]
  constructor
  · rintro ⟨i, hi, rfl⟩
    rw [List.mem_range] at hi
    omega
  · intro h
    exact ⟨j.toNat, List.mem_range.mpr (by omega), by omega⟩
theorem irange_len (n : Int) : (irange n).length = n.toNat := by unfold irange; simp
theorem upto_i (n : Nat) : upto n 0 = (irange n).map .int := by
  rw [upto_eq]
  unfold irange
  rw [List.map_map]
  apply List.map_congr_left
  intro i _
  simp
theorem rng_i {n : Int} (h : small b62 n = true) : rngD [.int n] = some (.lst ((irange n).map .int)) := by
  show (if small b62 n then some (D.lst (upto n.toNat 0)) else none) = _
  rw [if_pos h, upto_i]
  unfold irange
  rw [show ((n.toNat : Int)).toNat = n.toNat by omega]
def irange2 (a n : Int) : List Int := (List.range (n - a).toNat).map fun (i : Nat) => a + (i : Int)
theorem mem_irange2 {a n j : Int} : j ∈ irange2 a n ↔ a ≤ j ∧ j < n := by
  unfold irange2
  rw [List.mem_map]
  constructor
  · rintro ⟨i, hi, rfl⟩
    rw [List.mem_range] at hi
    omega
  · intro h
    exact ⟨(j - a).toNat, List.mem_range.mpr (by omega), by omega⟩
theorem rng_i2 {a n : Int} (h1 : small b62 a = true) (h : small b62 n = true) : rngD [.int a, .int n] = some (.lst ((irange2 a n).map .int)) := by
  show (if small b62 a && small b62 n then some (D.lst (upto (n - a).toNat a)) else none) = _
  rw [h1, h, upto_eq]
  unfold irange2
  rw [List.map_map]
  rfl
theorem lc_fi {t x : En → Option D} {k : Nat} {e : En} (p : Int → Bool) (f : Int → D) : ∀ (js : List Int), (∀ j ∈ js, t (eset e k (.sh (.int j))) = some (.bl (p j)) ∧ (p j = true → x (eset e k (.sh (.int j))) = some (f j))) → lcGo t x (.one k) e (js.map .int) = some ((js.filter p).map f)
  | [], _ => rfl
  | j :: r, h => by
    have ih := lc_fi p f r fun i hi => h i (by simp [hi])
    obtain ⟨h1, h2⟩ := h j (by simp)
    rw [List.map_cons]
    unfold lcGo
    simp only [bindT]
    rw [h1]
    cases hp : p j with
    | true => simp only [h2 hp, ih, List.filter_cons, hp, if_true, List.map_cons]
    | false => simp only [ih, List.filter_cons, hp, Bool.false_eq_true, if_false]
theorem lc_mi {x : En → Option D} {k : Nat} {e : En} (f : Int → D) (js : List Int) (h : ∀ j ∈ js, x (eset e k (.sh (.int j))) = some (f j)) : lcGo (fun _ => some (.bl true)) x (.one k) e (js.map .int) = some (js.map f) := by
  have := lc_fi (t := fun _ => some (.bl true)) (x := x) (k := k) (e := e) (fun _ => true) f js fun j hj => ⟨rfl, fun _ => h j hj⟩
  rw [this, List.filter_eq_self.mpr (fun _ _ => rfl)]
theorem lc_ex {x : En → Option D} {k : Nat} {e : En} (P : Int → Prop) : ∀ (js : List Int), (∀ j ∈ js, ∃ v : Int, P v ∧ x (eset e k (.sh (.int j))) = some (.int v)) → ∃ vs : List Int, vs.length = js.length ∧ (∀ v ∈ vs, P v) ∧ lcGo (fun _ => some (.bl true)) x (.one k) e (js.map .int) = some (vs.map .int)
  | [], _ => ⟨[], rfl, by simp, rfl⟩
  | j :: r, h => by
    obtain ⟨v, h1, h2⟩ := h j (by simp)
    obtain ⟨vs, g1, g2, g3⟩ := lc_ex P r fun i hi => h i (by simp [hi])
    refine ⟨v :: vs, by simp [g1], fun w hw => ?_, ?_⟩
    · rcases List.mem_cons.mp hw with rfl | hw
      · exact h1
      · exact g2 w hw
    · rw [List.map_cons]
      unfold lcGo
      simp only [bindT, h2, g3, List.map_cons]
theorem gex_i {al : Bool} {f : En → Option D} {k : Nat} {e : En} (p : Int → Bool) : ∀ (js : List Int), (∀ j ∈ js, f (eset e k (.sh (.int j))) = some (.bl (p j))) → gexGo al f (.one k) e (js.map .int) = some (if al then js.all p else js.any p)
  | [], _ => by cases al <;> rfl
  | j :: r, h => by
    have ih := gex_i (al := al) p r fun i hi => h i (by simp [hi])
    rw [List.map_cons]
    unfold gexGo
    simp only [bindT]
    rw [h j (by simp)]
    cases al <;> cases hp : p j <;> simp [hp, ih]
theorem gex_ev {F : Nat → List D → Option D} {al : Bool} {own : List Nat} {tp : TP} {it x : IE} {e : En} {d : D} {ds : List D} {b : Bool} (h1 : ev F it false e = some d) (hw : walkD d = some ds) (h2 : gexGo al (ev F x false) tp (wipeE e own) ds = some b) (t : Bool) : ev F (.gex al own tp it x) t e = some (.bl b) := by
  simp only [ev, h1, hw, h2, Option.map_some]
  cases t <;> rfl
theorem for_inv {bd : En → Option Out} {tp : TP} (P : En → Prop) : ∀ (ds : List D), (∀ d ∈ ds, ∀ e, P e → ∃ e1 e2, bindT tp d e = some e1 ∧ bd e1 = some (.nx e2) ∧ P e2) → ∀ e, P e → ∃ e', forGo bd tp ds e = some (.nx e') ∧ P e'
  | [], _, e, h => ⟨e, rfl, h⟩
  | d :: ds, hs, e, h => by
    obtain ⟨e1, e2, h1, h2, h3⟩ := hs d (by simp) e h
    obtain ⟨e', h4, h5⟩ := for_inv P ds (fun d hd => hs d (by simp [hd])) e2 h3
    refine ⟨e', ?_, h5⟩
    unfold forGo
    simp only [h1, h2, h4]
theorem for_i {bd : En → Option Out} {k : Nat} (P : En → Prop) (js : List Int) (hs : ∀ j ∈ js, ∀ e, P e → ∃ e2, bd (eset e k (.sh (.int j))) = some (.nx e2) ∧ P e2) (e : En) (h : P e) : ∃ e', forGo bd (.one k) (js.map .int) e = some (.nx e') ∧ P e' :=
  for_inv P _ (fun d hd e he => by
    obtain ⟨j, hj, rfl⟩ := List.mem_map.mp hd
    obtain ⟨e2, h1, h2⟩ := hs j hj e he
    exact ⟨_, e2, rfl, h1, h2⟩) e h
theorem bs_all (bs : List Bool) : biD .all [.lst (bs.map .bl)] = some (.bl (bs.all id)) := by
  show (bsOf (bs.map D.bl)).map (fun bs => D.bl (bs.all id)) = _
  have := bsOf_map (fun b : Bool => b) bs
  simp only [List.map_id'] at this
  have e : bsOf (bs.map D.bl) = some bs := by simpa using this
  rw [e]; rfl
theorem bs_any (bs : List Bool) : biD .any [.lst (bs.map .bl)] = some (.bl (bs.any id)) := by
  show (bsOf (bs.map D.bl)).map (fun bs => D.bl (bs.any id)) = _
  have := bsOf_map (fun b : Bool => b) bs
  have e : bsOf (bs.map D.bl) = some bs := by simpa using this
  rw [e]; rfl
theorem cut_preA {α : Type} {s : List α} {i : Nat} (h : i ≤ s.length) : cutL s none (some (i : Int)) = s.take i := by
  unfold cutL sIx
  simp only
  rw [if_neg (by omega), List.drop_zero]
  congr 1
  omega
theorem cut_sufA {α : Type} {s : List α} {i : Nat} (h : i ≤ s.length) : cutL s (some (i : Int)) none = s.drop i := by
  unfold cutL sIx
  simp only
  rw [if_neg (by omega), List.take_of_length_le (by rw [List.length_drop]; omega)]
  congr 1
  omega
/-! ### dicts -/
section
variable {α : Type}
def ikv (f : α → D) (l : List (Int × α)) : List (D × D) := l.map fun p => (.int p.1, f p.2)
def iget : List (Int × α) → Int → Option α
  | [], _ => none
  | p :: r, k => if p.1 = k then some p.2 else iget r k
theorem iget_c (p : Int × α) (r : List (Int × α)) (k : Int) : iget (p :: r) k = if p.1 = k then some p.2 else iget r k := rfl
def iput (l : List (Int × α)) (k : Int) (v : α) : List (Int × α) :=
  if k ∈ l.map Prod.fst then l.map (fun p => if p.1 = k then (p.1, v) else p) else l ++ [(k, v)]
theorem same_int (a b : Int) : sameD (.int a) (.int b) = decide (a = b) := by
  unfold sameD
  rw [Bool.eq_iff_iff, beq_iff_eq, decide_eq_true_iff]
theorem dGet_i (f : α → D) (k : Int) : ∀ l : List (Int × α), dGet (ikv f l) (.int k) = (iget l k).map f
  | [] => rfl
  | p :: r => by
    show (if sameD (.int p.1) (.int k) then some (f p.2) else dGet (ikv f r) (.int k)) = _
    rw [same_int, dGet_i f k r]
    rw [iget_c]
    by_cases h : p.1 = k <;> simp [h]
theorem dPut_i (f : α → D) (k : Int) (v : α) (l : List (Int × α)) : dPut (ikv f l) (.int k) (f v) = ikv f (iput l k v) := by
  have e : ((ikv f l).any fun p => sameD p.1 (.int k)) = decide (k ∈ l.map Prod.fst) := by
    unfold ikv
    rw [List.any_map, Bool.eq_iff_iff, List.any_eq_true, decide_eq_true_iff, List.mem_map]
    constructor
    · rintro ⟨p, hp, h⟩
      have h : sameD (.int p.1) (.int k) = true := h
      rw [same_int] at h
      exact ⟨p, hp, of_decide_eq_true h⟩
    · rintro ⟨p, hp, h⟩
      exact ⟨p, hp, by show sameD (.int p.1) (.int k) = true; rw [same_int]; exact decide_eq_true h⟩
  unfold dPut iput
  rw [e]
  by_cases h : k ∈ l.map Prod.fst
  · rw [if_pos (decide_eq_true h), if_pos h]
    unfold ikv
    rw [List.map_map, List.map_map]
    apply List.map_congr_left
    intro p _
    simp only [Function.comp, same_int]
    by_cases h2 : p.1 = k <;> simp [h2]
  · rw [if_neg (by simpa using h), if_neg h]
    unfold ikv
    rw [List.map_append]
    rfl
theorem iget_none {l : List (Int × α)} {k : Int} : iget l k = none ↔ k ∉ l.map Prod.fst := by
  induction l with
  | nil => simp [iget]
  | cons p r ih =>
    rw [iget_c]
    by_cases h : p.1 = k
    · simp [h]
    · rw [if_neg h, ih]
      simp [List.map_cons, List.mem_cons, Ne.symm h]
theorem iget_some {l : List (Int × α)} {k : Int} : (iget l k).isSome = decide (k ∈ l.map Prod.fst) := by
  cases h : iget l k with
  | none => have := iget_none.mp h; simp only [Option.isSome_none]; rw [decide_eq_false this]
  | some v =>
    have : k ∈ l.map Prod.fst := Classical.byContradiction fun z => by rw [iget_none.mpr z] at h; cases h
    rw [decide_eq_true this]; rfl
theorem iget_map (g : Int → α → α) (k j : Int) : ∀ l : List (Int × α), iget (l.map fun p => (p.1, g p.1 p.2)) j = (iget l j).map (g j)
  | [] => rfl
  | p :: r => by
    rw [List.map_cons, iget_c, iget_c]
    by_cases h : p.1 = j
    · simp [h]
    · simp only [h, if_false]
      exact iget_map g k j r
theorem iget_app (l m : List (Int × α)) (j : Int) : iget (l ++ m) j = match iget l j with
    | some v => some v
    | none => iget m j := by
  induction l with
  | nil => rfl
  | cons p r ih =>
    rw [List.cons_append, iget_c, iget_c]
    by_cases h : p.1 = j
    · simp [h]
    · simp only [h, if_false]
      exact ih
theorem iget_put (l : List (Int × α)) (k j : Int) (v : α) : iget (iput l k v) j = if j = k then some v else iget l j := by
  unfold iput
  by_cases h : k ∈ l.map Prod.fst
  · rw [if_pos h]
    have e : (l.map fun p => if p.1 = k then (p.1, v) else p) = l.map fun p => (p.1, (fun a w => if a = k then v else w) p.1 p.2) := by
      apply List.map_congr_left
      intro p _
      by_cases h2 : p.1 = k <;> simp [h2]
    rw [e, iget_map (fun a w => if a = k then v else w) k]
    by_cases h2 : j = k
    · subst h2
      have : (iget l j).isSome = true := by rw [iget_some]; exact decide_eq_true h
      cases h3 : iget l j with
      | none => rw [h3] at this; cases this
      | some w => simp
    · simp [h2]
  · rw [if_neg h, iget_app]
    by_cases h2 : j = k
    · subst h2
      rw [iget_none.mpr h]
      simp [iget]
    · rw [if_neg h2]
      cases h3 : iget l j with
      | none => simp [iget, Ne.symm h2]
      | some w => rfl
theorem keys_put (l : List (Int × α)) (k : Int) (v : α) : (iput l k v).map Prod.fst = if k ∈ l.map Prod.fst then l.map Prod.fst else l.map Prod.fst ++ [k] := by
  unfold iput
  by_cases h : k ∈ l.map Prod.fst
  · rw [if_pos h, if_pos h, List.map_map]
    apply List.map_congr_left
    intro p _
    simp only [Function.comp]
    split <;> rfl
  · rw [if_neg h, if_neg h, List.map_append]; rfl
theorem mem_put {l : List (Int × α)} {k j : Int} {v : α} : j ∈ (iput l k v).map Prod.fst ↔ j = k ∨ j ∈ l.map Prod.fst := by
  rw [keys_put]
  split
  · rename_i h
    constructor
    · exact .inr
    · rintro (rfl | h2)
      · exact h
      · exact h2
  · rw [List.mem_append, List.mem_singleton, Or.comm]
theorem nodup_put {l : List (Int × α)} {k : Int} {v : α} (h : (l.map Prod.fst).Nodup) : ((iput l k v).map Prod.fst).Nodup := by
  rw [keys_put]
  split
  · exact h
  · rename_i hk
    rw [List.nodup_append]
    refine ⟨h, by simp, fun a ha b hb => ?_⟩
    rw [List.mem_singleton] at hb
    subst hb
    exact fun z => hk (z ▸ ha)
theorem len_put (l : List (Int × α)) (k : Int) (v : α) : (iput l k v).length ≤ l.length + 1 := by
  unfold iput
  split
  · rw [List.length_map]; omega
  · rw [List.length_append]; simp
theorem ikv_len (f : α → D) (l : List (Int × α)) : (ikv f l).length = l.length := by unfold ikv; rw [List.length_map]
theorem ikv_ok (f : α → D) {l : List (Int × α)} (h : l.length ≤ 100000) : okLen (ikv f l) = true := okLen_of (by rw [ikv_len]; exact h)
theorem ikv_keys (f : α → D) (l : List (Int × α)) : (ikv f l).map Prod.fst = (l.map Prod.fst).map D.int := by
  unfold ikv; rw [List.map_map, List.map_map]; rfl
theorem d_in_i (f : α → D) (k : Int) (l : List (Int × α)) : cmpD .In (.int k) (.dic false (ikv f l)) = some (decide (k ∈ l.map Prod.fst)) := by
  show (if keyT false (.int k) then some (dGet (ikv f l) (.int k)).isSome else none) = _
  rw [dGet_i, Option.isSome_map, iget_some]; rfl
theorem d_nin_i (f : α → D) (k : Int) (l : List (Int × α)) : cmpD .NotIn (.int k) (.dic false (ikv f l)) = some (!decide (k ∈ l.map Prod.fst)) := by
  show (if keyT false (.int k) then some (!(dGet (ikv f l) (.int k)).isSome) else none) = _
  rw [dGet_i, Option.isSome_map, iget_some]; rfl
theorem d_ix_i (f : α → D) (k : Int) (l : List (Int × α)) : idxD (.dic false (ikv f l)) (.int k) = (iget l k).map f := by
  show (if keyT false (.int k) then dGet (ikv f l) (.int k) else none) = _
  rw [dGet_i]; rfl
end
end Tl

/-! T20: facts about rows of ints; _law_bent. -/
namespace Tl
open PySem
theorem i_int (z : Int) : biD .int [.int z] = some (.int z) := rfl
theorem i_len (ns : List Int) : biD .len [.lst (ns.map .int)] = some (.int (ns.length : Nat)) := by
  show some (D.int ((ns.map D.int).length : Nat)) = _
  rw [List.length_map]
theorem i_lenT (ns : List Int) : biD .len [.tup (ns.map .int)] = some (.int (ns.length : Nat)) := by
  show some (D.int ((ns.map D.int).length : Nat)) = _
  rw [List.length_map]
theorem i_mod {a b : Int} (h : 0 < b) : binD .Mod (.int a) (.int b) = some (.int (a % b)) := by
  show (if decide (0 < b) then some (D.int (a % b)) else none) = _
  rw [decide_eq_true h]; rfl
theorem i_div {a b : Int} (h : 0 < b) (h2 : b < 1073741824) : binD .FloorDiv (.int a) (.int b) = some (.int (a / b)) := by
  show (if decide (0 < b) && small 1073741824 b then some (D.int (a / b)) else none) = _
  rw [decide_eq_true h, small_of' (by omega) (by omega)]; rfl
theorem i_add (a b : Int) : binD .Add (.int a) (.int b) = some (.int (a + b)) := rfl
theorem i_sub (a b : Int) : binD .Sub (.int a) (.int b) = some (.int (a - b)) := rfl
theorem i_mul {a b : Int} (h : small b64 a = true ∨ small b64 b = true) : binD .Mult (.int a) (.int b) = some (.int (a * b)) := by
  show (if small b64 a || small b64 b then some (D.int (a * b)) else none) = _
  rw [show (small b64 a || small b64 b) = true by rw [Bool.or_eq_true]; exact h]; rfl
theorem sm64 {i : Int} (h : -1000000000000 ≤ i) (h2 : i ≤ 1000000000000) : small b64 i = true := small_of' (by unfold b64; omega) (by unfold b64; omega)
theorem sm62 {i : Int} (h : -1000000000000 ≤ i) (h2 : i ≤ 1000000000000) : small b62 i = true := small_of' (by unfold b62; omega) (by unfold b62; omega)
theorem i_mul2 (k a : Int) (h : -1000000000000 ≤ k) (h2 : k ≤ 1000000000000) : binD .Mult (.int k) (.int a) = some (.int (k * a)) := i_mul (.inl (sm64 h h2))
theorem l_cat {a b : List Int} (h : a.length + b.length ≤ 100000) : binD .Add (.lst (a.map .int)) (.lst (b.map .int)) = some (.lst ((a ++ b).map .int)) := by
  show (if okLen (a.map D.int ++ b.map D.int) then some (D.lst (a.map D.int ++ b.map D.int)) else none) = _
  rw [← List.map_append, okLen_of (by rw [List.length_map, List.length_append]; omega)]
  rfl
theorem t_cat {a b : List Int} (h : a.length + b.length ≤ 100000) : binD .Add (.tup (a.map .int)) (.tup (b.map .int)) = some (.tup ((a ++ b).map .int)) := by
  show (if okLen (a.map D.int ++ b.map D.int) then some (D.tup (a.map D.int ++ b.map D.int)) else none) = _
  rw [← List.map_append, okLen_of (by rw [List.length_map, List.length_append]; omega)]
  rfl
theorem t_cat1 {a : List Int} (z : Int) (h : a.length ≤ 1000) : binD .Add (.tup (a.map .int)) (.tup [.int z]) = some (.tup ((a ++ [z]).map .int)) := t_cat (b := [z]) (by simp; omega)
theorem cut_map {α β : Type} (f : α → β) (l : List α) (lo hi : Option Int) : cutL (l.map f) lo hi = (cutL l lo hi).map f := by
  unfold cutL
  rw [List.length_map, List.map_take, List.map_drop]
theorem sl_t (r : List Int) (lo hi : Option Int) : slcD (.tup (r.map .int)) lo hi = some (.tup ((cutL r lo hi).map .int)) := by
  show some (D.tup (cutL (r.map D.int) lo hi)) = _
  rw [cut_map]
theorem sl_l (r : List Int) (lo hi : Option Int) : slcD (.lst (r.map .int)) lo hi = some (.lst ((cutL r lo hi).map .int)) := by
  show some (D.lst (cutL (r.map D.int) lo hi)) = _
  rw [cut_map]
theorem ix_l {l : List Int} {i : Nat} (h : i < l.length) : idxD (.lst (l.map .int)) (.int (i : Int)) = some (.int (l.getD i 0)) := by
  show ((ixD (l.map D.int).length (i : Int)).bind fun j => (l.map D.int)[j]?) = _
  rw [List.length_map, ixD_nat h]
  simp [List.getElem?_map, List.getElem?_eq_getElem h]
theorem ix_t {l : List Int} {i : Nat} (h : i < l.length) : idxD (.tup (l.map .int)) (.int (i : Int)) = some (.int (l.getD i 0)) := by
  show ((ixD (l.map D.int).length (i : Int)).bind fun j => (l.map D.int)[j]?) = _
  rw [List.length_map, ixD_nat h]
  simp [List.getElem?_map, List.getElem?_eq_getElem h]
/-- some item, whichever -/
theorem ix_some {l : List D} {i : Int} (h0 : 0 ≤ i) (h : i < l.length) : ∃ x ∈ l, idxD (.tup l) (.int i) = some x := by
  obtain ⟨n, rfl⟩ : ∃ n : Nat, i = (n : Int) := ⟨i.toNat, by omega⟩
  have hn : n < l.length := by omega
  refine ⟨l[n], List.getElem_mem hn, ?_⟩
  show ((ixD l.length (n : Int)).bind fun j => l[j]?) = _
  rw [ixD_nat hn]
  simp [hn]
theorem ix_someL {l : List D} {i : Int} (h0 : 0 ≤ i) (h : i < l.length) : ∃ x ∈ l, idxD (.lst l) (.int i) = some x := ix_some h0 h
theorem mod_at (z : Int) {m : Int} (h : 0 < m) : 0 ≤ z % m ∧ z % m < m := ⟨Int.emod_nonneg _ (by omega), Int.emod_lt_of_pos _ h⟩
def tBent : Fd := ⟨3, 6,
  (.seq (.asg 3 false (.bin .Mod (.bi .int (.ac (.idx (.v 1) (.c (.int 0))) .an)) (.c (.int 6)))) (.seq (.asg 4 false (.bin .Mod (.bi .int (.ac (.idx (.v 1) (.c (.int 1))) .an)) (.bin .Add (.bi .len (.ac (.v 0) .an)) (.c (.int 1))))) (.seq (.asg 5 false (.idx (.tup (.ac (.bin .Sub (.bin .Mod (.bi .int (.ac (.idx (.v 1) (.c (.int 2))) .an)) (.bin .Add (.v 2) (.c (.int 3)))) (.c (.int 1))) (.ac (.bin .Pow (.c (.int 10)) (.c (.int 20))) (.ac (.bin .Sub (.c (.int 0)) (.c (.int 1))) .an)))) (.bin .FloorDiv (.bin .Mod (.bin .FloorDiv (.bi .int (.ac (.idx (.v 1) (.c (.int 2))) .an)) (.c (.int 60))) (.c (.int 12))) (.c (.int 10))))) (.seq (.iff (.cmp .Eq (.v 3) (.c (.int 0))) (.seq (.ret (.bin .Add (.slc (.v 0) .no (.v 4)) (.slc (.v 0) (.bin .Add (.v 4) (.c (.int 1))) .no))) .skip) .skip) (.seq (.iff (.cmp .Eq (.v 3) (.c (.int 1))) (.seq (.ret (.bin .Add (.bin .Add (.slc (.v 0) .no (.v 4)) (.tup (.ac (.v 5) .an))) (.slc (.v 0) (.v 4) .no))) .skip) .skip) (.seq (.iff (.cmp .Lt (.v 3) (.c (.int 4))) (.seq (.ret (.bin .Add (.bin .Add (.slc (.v 0) .no (.v 4)) (.tup (.ac (.v 5) .an))) (.slc (.v 0) (.bin .Add (.v 4) (.c (.int 1))) .no))) .skip) .skip) (.seq (.ret (.ife (.cmp .Eq (.v 3) (.c (.int 4))) (.rvs (.v 0)) (.bin .Add (.slc (.v 0) .no (.v 4)) (.slc (.v 0) (.bi .max (.ac (.c (.int 0)) (.ac (.bin .Sub (.v 4) (.c (.int 1))) .an))) .no)))) .skip)))))))⟩
theorem bent_run {T : List Fd} {n k : Nat} (hT : T[k]? = some tBent) {r ws : List Int} {most : Int} (hw : Dr ws 3) (hr : r.length ≤ 1000) (hm : 0 ≤ most) :
    ∃ r' : List Int, r'.length ≤ 2 * r.length + 1 ∧ (∀ x ∈ r', x ∈ r ∨ (-1 ≤ x ∧ x ≤ most + 1) ∨ x = 10 ^ 20) ∧ run T (n + 1) k [.tup (r.map .int), .lst (ws.map .int), .int most] = some (.tup (r'.map .int)) := by
  obtain ⟨x0, a0, b0, i0⟩ := hw.at (z := 0) (by omega) (by omega)
  obtain ⟨x1, a1, b1, i1⟩ := hw.at (z := 1) (by omega) (by omega)
  obtain ⟨x2, a2, b2, i2⟩ := hw.at (z := 2) (by omega) (by omega)
  have m6 := i_mod (a := x0) (b := 6) (by omega)
  have w6 := mod_at x0 (m := 6) (by omega)
  have hl := i_lenT r
  have m1 := i_mod (a := x1) (b := (r.length : Nat) + 1) (by omega)
  have w1 := mod_at x1 (m := (r.length : Nat) + 1) (by omega)
  have m3 := i_mod (a := x2) (b := most + 3) (by omega)
  have w3 := mod_at x2 (m := most + 3) (by omega)
  have pw : binD .Pow (.int 10) (.int 20) = some (.int (10 ^ 20)) := rfl
  have f60 : binD .FloorDiv (.int x2) (.int 60) = some (.int (x2 / 60)) := rfl
  have f12 : binD .Mod (.int (x2 / 60)) (.int 12) = some (.int (x2 / 60 % 12)) := rfl
  have f10 : binD .FloorDiv (.int (x2 / 60 % 12)) (.int 10) = some (.int (x2 / 60 % 12 / 10)) := rfl
  obtain ⟨odd, ho, io⟩ : ∃ odd : Int, ((-1 ≤ odd ∧ odd ≤ most + 1) ∨ odd = 10 ^ 20) ∧ idxD (.tup [.int (x2 % (most + 3) - 1), .int (10 ^ 20), .int (0 - 1)]) (.int (x2 / 60 % 12 / 10)) = some (.int odd) := by
    obtain ⟨x, hx, ix⟩ := ix_some (l := [.int (x2 % (most + 3) - 1), .int (10 ^ 20), .int (0 - 1)]) (i := x2 / 60 % 12 / 10) (by omega) (by simp; omega)
    simp only [List.mem_cons, List.not_mem_nil, or_false] at hx
    rcases hx with rfl | rfl | rfl
    · exact ⟨_, .inl (by omega), ix⟩
    · exact ⟨_, .inr rfl, ix⟩
    · exact ⟨_, .inl (by omega), ix⟩
  generalize hz : x1 % ((r.length : Nat) + 1) = z at m1 w1
  have n0 : isNo IE.no = true := rfl
  have n4 : isNo (IE.v 4) = false := rfl
  have n5 : isNo (IE.bin .Add (.v 4) (.c (.int 1))) = false := rfl
  have n6 : isNo (IE.bi .max (.ac (.c (.int 0)) (.ac (.bin .Sub (.v 4) (.c (.int 1))) .an))) = false := rfl
  have cl : ∀ lo hi, (cutL r lo hi).length ≤ r.length := fun lo hi => cut_len r lo hi
  have cm : ∀ {lo hi x}, x ∈ cutL r lo hi → x ∈ r := fun h => cut_mem h
  have mem2 : ∀ {a b : List Int} {x}, x ∈ a ++ b → (∀ y ∈ a, y ∈ r ∨ (-1 ≤ y ∧ y ≤ most + 1) ∨ y = 10 ^ 20) → (∀ y ∈ b, y ∈ r ∨ (-1 ≤ y ∧ y ≤ most + 1) ∨ y = 10 ^ 20) → x ∈ r ∨ (-1 ≤ x ∧ x ≤ most + 1) ∨ x = 10 ^ 20 := fun h h1 h2 => by
    rcases List.mem_append.mp h with h | h
    · exact h1 _ h
    · exact h2 _ h
  have modd : ∀ y ∈ [odd], y ∈ r ∨ (-1 ≤ y ∧ y ≤ most + 1) ∨ y = 10 ^ 20 := fun y hy => by rw [List.mem_singleton] at hy; subst hy; exact .inr ho
  have hmax : ∃ q : Int, biD .max [.int 0, .int (z - 1)] = some (.int q) := ⟨_, rfl⟩
  obtain ⟨q, hq⟩ := hmax
  generalize hy : x0 % 6 = y at m6 w6
  have step : ∀ r' : List Int, exec (run T n) gas0 tBent.body (entry 6 [.tup (r.map .int), .lst (ws.map .int), .int most]) = some (.rt (.tup (r'.map .int))) → run T (n + 1) k [.tup (r.map .int), .lst (ws.map .int), .int most] = some (.tup (r'.map .int)) := fun r' h => run_rt hT rfl h
  have pre : ∀ {R : Option Out} (tail : IS), exec (run T n) gas0 tail [.sh (.tup (r.map .int)), .sh (.lst (ws.map .int)), .sh (.int most), .sh (.int y), .sh (.int z), .sh (.int odd)] = R →
      exec (run T n) gas0 (.seq (.asg 3 false (.bin .Mod (.bi .int (.ac (.idx (.v 1) (.c (.int 0))) .an)) (.c (.int 6)))) (.seq (.asg 4 false (.bin .Mod (.bi .int (.ac (.idx (.v 1) (.c (.int 1))) .an)) (.bin .Add (.bi .len (.ac (.v 0) .an)) (.c (.int 1))))) (.seq (.asg 5 false (.idx (.tup (.ac (.bin .Sub (.bin .Mod (.bi .int (.ac (.idx (.v 1) (.c (.int 2))) .an)) (.bin .Add (.v 2) (.c (.int 3)))) (.c (.int 1))) (.ac (.bin .Pow (.c (.int 10)) (.c (.int 20))) (.ac (.bin .Sub (.c (.int 0)) (.c (.int 1))) .an)))) (.bin .FloorDiv (.bin .Mod (.bin .FloorDiv (.bi .int (.ac (.idx (.v 1) (.c (.int 2))) .an)) (.c (.int 60))) (.c (.int 12))) (.c (.int 10))))) tail))) (entry 6 [.tup (r.map .int), .lst (ws.map .int), .int most]) = R := fun tail h => by
    refine seq_nx (e1 := [.sh (.tup (r.map .int)), .sh (.lst (ws.map .int)), .sh (.int most), .sh (.int y), .no, .no]) ?_ (seq_nx (e1 := [.sh (.tup (r.map .int)), .sh (.lst (ws.map .int)), .sh (.int most), .sh (.int y), .sh (.int z), .no]) ?_ (seq_nx (e1 := [.sh (.tup (r.map .int)), .sh (.lst (ws.map .int)), .sh (.int most), .sh (.int y), .sh (.int z), .sh (.int odd)]) ?_ h))
    · simp only [exec, ev, fin_ff, eget, eset, entry, List.map_cons, List.map_nil, List.cons_append, List.nil_append, List.length_cons, List.length_nil, i0, i_int, m6, Bool.false_eq_true, if_false]
      rfl
    · simp only [exec, ev, fin_ff, eget, eset, i1, i_int, hl, i_add, m1, Bool.false_eq_true, if_false]
    · simp only [exec, ev, fin_ff, eget, eset, i2, i_int, i_add, i_sub, m3, pw, f60, f12, f10, io, Bool.false_eq_true, if_false]
  have hy6 : y = 0 ∨ y = 1 ∨ (y = 2 ∨ y = 3) ∨ y = 4 ∨ y = 5 := by omega
  rcases hy6 with rfl | rfl | hy2 | rfl | rfl
  · refine ⟨cutL r none (some z) ++ cutL r (some (z + 1)) none, by have := cl none (some z); have := cl (some (z + 1)) none; rw [List.length_append]; omega, fun x h => mem2 h (fun y hy => .inl (cm hy)) (fun y hy => .inl (cm hy)), step _ (pre _ ?_)⟩
    have c := t_cat (a := cutL r none (some z)) (b := cutL r (some (z + 1)) none) (by have := cl none (some z); have := cl (some (z + 1)) none; omega)
    refine seq_rt (iff_t rfl ?_)
    simp only [exec, ev, fin_ff, eget, parD, n0, n4, n5, i_add, if_true, Bool.false_eq_true, if_false, sl_t, c, Option.map_some]
  · refine ⟨cutL r none (some z) ++ [odd] ++ cutL r (some z) none, by have := cl none (some z); have := cl (some z) none; rw [List.length_append, List.length_append]; simp; omega, fun x h => mem2 h (fun y hy => mem2 hy (fun y hy => .inl (cm hy)) modd) (fun y hy => .inl (cm hy)), step _ (pre _ ?_)⟩
    have c1 := t_cat1 (a := cutL r none (some z)) odd (by have := cl none (some z); omega)
    have c := t_cat (a := cutL r none (some z) ++ [odd]) (b := cutL r (some z) none) (by have := cl none (some z); have := cl (some z) none; rw [List.length_append]; simp; omega)
    refine seq_nx (iff_f rfl rfl) (seq_rt (iff_t rfl ?_))
    simp only [exec, ev, fin_ff, eget, parD, n0, n4, n5, i_add, if_true, Bool.false_eq_true, if_false, sl_t, c1, c, Option.map_some]
  · refine ⟨cutL r none (some z) ++ [odd] ++ cutL r (some (z + 1)) none, by have := cl none (some z); have := cl (some (z + 1)) none; rw [List.length_append, List.length_append]; simp; omega, fun x h => mem2 h (fun y hy => mem2 hy (fun y hy => .inl (cm hy)) modd) (fun y hy => .inl (cm hy)), step _ (pre _ ?_)⟩
    have c1 := t_cat1 (a := cutL r none (some z)) odd (by have := cl none (some z); omega)
    have c := t_cat (a := cutL r none (some z) ++ [odd]) (b := cutL r (some (z + 1)) none) (by have := cl none (some z); have := cl (some (z + 1)) none; rw [List.length_append]; simp; omega)
    rcases hy2 with rfl | rfl
    · refine seq_nx (iff_f rfl rfl) (seq_nx (iff_f rfl rfl) (seq_rt (iff_t rfl ?_)))
      simp only [exec, ev, fin_ff, eget, parD, n0, n4, n5, i_add, if_true, Bool.false_eq_true, if_false, sl_t, c1, c, Option.map_some]
    · refine seq_nx (iff_f rfl rfl) (seq_nx (iff_f rfl rfl) (seq_rt (iff_t rfl ?_)))
      simp only [exec, ev, fin_ff, eget, parD, n0, n4, n5, i_add, if_true, Bool.false_eq_true, if_false, sl_t, c1, c, Option.map_some]
  · refine ⟨r.reverse, by rw [List.length_reverse]; omega, fun x h => .inl (List.mem_reverse.mp h), step _ (pre _ ?_)⟩
    refine seq_nx (iff_f rfl rfl) (seq_nx (iff_f rfl rfl) (seq_nx (iff_f rfl rfl) (seq_rt ?_)))
    have e4 : ev (run T n) (.cmp .Eq (.v 3) (.c (.int 4))) true [.sh (.tup (r.map .int)), .sh (.lst (ws.map .int)), .sh (.int most), .sh (.int 4), .sh (.int z), .sh (.int odd)] = some (.bl true) := rfl
    simp only [exec, ev, fin_ff, eget] at e4 ⊢
    simp only [e4, Option.map_some, List.map_reverse]
  · refine ⟨cutL r none (some z) ++ cutL r (some q) none, by have := cl none (some z); have := cl (some q) none; rw [List.length_append]; omega, fun x h => mem2 h (fun y hy => .inl (cm hy)) (fun y hy => .inl (cm hy)), step _ (pre _ ?_)⟩
    have c := t_cat (a := cutL r none (some z)) (b := cutL r (some q) none) (by have := cl none (some z); have := cl (some q) none; omega)
    refine seq_nx (iff_f rfl rfl) (seq_nx (iff_f rfl rfl) (seq_nx (iff_f rfl rfl) (seq_rt ?_)))
    have e4 : ev (run T n) (.cmp .Eq (.v 3) (.c (.int 4))) true [.sh (.tup (r.map .int)), .sh (.lst (ws.map .int)), .sh (.int most), .sh (.int 5), .sh (.int z), .sh (.int odd)] = some (.bl false) := rfl
    simp only [exec, ev, fin_ff, eget] at e4 ⊢
    simp only [e4, parD, n0, n4, n6, i_sub, hq, if_true, Bool.false_eq_true, if_false, sl_t, c, Option.map_some]
/-! sorted(set(ints)) -/
def ddI : List Int → List Int
  | [] => []
  | x :: r => if decide (x ∈ r) then ddI r else x :: ddI r
theorem uniq_ints : ∀ W : List Int, uniq (W.map D.int) = (ddI W).map D.int
  | [] => rfl
  | x :: r => by
    have e : ((r.map D.int).any (eqD (.int x))) = decide (x ∈ r) := by
      rw [List.any_map, Bool.eq_iff_iff, List.any_eq_true, decide_eq_true_iff]
      constructor
      · rintro ⟨y, hy, h⟩
        have h : (x == y) = true := h
        rw [eq_of_beq h]
        exact hy
      · intro h
        exact ⟨x, h, beq_self_eq_true x⟩
    rw [List.map_cons]
    unfold uniq ddI
    rw [e, uniq_ints r]
    split <;> rfl
theorem ddI_mem : ∀ (W : List Int) x, x ∈ ddI W → x ∈ W
  | [], _, h => h
  | y :: r, x, h => by
    unfold ddI at h
    split at h
    · exact List.mem_cons_of_mem _ (ddI_mem r x h)
    · rcases List.mem_cons.mp h with rfl | h
      · exact List.mem_cons_self
      · exact List.mem_cons_of_mem _ (ddI_mem r x h)
theorem ddI_len : ∀ W : List Int, (ddI W).length ≤ W.length
  | [] => Nat.le_refl _
  | y :: r => by
    have := ddI_len r
    unfold ddI
    split
    · rw [List.length_cons]; omega
    · rw [List.length_cons, List.length_cons]; omega
theorem ddI_ne : ∀ {W : List Int}, W ≠ [] → ddI W ≠ []
  | [], h => absurd rfl h
  | y :: r, _ => by
    unfold ddI
    split
    · rename_i h
      exact ddI_ne fun z => by rw [z] at h; simp at h
    · simp
theorem i_set {so : Bool} {W : List Int} (hl : W.length ≤ 4000) : setF so (.lst (W.map .int)) = some (if so then .lst ((isort (ddI W)).map .int) else .int (ddI W).length) := by
  show (if Nat.ble (W.map D.int).length 4000 && ((W.map D.int).all isI || (W.map D.int).all isS) then some (if so then D.lst ((uniq (W.map D.int)).mergeSort leD) else D.int (uniq (W.map D.int)).length) else if Nat.ble (W.map D.int).length 63 && (W.map D.int).all isTI && (!so || (W.map D.int).all tupNe) then some (if so then D.lst ((uniq (W.map D.int)).mergeSort leD) else D.int (uniq (W.map D.int)).length) else none) = _
  rw [i_allI, Bool.true_or, List.length_map, Nat.ble_eq_true_of_le hl, uniq_ints, msort_ints, List.length_map]
  rfl
/-- sorted(set(tuples)), len(set(tuples)) -/
theorem p_set {so : Bool} {W : List (List Int)} (hl : W.length ≤ 63) (hne : ∀ k ∈ W, k ≠ []) : setF so (.lst (W.map dT)) = some (if so then .lst ((rsort (ddR W)).map dT) else .int (ddR W).length) := by
  have h2 : (W.map dT).all isTI = true := by
    rw [List.all_eq_true]
    intro d hd
    obtain ⟨k, _, rfl⟩ := List.mem_map.mp hd
    exact i_allI k
  have h3 : (W.map dT).all tupNe = true := by
    rw [List.all_eq_true]
    intro d hd
    obtain ⟨k, hk, rfl⟩ := List.mem_map.mp hd
    cases k with
    | nil => exact absurd rfl (hne _ hk)
    | cons => rfl
  show (if Nat.ble (W.map dT).length 4000 && ((W.map dT).all isI || (W.map dT).all isS) then some (if so then D.lst ((uniq (W.map dT)).mergeSort leD) else D.int (uniq (W.map dT)).length) else if Nat.ble (W.map dT).length 63 && (W.map dT).all isTI && (!so || (W.map dT).all tupNe) then some (if so then D.lst ((uniq (W.map dT)).mergeSort leD) else D.int (uniq (W.map dT)).length) else none) = _
  rw [h2, h3, Bool.or_true, Bool.and_true, Bool.and_true, List.length_map, Nat.ble_eq_true_of_le hl, uniq_t, msort_t, List.length_map]
  split <;> rfl
theorem fin_bl (t b : Bool) : fin t (some (.bl b)) = some (.bl b) := by cases t <;> rfl
theorem c_le (a b : Int) : cmpD .LtE (.int a) (.int b) = some (decide (a ≤ b)) := rfl
theorem c_lt (a b : Int) : cmpD .Lt (.int a) (.int b) = some (decide (a < b)) := rfl
theorem c_gt (a b : Int) : cmpD .Gt (.int a) (.int b) = some (decide (b < a)) := rfl
theorem c_ge (a b : Int) : cmpD .GtE (.int a) (.int b) = some (decide (b ≤ a)) := rfl
theorem c_eq (a b : Int) : cmpD .Eq (.int a) (.int b) = some (decide (a = b)) := by
  show some (a == b) = _
  congr 1
theorem c_ne (a b : Int) : cmpD .NotEq (.int a) (.int b) = some (!decide (a = b)) := by
  show some (!(a == b)) = _
  congr 1
end Tl

/-! T21: rows of tuples of ints: order, membership, dicts keyed by them, their least, their order by putting in. -/
namespace Tl
open PySem
theorem r_lt (a b : List Int) : ltP (dT a) (dT b) = decide (a < b) := by
  unfold ltP
  rw [toP_t, toP_t, PySem.W.dataLt_tuple]
  exact PySem.W.dataLt_ints a b
theorem r_flat (a : List Int) : flat 40 (dT a) = true := i_flats 39 a
theorem r_alike (a b : List Int) : PySem.W.alike (toP (dT a)) (toP (dT b)) = true := by
  rw [toP_t, toP_t]
  exact SetX.alike_ints a b
theorem c_ltR (a b : List Int) : cmpD .Lt (dT a) (dT b) = some (decide (a < b)) := by
  show (if (flat 40 (dT a) && flat 40 (dT b) && PySem.W.alike (toP (dT a)) (toP (dT b))) = true then some (ltP (dT a) (dT b)) else none) = _
  rw [r_flat, r_flat, r_alike, r_lt]
  rfl
theorem r_flats : ∀ (W : List (List Int)), flats 40 (W.map dT) = true
  | [] => rfl
  | k :: W => by
    show (flats 39 (k.map .int) && flats 40 (W.map dT)) = true
    rw [i_flats, r_flats W]; rfl
theorem r_flats' : ∀ (n : Nat) (W : List (List Int)), flats (n + 1) (W.map dT) = true
  | _, [] => rfl
  | n, k :: W => by
    show (flats n (k.map .int) && flats (n + 1) (W.map dT)) = true
    rw [i_flats, r_flats' n W]; rfl
theorem r_like (W : List (List Int)) : likeOk (W.map dT) = true := by
  unfold likeOk
  have : ((W.map dT).all fun x => (W.map dT).all fun y => PySem.W.alike (toP x) (toP y)) = true := by
    rw [List.all_eq_true]
    intro x hx
    rw [List.all_eq_true]
    intro y hy
    obtain ⟨a, _, rfl⟩ := List.mem_map.mp hx
    obtain ⟨b, _, rfl⟩ := List.mem_map.mp hy
    exact r_alike a b
  rw [this, Bool.or_true]
theorem r_tupNe {W : List (List Int)} (hne : ∀ k ∈ W, k ≠ []) : (W.map dT).all tupNe = true := by
  rw [List.all_eq_true]
  intro d hd
  obtain ⟨k, hk, rfl⟩ := List.mem_map.mp hd
  cases k with
  | nil => exact absurd rfl (hne _ hk)
  | cons => rfl
theorem r_sorted {W : List (List Int)} (hl : W.length ≤ 100000) (hne : ∀ k ∈ W, k ≠ []) : biD .sorted [.lst (W.map dT)] = some (.lst ((rsort W).map dT)) := by
  have ok : okLen (W.map dT) = true := okLen_of (by rw [List.length_map]; omega)
  show (if flats 40 (W.map dT) && okLen (W.map dT) && likeOk (W.map dT) && ((W.map dT).all tupNe || ((W.map dT).all plainK || tupE (W.map dT))) then some (D.lst ((W.map dT).mergeSort leD)) else none) = _
  rw [r_flats, r_like, ok, r_tupNe hne, Bool.true_or, msort_t]
  rfl
theorem r_sortedT {W : List (List Int)} (hl : W.length ≤ 100000) (hne : ∀ k ∈ W, k ≠ []) : biD .sorted [.tup (W.map dT)] = some (.lst ((rsort W).map dT)) := r_sorted hl hne
/-! membership -/
theorem r_any (x : List Int) (W : List (List Int)) : ((W.map dT).any fun y => eqD y (dT x)) = decide (x ∈ W) := by
  rw [List.any_map, Bool.eq_iff_iff, List.any_eq_true, decide_eq_true_iff]
  constructor
  · rintro ⟨y, hy, h⟩
    have h : eqD (dT y) (dT x) = true := h
    rw [eqD_t, decide_eq_true_iff] at h
    rw [← h]; exact hy
  · intro h
    exact ⟨x, h, by show eqD (dT x) (dT x) = true; rw [eqD_t]; simp⟩
theorem r_in (x : List Int) (W : List (List Int)) : cmpD .In (dT x) (.lst (W.map dT)) = some (decide (x ∈ W)) := by
  show (if flat 40 (dT x) && flats 40 (W.map dT) then some ((W.map dT).any fun y => eqD y (dT x)) else none) = _
  rw [r_flat, r_flats, r_any]; rfl
theorem r_inT (x : List Int) (W : List (List Int)) : cmpD .In (dT x) (.tup (W.map dT)) = some (decide (x ∈ W)) := by
  show (if flat 40 (dT x) && flats 40 (W.map dT) then some ((W.map dT).any fun y => eqD y (dT x)) else none) = _
  rw [r_flat, r_flats, r_any]; rfl
theorem r_nin (x : List Int) (W : List (List Int)) : cmpD .NotIn (dT x) (.lst (W.map dT)) = some (!decide (x ∈ W)) := by
  show (if flat 40 (dT x) && flats 40 (W.map dT) then some (!(W.map dT).any fun y => eqD y (dT x)) else none) = _
  rw [r_flat, r_flats, r_any]; rfl
theorem r_ninT (x : List Int) (W : List (List Int)) : cmpD .NotIn (dT x) (.tup (W.map dT)) = some (!decide (x ∈ W)) := by
  show (if flat 40 (dT x) && flats 40 (W.map dT) then some (!(W.map dT).any fun y => eqD y (dT x)) else none) = _
  rw [r_flat, r_flats, r_any]; rfl
theorem c_eqR (a b : List Int) : cmpD .Eq (dT a) (dT b) = some (decide (a = b)) := by
  show (if flat 40 (dT a) && flat 40 (dT b) then some (eqD (dT a) (dT b)) else none) = _
  rw [r_flat, r_flat, eqD_t]; rfl
theorem c_neR (a b : List Int) : cmpD .NotEq (dT a) (dT b) = some (!decide (a = b)) := by
  show (if flat 40 (dT a) && flat 40 (dT b) then some (!eqD (dT a) (dT b)) else none) = _
  rw [r_flat, r_flat, eqD_t]; rfl
theorem eqDs_r : ∀ a b : List (List Int), eqDs (a.map dT) (b.map dT) = decide (a = b)
  | [], [] => rfl
  | [], _ :: _ => rfl
  | _ :: _, [] => rfl
  | x :: a, y :: b => by
    show (eqD (dT x) (dT y) && eqDs (a.map dT) (b.map dT)) = _
    rw [eqDs_r a b, eqD_t]
    by_cases h : x = y
    · subst h; simp
    · simp [h]
theorem c_eqRs (a b : List (List Int)) : cmpD .Eq (.lst (a.map dT)) (.lst (b.map dT)) = some (decide (a = b)) := by
  show (if flats 39 (a.map dT) && flats 39 (b.map dT) then some (eqDs (a.map dT) (b.map dT)) else none) = _
  rw [r_flats', r_flats', eqDs_r]; rfl
theorem c_eqRT (a b : List (List Int)) : cmpD .Eq (.tup (a.map dT)) (.tup (b.map dT)) = some (decide (a = b)) := by
  show (if flats 39 (a.map dT) && flats 39 (b.map dT) then some (eqDs (a.map dT) (b.map dT)) else none) = _
  rw [r_flats', r_flats', eqDs_r]; rfl
/-! dicts keyed by tuples of ints -/
section
variable {α : Type}
def rkv (f : α → D) (l : List (List Int × α)) : List (D × D) := l.map fun p => (dT p.1, f p.2)
def rget : List (List Int × α) → List Int → Option α
  | [], _ => none
  | p :: r, k => if p.1 = k then some p.2 else rget r k
def rput (l : List (List Int × α)) (k : List Int) (v : α) : List (List Int × α) :=
  if k ∈ l.map Prod.fst then l.map (fun p => if p.1 = k then (p.1, v) else p) else l ++ [(k, v)]
theorem sames_ints : ∀ a b : List Int, sameDs (a.map .int) (b.map .int) = decide (a = b)
  | [], [] => rfl
  | [], _ :: _ => rfl
  | _ :: _, [] => rfl
  | x :: a, y :: b => by
    show (sameD (.int x) (.int y) && sameDs (a.map .int) (b.map .int)) = _
    rw [sames_ints a b, same_int]
    by_cases h : x = y
    · subst h; simp
    · simp [h]
theorem same_r (a b : List Int) : sameD (dT a) (dT b) = decide (a = b) := sames_ints a b
theorem keyT_r (a : List Int) : keyT true (dT a) = true := by
  show (true && (a.map D.int).all isKey) = true
  rw [Bool.true_and, List.all_map, List.all_eq_true]
  intro x _
  rfl
theorem dGet_r (f : α → D) (k : List Int) : ∀ l : List (List Int × α), dGet (rkv f l) (dT k) = (rget l k).map f
  | [] => rfl
  | p :: r => by
    show (if sameD (dT p.1) (dT k) then some (f p.2) else dGet (rkv f r) (dT k)) = _
    rw [same_r, dGet_r f k r, show rget (p :: r) k = if p.1 = k then some p.2 else rget r k from rfl]
    by_cases h : p.1 = k
    · simp [h]
    · simp [h]
theorem rkv_any (f : α → D) (k : List Int) (l : List (List Int × α)) : ((rkv f l).any fun p => sameD p.1 (dT k)) = decide (k ∈ l.map Prod.fst) := by
  rw [Bool.eq_iff_iff, List.any_eq_true, decide_eq_true_iff, List.mem_map]
  constructor
  · rintro ⟨p, hp, h⟩
    unfold rkv at hp
    obtain ⟨q, hq, rfl⟩ := List.mem_map.mp hp
    have h : sameD (dT q.1) (dT k) = true := h
    rw [same_r, decide_eq_true_iff] at h
    exact ⟨q, hq, h⟩
  · rintro ⟨q, hq, h⟩
    exact ⟨(dT q.1, f q.2), List.mem_map.mpr ⟨q, hq, rfl⟩, by show sameD (dT q.1) (dT k) = true; rw [same_r, h]; simp⟩
theorem dPut_r (f : α → D) (k : List Int) (v : α) (l : List (List Int × α)) : dPut (rkv f l) (dT k) (f v) = rkv f (rput l k v) := by
  unfold dPut rput
  rw [rkv_any]
  by_cases h : k ∈ l.map Prod.fst
  · rw [decide_eq_true h, if_pos rfl, if_pos h]
    unfold rkv
    rw [List.map_map, List.map_map]
    apply List.map_congr_left
    intro p _
    show (if sameD (dT p.1) (dT k) then (dT p.1, f v) else (dT p.1, f p.2)) = _
    rw [same_r]
    by_cases e : p.1 = k
    · simp [e]
    · simp [e]
  · rw [decide_eq_false h, if_neg Bool.false_ne_true, if_neg h]
    unfold rkv
    rw [List.map_append]
    rfl
theorem rget_some {l : List (List Int × α)} {k : List Int} : (rget l k).isSome = decide (k ∈ l.map Prod.fst) := by
  induction l with
  | nil => rfl
  | cons p r ih =>
    unfold rget
    by_cases h : p.1 = k
    · simp [h]
    · rw [if_neg h, ih]
      by_cases h2 : k ∈ r.map Prod.fst
      · simp [h2]
      · have : ¬ k = p.1 := fun z => h z.symm
        simp [h2, this]
theorem keys_rput {l : List (List Int × α)} {k : List Int} {v : α} : (rput l k v).map Prod.fst = if k ∈ l.map Prod.fst then l.map Prod.fst else l.map Prod.fst ++ [k] := by
  unfold rput
  split
  · rw [List.map_map]
    apply List.map_congr_left
    intro p _
    show (if p.1 = k then (p.1, v) else p).1 = p.1
    split <;> rfl
  · rw [List.map_append]; rfl
theorem rget_put (l : List (List Int × α)) (k j : List Int) (v : α) : rget (rput l k v) j = if j = k then some v else rget l j := by
  have app : ∀ (l m : List (List Int × α)), rget (l ++ m) j = match rget l j with | some v => some v | none => rget m j := fun l m => by
    induction l with
    | nil => rfl
    | cons p r ih =>
      show (if p.1 = j then some p.2 else rget (r ++ m) j) = match (if p.1 = j then some p.2 else rget r j) with | some v => some v | none => rget m j
      split
      · rfl
      · exact ih
  unfold rput
  split
  · rename_i h
    induction l with
    | nil => cases h
    | cons p r ih =>
      rw [List.map_cons]
      unfold rget
      by_cases e : p.1 = k
      · rw [if_pos e]
        by_cases ej : j = k
        · subst ej; simp [e]
        · have : ¬ p.1 = j := fun z => ej (by rw [← z, e])
          simp only [this, if_false, ej]
          by_cases hr : k ∈ r.map Prod.fst
          · rw [ih hr, if_neg ej]
          · have : r.map (fun p => if p.1 = k then (p.1, v) else p) = r := by
              rw [List.map_congr_left (g := id) (fun q hq => ?_), List.map_id]
              have : ¬ q.1 = k := fun z => hr (by rw [← z]; exact List.mem_map_of_mem hq)
              simp [this]
            rw [this]
      · rw [if_neg e]
        have hr : k ∈ r.map Prod.fst := by
          rw [List.map_cons] at h
          rcases List.mem_cons.mp h with h | h
          · exact absurd h.symm e
          · exact h
        rw [ih hr]
        by_cases ep : p.1 = j
        · have : ¬ j = k := fun z => e (ep.trans z)
          simp [ep, this]
        · simp [ep]
  · rename_i h
    rw [app]
    by_cases ej : j = k
    · subst ej
      have : rget l j = none := by
        cases q : rget l j with
        | none => rfl
        | some w =>
          have := rget_some (l := l) (k := j)
          rw [q] at this
          exact absurd (of_decide_eq_true this.symm) h
      rw [this, if_pos rfl]
      show (if j = j then some v else none) = some v
      rw [if_pos rfl]
    · rw [if_neg ej]
      cases rget l j with
      | some w => rfl
      | none =>
        show (if k = j then some v else none) = none
        rw [if_neg fun z => ej z.symm]
theorem rkv_ok (f : α → D) {l : List (List Int × α)} (h : l.length ≤ 100000) : okLen (rkv f l) = true := okLen_of (by unfold rkv; rw [List.length_map]; exact h)
theorem rkv_keys (f : α → D) (l : List (List Int × α)) : (rkv f l).map Prod.fst = (l.map Prod.fst).map dT := by unfold rkv; rw [List.map_map, List.map_map]; rfl
theorem d_in_r (f : α → D) (k : List Int) (l : List (List Int × α)) : cmpD .In (dT k) (.dic true (rkv f l)) = some (decide (k ∈ l.map Prod.fst)) := by
  show (if keyT true (dT k) then some (dGet (rkv f l) (dT k)).isSome else none) = _
  rw [keyT_r, dGet_r, Option.isSome_map, rget_some]; rfl
theorem d_nin_r (f : α → D) (k : List Int) (l : List (List Int × α)) : cmpD .NotIn (dT k) (.dic true (rkv f l)) = some (!decide (k ∈ l.map Prod.fst)) := by
  show (if keyT true (dT k) then some (!(dGet (rkv f l) (dT k)).isSome) else none) = _
  rw [keyT_r, dGet_r, Option.isSome_map, rget_some]; rfl
theorem d_ix_r (f : α → D) (k : List Int) (l : List (List Int × α)) : idxD (.dic true (rkv f l)) (dT k) = (rget l k).map f := by
  show (if keyT true (dT k) then dGet (rkv f l) (dT k) else none) = _
  rw [keyT_r, dGet_r]; rfl
/-- sorted(d), d keyed by tuples of ints -/
theorem dso_r {F : Nat → List D → Option D} {x : IE} {e : En} {f : α → D} {l : List (List Int × α)} (hx : ev F x false e = some (.dic true (rkv f l))) (hl : l.length ≤ 100000) (hne : ∀ k ∈ l.map Prod.fst, k ≠ []) : ev F (.dso x) false e = some (.lst ((rsort (l.map Prod.fst)).map dT)) := by
  have ok := rkv_ok f hl
  have k1 : likeOk ((rkv f l).map Prod.fst) = true := by rw [rkv_keys]; exact r_like _
  have k2 : ((rkv f l).map Prod.fst).all tupNe = true := by rw [rkv_keys]; exact r_tupNe hne
  have k3 : ((rkv f l).map Prod.fst).mergeSort leD = (rsort (l.map Prod.fst)).map dT := by rw [rkv_keys]; exact msort_t _
  simp only [ev, fin_ff, hx, ok, k1, k2, k3, Bool.and_self, if_true]
end
/-! order by putting in -/
def rin1 (x : List Int) : List (List Int) → List (List Int)
  | [] => [x]
  | y :: r => if x ≤ y then x :: y :: r else y :: rin1 x r
def rins : List (List Int) → List (List Int)
  | [] => []
  | x :: r => rin1 x (rins r)
theorem rin1_perm (x : List Int) : ∀ r, (rin1 x r).Perm (x :: r)
  | [] => List.Perm.refl _
  | y :: r => by
    unfold rin1
    split
    · exact List.Perm.refl _
    · exact ((rin1_perm x r).cons y).trans (List.Perm.swap x y r)
theorem rins_perm : ∀ r, (rins r).Perm r
  | [] => List.Perm.refl _
  | x :: r => (rin1_perm x _).trans ((rins_perm r).cons x)
theorem rin1_sorted (x : List Int) : ∀ r : List (List Int), r.Pairwise (· ≤ ·) → (rin1 x r).Pairwise (· ≤ ·)
  | [], _ => by simp [rin1]
  | y :: r, h => by
    rw [List.pairwise_cons] at h
    unfold rin1
    split
    · rename_i hxy
      refine List.pairwise_cons.mpr ⟨fun z hz => ?_, List.pairwise_cons.mpr h⟩
      rcases List.mem_cons.mp hz with rfl | hz
      · exact hxy
      · exact List.le_trans hxy (h.1 z hz)
    · rename_i hxy
      refine List.pairwise_cons.mpr ⟨fun z hz => ?_, rin1_sorted x r h.2⟩
      rcases List.mem_cons.mp ((rin1_perm x r).mem_iff.mp hz) with rfl | hz
      · rcases List.le_total y z with g | g
        · exact g
        · exact absurd g hxy
      · exact h.1 z hz
theorem rins_sorted : ∀ r, (rins r).Pairwise (· ≤ ·)
  | [] => List.Pairwise.nil
  | x :: r => rin1_sorted x _ (rins_sorted r)
theorem rsort_ins (W : List (List Int)) : rsort W = rins W := rsorted_eq ((rsort_perm W).trans (rins_perm W).symm) (rsort_sorted W) (rins_sorted W)
theorem rsort_of {W V : List (List Int)} (p : W.Perm V) : rsort W = rsort V := rsorted_eq ((rsort_perm W).trans (p.trans (rsort_perm V).symm)) (rsort_sorted W) (rsort_sorted V)
theorem rsort_len (W : List (List Int)) : (rsort W).length = W.length := (rsort_perm W).length_eq
theorem rsort_mem {W : List (List Int)} {x : List Int} : x ∈ rsort W ↔ x ∈ W := (rsort_perm W).mem_iff
/-! what _law_is says of these -/
theorem isDs_ints : ∀ l : List Int, isDs (l.map .int) (l.map .int) = true
  | [] => rfl
  | x :: r => by
    show (isD (.int x) (.int x) && isDs (r.map .int) (r.map .int)) = true
    rw [isDs_ints r]; simp [isD]
theorem isD_r (l : List Int) : isD (dT l) (dT l) = true := isDs_ints l
theorem isDs_r : ∀ W : List (List Int), isDs (W.map dT) (W.map dT) = true
  | [] => rfl
  | x :: r => by
    show (isD (dT x) (dT x) && isDs (r.map dT) (r.map dT)) = true
    rw [isDs_r r, isD_r]; rfl
theorem isD_rs (W : List (List Int)) : isD (.tup (W.map dT)) (.tup (W.map dT)) = true := isDs_r W
theorem duesOk_ints : ∀ (n : Nat) (l : List Int), duesOk n (l.map .int) = true
  | _, [] => rfl
  | n, x :: r => by
    show (dueOk n (.int x) && duesOk n (r.map .int)) = true
    rw [duesOk_ints n r]
    cases n <;> rfl
theorem dueOk_r (n : Nat) (l : List Int) (h : l.length ≤ 100000) : dueOk (n + 1) (dT l) = true := by
  show (Nat.ble (l.map D.int).length 100000 && duesOk n (l.map .int)) = true
  rw [duesOk_ints, List.length_map, Nat.ble_eq_true_of_le h]; rfl
theorem duesOk_r (n : Nat) : ∀ (W : List (List Int)), (∀ l ∈ W, l.length ≤ 100000) → duesOk (n + 1) (W.map dT) = true
  | [], _ => rfl
  | x :: r, h => by
    show (dueOk (n + 1) (dT x) && duesOk (n + 1) (r.map dT)) = true
    rw [dueOk_r n x (h x (by simp)), duesOk_r n r fun l hl => h l (by simp [hl])]; rfl
theorem dueOk_rs (W : List (List Int)) (h : W.length ≤ 100000) (h2 : ∀ l ∈ W, l.length ≤ 100000) : dueOk 2 (.tup (W.map dT)) = true := by
  show (Nat.ble (W.map dT).length 100000 && duesOk 1 (W.map dT)) = true
  rw [duesOk_r 0 W h2, List.length_map, Nat.ble_eq_true_of_le h]; rfl
theorem noDic_r (l : List Int) : noDic (dT l) = true := noDics_map (fun _ => rfl) l
theorem noDic_rs (W : List (List Int)) : noDic (.tup (W.map dT)) = true := noDics_map noDic_r W
end Tl

/-! T22: pairs of ints, comprehensions by items, ranges of numbers, draws cut, what _law_is says. -/
namespace Tl
abbrev Sp := Int × Int
def two (p : Sp) : List Int := [p.1, p.2]
def spD (p : Sp) : D := dT [p.1, p.2]
def psD (ps : List Sp) : D := .tup (ps.map spD)
def psL (ps : List Sp) : D := .lst (ps.map spD)
theorem ps_two (ps : List Sp) : ps.map spD = (ps.map two).map dT := by rw [List.map_map]; rfl
theorem two_inj {p q : Sp} : two p = two q ↔ p = q := by
  obtain ⟨a, b⟩ := p
  obtain ⟨c, d⟩ := q
  simp [two]
theorem two_mem {p : Sp} {ps : List Sp} : two p ∈ ps.map two ↔ p ∈ ps := by
  rw [List.mem_map]
  exact ⟨fun ⟨q, h, e⟩ => by rw [← two_inj.mp e]; exact h, fun h => ⟨p, h, rfl⟩⟩
theorem lc_b {α : Type} {t x : En → Option D} {tp : TP} {e : En} (emb : α → D) (p : α → Bool) (f : α → D) : ∀ (js : List α), (∀ j ∈ js, ∃ e1, bindT tp (emb j) e = some e1 ∧ t e1 = some (.bl (p j)) ∧ (p j = true → x e1 = some (f j))) → lcGo t x tp e (js.map emb) = some ((js.filter p).map f)
  | [], _ => rfl
  | j :: r, h => by
    have ih := lc_b emb p f r fun i hi => h i (by simp [hi])
    obtain ⟨e1, h0, h1, h2⟩ := h j (by simp)
    rw [List.map_cons]
    unfold lcGo
    rw [h0]
    simp only [h1]
    cases hp : p j with
    | true => simp only [h2 hp, ih, List.filter_cons, hp, if_true, List.map_cons]
    | false => simp only [ih, List.filter_cons, hp, Bool.false_eq_true, if_false]
/-- without a test -/
theorem lc_a {α : Type} {x : En → Option D} {tp : TP} {e : En} (emb : α → D) (f : α → D) (js : List α) (h : ∀ j ∈ js, ∃ e1, bindT tp (emb j) e = some e1 ∧ x e1 = some (f j)) : lcGo (fun _ => some (.bl true)) x tp e (js.map emb) = some (js.map f) := by
  have := lc_b (t := fun _ => some (.bl true)) (x := x) (tp := tp) (e := e) emb (fun _ => true) f js fun j hj => by
    obtain ⟨e1, h0, h1⟩ := h j hj
    exact ⟨e1, h0, rfl, fun _ => h1⟩
  rw [this, List.filter_eq_self.mpr fun _ _ => rfl]
theorem gex_b {α : Type} {al : Bool} {f : En → Option D} {tp : TP} {e : En} (emb : α → D) (p : α → Bool) : ∀ (js : List α), (∀ j ∈ js, ∃ e1, bindT tp (emb j) e = some e1 ∧ f e1 = some (.bl (p j))) → gexGo al f tp e (js.map emb) = some (if al then js.all p else js.any p)
  | [], _ => by cases al <;> rfl
  | j :: r, h => by
    have ih := gex_b (al := al) emb p r fun i hi => h i (by simp [hi])
    obtain ⟨e1, h0, h1⟩ := h j (by simp)
    rw [List.map_cons]
    unfold gexGo
    rw [h0]
    simp only [h1]
    cases al <;> cases hp : p j <;> simp [ih, hp]
/-! ranges -/
def rI (s c : Nat) : List D := (List.range' s c).map fun (r : Nat) => D.int (r : Nat)
theorem rI_z (s : Nat) : rI s 0 = [] := rfl
theorem rI_s (s c : Nat) : rI s (c + 1) = .int (s : Nat) :: rI (s + 1) c := rfl
theorem rI_rng1 {n : Nat} (h : n ≤ 100000) : rngD [.int (n : Nat)] = some (.lst (rI 0 n)) := by
  rw [rng_i (sm62 (by omega) (by omega))]
  unfold irange rI
  rw [List.range'_eq_map_range, List.map_map, List.map_map, show ((n : Int)).toNat = n by omega]
  congr 2
  apply List.map_congr_left
  intro i _
  simp
theorem irange_rI (n : Nat) : (irange (n : Nat)).map D.int = rI 0 n := by
  unfold irange rI
  rw [List.range'_eq_map_range, List.map_map, List.map_map, show ((n : Int)).toNat = n by omega]
  apply List.map_congr_left
  intro i _
  simp
/-! pairs -/
theorem ps_len (a : List Sp) : biD .len [psD a] = some (.int (a.length : Nat)) := by
  show some (D.int ((a.map spD).length : Nat)) = _
  rw [List.length_map]
theorem ps_lenL (a : List Sp) : biD .len [psL a] = some (.int (a.length : Nat)) := by
  show some (D.int ((a.map spD).length : Nat)) = _
  rw [List.length_map]
theorem ps_cat {a b : List Sp} (h : a.length + b.length ≤ 100000) : binD .Add (psD a) (psD b) = some (psD (a ++ b)) := by
  show (if okLen (a.map spD ++ b.map spD) then some (D.tup (a.map spD ++ b.map spD)) else none) = _
  rw [← List.map_append, if_pos (okLen_of (by rw [List.length_map, List.length_append]; exact h))]
  rfl
theorem ps_catL {a b : List Sp} (h : a.length + b.length ≤ 100000) : binD .Add (psL a) (psL b) = some (psL (a ++ b)) := by
  show (if okLen (a.map spD ++ b.map spD) then some (D.lst (a.map spD ++ b.map spD)) else none) = _
  rw [← List.map_append, if_pos (okLen_of (by rw [List.length_map, List.length_append]; exact h))]
  rfl
theorem ps_cut (a : List Sp) (lo hi : Option Int) : slcD (psD a) lo hi = some (psD (cutL a lo hi)) := by
  show some (D.tup (cutL (a.map spD) lo hi)) = _
  rw [cut_map]; rfl
theorem ps_cutL (a : List Sp) (lo hi : Option Int) : slcD (psL a) lo hi = some (psL (cutL a lo hi)) := by
  show some (D.lst (cutL (a.map spD) lo hi)) = _
  rw [cut_map]; rfl
theorem ps_ix {a : List Sp} {i : Nat} (h : i < a.length) : idxD (psD a) (.int (i : Nat)) = some (spD (a.getD i (0, 0))) := by
  show ((ixD (a.map spD).length (i : Int)).bind fun j => (a.map spD)[j]?) = _
  rw [List.length_map, ixD_nat h]
  show (a.map spD)[i]? = _
  rw [List.getElem?_map, List.getElem?_eq_getElem h, List.getD_eq_getElem?_getD, List.getElem?_eq_getElem h]
  rfl
theorem ps_some {a : List Sp} {z : Int} (h0 : 0 ≤ z) (h1 : z < a.length) : ∃ p ∈ a, idxD (psD a) (.int z) = some (spD p) := by
  obtain ⟨d, hd, e⟩ := ix_some (l := a.map spD) (i := z) h0 (by rw [List.length_map]; exact h1)
  obtain ⟨p, hp, rfl⟩ := List.mem_map.mp hd
  exact ⟨p, hp, e⟩
theorem sp_fst (p : Sp) : idxD (spD p) (.int 0) = some (.int p.1) := rfl
theorem sp_snd (p : Sp) : idxD (spD p) (.int 1) = some (.int p.2) := rfl
theorem ps_in (p : Sp) (a : List Sp) : cmpD .In (spD p) (psD a) = some (decide (p ∈ a)) := by
  have := r_inT (two p) (a.map two)
  rw [← ps_two] at this
  rw [show cmpD .In (spD p) (psD a) = cmpD .In (dT (two p)) (.tup (a.map spD)) from rfl, this]
  congr 1
  by_cases h : p ∈ a
  · rw [decide_eq_true h, decide_eq_true (two_mem.mpr h)]
  · rw [decide_eq_false h, decide_eq_false fun z => h (two_mem.mp z)]
theorem ps_inL (p : Sp) (a : List Sp) : cmpD .In (spD p) (psL a) = some (decide (p ∈ a)) := ps_in p a
theorem sp_eq (p q : Sp) : cmpD .Eq (spD p) (spD q) = some (decide (p = q)) := by
  have := c_eqR (two p) (two q)
  rw [show cmpD .Eq (spD p) (spD q) = cmpD .Eq (dT (two p)) (dT (two q)) from rfl, this]
  congr 1
  by_cases h : p = q
  · rw [decide_eq_true h, decide_eq_true (two_inj.mpr h)]
  · rw [decide_eq_false h, decide_eq_false fun z => h (two_inj.mp z)]
theorem sp_ne (p q : Sp) : cmpD .NotEq (spD p) (spD q) = some (!decide (p = q)) := by
  have := c_neR (two p) (two q)
  rw [show cmpD .NotEq (spD p) (spD q) = cmpD .NotEq (dT (two p)) (dT (two q)) from rfl, this]
  congr 2
  by_cases h : p = q
  · rw [decide_eq_true h, decide_eq_true (two_inj.mpr h)]
  · rw [decide_eq_false h, decide_eq_false fun z => h (two_inj.mp z)]
/-! the most of ints, or 0 -/
theorem maxL_ints : ∀ (r : List Int) (n : Int), maxL (.int n) (r.map .int) = .int (mostOf n r)
  | [], _ => rfl
  | x :: r, n => by
    show maxL (if ltP (.int n) (.int x) then .int x else .int n) (r.map .int) = _
    rw [i_lt]
    by_cases h : n < x
    · rw [decide_eq_true h, if_pos rfl, maxL_ints r x]
      show _ = D.int (mostOf (if x > n then x else n) r)
      rw [if_pos h]
    · rw [decide_eq_false h, if_neg Bool.false_ne_true, maxL_ints r n]
      show _ = D.int (mostOf (if x > n then x else n) r)
      rw [if_neg h]
def most0 (z : Int) : List Int → Int
  | [] => z
  | n :: r => mostOf n r
theorem mm_ints (ns : List Int) (z : Int) : mmF true (.lst (ns.map .int)) (.int z) = some (.int (most0 z ns)) := by
  cases ns with
  | nil => rfl
  | cons n r =>
    have nn : ((n :: r).map D.int).all notNon = true := by
      rw [List.all_eq_true]
      intro y hy
      obtain ⟨w, _, rfl⟩ := List.mem_map.mp hy
      rfl
    show (if flats 40 ((n :: r).map D.int) && likeOk ((n :: r).map D.int) && ((n :: r).map D.int).all notNon then some (maxL (.int n) (r.map .int)) else none) = _
    rw [i_flats, i_like, nn, maxL_ints]
    rfl
theorem most_is : ∀ (r : List Int) (n : Int), mostOf n r ∈ n :: r ∧ ∀ y ∈ n :: r, y ≤ mostOf n r
  | [], n => by simp [mostOf]
  | x :: r, n => by
    obtain ⟨h1, h2⟩ := most_is r (if x > n then x else n)
    show mostOf (if x > n then x else n) r ∈ _ ∧ ∀ y ∈ _, y ≤ mostOf (if x > n then x else n) r
    have h3 := h2 _ (List.mem_cons_self)
    have h4 : n ≤ (if x > n then x else n) ∧ x ≤ (if x > n then x else n) ∧ ((if x > n then x else n) = x ∨ (if x > n then x else n) = n) := by
      split <;> omega
    generalize (if x > n then x else n) = z at h1 h2 h3 h4 ⊢
    refine ⟨?_, fun y hy => ?_⟩
    · rcases List.mem_cons.mp h1 with h | h
      · rw [h]; rcases h4.2.2 with h | h <;> simp [h]
      · simp [h]
    · rcases List.mem_cons.mp hy with rfl | hy
      · omega
      · rcases List.mem_cons.mp hy with rfl | hy
        · omega
        · exact h2 y (List.mem_cons_of_mem _ hy)
theorem most_eq {r : List Int} {n m : Int} (h : m ∈ n :: r) (h2 : ∀ y ∈ n :: r, y ≤ m) : mostOf n r = m := by
  obtain ⟨h3, h4⟩ := most_is r n
  have := h4 m h
  have := h2 _ h3
  omega
/-! draws -/
theorem Dr.suf {ds : List Int} {m : Nat} (h : Dr ds m) {k : Nat} (hk : k ≤ m) : ∃ ws : List Int, Dr ws (m - k) ∧ slcD (.lst (ds.map .int)) (some (k : Int)) none = some (.lst (ws.map .int)) := by
  refine ⟨ds.drop k, ⟨by rw [List.length_drop, h.len], fun d hd => h.bd d (List.mem_of_mem_drop hd)⟩, ?_⟩
  rw [sl_l, cut_sufA (by rw [h.len]; exact hk)]
theorem Dr.three {ds : List Int} {m : Nat} (h : Dr ds m) {a : Int} (h0 : 0 ≤ a) (h1 : a + 3 ≤ m) : ∃ ws : List Int, Dr ws 3 ∧ slcD (.lst (ds.map .int)) (some a) (some (a + 3)) = some (.lst (ws.map .int)) := by
  obtain ⟨ws, h2, h3⟩ := h.cut (a := a) (b := a + 3) h0 (by omega) h1
  refine ⟨ws, ?_, h3⟩
  have : (a + 3 - a).toNat = 3 := by omega
  rw [this] at h2
  exact h2
/-! what _law_is says -/
section
variable {T : List Fd} {a k n : Nat}
theorem isq_b (hI : T[a]? = some tIsInt) (hT : T[k]? = some (tIs a k)) (b : Bool) : run T (n + 3) k [.bl b, .bl b] = some (.bl true) := by
  rw [is_run hI hT (n + 3) 1 (.bl b) (.bl b) rfl (by omega)]
  cases b <;> rfl
theorem isq_i (hI : T[a]? = some tIsInt) (hT : T[k]? = some (tIs a k)) (i : Int) : run T (n + 3) k [.int i, .int i] = some (.bl true) := by
  rw [is_run hI hT (n + 3) 1 (.int i) (.int i) rfl (by omega)]
  simp [isD]
theorem isq_non (hI : T[a]? = some tIsInt) (hT : T[k]? = some (tIs a k)) : run T (n + 3) k [.non, .non] = some (.bl true) := is_run hI hT (n + 3) 1 .non .non rfl (by omega)
theorem isq_t (hI : T[a]? = some tIsInt) (hT : T[k]? = some (tIs a k)) {l : List Int} (h : l.length ≤ 100000) : run T (n + 3) k [dT l, dT l] = some (.bl true) := by
  rw [is_run hI hT (n + 3) 1 (dT l) (dT l) (dueOk_r 0 l h) (by omega) (noDic_r l), isD_r]
theorem isq_rs (hI : T[a]? = some tIsInt) (hT : T[k]? = some (tIs a k)) {W : List (List Int)} (h : W.length ≤ 100000) (h2 : ∀ l ∈ W, l.length ≤ 100000) : run T (n + 4) k [.tup (W.map dT), .tup (W.map dT)] = some (.bl true) := by
  rw [is_run hI hT (n + 4) 2 (.tup (W.map dT)) (.tup (W.map dT)) (dueOk_rs W h h2) (by omega) (noDic_rs W), isD_rs]
theorem isq_ps (hI : T[a]? = some tIsInt) (hT : T[k]? = some (tIs a k)) {ps : List Sp} (h : ps.length ≤ 100000) : run T (n + 4) k [psD ps, psD ps] = some (.bl true) := by
  have := isq_rs (n := n) hI hT (W := ps.map two) (by rw [List.length_map]; exact h) (fun l hl => by
    obtain ⟨p, _, rfl⟩ := List.mem_map.mp hl
    exact Nat.le_of_ble_eq_true rfl)
  rw [← ps_two] at this
  exact this
end
end Tl

/-! T23: defs that many laws share: _law_is_row, _law_map, _law_order. -/
namespace Tl
section
variable {T : List Fd} {k m : Nat}
def xRow (a : Nat) : IE := (.call a (.ac (.v 1) .an))
def tRow (a : Nat) : Fd := ⟨1, 2,
  (.seq (.ret (.and (.isi .tuple (.v 0)) (.bi .all (.ac (.lc [1] (.one 1) (.v 0) .yes (xRow a)) .an)))) .skip)⟩
theorem row_run {a : Nat} (hI : T[a]? = some tIsInt) (hT : T[k]? = some (tRow a)) {l : List Int} (hl : l.length ≤ 100000) : run T (m + 2) k [dT l] = some (.bl true) := by
  refine run_rt (n := m + 1) hT rfl ?_
  have g := lc_mi (x := ev (run T (m + 1)) (xRow a) false) (k := 1) (e := wipeE [.sh (dT l), .no] [1]) (fun _ => D.bl true) l (fun j _ => by
    have h9 : run T (m + 1) a [.int j] = some (.bl true) := isInt_run hI (.int j) rfl
    simp only [xRow, ev, fin_ff, wipeE, eget, eset, h9, hasB, Bool.false_eq_true, if_false])
  have e := lc_ev (F := run T (m + 1)) (own := [1]) (tp := .one 1) (it := .v 0) (c := .yes) (x := xRow a) (e := [.sh (dT l), .no]) (d := dT l) rfl rfl g (okLen_of (by rw [List.length_map]; exact hl))
  have al : biD .all [.lst (l.map fun _ => D.bl true)] = some (.bl true) := by
    have h := bs_all (l.map fun _ => true)
    rw [List.map_map] at h
    have : ((l.map fun _ => true).all id) = true := by
      rw [List.all_eq_true]
      intro b hb
      obtain ⟨_, _, rfl⟩ := List.mem_map.mp hb
      rfl
    rw [this] at h
    exact h
  show exec (run T (m + 1)) gas0 (.seq (.ret (.and (.isi .tuple (.v 0)) (.bi .all (.ac (.lc [1] (.one 1) (.v 0) .yes (xRow a)) .an)))) .skip) [.sh (dT l), .no] = _
  refine seq_rt ?_
  have e1 : ev (run T (m + 1)) (.bi .all (.ac (.lc [1] (.one 1) (.v 0) .yes (xRow a)) .an)) false [.sh (dT l), .no] = some (.bl true) := by
    generalize (IE.lc [1] (.one 1) (.v 0) .yes (xRow a)) = q at e ⊢
    simp only [ev, fin_ff, e, al]
  have e0 : ev (run T (m + 1)) (.isi .tuple (.v 0)) false [.sh (dT l), .no] = some (.bl true) := rfl
  generalize (IE.bi .all (.ac (.lc [1] (.one 1) (.v 0) .yes (xRow a)) .an)) = q at e1 ⊢
  simp only [exec, ev, fin_ff, eget] at e0 ⊢
  simp only [exec, ev, fin_ff, eget, e1, e0, Option.map_some]
/-! _law_map -/
def bMap0 : IS := (.seq (.iff (.cmp .Lt (.bin .Mod (.bi .int (.ac (.idx (.v 0) (.bin .Mod (.v 4) (.bi .len (.ac (.v 0) .an)))) .an)) (.c (.int 12))) (.v 2)) (.seq (.app 3 (.tup (.ac (.v 5) (.ac (.v 6) .an)))) .skip) .skip) (.seq (.aug 4 .Add (.c (.int 1))) .skip))
def bMap1 : IS := (.seq (.for (.one 6) (.rng (.ac (.bin .Add (.v 5) (.c (.int 1))) (.ac (.v 1) .an))) bMap0) .skip)
def tMap : Fd := ⟨3, 7,
  (.seq (.asg 3 true (.lst .an)) (.seq (.asg 4 false (.c (.int 0))) (.seq (.for (.one 5) (.rng (.ac (.v 1) .an)) bMap1) (.seq (.ret (.bi .tuple (.ac (.b 3) .an))) .skip))))⟩
/-- borders of a map of n fields -/
structure Bo (B : List Sp) (n : Nat) : Prop where
  rng : ∀ p ∈ B, 0 ≤ p.1 ∧ p.1 < p.2 ∧ p.2 < (n : Nat)
  len : B.length ≤ n * n
section
variable {F : Nat → List D → Option D} {gas : Nat}
theorem map_in {n mm : Nat} {ds : List Int} {sh : Int} (hd : Dr ds mm) (hm : 0 < mm) {a : Int} (ha : 0 ≤ a) : ∀ (js : List Int) (bs : List Sp) (at_ : Int) (x6 : Sl), (∀ j ∈ js, a < j ∧ j < (n : Nat)) → (∀ p ∈ bs, 0 ≤ p.1 ∧ p.1 < p.2 ∧ p.2 < (n : Nat)) → bs.length + js.length ≤ 100000 → 0 ≤ at_ →
    ∃ (bs' : List Sp) (at' : Int) (y6 : Sl), (∀ p ∈ bs', 0 ≤ p.1 ∧ p.1 < p.2 ∧ p.2 < (n : Nat)) ∧ bs'.length ≤ bs.length + js.length ∧ 0 ≤ at' ∧ forGo (exec F gas bMap0) (.one 6) (js.map .int) [.sh (.lst (ds.map .int)), .sh (.int (n : Nat)), .sh (.int sh), .ow (.lst (bs.map spD)), .sh (.int at_), .sh (.int a), x6] = some (.nx [.sh (.lst (ds.map .int)), .sh (.int (n : Nat)), .sh (.int sh), .ow (.lst (bs'.map spD)), .sh (.int at'), .sh (.int a), y6])
  | [], bs, at_, x6, _, h, _, h0 => ⟨bs, at_, x6, h, by simp, h0, rfl⟩
  | j :: js, bs, at_, x6, hj, h, hl, h0 => by
    rw [List.length_cons] at hl
    have ln := i_len ds
    rw [hd.len] at ln
    have md := i_mod (a := at_) (b := (mm : Nat)) (by omega)
    have w := mod_at at_ (m := (mm : Nat)) (by omega)
    obtain ⟨d, _, _, ix⟩ := hd.at (z := at_ % (mm : Nat)) w.1 w.2
    have m12 := i_mod (a := d) (b := 12) (by omega)
    have okb : okLen (bs.map spD) = true := okLen_of (by rw [List.length_map]; omega)
    have au : augD .Add (.int at_) (.int 1) = some (.int (at_ + 1)) := rfl
    rw [List.map_cons]
    by_cases c : d % 12 < sh
    · have cm : decide (d % 12 < sh) = true := decide_eq_true c
      obtain ⟨bs', at', y6, h1, h2, h3, ih⟩ := map_in (sh := sh) hd hm ha js (bs ++ [(a, j)]) (at_ + 1) (.sh (.int j)) (fun i hi => hj i (by simp [hi])) (fun p hp => by
        rcases List.mem_append.mp hp with hp | hp
        · exact h p hp
        · rw [List.mem_singleton] at hp
          subst hp
          have := hj j (by simp)
          exact ⟨ha, this.1, this.2⟩) (by rw [List.length_append, List.length_singleton]; omega) (by omega)
      refine ⟨bs', at', y6, h1, by rw [List.length_append, List.length_singleton] at h2; rw [List.length_cons]; omega, h3, ?_⟩
      unfold forGo
      simp only [bindT, eset]
      have e1 : bs.map spD ++ [D.tup [.int a, .int j]] = (bs ++ [(a, j)]).map spD := by rw [List.map_append]; rfl
      have b : exec F gas bMap0 [.sh (.lst (ds.map .int)), .sh (.int (n : Nat)), .sh (.int sh), .ow (.lst (bs.map spD)), .sh (.int at_), .sh (.int a), .sh (.int j)] = some (.nx [.sh (.lst (ds.map .int)), .sh (.int (n : Nat)), .sh (.int sh), .ow (.lst ((bs ++ [(a, j)]).map spD)), .sh (.int (at_ + 1)), .sh (.int a), .sh (.int j)]) := by
        unfold bMap0
        refine seq_nx (e1 := [.sh (.lst (ds.map .int)), .sh (.int (n : Nat)), .sh (.int sh), .ow (.lst ((bs ++ [(a, j)]).map spD)), .sh (.int at_), .sh (.int a), .sh (.int j)]) (iff_t ?_ (seq_nx ?_ rfl)) (seq_nx ?_ rfl)
        · simp only [ev, fin_ff, fin_bl, eget, ln, md, ix, i_int, m12, c_lt, cm, Option.map_some]
        · simp only [exec, ev, fin_ff, eget, eset, okb, if_true, e1]
        · simp only [exec, ev, fin_ff, eget, eset, au, Option.map_some]
      rw [b]
      exact ih
    · have cm : decide (d % 12 < sh) = false := decide_eq_false c
      obtain ⟨bs', at', y6, h1, h2, h3, ih⟩ := map_in (sh := sh) hd hm ha js bs (at_ + 1) (.sh (.int j)) (fun i hi => hj i (by simp [hi])) h (by omega) (by omega)
      refine ⟨bs', at', y6, h1, by rw [List.length_cons]; omega, h3, ?_⟩
      unfold forGo
      simp only [bindT, eset]
      have b : exec F gas bMap0 [.sh (.lst (ds.map .int)), .sh (.int (n : Nat)), .sh (.int sh), .ow (.lst (bs.map spD)), .sh (.int at_), .sh (.int a), .sh (.int j)] = some (.nx [.sh (.lst (ds.map .int)), .sh (.int (n : Nat)), .sh (.int sh), .ow (.lst (bs.map spD)), .sh (.int (at_ + 1)), .sh (.int a), .sh (.int j)]) := by
        unfold bMap0
        refine seq_nx (iff_f ?_ rfl) (seq_nx ?_ rfl)
        · simp only [ev, fin_ff, fin_bl, eget, ln, md, ix, i_int, m12, c_lt, cm, Option.map_some]
        · simp only [exec, ev, fin_ff, eget, eset, au, Option.map_some]
      rw [b]
      exact ih
theorem map_out {n mm : Nat} (hn : n ≤ 100) {ds : List Int} {sh : Int} (hd : Dr ds mm) (hm : 0 < mm) : ∀ (js : List Int) (bs : List Sp) (at_ : Int) (x5 x6 : Sl), (∀ j ∈ js, 0 ≤ j ∧ j < (n : Nat)) → (∀ p ∈ bs, 0 ≤ p.1 ∧ p.1 < p.2 ∧ p.2 < (n : Nat)) → bs.length + js.length * n ≤ 100000 → 0 ≤ at_ →
    ∃ (bs' : List Sp) (at' : Int) (y5 y6 : Sl), (∀ p ∈ bs', 0 ≤ p.1 ∧ p.1 < p.2 ∧ p.2 < (n : Nat)) ∧ bs'.length ≤ bs.length + js.length * n ∧ forGo (exec F gas bMap1) (.one 5) (js.map .int) [.sh (.lst (ds.map .int)), .sh (.int (n : Nat)), .sh (.int sh), .ow (.lst (bs.map spD)), .sh (.int at_), x5, x6] = some (.nx [.sh (.lst (ds.map .int)), .sh (.int (n : Nat)), .sh (.int sh), .ow (.lst (bs'.map spD)), .sh (.int at'), y5, y6])
  | [], bs, at_, x5, x6, _, h, _, h0 => ⟨bs, at_, x5, x6, h, by simp, rfl⟩
  | j :: js, bs, at_, x5, x6, hj, h, hl, h0 => by
    rw [List.length_cons, Nat.succ_mul] at hl
    have hj0 := hj j (by simp)
    have rl : (irange2 (j + 1) (n : Nat)).length ≤ n := by unfold irange2; simp; omega
    obtain ⟨bs1, at1, y6, h1, h2, h3, g⟩ := map_in (F := F) (gas := gas) (n := n) (sh := sh) hd hm hj0.1 (irange2 (j + 1) (n : Nat)) bs at_ x6 (fun i hi => by have := mem_irange2.mp hi; omega) h (by omega) h0
    obtain ⟨bs', at', z5, z6, h4, h5, ih⟩ := map_out hn (sh := sh) hd hm js bs1 at1 (.sh (.int j)) y6 (fun i hi => hj i (by simp [hi])) h1 (by omega) h3
    refine ⟨bs', at', z5, z6, h4, by rw [List.length_cons, Nat.succ_mul]; omega, ?_⟩
    rw [List.map_cons]
    unfold forGo
    simp only [bindT, eset]
    have rg := rng_i2 (a := j + 1) (n := (n : Nat)) (sm62 (by omega) (by omega)) (sm62 (by omega) (by omega))
    have src : ev F (.rng (.ac (.bin .Add (.v 5) (.c (.int 1))) (.ac (.v 1) .an))) false [.sh (.lst (ds.map .int)), .sh (.int (n : Nat)), .sh (.int sh), .ow (.lst (bs.map spD)), .sh (.int at_), .sh (.int j), x6] = some (.lst ((irange2 (j + 1) (n : Nat)).map .int)) := by
      simp only [ev, fin_ff, eget, i_add, rg]
    have b : exec F gas bMap1 [.sh (.lst (ds.map .int)), .sh (.int (n : Nat)), .sh (.int sh), .ow (.lst (bs.map spD)), .sh (.int at_), .sh (.int j), x6] = some (.nx [.sh (.lst (ds.map .int)), .sh (.int (n : Nat)), .sh (.int sh), .ow (.lst (bs1.map spD)), .sh (.int at1), .sh (.int j), y6]) := by
      unfold bMap1
      exact seq_nx (for_ev src (ds := (irange2 (j + 1) (n : Nat)).map .int) rfl g) rfl
    rw [b]
    exact ih
end
theorem map_run (hT : T[k]? = some tMap) {n mm : Nat} (hn : n ≤ 100) {ds : List Int} (hd : Dr ds mm) (hm : 0 < mm) (sh : Int) : ∃ B : List Sp, Bo B n ∧ run T (m + 1) k [.lst (ds.map .int), .int (n : Nat), .int sh] = some (psD B) := by
  generalize hF : run T m = F
  obtain ⟨bs, at_, y5, y6, h1, h2, g⟩ := map_out (F := F) (gas := gas0) hn (sh := sh) hd hm (irange (n : Nat)) [] 0 .no .no (fun j hj => mem_irange.mp hj) (by simp) (by
    rw [irange_len]
    have : n * n ≤ 100 * 100 := Nat.mul_le_mul hn hn
    simp
    omega) (Int.le_refl _)
  rw [irange_len] at h2
  refine ⟨bs, ⟨h1, by simpa using h2⟩, run_rt (n := m) hT rfl ?_⟩
  rw [hF]
  have rg := rng_i (n := (n : Int)) (sm62 (by omega) (by omega))
  have src : ev F (.rng (.ac (.v 1) .an)) false [.sh (.lst (ds.map .int)), .sh (.int (n : Nat)), .sh (.int sh), .ow (.lst (([] : List Sp).map spD)), .sh (.int 0), .no, .no] = some (.lst ((irange (n : Nat)).map .int)) := by
    simp only [ev, fin_ff, eget, rg]
  show exec F gas0 tMap.body [.sh (.lst (ds.map .int)), .sh (.int (n : Nat)), .sh (.int sh), .no, .no, .no, .no] = _
  exact seq_nx (e1 := [.sh (.lst (ds.map .int)), .sh (.int (n : Nat)), .sh (.int sh), .ow (.lst (([] : List Sp).map spD)), .no, .no, .no]) rfl (seq_nx (e1 := [.sh (.lst (ds.map .int)), .sh (.int (n : Nat)), .sh (.int sh), .ow (.lst (([] : List Sp).map spD)), .sh (.int 0), .no, .no]) rfl (seq_nx (for_ev src (ds := (irange (n : Nat)).map .int) rfl g) (seq_rt rfl)))
/-! _law_order -/
def xOr0 : IE := (.tup (.ac (.bi .int (.ac (.idx (.v 0) (.bin .Mod (.v 3) (.bi .len (.ac (.v 0) .an)))) .an)) (.ac (.v 3) .an)))
def xOr1 : IE := (.idx (.v 2) (.c (.int 1)))
def tOrder : Fd := ⟨2, 4,
  (.seq (.ret (.lc [2] (.one 2) (.bi .sorted (.ac (.lc [3] (.one 3) (.rng (.ac (.v 1) .an)) .yes xOr0) .an)) .yes xOr1)) .skip)⟩
theorem two_of : ∀ {W : List (List Int)}, (∀ k ∈ W, ∃ p : Sp, k = two p) → ∃ ps : List Sp, W = ps.map two
  | [], _ => ⟨[], rfl⟩
  | k :: W, h => by
    obtain ⟨p, e⟩ := h k (List.mem_cons_self)
    obtain ⟨ps, e2⟩ := two_of (W := W) fun j hj => h j (List.mem_cons_of_mem _ hj)
    exact ⟨p :: ps, by rw [e, e2]; rfl⟩
/-- pairs sorted: the same pairs -/
theorem ps_sortedL {ps : List Sp} (hl : ps.length ≤ 100000) : ∃ qs : List Sp, qs.Perm ps ∧ biD .sorted [psL ps] = some (psL qs) := by
  have h := r_sorted (W := ps.map two) (by rw [List.length_map]; exact hl) (fun k hk => by
    obtain ⟨p, _, rfl⟩ := List.mem_map.mp hk
    exact List.cons_ne_nil _ _)
  obtain ⟨qs, hq⟩ := two_of (W := rsort (ps.map two)) fun k hk => by
    obtain ⟨p, _, rfl⟩ := List.mem_map.mp (rsort_mem.mp hk)
    exact ⟨p, rfl⟩
  refine ⟨qs, ?_, ?_⟩
  · have := rsort_perm (ps.map two)
    rw [hq] at this
    have inv : ∀ l : List Sp, (l.map two).map (fun r => (r.getD 0 0, r.getD 1 0)) = l := fun l => by
      rw [List.map_map]
      exact List.map_id'' (fun _ => rfl) l
    have h2 := this.map fun r : List Int => (r.getD 0 0, r.getD 1 0)
    rw [inv, inv] at h2
    exact h2
  · unfold psL
    rw [ps_two, h, hq, ps_two]
theorem order_run (hT : T[k]? = some tOrder) {n mm : Nat} (hn : n ≤ 1000) {ds : List Int} (hd : Dr ds mm) (hm : 0 < mm) : ∃ ns : List Int, ns.Perm (irange (n : Nat)) ∧ run T (m + 1) k [.lst (ds.map .int), .int (n : Nat)] = some (.lst (ns.map .int)) := by
  generalize hF : run T m = F
  have ln := i_len ds
  rw [hd.len] at ln
  have rg := rng_i (n := (n : Int)) (sm62 (by omega) (by omega))
  have src : ev F (.rng (.ac (.v 1) .an)) false [.sh (.lst (ds.map .int)), .sh (.int (n : Nat)), .no, .no] = some (.lst ((irange (n : Nat)).map .int)) := by
    simp only [ev, fin_ff, eget, rg]
  obtain ⟨ps, hps, hsnd, g⟩ : ∃ ps : List Sp, ps.length = n ∧ ps.map Prod.snd = irange (n : Nat) ∧ lcGo (fun _ => some (.bl true)) (ev F xOr0 false) (.one 3) (wipeE [.sh (.lst (ds.map .int)), .sh (.int (n : Nat)), .no, .no] [3]) ((irange (n : Nat)).map .int) = some (ps.map spD) := by
    have each : ∀ j : Int, 0 ≤ j → ∃ d : Int, ev F xOr0 false [.sh (.lst (ds.map .int)), .sh (.int (n : Nat)), .no, .sh (.int j)] = some (spD (d, j)) := fun j hj => by
      have md := i_mod (a := j) (b := (mm : Nat)) (by omega)
      have w := mod_at j (m := (mm : Nat)) (by omega)
      obtain ⟨d, _, _, ix⟩ := hd.at (z := j % (mm : Nat)) w.1 w.2
      refine ⟨d, ?_⟩
      simp only [xOr0, ev, fin_ff, eget, ln, md, ix, i_int]
      rfl
    have go : ∀ js : List Int, (∀ j ∈ js, 0 ≤ j) → ∃ ps : List Sp, ps.map Prod.snd = js ∧ lcGo (fun _ => some (.bl true)) (ev F xOr0 false) (.one 3) (wipeE [.sh (.lst (ds.map .int)), .sh (.int (n : Nat)), .no, .no] [3]) (js.map .int) = some (ps.map spD) := fun js => by
      induction js with
      | nil => exact fun _ => ⟨[], rfl, rfl⟩
      | cons j js ih =>
        intro h
        obtain ⟨ps, e1, e2⟩ := ih fun i hi => h i (by simp [hi])
        obtain ⟨d, hd⟩ := each j (h j (by simp))
        refine ⟨(d, j) :: ps, by rw [List.map_cons, e1], ?_⟩
        rw [List.map_cons]
        unfold lcGo
        simp only [bindT, wipeE, eset, hd]
        simp only [wipeE, eset] at e2
        rw [e2]
        rfl
    obtain ⟨ps, e1, e2⟩ := go (irange (n : Nat)) fun j hj => (mem_irange.mp hj).1
    refine ⟨ps, ?_, e1, e2⟩
    have := congrArg List.length e1
    rw [List.length_map, irange_len] at this
    omega
  have e := lc_ev (F := F) (own := [3]) (tp := .one 3) (c := .yes) (x := xOr0) src rfl g (okLen_of (by rw [List.length_map]; omega))
  obtain ⟨qs, hq, so⟩ := ps_sortedL (ps := ps) (by omega)
  have so' : biD .sorted [.lst (ps.map spD)] = some (.lst (qs.map spD)) := so
  refine ⟨qs.map Prod.snd, by rw [← hsnd]; exact hq.map _, run_rt (n := m) hT rfl ?_⟩
  rw [hF]
  have src2 : ev F (.bi .sorted (.ac (.lc [3] (.one 3) (.rng (.ac (.v 1) .an)) .yes xOr0) .an)) false [.sh (.lst (ds.map .int)), .sh (.int (n : Nat)), .no, .no] = some (.lst (qs.map spD)) := by
    generalize (IE.lc [3] (.one 3) (.rng (.ac (.v 1) .an)) .yes xOr0) = q at e ⊢
    simp only [ev, fin_ff, e, so']
  have g2 := lc_a (x := ev F xOr1 false) (tp := .one 2) (e := wipeE [.sh (.lst (ds.map .int)), .sh (.int (n : Nat)), .no, .no] [2]) spD (fun p => D.int p.2) qs fun p _ => ⟨_, rfl, by
    simp only [xOr1, ev, fin_ff, wipeE, eget, eset, sp_snd]⟩
  have hql : qs.length = n := by rw [hq.length_eq, hps]
  have e2 := lc_ev (F := F) (own := [2]) (tp := .one 2) (c := .yes) (x := xOr1) src2 rfl g2 (okLen_of (by rw [List.length_map]; omega))
  show exec F gas0 tOrder.body [.sh (.lst (ds.map .int)), .sh (.int (n : Nat)), .no, .no] = _
  refine seq_rt ?_
  generalize (IE.lc [2] (.one 2) (.bi .sorted (.ac (.lc [3] (.one 3) (.rng (.ac (.v 1) .an)) .yes xOr0) .an)) .yes xOr1) = q at e2 ⊢
  simp only [exec, e2, Option.map_some, List.map_map]
  rfl
end
end Tl

/-! T24: pairs of a number and a row: their order. -/
namespace Tl
open PySem
abbrev Nr := Int × List Int
def nrD (p : Nr) : D := .tup [.int p.1, dT p.2]
def nrK (p : Nr) : List Int := p.1 :: p.2
theorem eqv_ints : ∀ a b : List Int, PyData.eqv (.tuple (a.map .int)) (.tuple (b.map .int)) = decide (a = b) := by
  intro a b
  induction a generalizing b with
  | nil => cases b <;> simp [PyData.eqv, PyData.eqvAll]
  | cons x r ih =>
    cases b with
    | nil => simp [PyData.eqv, PyData.eqvAll]
    | cons y t =>
      have := ih t
      have e : (x == y) = decide (x = y) := by by_cases h : x = y <;> simp [h]
      simp only [PyData.eqv, PyData.eqvAll, List.map_cons] at this ⊢
      simp [this, e]
theorem nr_toP (p : Nr) : toP (nrD p) = .tuple [.int p.1, .tuple (p.2.map .int)] := by
  show PyData.tuple [.int p.1, toP (dT p.2)] = _
  rw [toP_t]
theorem nr_lt (p q : Nr) : PySem.W.dataLt (toP (nrD p)) (toP (nrD q)) = decide (nrK p < nrK q) := by
  have h1 : PySem.W.alike (.int p.1) (.int q.1) = true := rfl
  have h2 : PySem.W.alike (.tuple (p.2.map .int)) (.tuple (q.2.map .int)) = true := SetX.alike_ints p.2 q.2
  rw [nr_toP, nr_toP, PySem.W.dataLt_pair h1 h2, eqv_ints, PySem.W.dataLt_int, PySem.W.dataLt_tuple]
  show (if PyData.eqv (.int p.1) (.int q.1) = true then (if decide (p.2 = q.2) = true then false else PySem.W.rowLt (p.2.map .int) (q.2.map .int)) else decide (p.1 < q.1)) = _
  rw [PySem.W.dataLt_ints]
  unfold nrK
  by_cases e : p.1 = q.1
  · rw [if_pos (by simp [PyData.eqv, e])]
    by_cases e2 : p.2 = q.2
    · rw [if_pos (decide_eq_true e2)]
      simp [e, e2]
    · rw [if_neg (by simpa using e2)]
      simp [e, List.cons_lt_cons_iff]
  · rw [if_neg (by simp [PyData.eqv, e])]
    simp [e, List.cons_lt_cons_iff]
theorem nr_le (p q : Nr) : leD (nrD p) (nrD q) = decide (nrK p ≤ nrK q) := by
  show (!PySem.W.dataLt (toP (nrD q)) (toP (nrD p))) = _
  rw [nr_lt]
  by_cases h : nrK q < nrK p
  · have h' : ¬ nrK p ≤ nrK q := fun r => List.not_lt.mpr r h
    simp [h, h']
  · have h' : nrK p ≤ nrK q := List.not_lt.mp h
    simp [h, h']
def nsort (W : List Nr) : List Nr := W.mergeSort fun p q => decide (nrK p ≤ nrK q)
theorem nsort_perm (W : List Nr) : (nsort W).Perm W := List.mergeSort_perm _ _
theorem nsort_sorted (W : List Nr) : (nsort W).Pairwise fun p q => nrK p ≤ nrK q := by
  have := List.pairwise_mergeSort (le := fun p q : Nr => decide (nrK p ≤ nrK q)) (fun a b c h1 h2 => decide_eq_true (List.le_trans (of_decide_eq_true h1) (of_decide_eq_true h2))) (fun a b => by
    rw [Bool.or_eq_true, decide_eq_true_eq, decide_eq_true_eq]
    exact List.le_total _ _) W
  exact this.imp fun h => of_decide_eq_true h
theorem nsort_head {W t : List Nr} {h : Nr} (e : nsort W = h :: t) : h ∈ W ∧ ∀ q ∈ W, nrK h ≤ nrK q := by
  have hp := nsort_perm W
  have hs := nsort_sorted W
  rw [e] at hp hs
  refine ⟨hp.mem_iff.mp List.mem_cons_self, fun q hq => ?_⟩
  rcases List.mem_cons.mp (hp.mem_iff.mpr hq) with rfl | hq
  · exact List.le_refl _
  · exact (List.pairwise_cons.mp hs).1 q hq
theorem msort_map {α β : Type} (f : α → β) (le : α → α → Bool) (le' : β → β → Bool) (h : ∀ a b, le' (f a) (f b) = le a b) (W : List α) : (W.map f).mergeSort le' = (W.mergeSort le).map f := (List.map_mergeSort fun a _ b _ => (h a b).symm).symm
theorem n_sorted {W : List Nr} (hl : W.length ≤ 100000) : biD .sorted [.lst (W.map nrD)] = some (.lst ((nsort W).map nrD)) := by
  have ok : okLen (W.map nrD) = true := okLen_of (by rw [List.length_map]; omega)
  have fl : flats 40 (W.map nrD) = true := by
    induction W with
    | nil => rfl
    | cons p W ih =>
      show (flat 40 (nrD p) && flats 40 (W.map nrD)) = true
      rw [ih (by simp at hl; omega) (okLen_of (by rw [List.length_map]; simp at hl; omega))]
      show (flat 39 (.int p.1) && (flat 39 (dT p.2) && flats 39 []) && true) = true
      have : flat 39 (dT p.2) = true := i_flats 38 p.2
      rw [this]; rfl
  have lk : likeOk (W.map nrD) = true := by
    unfold likeOk
    have : ((W.map nrD).all fun x => (W.map nrD).all fun y => PySem.W.alike (toP x) (toP y)) = true := by
      rw [List.all_eq_true]
      intro x hx
      rw [List.all_eq_true]
      intro y hy
      obtain ⟨p, _, rfl⟩ := List.mem_map.mp hx
      obtain ⟨q, _, rfl⟩ := List.mem_map.mp hy
      rw [nr_toP, nr_toP]
      show (PySem.W.alike (.int p.1) (.int q.1) && (PySem.W.alike (.tuple (p.2.map .int)) (.tuple (q.2.map .int)) && PySem.W.alikeAll [] [])) = true
      have : PySem.W.alike (.tuple (p.2.map .int)) (.tuple (q.2.map .int)) = true := SetX.alike_ints p.2 q.2
      rw [this]; rfl
    rw [this, Bool.or_true]
  have tn : (W.map nrD).all tupNe = true := by
    rw [List.all_eq_true]
    intro d hd
    obtain ⟨p, _, rfl⟩ := List.mem_map.mp hd
    rfl
  show (if flats 40 (W.map nrD) && okLen (W.map nrD) && likeOk (W.map nrD) && ((W.map nrD).all tupNe || ((W.map nrD).all plainK || tupE (W.map nrD))) then some (D.lst ((W.map nrD).mergeSort leD)) else none) = _
  rw [fl, ok, lk, tn, Bool.true_or, msort_map nrD (fun p q => decide (nrK p ≤ nrK q)) leD nr_le]
  rfl
end Tl

/-! T25: rows of tuples of pairs of ints: their order, least, sorting. -/
namespace Tl
open PySem
/-- a tuple of pairs, flat -/
def fl (ps : List Sp) : List Int := ps.flatMap two
theorem fl_c (p : Sp) (ps : List Sp) : fl (p :: ps) = p.1 :: p.2 :: fl ps := rfl
theorem fl_inj : ∀ {a b : List Sp}, fl a = fl b → a = b
  | [], [], _ => rfl
  | [], q :: b, h => by rw [fl_c] at h; cases h
  | p :: a, [], h => by rw [fl_c] at h; cases h
  | p :: a, q :: b, h => by
    rw [fl_c, fl_c] at h
    injection h with h1 h
    injection h with h2 h
    rw [fl_inj h]
    obtain ⟨p1, p2⟩ := p
    obtain ⟨q1, q2⟩ := q
    cases h1; cases h2; rfl
def spP (p : Sp) : PyData := .tuple [.int p.1, .int p.2]
theorem sp_toP (p : Sp) : toP (spD p) = spP p := rfl
theorem ps_toPs : ∀ ps : List Sp, toPs (ps.map spD) = ps.map spP
  | [] => rfl
  | p :: ps => by
    show toP (spD p) :: toPs (ps.map spD) = _
    rw [ps_toPs ps]; rfl
theorem ps_toP (ps : List Sp) : toP (psD ps) = .tuple (ps.map spP) := by
  show PyData.tuple (toPs (ps.map spD)) = _
  rw [ps_toPs]
theorem sp_alike (p q : Sp) : PySem.W.alike (spP p) (spP q) = true := by simp [spP, PySem.W.alike, PySem.W.alikeAll]
theorem ps_alikes : ∀ a b : List Sp, PySem.W.alikeAll (a.map spP) (b.map spP) = true
  | [], b => by cases b <;> rfl
  | p :: a, [] => rfl
  | p :: a, q :: b => by
    show (PySem.W.alike (spP p) (spP q) && PySem.W.alikeAll (a.map spP) (b.map spP)) = true
    rw [sp_alike, ps_alikes a b]; rfl
theorem ps_alike (a b : List Sp) : PySem.W.alike (toP (psD a)) (toP (psD b)) = true := by
  rw [ps_toP, ps_toP]
  exact ps_alikes a b
theorem ps_rowlt : ∀ a b : List Sp, PySem.W.rowLt (a.map spP) (b.map spP) = decide (fl a < fl b)
  | [], [] => by
    have e : PySem.W.rowLt [] [] = false := PyProof.Rows.lex_irrefl _
    simp [e, fl]
  | [], q :: b => by
    have e : PySem.W.rowLt [] (spP q :: b.map spP) = true := by
      unfold PySem.W.rowLt
      rw [PySem.W.toks_all_cons]
      simp only [PySem.W.keyToksAll]
      rw [PyProof.Rows.lex_diff (O := PyProof.Rows.itemOrd) (by simp)]
      rfl
    rw [fl_c]
    simpa [fl] using e
  | p :: a, [] => by
    have e : PySem.W.rowLt (spP p :: a.map spP) [] = false := by
      unfold PySem.W.rowLt
      rw [PySem.W.toks_all_cons]
      simp only [PySem.W.keyToksAll]
      rw [PyProof.Rows.lex_diff (O := PyProof.Rows.itemOrd) (by simp)]
      rfl
    rw [fl_c]
    simpa [fl] using e
  | p :: a, q :: b => by
    have e : PySem.W.rowLt (spP p :: a.map spP) (spP q :: b.map spP) = if p = q then PySem.W.rowLt (a.map spP) (b.map spP) else decide (p.1 < q.1 ∨ (p.1 = q.1 ∧ p.2 < q.2)) := by
      unfold PySem.W.rowLt
      rw [PySem.W.dataLt_cons (sp_alike p q)]
      have h1 : PyData.eqv (spP p) (spP q) = decide (p = q) := by
        have := eqv_ints [p.1, p.2] [q.1, q.2]
        show PyData.eqv (.tuple ([p.1, p.2].map .int)) (.tuple ([q.1, q.2].map .int)) = _
        rw [this]
        exact decide_eq_decide.mpr (by rw [show [p.1, p.2] = two p from rfl, show [q.1, q.2] = two q from rfl]; exact two_inj)
      rw [h1]
      have h2 : PySem.W.dataLt (spP p) (spP q) = decide (p.1 < q.1 ∨ (p.1 = q.1 ∧ p.2 < q.2)) := PySem.W.dataLt_ii _ _ _ _
      rw [h2]
      simp only [decide_eq_true_eq]
    show PySem.W.rowLt (spP p :: a.map spP) (spP q :: b.map spP) = _
    rw [e, fl_c, fl_c, ps_rowlt a b]
    obtain ⟨p1, p2⟩ := p
    obtain ⟨q1, q2⟩ := q
    by_cases h1 : p1 = q1 <;> by_cases h2 : p2 = q2 <;> simp [h1, h2, List.cons_lt_cons_iff]
theorem ps_lt (a b : List Sp) : ltP (psD a) (psD b) = decide (fl a < fl b) := by
  unfold ltP
  rw [ps_toP, ps_toP, PySem.W.dataLt_tuple]
  exact ps_rowlt a b
theorem ps_le (a b : List Sp) : leD (psD a) (psD b) = decide (fl a ≤ fl b) := by
  show (!ltP (psD b) (psD a)) = _
  rw [ps_lt]
  by_cases h : fl b < fl a
  · have h' : ¬ fl a ≤ fl b := fun r => List.not_lt.mpr r h
    simp [h, h']
  · have h' : fl a ≤ fl b := List.not_lt.mp h
    simp [h, h']
theorem ps_flat (k : Nat) (a : List Sp) : flats (k + 2) (a.map spD) = true := by
  rw [ps_two]; exact r_flats' (k + 1) _
theorem z_flats : ∀ (W : List (List Sp)), flats 40 (W.map psD) = true
  | [] => rfl
  | a :: W => by
    show (flats 39 (a.map spD) && flats 40 (W.map psD)) = true
    rw [ps_flat 37, z_flats W]; rfl
theorem z_like (W : List (List Sp)) : likeOk (W.map psD) = true := by
  unfold likeOk
  have : ((W.map psD).all fun x => (W.map psD).all fun y => PySem.W.alike (toP x) (toP y)) = true := by
    rw [List.all_eq_true]
    intro x hx
    rw [List.all_eq_true]
    intro y hy
    obtain ⟨a, _, rfl⟩ := List.mem_map.mp hx
    obtain ⟨b, _, rfl⟩ := List.mem_map.mp hy
    exact ps_alike a b
  rw [this, Bool.or_true]
theorem z_tup (W : List (List Sp)) : tupE (W.map psD) = true := by
  unfold tupE
  rw [List.all_eq_true]
  intro d hd
  obtain ⟨a, _, rfl⟩ := List.mem_map.mp hd
  rfl
def zsort (W : List (List Sp)) : List (List Sp) := W.mergeSort fun p q => decide (fl p ≤ fl q)
theorem zsort_perm (W : List (List Sp)) : (zsort W).Perm W := List.mergeSort_perm _ _
theorem zsort_sorted (W : List (List Sp)) : (zsort W).Pairwise fun p q => fl p ≤ fl q := by
  have := List.pairwise_mergeSort (le := fun p q : List Sp => decide (fl p ≤ fl q)) (fun a b c h1 h2 => decide_eq_true (List.le_trans (of_decide_eq_true h1) (of_decide_eq_true h2))) (fun a b => by
    rw [Bool.or_eq_true, decide_eq_true_eq, decide_eq_true_eq]
    exact List.le_total _ _) W
  exact this.imp fun h => of_decide_eq_true h
theorem zsort_head {W t : List (List Sp)} {h : List Sp} (e : zsort W = h :: t) : h ∈ W ∧ ∀ q ∈ W, fl h ≤ fl q := by
  have hp := zsort_perm W
  have hs := zsort_sorted W
  rw [e] at hp hs
  refine ⟨hp.mem_iff.mp List.mem_cons_self, fun q hq => ?_⟩
  rcases List.mem_cons.mp (hp.mem_iff.mpr hq) with rfl | hq
  · exact List.le_refl _
  · exact (List.pairwise_cons.mp hs).1 q hq
theorem z_sorted {W : List (List Sp)} (hl : W.length ≤ 100000) : biD .sorted [.lst (W.map psD)] = some (.lst ((zsort W).map psD)) := by
  have ok : okLen (W.map psD) = true := okLen_of (by rw [List.length_map]; omega)
  show (if flats 40 (W.map psD) && okLen (W.map psD) && likeOk (W.map psD) && ((W.map psD).all tupNe || ((W.map psD).all plainK || tupE (W.map psD))) then some (D.lst ((W.map psD).mergeSort leD)) else none) = _
  rw [z_flats, ok, z_like, z_tup, Bool.or_true, Bool.or_true, msort_map psD (fun p q => decide (fl p ≤ fl q)) leD ps_le]
  rfl
def minZ (x : List Sp) (xs : List (List Sp)) : List Sp := xs.foldl (fun a y => if fl y < fl a then y else a) x
theorem minL_z : ∀ (xs : List (List Sp)) (x : List Sp), minL (psD x) (xs.map psD) = psD (minZ x xs)
  | [], x => rfl
  | y :: ys, x => by
    show minL (if ltP (psD y) (psD x) = true then psD y else psD x) (ys.map psD) = _
    rw [ps_lt]
    by_cases h : fl y < fl x
    · rw [if_pos (decide_eq_true h), minL_z ys y]
      show _ = psD (minZ (if fl y < fl x then y else x) ys)
      rw [if_pos h]
    · rw [if_neg (by simpa using h), minL_z ys x]
      show _ = psD (minZ (if fl y < fl x then y else x) ys)
      rw [if_neg h]
theorem minZ_is : ∀ (xs : List (List Sp)) (x : List Sp), minZ x xs ∈ x :: xs ∧ ∀ y ∈ x :: xs, fl (minZ x xs) ≤ fl y
  | [], x => ⟨by simp [minZ], fun y hy => by
    rw [List.mem_singleton] at hy
    rw [hy]
    exact List.le_refl _⟩
  | z :: zs, x => by
    show minZ (if fl z < fl x then z else x) zs ∈ _ ∧ ∀ y ∈ _, fl (minZ (if fl z < fl x then z else x) zs) ≤ fl y
    by_cases h : fl z < fl x
    · rw [if_pos h]
      obtain ⟨h1, h2⟩ := minZ_is zs z
      refine ⟨List.mem_cons_of_mem _ h1, fun y hy => ?_⟩
      rcases List.mem_cons.mp hy with rfl | hy
      · exact List.le_trans (h2 z (by simp)) (List.le_of_lt h)
      · exact h2 y hy
    · rw [if_neg h]
      obtain ⟨h1, h2⟩ := minZ_is zs x
      refine ⟨?_, fun y hy => ?_⟩
      · rcases List.mem_cons.mp h1 with h1 | h1
        · rw [h1]; simp
        · simp [h1]
      · rcases List.mem_cons.mp hy with rfl | hy
        · exact h2 _ (by simp)
        · rcases List.mem_cons.mp hy with rfl | hy
          · exact List.le_trans (h2 x (by simp)) (List.not_lt.mp h)
          · exact h2 y (by simp [hy])
/-- min(.., default=None) -/
def leastZ : List (List Sp) → Option (List Sp)
  | [] => none
  | x :: xs => some (minZ x xs)
def optD : Option (List Sp) → D
  | none => .non
  | some p => psD p
theorem z_mm (W : List (List Sp)) : mmF false (.lst (W.map psD)) .non = some (optD (leastZ W)) := by
  cases W with
  | nil => rfl
  | cons x xs =>
    show minB [.lst ((x :: xs).map psD)] = _
    show (if flats 40 ((x :: xs).map psD) && likeOk ((x :: xs).map psD) && ((x :: xs).map psD).all notNon then some (minL (psD x) (xs.map psD)) else none) = _
    have a : ((x :: xs).map psD).all notNon = true := by
      rw [List.all_eq_true]
      intro y hy
      obtain ⟨w, _, rfl⟩ := List.mem_map.mp hy
      rfl
    rw [z_flats, z_like, a, minL_z]
    rfl
theorem least_head (W : List (List Sp)) : (zsort W).head? = leastZ W := by
  cases W with
  | nil => simp [zsort, leastZ]
  | cons x xs =>
    have hp := zsort_perm (x :: xs)
    rcases e : zsort (x :: xs) with _ | ⟨h, t⟩
    · rw [e] at hp
      have := hp.length_eq
      simp at this
    · obtain ⟨h1, h2⟩ := zsort_head e
      obtain ⟨m1, m2⟩ := minZ_is xs x
      show some h = some (minZ x xs)
      rw [fl_inj (List.le_antisymm (h2 _ m1) (m2 _ h1))]
theorem isD_opt (o : Option (List Sp)) : isD (optD o) (optD o) = true := by
  cases o with
  | none => rfl
  | some p => show isD (psD p) (psD p) = true; unfold psD; rw [ps_two]; exact isD_rs _
end Tl

/-! T26: the least of rows of ints. -/
namespace Tl
def minR : List (List Int) → List Int
  | [] => []
  | x :: xs => xs.foldl (fun a y => if y < a then y else a) x
theorem lt_t (a b : List Int) : ltP (dT a) (dT b) = decide (a < b) := by
  show PySem.W.dataLt (toP (dT a)) (toP (dT b)) = _
  rw [toP_t, toP_t, PySem.W.dataLt_tuple]
  exact PySem.W.dataLt_ints a b
theorem minL_rows : ∀ (xs : List (List Int)) (x : List Int), minL (dT x) (xs.map dT) = dT (xs.foldl (fun a y => if y < a then y else a) x)
  | [], _ => rfl
  | y :: ys, x => by
    rw [List.map_cons]
    show minL (if ltP (dT y) (dT x) = true then dT y else dT x) (ys.map dT) = _
    rw [lt_t, List.foldl_cons]
    by_cases h : y < x
    · rw [decide_eq_true h, if_pos rfl, if_pos h]
      exact minL_rows ys y
    · rw [decide_eq_false h, if_neg Bool.false_ne_true, if_neg h]
      exact minL_rows ys x
theorem r_min {W : List (List Int)} (hW : W ≠ []) : biD .min [.lst (W.map dT)] = some (dT (minR W)) := by
  cases W with
  | nil => exact absurd rfl hW
  | cons x xs =>
    show (if flats 40 ((x :: xs).map dT) && likeOk ((x :: xs).map dT) && ((x :: xs).map dT).all notNon then some (minL (dT x) (xs.map dT)) else none) = _
    have a : ((x :: xs).map dT).all notNon = true := by
      rw [List.all_eq_true]
      intro y hy
      obtain ⟨w, _, rfl⟩ := List.mem_map.mp hy
      rfl
    rw [r_flats, r_like, a, minL_rows]
    rfl
theorem min_foldR : ∀ (xs : List (List Int)) (x : List Int), xs.foldl (fun a y => if y < a then y else a) x ∈ x :: xs ∧ ∀ y ∈ x :: xs, xs.foldl (fun a y => if y < a then y else a) x ≤ y
  | [], x => ⟨by simp, fun y hy => by
    rw [List.mem_singleton] at hy
    rw [hy]
    exact List.le_refl x⟩
  | z :: zs, x => by
    rw [List.foldl_cons]
    by_cases h : z < x
    · rw [if_pos h]
      obtain ⟨h1, h2⟩ := min_foldR zs z
      refine ⟨List.mem_cons_of_mem _ h1, fun y hy => ?_⟩
      rcases List.mem_cons.mp hy with rfl | hy
      · exact List.le_trans (h2 z (by simp)) (List.le_of_lt h)
      · exact h2 y hy
    · rw [if_neg h]
      obtain ⟨h1, h2⟩ := min_foldR zs x
      refine ⟨?_, fun y hy => ?_⟩
      · rcases List.mem_cons.mp h1 with h1 | h1
        · rw [h1]; simp
        · simp [h1]
      · rcases List.mem_cons.mp hy with rfl | hy
        · exact h2 _ (by simp)
        · rcases List.mem_cons.mp hy with rfl | hy
          · exact List.le_trans (h2 x (by simp)) (List.not_lt.mp h)
          · exact h2 y (by simp [hy])
theorem minR_mem {W : List (List Int)} (hW : W ≠ []) : minR W ∈ W := by
  cases W with
  | nil => exact absurd rfl hW
  | cons x xs => exact (min_foldR xs x).1
theorem minR_le {W : List (List Int)} {y : List Int} (hy : y ∈ W) : minR W ≤ y := by
  cases W with
  | nil => cases hy
  | cons x xs => exact (min_foldR xs x).2 y hy
theorem minR_is {W : List (List Int)} {m : List Int} (hm : m ∈ W) (h : ∀ y ∈ W, m ≤ y) : minR W = m :=
  List.le_antisymm (minR_le hm) (h _ (minR_mem (fun e => by rw [e] at hm; cases hm)))
end Tl

namespace K81
open PySem L2 Tl
def top (i : Nat) : Stmt := PySem.Challenge.pw_tilehouse_k81_whole_halvings_or_flaws.main.body.getD i (.Pass ⟨0, 0, 0, 0⟩)
/-- folded_back -/
def x0_0 : IE := (.kdx 0 [((.str [108]), (.str [114])), ((.str [114]), (.str [108]))] (.v 1))
def t0 : Fd := ⟨1, 2,
  (.seq (.ret (.me .join (.c (.str [])) (.ac (.lc [1] (.one 1) (.rvd (.v 0)) .yes x0_0) .an))) .skip)⟩
def r0 : Rc := ⟨"folded_back", top 2, ["letters", "letter"], ["letters"], t0⟩
/-- halving -/
def b1_0 : IS := (.seq (.asg 1 false (.bin .Add (.bin .Add (.v 1) (.v 2)) (.call 0 (.ac (.v 1) .an)))) .skip)
def t1 : Fd := ⟨1, 3,
  (.seq (.asg 1 false (.c (.str []))) (.seq (.for (.one 2) (.rvd (.v 0)) b1_0) (.seq (.ret (.v 1)) .skip)))⟩
def r1 : Rc := ⟨"halving", top 3, ["folds", "found", "letter"], ["folds"], t1⟩
/-- power_in -/
def w2_0 : IE := (.cmp .Eq (.bin .Mod (.v 0) (.bin .Mult (.c (.int 2)) (.v 1))) (.c (.int 0)))
def b2_1 : IS := (.seq (.asg 1 false (.bin .Mult (.c (.int 2)) (.v 1))) .skip)
def t2 : Fd := ⟨1, 2,
  (.seq (.asg 1 false (.c (.int 1))) (.seq (.whl w2_0 b2_1) (.seq (.ret (.v 1)) .skip)))⟩
def r2 : Rc := ⟨"power_in", top 4, ["number", "power"], ["number"], t2⟩
/-- flaw -/
def b3_0 : IS := (.seq (.asg 2 false (.bin .Add (.v 1) (.bin .Mult (.c (.int 2)) (.call 2 (.ac (.v 1) .an))))) (.seq (.iff (.and (.cmp .LtE (.v 2) (.bi .len (.ac (.v 0) .an))) (.cmp .Eq (.idx (.v 0) (.bin .Sub (.v 1) (.c (.int 1)))) (.idx (.v 0) (.bin .Sub (.v 2) (.c (.int 1)))))) (.seq (.ret (.tup (.ac (.v 1) (.ac (.v 2) .an)))) .skip) .skip) .skip))
def t3 : Fd := ⟨1, 3,
  (.seq (.for (.one 1) (.rng (.ac (.c (.int 1)) (.ac (.bin .Add (.bi .len (.ac (.v 0) .an)) (.c (.int 1))) .an))) b3_0) (.seq (.ret (.c .non)) .skip))⟩
def r3 : Rc := ⟨"flaw", top 5, ["letters", "first", "second"], ["letters"], t3⟩
/-- is_halving -/
def x4_0 : IE := (.kdi false 0 [((.str [108]), (.str [114])), ((.str [114]), (.str [108]))] (.v 1))
def t4 : Fd := ⟨1, 2,
  (.seq (.iff (.cmp .NotEq (.call 2 (.ac (.bin .Add (.bi .len (.ac (.v 0) .an)) (.c (.int 1))) .an)) (.bin .Add (.bi .len (.ac (.v 0) .an)) (.c (.int 1)))) (.seq (.ret (.c (.bl false))) .skip) .skip) (.seq (.ret (.and (.gex true [1] (.one 1) (.v 0) x4_0) (.cmp .Is (.call 3 (.ac (.v 0) .an)) (.c .non)))) .skip))⟩
def r4 : Rc := ⟨"is_halving", top 6, ["letters", "letter"], ["letters"], t4⟩
/-- folds_of -/
def w5_0 : IE := (.cmp .Gt (.bi .len (.ac (.v 0) .an)) (.c (.int 0)))
def b5_1 : IS := (.seq (.asg 2 false (.bin .FloorDiv (.bi .len (.ac (.v 0) .an)) (.c (.int 2)))) (.seq (.aug 1 .Add (.idx (.v 0) (.v 2))) (.seq (.asg 0 false (.slc (.v 0) .no (.v 2))) .skip)))
def t5 : Fd := ⟨1, 3,
  (.seq (.iff (.cmp .IsNot (.call 3 (.ac (.v 0) .an)) (.c .non)) (.seq (.ret (.c .non)) .skip) .skip) (.seq (.asg 1 false (.c (.str []))) (.seq (.whl w5_0 b5_1) (.seq (.ret (.v 1)) .skip))))⟩
def r5 : Rc := ⟨"folds_of", top 7, ["letters", "folds", "middle"], ["letters"], t5⟩
/-- _law_cell -/
def t6 : Fd := tCell
def r6 : Rc := ⟨"_law_cell", top 9, ["script", "k"], ["script", "k"], t6⟩
/-- _law_draws -/
def t7 : Fd := tDraws
def r7 : Rc := ⟨"_law_draws", top 10, ["cell", "count", "rest", "digits", "seed", "draws", "k", "mixed"], ["cell", "count"], t7⟩
/-- _law_is_integer -/
def t8 : Fd := tIsInt
def r8 : Rc := ⟨"_law_is_integer", top 11, ["value"], ["value"], t8⟩
/-- _law_is -/
def t9 : Fd := tIs 8 9
def r9 : Rc := ⟨"_law_is", top 12, ["value", "due", "at"], ["value", "due"], t9⟩
/-- _law_back -/
def x10_0 : IE := (.ife (.cmp .Eq (.v 1) (.c (.str [108]))) (.c (.str [114])) (.c (.str [108])))
def t10 : Fd := ⟨1, 2,
  (.seq (.ret (.me .join (.c (.str [])) (.ac (.lc [1] (.one 1) (.rvs (.v 0)) .yes x10_0) .an))) .skip)⟩
def r10 : Rc := ⟨"_law_back", top 13, ["letters", "letter"], ["letters"], t10⟩
/-- _law_halving -/
def t11 : Fd := ⟨1, 2,
  (.seq (.iff (.cmp .Eq (.bi .len (.ac (.v 0) .an)) (.c (.int 0))) (.seq (.ret (.c (.str []))) .skip) .skip) (.seq (.asg 1 false (.call 11 (.ac (.slc (.v 0) (.c (.int 1)) .no) .an))) (.seq (.ret (.bin .Add (.bin .Add (.v 1) (.idx (.v 0) (.c (.int 0)))) (.call 10 (.ac (.v 1) .an)))) .skip)))⟩
def r11 : Rc := ⟨"_law_halving", top 14, ["folds", "half"], ["folds"], t11⟩
/-- _law_all_folds -/
def x12_0 : IE := (.bin .Add (.v 3) (.c (.str [108])))
def x12_1 : IE := (.bin .Add (.v 3) (.c (.str [114])))
def b12_2 : IS := (.seq (.asg 1 false (.bin .Add (.lc [3] (.one 3) (.v 1) .yes x12_0) (.lc [3] (.one 3) (.v 1) .yes x12_1))) .skip)
def t12 : Fd := ⟨1, 4,
  (.seq (.asg 1 false (.lst (.ac (.c (.str [])) .an))) (.seq (.for (.one 2) (.rng (.ac (.v 0) .an)) b12_2) (.seq (.ret (.v 1)) .skip)))⟩
def r12 : Rc := ⟨"_law_all_folds", top 15, ["size", "found", "k", "one"], ["size"], t12⟩
/-- _law_flaw -/
def b13_0 : IS := (.seq (.iff (.cmp .Eq (.bin .Mod (.v 1) (.bin .Mult (.c (.int 2)) (.v 2))) (.c (.int 0))) (.seq (.asg 2 false (.bin .Mult (.c (.int 2)) (.v 2))) .skip) .skip) .skip)
def b13_1 : IS := (.seq (.asg 2 false (.c (.int 1))) (.seq (.for (.one 3) (.rng (.ac (.c (.int 5)) .an)) b13_0) (.seq (.asg 4 false (.bin .Add (.v 1) (.bin .Mult (.c (.int 2)) (.v 2)))) (.seq (.iff (.and (.cmp .LtE (.v 4) (.bi .len (.ac (.v 0) .an))) (.cmp .Eq (.idx (.v 0) (.bin .Sub (.v 1) (.c (.int 1)))) (.idx (.v 0) (.bin .Sub (.v 4) (.c (.int 1)))))) (.seq (.ret (.tup (.ac (.v 1) (.ac (.v 4) .an)))) .skip) .skip) .skip))))
def t13 : Fd := ⟨1, 5,
  (.seq (.for (.one 1) (.rng (.ac (.c (.int 1)) (.ac (.bin .Add (.bi .len (.ac (.v 0) .an)) (.c (.int 1))) .an))) b13_1) (.seq (.ret (.c .non)) .skip))⟩
def r13 : Rc := ⟨"_law_flaw", top 16, ["letters", "one", "power", "k", "other"], ["letters"], t13⟩
/-- _law_right -/
def g14_0 : IE := (.cmp .Eq (.call 11 (.ac (.v 4) .an)) (.v 0))
def t14 : Fd := ⟨2, 5,
  (.seq (.asg 2 false (.lc [4] (.one 4) (.call 12 (.ac (.v 1) .an)) g14_0 (.v 4))) (.seq (.asg 3 false (.call 13 (.ac (.v 0) .an))) (.seq (.iff (.cmp .NotEq (.cmp .Is (.v 3) (.c .non)) (.cmp .Eq (.bi .len (.ac (.v 2) .an)) (.c (.int 1)))) (.seq (.ret (.c (.bl false))) .skip) .skip) (.seq (.iff (.or (.nt (.call 9 (.ac (.call 3 (.ac (.v 0) .an)) (.ac (.v 3) .an)))) (.nt (.call 9 (.ac (.call 4 (.ac (.v 0) .an)) (.ac (.cmp .Is (.v 3) (.c .non)) .an))))) (.seq (.ret (.c (.bl false))) .skip) .skip) (.seq (.ret (.call 9 (.ac (.call 5 (.ac (.v 0) .an)) (.ac (.ife (.cmp .Is (.v 3) (.c .non)) (.idx (.v 2) (.c (.int 0))) (.c .non)) .an)))) .skip)))))⟩
def r14 : Rc := ⟨"_law_right", top 17, ["letters", "size", "known", "due", "folds"], ["letters", "size"], t14⟩
/-- _law_spoilt -/
def b15_0 : IS := (.seq (.iff (.cmp .Gt (.bi .len (.ac (.v 0) .an)) (.c (.int 0))) (.seq (.asg 3 false (.bin .Mod (.bi .int (.ac (.v 2) .an)) (.bi .len (.ac (.v 0) .an)))) (.seq (.asg 0 false (.bin .Add (.bin .Add (.slc (.v 0) .no (.v 3)) (.call 10 (.ac (.idx (.v 0) (.v 3)) .an))) (.slc (.v 0) (.bin .Add (.v 3) (.c (.int 1))) .no))) .skip)) .skip) .skip)
def t15 : Fd := ⟨2, 4,
  (.seq (.for (.one 2) (.v 1) b15_0) (.seq (.ret (.v 0)) .skip))⟩
def r15 : Rc := ⟨"_law_spoilt", top 18, ["letters", "draws", "draw", "at"], ["letters", "draws"], t15⟩
/-- law -/
def g16_0 : IE := (.cmp .NotIn (.v 11) (.c (.str [108, 114])))
def x16_1 : IE := (.c (.int 1))
def b16_2 : IS := (.seq (.asg 10 false (.and (.cmp .In (.bi .len (.ac (.v 7) .an)) (.tup (.ac (.c (.int 0)) (.ac (.c (.int 1)) (.ac (.c (.int 3)) (.ac (.c (.int 7)) (.ac (.c (.int 15)) (.ac (.c (.int 31)) .an)))))))) (.cmp .Eq (.bi .len (.ac (.lc [11] (.one 11) (.v 7) g16_0 x16_1) .an)) (.c (.int 0))))) (.seq (.iff (.nt (.call 9 (.ac (.call 4 (.ac (.v 7) .an)) (.ac (.and (.v 10) (.cmp .Is (.call 13 (.ac (.v 7) .an)) (.c .non))) .an)))) (.seq (.ret (.c (.bl false))) .skip) .skip) .skip))
def b16_3 : IS := (.seq (.iff (.nt (.call 14 (.ac (.v 7) (.ac (.v 3) .an)))) (.seq (.ret (.c (.bl false))) .skip) .skip) .skip)
def x16_4 : IE := (.idx (.c (.str [108, 114])) (.bin .Mod (.bin .FloorDiv (.bi .int (.ac (.idx (.v 1) (.bin .Add (.c (.int 20)) (.v 8))) .an)) (.bin .Add (.c (.int 1)) (.v 2))) (.c (.int 2))))
def x16_5 : IE := (.idx (.c (.str [108, 114])) (.bin .Mod (.bi .int (.ac (.idx (.v 1) (.bin .Add (.bin .Add (.c (.int 4)) (.bin .Mult (.c (.int 4)) (.v 2))) (.v 8))) .an)) (.c (.int 2))))
def b16_6 : IS := (.seq (.asg 3 false (.idx (.tup (.ac (.c (.int 4)) (.ac (.c (.int 3)) (.ac (.c (.int 2)) (.ac (.c (.int 4)) (.ac (.c (.int 1)) (.ac (.c (.int 0)) .an))))))) (.bin .Mod (.bi .int (.ac (.idx (.v 1) (.v 2)) .an)) (.c (.int 6))))) (.seq (.asg 4 false (.me .join (.c (.str [])) (.ac (.lc [8] (.one 8) (.rng (.ac (.v 3) .an)) .yes x16_5) .an))) (.seq (.asg 5 false (.call 11 (.ac (.v 4) .an))) (.seq (.iff (.nt (.call 9 (.ac (.call 1 (.ac (.v 4) .an)) (.ac (.v 5) .an)))) (.seq (.ret (.c (.bl false))) .skip) .skip) (.seq (.asg 6 false (.me .join (.c (.str [])) (.ac (.lc [8] (.one 8) (.rng (.ac (.bi .len (.ac (.v 5) .an)) .an)) .yes x16_4) .an))) (.seq (.for (.one 7) (.lst (.ac (.v 5) (.ac (.call 15 (.ac (.v 5) (.ac (.slc (.v 1) (.v 2) (.bin .Add (.v 2) (.c (.int 1)))) .an))) (.ac (.call 15 (.ac (.v 5) (.ac (.slc (.v 1) (.v 2) (.bin .Add (.v 2) (.c (.int 3)))) .an))) (.ac (.v 6) .an))))) b16_3) (.seq (.asg 8 false (.bin .Mod (.bi .int (.ac (.idx (.v 1) (.c (.int 36))) .an)) (.bin .Add (.bi .len (.ac (.v 5) .an)) (.c (.int 1))))) (.seq (.asg 9 false (.lst (.ac (.bin .Add (.bin .Add (.slc (.v 5) .no (.v 8)) (.c (.str [120]))) (.slc (.v 5) (.bin .Add (.v 8) (.c (.int 1))) .no)) (.ac (.bin .Add (.bin .Add (.slc (.v 5) .no (.v 8)) (.slc (.v 5) (.bin .Add (.v 8) (.c (.int 1))) .no)) (.c (.str [108, 114]))) (.ac (.bin .Add (.v 5) (.v 5)) .an))))) (.seq (.for (.one 7) (.bin .Add (.v 9) (.lst (.ac (.bin .Add (.bin .Add (.v 5) (.c (.str [108]))) (.v 5)) (.ac (.upr (.v 5)) (.ac (.bin .Add (.bin .Mult (.v 5) (.c (.int 2))) (.c (.str [114]))) .an))))) b16_2) .skip)))))))))
def t16 : Fd := ⟨1, 12,
  (.seq (.asg 1 false (.call 7 (.ac (.call 6 (.ac (.v 0) (.ac (.c (.int 0)) .an))) (.ac (.c (.int 40)) .an)))) (.seq (.for (.one 2) (.rng (.ac (.c (.int 4)) .an)) b16_6) (.seq (.ret (.and (.call 9 (.ac (.call 4 (.ac (.c (.str [108, 108, 108])) .an)) (.ac (.c (.bl false)) .an))) (.call 9 (.ac (.call 4 (.ac (.c (.str [108, 114])) .an)) (.ac (.c (.bl false)) .an))))) .skip)))⟩
def r16 : Rc := ⟨"law", top 19, ["script", "draws", "k", "size", "folds", "letters", "drawn", "asked", "at", "others", "right", "letter"], ["script"], t16⟩
def consts : List (PySem.Str × D) := [("OTHER", (.dic false [((.str [108]), (.str [114])), ((.str [114]), (.str [108]))]))]
def withGcd : Bool := false
-- KDICT OTHER 108:114 114:108
def recs : List Rc := [r0, r1, r2, r3, r4, r5, r6, r7, r8, r9, r10, r11, r12, r13, r14, r15, r16]

theorem ok0 : ckR consts withGcd (recs.map (·.nm)) r0 = true := by decide +kernel
theorem ok1 : ckR consts withGcd (recs.map (·.nm)) r1 = true := by decide +kernel
theorem ok2 : ckR consts withGcd (recs.map (·.nm)) r2 = true := by decide +kernel
theorem ok3 : ckR consts withGcd (recs.map (·.nm)) r3 = true := by decide +kernel
theorem ok4 : ckR consts withGcd (recs.map (·.nm)) r4 = true := by decide +kernel
theorem ok5 : ckR consts withGcd (recs.map (·.nm)) r5 = true := by decide +kernel
theorem ok6 : ckR consts withGcd (recs.map (·.nm)) r6 = true := by decide +kernel
theorem ok7 : ckR consts withGcd (recs.map (·.nm)) r7 = true := by decide +kernel
theorem ok8 : ckR consts withGcd (recs.map (·.nm)) r8 = true := by decide +kernel
theorem ok9 : ckR consts withGcd (recs.map (·.nm)) r9 = true := by decide +kernel
theorem ok10 : ckR consts withGcd (recs.map (·.nm)) r10 = true := by decide +kernel
theorem ok11 : ckR consts withGcd (recs.map (·.nm)) r11 = true := by decide +kernel
theorem ok12 : ckR consts withGcd (recs.map (·.nm)) r12 = true := by decide +kernel
theorem ok13 : ckR consts withGcd (recs.map (·.nm)) r13 = true := by decide +kernel
theorem ok14 : ckR consts withGcd (recs.map (·.nm)) r14 = true := by decide +kernel
theorem ok15 : ckR consts withGcd (recs.map (·.nm)) r15 = true := by decide +kernel
theorem ok16 : ckR consts withGcd (recs.map (·.nm)) r16 = true := by decide +kernel
theorem okAll : recs.all (ckR consts withGcd (recs.map (·.nm))) = true := by
  show ([r0, r1, r2, r3, r4, r5, r6, r7, r8, r9, r10, r11, r12, r13, r14, r15, r16] : List Rc).all _ = true
  simp only [List.all_cons, List.all_nil, ok0, ok1, ok2, ok3, ok4, ok5, ok6, ok7, ok8, ok9, ok10, ok11, ok12, ok13, ok14, ok15, ok16]
  rfl
end K81

/-! PL81: texts without a flaw are halvings. -/
namespace K81
open Tl
def pwr (p : Nat) : Nat := if p % 32 = 0 then 32 else if p % 16 = 0 then 16 else if p % 8 = 0 then 8 else if p % 4 = 0 then 4 else if p % 2 = 0 then 2 else 1
def hit (L : List Nat) (p : Nat) : Bool := decide (p + 2 * pwr p ≤ L.length) && decide (L.getD (p - 1) 0 = L.getD (p + 2 * pwr p - 1) 0)
def flw (L : List Nat) : Option (Nat × Nat) := (List.range' 1 L.length).findSome? fun p => if hit L p then some (p, p + 2 * pwr p) else none
theorem flw_none {L : List Nat} (h : flw L = none) {p : Nat} (h1 : 1 ≤ p) (h2 : p ≤ L.length) : hit L p = false := by
  unfold flw at h
  rw [List.findSome?_eq_none_iff] at h
  have := h p (List.mem_range'_1.mpr ⟨h1, by omega⟩)
  by_cases q : hit L p = true
  · rw [if_pos q] at this; cases this
  · simpa using q
def fl (c : Nat) : Nat := if c = 108 then 114 else 108
def bk (l : List Nat) : List Nat := l.reverse.map fl
def hv : List Nat → List Nat
  | [] => []
  | c :: f => hv f ++ c :: bk (hv f)
def Bin (L : List Nat) : Prop := ∀ c ∈ L, c = 108 ∨ c = 114
def fo (s : Nat) (L : List Nat) : List Nat := (List.range s).map fun i => L.getD (2 ^ (s - 1 - i) - 1) 0
def W : Nat → List (List Nat)
  | 0 => [[]]
  | k + 1 => (W k).map (· ++ [108]) ++ (W k).map (· ++ [114])
theorem mem_W : ∀ {s : Nat} {f : List Nat}, f.length = s → Bin f → f ∈ W s
  | 0, f, h, _ => by
    rw [List.length_eq_zero_iff.mp h]; simp [W]
  | s + 1, f, h, b => by
    have hn : f ≠ [] := by intro e; rw [e] at h; simp at h
    have e := List.dropLast_concat_getLast hn
    have ih := mem_W (s := s) (f := f.dropLast) (by rw [List.length_dropLast, h]; rfl) fun c hc => b c ((List.dropLast_sublist f).mem hc)
    have l := b _ (List.getLast_mem hn)
    show f ∈ (W s).map (· ++ [108]) ++ (W s).map (· ++ [114])
    rw [List.mem_append]
    rcases l with l | l <;> rw [l] at e
    · exact .inl (List.mem_map.mpr ⟨_, ih, e⟩)
    · exact .inr (List.mem_map.mpr ⟨_, ih, e⟩)
theorem W_fin : (List.range 5).all (fun s => (W s).all fun f => decide ((hv f).length + 1 = 2 ^ s) && (flw (hv f)).isNone && decide (fo s (hv f) = f) && decide ((W s).filter (fun g => hv g == hv f) = [f]) && decide (f.length = s) && (hv f).all fun c => decide (c = 108 ∨ c = 114)) = true := by decide +kernel
structure Wf (s : Nat) (f : List Nat) : Prop where
  len : (hv f).length + 1 = 2 ^ s
  no : flw (hv f) = none
  fo : fo s (hv f) = f
  one : (W s).filter (fun g => hv g == hv f) = [f]
  fl : f.length = s
  bin : Bin (hv f)
theorem wf {s : Nat} (hs : s ≤ 4) {f : List Nat} (h : f ∈ W s) : Wf s f := by
  have := List.all_eq_true.mp (List.all_eq_true.mp W_fin s (List.mem_range.mpr (by omega))) f h
  simp only [Bool.and_eq_true, decide_eq_true_eq, Option.isNone_iff_eq_none, List.all_eq_true] at this
  obtain ⟨⟨⟨⟨⟨a, b⟩, c⟩, d⟩, e⟩, g⟩ := this
  exact ⟨a, b, c, d, e, g⟩
theorem pwr_pos (p : Nat) : 1 ≤ pwr p := by
  unfold pwr
  (repeat' split) <;> omega
theorem pwr_low : ∀ p < 16, 1 ≤ p → (pwr p = p ∧ (p = 1 ∨ p = 2 ∨ p = 4 ∨ p = 8)) ∨ (2 * pwr p < p ∧ pwr (p - 2 * pwr p) = pwr p) := by decide
theorem uniq {L M : List Nat} (bL : Bin L) (bM : Bin M) (e : L.length = M.length) (hl : L.length ≤ 15) (nL : flw L = none) (nM : flw M = none)
    (h : ∀ p, (p = 1 ∨ p = 2 ∨ p = 4 ∨ p = 8) → p ≤ L.length → L.getD (p - 1) 0 = M.getD (p - 1) 0) : ∀ p, 1 ≤ p → p ≤ L.length → L.getD (p - 1) 0 = M.getD (p - 1) 0 := by
  intro p
  induction p using Nat.strongRecOn with
  | _ p ih =>
    intro h1 h2
    rcases pwr_low p (by omega) h1 with ⟨_, q⟩ | ⟨q1, q2⟩
    · exact h p q h2
    · have i := ih (p - 2 * pwr p) (by have := pwr_pos p; omega) (by omega) (by omega)
      have a := flw_none nL (p := p - 2 * pwr p) (by omega) (by omega)
      have b := flw_none nM (p := p - 2 * pwr p) (by omega) (by omega)
      unfold hit at a b
      rw [q2, show p - 2 * pwr p + 2 * pwr p = p by omega] at a b
      rw [decide_eq_true (show p ≤ L.length from h2), Bool.true_and] at a
      rw [decide_eq_true (show p ≤ M.length by omega), Bool.true_and] at b
      have a := of_decide_eq_false a
      have b := of_decide_eq_false b
      have mL : ∀ i, i < L.length → L.getD i 0 = 108 ∨ L.getD i 0 = 114 := fun i hi => by
        rw [List.getD_eq_getElem?_getD, List.getElem?_eq_getElem hi]
        exact bL _ (List.getElem_mem hi)
      have mM : ∀ i, i < M.length → M.getD i 0 = 108 ∨ M.getD i 0 = 114 := fun i hi => by
        rw [List.getD_eq_getElem?_getD, List.getElem?_eq_getElem hi]
        exact bM _ (List.getElem_mem hi)
      have x1 := mL (p - 2 * pwr p - 1) (by omega)
      have x2 := mL (p - 1) (by omega)
      have y1 := mM (p - 2 * pwr p - 1) (by omega)
      have y2 := mM (p - 1) (by omega)
      omega
theorem ext_getD {L M : List Nat} (e : L.length = M.length) (h : ∀ p, 1 ≤ p → p ≤ L.length → L.getD (p - 1) 0 = M.getD (p - 1) 0) : L = M := by
  apply List.ext_getElem e
  intro i h1 h2
  have := h (i + 1) (by omega) (by omega)
  rw [Nat.add_sub_cancel, List.getD_eq_getElem?_getD, List.getD_eq_getElem?_getD, List.getElem?_eq_getElem h1, List.getElem?_eq_getElem h2] at this
  exact this
theorem fo_at {s : Nat} {L M : List Nat} (h : fo s L = fo s M) {v : Nat} (hv : v < s) : L.getD (2 ^ v - 1) 0 = M.getD (2 ^ v - 1) 0 := by
  have : (fo s L)[s - 1 - v]? = (fo s M)[s - 1 - v]? := by rw [h]
  unfold fo at this
  rw [List.getElem?_map, List.getElem?_map, List.getElem?_range (by omega)] at this
  simp only [Option.map_some, Option.some.injEq] at this
  rw [show s - 1 - (s - 1 - v) = v by omega] at this
  exact this
/-- a text without a flaw is a halving -/
theorem is_hv {s : Nat} (hs : s ≤ 4) {L : List Nat} (b : Bin L) (hl : L.length + 1 = 2 ^ s) (n : flw L = none) : fo s L ∈ W s ∧ hv (fo s L) = L := by
  have hp : 2 ^ s ≤ 16 := Nat.pow_le_pow_right (n := 2) (by omega) hs
  have m : fo s L ∈ W s := by
    refine mem_W (by unfold fo; simp) fun c hc => ?_
    unfold fo at hc
    obtain ⟨i, hi, rfl⟩ := List.mem_map.mp hc
    have hi := List.mem_range.mp hi
    have : 2 ^ (s - 1 - i) - 1 < L.length := by
      have h1 : 2 ^ (s - 1 - i) ≤ 2 ^ (s - 1) := Nat.pow_le_pow_right (by omega) (by omega)
      have h2 : 2 ^ s = 2 * 2 ^ (s - 1) := by rw [← Nat.pow_succ']; congr 1; omega
      have h3 : 1 ≤ 2 ^ (s - 1) := Nat.one_le_two_pow
      omega
    rw [List.getD_eq_getElem?_getD, List.getElem?_eq_getElem this]
    exact b _ (List.getElem_mem this)
  refine ⟨m, ?_⟩
  have w := wf hs m
  refine (ext_getD (by have := w.len; omega) (uniq b w.bin (by have := w.len; omega) (by omega) n w.no fun p hp1 hp2 => ?_)).symm
  have lt : ∀ v, 2 ^ v ≤ L.length → v < s := fun v h => by
    have : 2 ^ v < 2 ^ s := by omega
    exact (Nat.pow_lt_pow_iff_right (by omega)).mp this
  rcases hp1 with rfl | rfl | rfl | rfl
  · exact fo_at w.fo.symm (v := 0) (lt 0 hp2)
  · exact fo_at w.fo.symm (v := 1) (lt 1 hp2)
  · exact fo_at w.fo.symm (v := 2) (lt 2 hp2)
  · exact fo_at w.fo.symm (v := 3) (lt 3 hp2)
theorem known {s : Nat} (hs : s ≤ 4) {L : List Nat} (b : Bin L) (hl : L.length + 1 = 2 ^ s) : (W s).filter (fun g => hv g == L) = if flw L = none then [fo s L] else [] := by
  by_cases n : flw L = none
  · rw [if_pos n]
    obtain ⟨m, e⟩ := is_hv hs b hl n
    have := (wf hs m).one
    rw [e] at this
    exact this
  · rw [if_neg n, List.filter_eq_nil_iff]
    intro g hg h
    have := eq_of_beq h
    rw [← this] at n
    exact n (wf hs hg).no
end K81

/-! A81: power_in, flaw, is_halving. -/
namespace K81
open Tl
theorem le32 {P : Nat → Prop} (h : P 1 ∧ P 2 ∧ P 3 ∧ P 4 ∧ P 5 ∧ P 6 ∧ P 7 ∧ P 8 ∧ P 9 ∧ P 10 ∧ P 11 ∧ P 12 ∧ P 13 ∧ P 14 ∧ P 15 ∧ P 16 ∧ P 17 ∧ P 18 ∧ P 19 ∧ P 20 ∧ P 21 ∧ P 22 ∧ P 23 ∧ P 24 ∧ P 25 ∧ P 26 ∧ P 27 ∧ P 28 ∧ P 29 ∧ P 30 ∧ P 31 ∧ P 32) {p : Nat} (h1 : 1 ≤ p) (h2 : p ≤ 32) : P p := by
  have : p = 1 ∨ p = 2 ∨ p = 3 ∨ p = 4 ∨ p = 5 ∨ p = 6 ∨ p = 7 ∨ p = 8 ∨ p = 9 ∨ p = 10 ∨ p = 11 ∨ p = 12 ∨ p = 13 ∨ p = 14 ∨ p = 15 ∨ p = 16 ∨ p = 17 ∨ p = 18 ∨ p = 19 ∨ p = 20 ∨ p = 21 ∨ p = 22 ∨ p = 23 ∨ p = 24 ∨ p = 25 ∨ p = 26 ∨ p = 27 ∨ p = 28 ∨ p = 29 ∨ p = 30 ∨ p = 31 ∨ p = 32 := by omega
  obtain ⟨a1, a2, a3, a4, a5, a6, a7, a8, a9, a10, a11, a12, a13, a14, a15, a16, a17, a18, a19, a20, a21, a22, a23, a24, a25, a26, a27, a28, a29, a30, a31, a32⟩ := h
  rcases this with rfl | rfl | rfl | rfl | rfl | rfl | rfl | rfl | rfl | rfl | rfl | rfl | rfl | rfl | rfl | rfl | rfl | rfl | rfl | rfl | rfl | rfl | rfl | rfl | rfl | rfl | rfl | rfl | rfl | rfl | rfl | rfl <;> assumption
theorem run2 {k p : Nat} (h1 : 1 ≤ p) (h2 : p ≤ 32) : run (tab recs) (k + 1) 2 [.int (p : Nat)] = some (.int (pwr p : Nat)) := by
  refine run_rt (n := k) (fd := t2) rfl rfl ?_
  generalize run (tab recs) k = F
  refine le32 (P := fun p => exec F gas0 t2.body [.sh (.int (p : Nat)), .no] = some (.rt (.int (pwr p : Nat)))) ?_ h1 h2
  refine ⟨rfl, rfl, rfl, rfl, rfl, rfl, rfl, rfl, rfl, rfl, rfl, rfl, rfl, rfl, rfl, rfl, rfl, rfl, rfl, rfl, rfl, rfl, rfl, rfl, rfl, rfl, rfl, rfl, rfl, rfl, rfl, rfl⟩
theorem inner {F : Nat → List D → Option D} {p : Nat} {x0 x3 x4 : Sl} (h1 : 1 ≤ p) (h2 : p ≤ 32) : forGo (exec F gas0 b13_0) (.one 3) (upto 5 0) [x0, .sh (.int (p : Nat)), .sh (.int 1), x3, x4] = some (.nx [x0, .sh (.int (p : Nat)), .sh (.int (pwr p : Nat)), .sh (.int 4), x4]) := by
  refine le32 (P := fun p => forGo (exec F gas0 b13_0) (.one 3) (upto 5 0) [x0, .sh (.int (p : Nat)), .sh (.int 1), x3, x4] = some (.nx [x0, .sh (.int (p : Nat)), .sh (.int (pwr p : Nat)), .sh (.int 4), x4])) ?_ h1 h2
  refine ⟨rfl, rfl, rfl, rfl, rfl, rfl, rfl, rfl, rfl, rfl, rfl, rfl, rfl, rfl, rfl, rfl, rfl, rfl, rfl, rfl, rfl, rfl, rfl, rfl, rfl, rfl, rfl, rfl, rfl, rfl, rfl, rfl⟩
def pD : Nat × Nat → D := fun q => .tup [.int (q.1 : Nat), .int (q.2 : Nat)]
def flD (o : Option (Nat × Nat)) : D := match o with
  | none => .non
  | some q => pD q
def gF (L : List Nat) : D → Option D
  | .int i => if hit L i.toNat then some (pD (i.toNat, i.toNat + 2 * pwr i.toNat)) else none
  | _ => none
theorem gF_all (L : List Nat) : (rI 1 L.length).findSome? (gF L) = (flw L).map pD := by
  unfold rI flw
  rw [List.findSome?_map, List.map_findSome?]
  congr 1
  funext p
  show (if hit L ((p : Int)).toNat then some (pD (((p : Int)).toNat, ((p : Int)).toNat + 2 * pwr ((p : Int)).toNat)) else none) = Option.map pD (if hit L p then some (p, p + 2 * pwr p) else none)
  rw [show ((p : Int)).toNat = p by omega]
  split <;> rfl
theorem s_len {t : List Nat} (h : t.length ≤ 100000) : biD .len [.str t] = some (.int (t.length : Nat)) := by
  have ok : okLen t = true := okLen_of h
  simp [biD, ok]
theorem L_ix {L : List Nat} {a : Nat} (h : a < L.length) (hl : L.length ≤ 100000) : idxD (.str L) (.int (a : Nat)) = some (.str [L.getD a 0]) := by
  have ok : okLen L = true := okLen_of hl
  show (if okLen L then ((ixD L.length (a : Int)).bind fun j => L[j]?).map (fun c => D.str [c]) else none) = _
  rw [ok, ixD_nat h]
  simp [h]
theorem eq_c (a b : Nat) : cmpD .Eq (.str [a]) (.str [b]) = some (decide (a = b)) := by
  show some (([a] : List Nat) == [b]) = _
  congr 1
  by_cases h : a = b <;> simp [h]
theorem rng1 {n : Nat} (h : n ≤ 100000) : rngD [.int 1, .int ((n : Nat) + 1 : Int)] = some (.lst (rI 1 n)) := by
  rw [rng_i2 rfl (sm62 (by omega) (by omega))]
  unfold irange2 rI
  rw [List.range'_eq_map_range, List.map_map, List.map_map, show ((n : Int) + 1 - 1).toNat = n by omega]
  congr 2
section
variable {k : Nat} {F : Nat → List D → Option D} {L : List Nat}
/-- the test of both -/
theorem test {p : Nat} (hl : L.length ≤ 31) (h1 : 1 ≤ p) (h2 : p ≤ L.length) : ∃ (l : Bool), cmpD .LtE (.int ((p : Nat) + 2 * (pwr p : Nat) : Int)) (.int (L.length : Nat)) = some l ∧
    (l = false → hit L p = false) ∧ (l = true → ∃ x y, idxD (.str L) (.int ((p : Nat) - 1 : Int)) = some (.str x) ∧ idxD (.str L) (.int ((p : Nat) + 2 * (pwr p : Nat) - 1 : Int)) = some (.str y) ∧ cmpD .Eq (.str x) (.str y) = some (hit L p)) := by
  refine ⟨_, c_le _ _, fun h => ?_, fun h => ?_⟩
  · have := of_decide_eq_false h
    unfold hit
    rw [decide_eq_false (by omega), Bool.false_and]
  · have hq := of_decide_eq_true h
    have i1 := L_ix (L := L) (a := p - 1) (by omega) (by omega)
    have i2 := L_ix (L := L) (a := p + 2 * pwr p - 1) (by omega) (by omega)
    rw [show ((p - 1 : Nat) : Int) = (p : Int) - 1 by omega] at i1
    rw [show ((p + 2 * pwr p - 1 : Nat) : Int) = (p : Int) + 2 * (pwr p : Int) - 1 by omega] at i2
    refine ⟨_, _, i1, i2, ?_⟩
    rw [eq_c]
    unfold hit
    rw [decide_eq_true (show p + 2 * pwr p ≤ L.length by omega), Bool.true_and]
theorem run3 (hl : L.length ≤ 31) : run (tab recs) (k + 2) 3 [.str L] = some (flD (flw L)) := by
  refine run_rt (n := k + 1) (fd := t3) rfl rfl ?_
  have f2 := fun p (h1 : 1 ≤ p) (h2 : p ≤ 32) => run2 (k := k) h1 h2
  generalize run (tab recs) (k + 1) = F at f2
  have sl := s_len (t := L) (by omega)
  have rg := rng1 (n := L.length) (by omega)
  have go := for_find (bd := exec F gas0 b3_0) (tp := .one 1) (gF L) (fun e => ∃ x1 x2, e = [.sh (.str L), x1, x2]) (rI 1 L.length) [.sh (.str L), .no, .no] ⟨_, _, rfl⟩ (fun d hd e he => by
    obtain ⟨x1, x2, rfl⟩ := he
    obtain ⟨p, hp, rfl⟩ := List.mem_map.mp hd
    have hp := List.mem_range'_1.mp hp
    obtain ⟨l, c, hf, ht⟩ := test (L := L) (p := p) hl (by omega) (by omega)
    have q := f2 p (by omega) (by omega)
    have m := i_mul (a := 2) (b := (pwr p : Nat)) (.inl rfl)
    have tn : ((p : Nat) : Int).toNat = p := by omega
    have a : exec F gas0 (.asg 2 false (.bin .Add (.v 1) (.bin .Mult (.c (.int 2)) (.call 2 (.ac (.v 1) .an))))) [.sh (.str L), .sh (.int (p : Nat)), x2] = some (.nx [.sh (.str L), .sh (.int (p : Nat)), .sh (.int ((p : Nat) + 2 * (pwr p : Nat) : Int))]) := by
      simp only [exec, ev, fin_ff, eget, eset, q, m, i_add, hasB, imm, ite_self, Bool.false_eq_true, if_false]
    by_cases hb : hit L p = true
    · have lt : l = true := by
        cases l
        · rw [hf rfl] at hb; cases hb
        · rfl
      subst lt
      obtain ⟨x, y, i1, i2, ce⟩ := ht rfl
      rw [hb] at ce
      have s : exec F gas0 b3_0 [.sh (.str L), .sh (.int (p : Nat)), x2] = some (.rt (pD (p, p + 2 * pwr p))) := seq_nx a (seq_rt (iff_t (by simp only [ev, fin_ff, fin_bl, eget, sl, c, i_sub, i1, i2, ce, hasB, imm, ite_self, Bool.false_eq_true, if_false, Bool.true_and, Option.map_some]) (seq_rt (by
        simp only [exec, ev, fin_ff, eget]
        rfl))))
      refine ⟨_, _, rfl, s, ?_⟩
      show match gF L (.int (p : Nat)) with | some r => _ | none => _
      unfold gF
      simp only [tn]
      rw [if_pos hb]
    · have hb : hit L p = false := by simpa using hb
      have s : exec F gas0 b3_0 [.sh (.str L), .sh (.int (p : Nat)), x2] = some (.nx [.sh (.str L), .sh (.int (p : Nat)), .sh (.int ((p : Nat) + 2 * (pwr p : Nat) : Int))]) := seq_nx a (seq_nx (iff_f (by
        cases l
        · simp only [ev, fin_ff, fin_bl, eget, sl, c, hasB, imm, ite_self, Bool.false_eq_true, if_false, Bool.false_and, Option.map_some]
        · obtain ⟨x, y, i1, i2, ce⟩ := ht rfl
          rw [hb] at ce
          simp only [ev, fin_ff, fin_bl, eget, sl, c, i_sub, i1, i2, ce, hasB, imm, ite_self, Bool.false_eq_true, if_false, Bool.true_and, Option.map_some]) rfl) rfl)
      refine ⟨_, _, rfl, s, ?_⟩
      show match gF L (.int (p : Nat)) with | some r => _ | none => _
      unfold gF
      simp only [tn]
      rw [if_neg (by rw [hb]; exact Bool.false_ne_true)]
      exact ⟨_, .inl rfl, _, _, rfl⟩)
  rw [gF_all] at go
  obtain ⟨o, go, ho⟩ := go
  show exec F gas0 (.seq (.for (.one 1) (.rng (.ac (.c (.int 1)) (.ac (.bin .Add (.bi .len (.ac (.v 0) .an)) (.c (.int 1))) .an))) b3_0) (.seq (.ret (.c .non)) .skip)) [.sh (.str L), .no, .no] = _
  have ff := for_ev (F := F) (gas := gas0) (tp := .one 1) (it := .rng (.ac (.c (.int 1)) (.ac (.bin .Add (.bi .len (.ac (.v 0) .an)) (.c (.int 1))) .an))) (s := b3_0) (e := [.sh (.str L), .no, .no]) (d := .lst (rI 1 L.length)) (ds := rI 1 L.length) (by
    simp only [ev, fin_ff, eget, sl, i_add, rg, hasB, imm, ite_self, Bool.false_eq_true, if_false]) rfl go
  cases hf : flw L with
  | none =>
    rw [hf] at ho
    obtain ⟨e2, rfl, _⟩ := ho
    exact seq_nx ff rfl
  | some q =>
    rw [hf] at ho
    simp only [Option.map_some] at ho
    subst ho
    exact seq_rt ff
end
end K81

/-! B81: the law's flaw, is_halving. -/
namespace K81
open Tl
section
variable {k : Nat} {F : Nat → List D → Option D} {L : List Nat}
theorem run13 (hl : L.length ≤ 31) : run (tab recs) (k + 2) 13 [.str L] = some (flD (flw L)) := by
  refine run_rt (n := k + 1) (fd := t13) rfl rfl ?_
  generalize run (tab recs) (k + 1) = F
  have sl := s_len (t := L) (by omega)
  have rg := rng1 (n := L.length) (by omega)
  have r5 : rngD [.int 5] = some (.lst (upto 5 0)) := rfl
  have go := for_find (bd := exec F gas0 b13_1) (tp := .one 1) (gF L) (fun e => ∃ x1 x2 x3 x4, e = [.sh (.str L), x1, x2, x3, x4]) (rI 1 L.length) [.sh (.str L), .no, .no, .no, .no] ⟨_, _, _, _, rfl⟩ (fun d hd e he => by
    obtain ⟨x1, x2, x3, x4, rfl⟩ := he
    obtain ⟨p, hp, rfl⟩ := List.mem_map.mp hd
    have hp := List.mem_range'_1.mp hp
    obtain ⟨l, c, hf, ht⟩ := test (L := L) (p := p) hl (by omega) (by omega)
    have m := i_mul (a := 2) (b := (pwr p : Nat)) (.inl rfl)
    have tn : ((p : Nat) : Int).toNat = p := by omega
    have a : exec F gas0 (.asg 2 false (.c (.int 1))) [.sh (.str L), .sh (.int (p : Nat)), x2, x3, x4] = some (.nx [.sh (.str L), .sh (.int (p : Nat)), .sh (.int 1), x3, x4]) := by
      simp only [exec, ev, fin_ff, eget, eset, Bool.false_eq_true, if_false]
    have b : exec F gas0 (.for (.one 3) (.rng (.ac (.c (.int 5)) .an)) b13_0) [.sh (.str L), .sh (.int (p : Nat)), .sh (.int 1), x3, x4] = some (.nx [.sh (.str L), .sh (.int (p : Nat)), .sh (.int (pwr p : Nat)), .sh (.int 4), x4]) :=
      for_ev (d := .lst (upto 5 0)) (ds := upto 5 0) (by simp only [ev, fin_ff, r5, hasB, imm, ite_self, Bool.false_eq_true, if_false]) rfl (inner (by omega) (by omega))
    have a2 : exec F gas0 (.asg 4 false (.bin .Add (.v 1) (.bin .Mult (.c (.int 2)) (.v 2)))) [.sh (.str L), .sh (.int (p : Nat)), .sh (.int (pwr p : Nat)), .sh (.int 4), x4] = some (.nx [.sh (.str L), .sh (.int (p : Nat)), .sh (.int (pwr p : Nat)), .sh (.int 4), .sh (.int ((p : Nat) + 2 * (pwr p : Nat) : Int))]) := by
      simp only [exec, ev, fin_ff, eget, eset, m, i_add, hasB, imm, ite_self, Bool.false_eq_true, if_false]
    by_cases hb : hit L p = true
    · have lt : l = true := by
        cases l
        · rw [hf rfl] at hb; cases hb
        · rfl
      subst lt
      obtain ⟨x, y, i1, i2, ce⟩ := ht rfl
      rw [hb] at ce
      have s : exec F gas0 b13_1 [.sh (.str L), .sh (.int (p : Nat)), x2, x3, x4] = some (.rt (pD (p, p + 2 * pwr p))) := seq_nx a (seq_nx b (seq_nx a2 (seq_rt (iff_t (by simp only [ev, fin_ff, fin_bl, eget, sl, c, i_sub, i1, i2, ce, hasB, imm, ite_self, Bool.false_eq_true, if_false, Bool.true_and, Option.map_some]) (seq_rt (by
        simp only [exec, ev, fin_ff, eget]
        rfl))))))
      refine ⟨_, _, rfl, s, ?_⟩
      show match gF L (.int (p : Nat)) with | some r => _ | none => _
      unfold gF
      simp only [tn]
      rw [if_pos hb]
    · have hb : hit L p = false := by simpa using hb
      have s : exec F gas0 b13_1 [.sh (.str L), .sh (.int (p : Nat)), x2, x3, x4] = some (.nx [.sh (.str L), .sh (.int (p : Nat)), .sh (.int (pwr p : Nat)), .sh (.int 4), .sh (.int ((p : Nat) + 2 * (pwr p : Nat) : Int))]) := seq_nx a (seq_nx b (seq_nx a2 (seq_nx (iff_f (by
        cases l
        · simp only [ev, fin_ff, fin_bl, eget, sl, c, hasB, imm, ite_self, Bool.false_eq_true, if_false, Bool.false_and, Option.map_some]
        · obtain ⟨x, y, i1, i2, ce⟩ := ht rfl
          rw [hb] at ce
          simp only [ev, fin_ff, fin_bl, eget, sl, c, i_sub, i1, i2, ce, hasB, imm, ite_self, Bool.false_eq_true, if_false, Bool.true_and, Option.map_some]) rfl) rfl)))
      refine ⟨_, _, rfl, s, ?_⟩
      show match gF L (.int (p : Nat)) with | some r => _ | none => _
      unfold gF
      simp only [tn]
      rw [if_neg (by rw [hb]; exact Bool.false_ne_true)]
      exact ⟨_, .inl rfl, _, _, _, _, rfl⟩)
  rw [gF_all] at go
  obtain ⟨o, go, ho⟩ := go
  show exec F gas0 (.seq (.for (.one 1) (.rng (.ac (.c (.int 1)) (.ac (.bin .Add (.bi .len (.ac (.v 0) .an)) (.c (.int 1))) .an))) b13_1) (.seq (.ret (.c .non)) .skip)) [.sh (.str L), .no, .no, .no, .no] = _
  have ff := for_ev (F := F) (gas := gas0) (tp := .one 1) (it := .rng (.ac (.c (.int 1)) (.ac (.bin .Add (.bi .len (.ac (.v 0) .an)) (.c (.int 1))) .an))) (s := b13_1) (e := [.sh (.str L), .no, .no, .no, .no]) (d := .lst (rI 1 L.length)) (ds := rI 1 L.length) (by
    simp only [ev, fin_ff, eget, sl, i_add, rg, hasB, imm, ite_self, Bool.false_eq_true, if_false]) rfl go
  cases hf : flw L with
  | none =>
    rw [hf] at ho
    obtain ⟨e2, rfl, _⟩ := ho
    exact seq_nx ff rfl
  | some q =>
    rw [hf] at ho
    simp only [Option.map_some] at ho
    subst ho
    exact seq_rt ff
def lr (c : Nat) : Bool := decide (c = 108 ∨ c = 114)
def ihB (L : List Nat) : Bool := decide (pwr (L.length + 1) = L.length + 1) && (L.all lr && (flw L).isNone)
theorem is_non (o : Option (Nat × Nat)) : cmpD .Is (flD o) .non = some o.isNone := by cases o <;> rfl
theorem isn_non (o : Option (Nat × Nat)) : cmpD .IsNot (flD o) .non = some (!o.isNone) := by cases o <;> rfl
theorem kdi_lr (c : Nat) : (dGet [((D.str [108]), (D.str [114])), ((.str [114]), (.str [108]))] (.str [c])).isSome = lr c := by
  unfold lr
  by_cases h1 : c = 108
  · subst h1; rfl
  by_cases h2 : c = 114
  · subst h2; rfl
  rw [decide_eq_false (by omega)]
  have e1 : sameD (.str [108]) (.str [c]) = false := by
    show (([108] : List Nat) == [c]) = false
    simp; omega
  have e2 : sameD (.str [114]) (.str [c]) = false := by
    show (([114] : List Nat) == [c]) = false
    simp; omega
  simp [dGet, e1, e2]
theorem run4 (hl : L.length ≤ 31) : run (tab recs) (k + 3) 4 [.str L] = some (.bl (ihB L)) := by
  refine run_rt (n := k + 2) (fd := t4) rfl rfl ?_
  have f2 := run2 (k := k + 1) (p := L.length + 1) (by omega) (by omega)
  have f3 := run3 (k := k) hl
  generalize run (tab recs) (k + 2) = F at f2 f3
  have f2 : F 2 [.int ((L.length : Nat) + 1 : Int)] = some (.int (pwr (L.length + 1) : Nat)) := f2
  have sl := s_len (t := L) (by omega)
  have ne : cmpD .NotEq (.int (pwr (L.length + 1) : Nat)) (.int ((L.length : Nat) + 1 : Int)) = some (!decide (pwr (L.length + 1) = L.length + 1)) := by
    rw [c_ne]
    congr 2
    exact decide_eq_decide.mpr (by omega)
  have g : ev F (.gex true [1] (.one 1) (.v 0) x4_0) false [.sh (.str L), .no] = some (.bl (L.all lr)) := by
    refine gex_ev (d := .str L) (ds := L.map fun c => D.str [c]) rfl ?_ ?_ false
    · have ok : okLen L = true := okLen_of (by omega)
      simp [walkD, ok]
    refine gex_b (al := true) (fun c => D.str [c]) lr L fun c hc => ⟨_, rfl, ?_⟩
    have q := kdi_lr c
    simp only [x4_0, ev, fin_ff, wipeE, eget, eset, Bool.false_eq_true, if_false, q]
  have i := is_non (flw L)
  show exec F gas0 (.seq (.iff (.cmp .NotEq (.call 2 (.ac (.bin .Add (.bi .len (.ac (.v 0) .an)) (.c (.int 1))) .an)) (.bin .Add (.bi .len (.ac (.v 0) .an)) (.c (.int 1)))) (.seq (.ret (.c (.bl false))) .skip) .skip) (.seq (.ret (.and (.gex true [1] (.one 1) (.v 0) x4_0) (.cmp .Is (.call 3 (.ac (.v 0) .an)) (.c .non)))) .skip)) [.sh (.str L), .no] = _
  generalize (IE.gex true [1] (.one 1) (.v 0) x4_0) = q at g ⊢
  unfold ihB
  by_cases hp : pwr (L.length + 1) = L.length + 1
  · rw [decide_eq_true hp] at ne ⊢
    refine seq_nx (iff_f (t := .skip) ?_ rfl) (seq_rt ?_)
    · simp only [ev, fin_ff, fin_bl, eget, sl, i_add, f2, ne, hasB, imm, ite_self, Bool.false_eq_true, if_false, Bool.not_true, Option.map_some]
    · rw [Bool.true_and]
      by_cases ha : L.all lr = true
      · rw [ha] at g ⊢
        simp only [exec, ev, fin_ff, fin_bl, eget, g, f3, i, truD, hasB, imm, ite_self, Bool.false_eq_true, if_false, if_true, Option.map_some, Bool.true_and]
      · have ha : L.all lr = false := by simpa using ha
        rw [ha] at g ⊢
        simp only [exec, ev, fin_ff, fin_bl, eget, g, truD, hasB, imm, ite_self, Bool.false_eq_true, if_false, if_true, Option.map_some, Bool.false_and]
  · rw [decide_eq_false hp] at ne ⊢
    refine seq_rt (iff_t ?_ (seq_rt rfl))
    simp only [ev, fin_ff, fin_bl, eget, sl, i_add, f2, ne, hasB, imm, ite_self, Bool.false_eq_true, if_false, Bool.not_false, Option.map_some]
end
end K81

/-! C81: right letters. -/
namespace K81
open Tl
def isS (o : Option D) (s : List Nat) : Bool := match o with
  | some (.str t) => t == s
  | _ => false
theorem isS_eq {o : Option D} {s : List Nat} (h : isS o s = true) : o = some (.str s) := by
  unfold isS at h
  split at h
  · rw [eq_of_beq h]
  · cases h
def okF (k : Nat) (f : List Nat) : Bool := isS (run (tab recs) k 11 [.str f]) (hv f) && isS (run (tab recs) k 1 [.str f]) (hv f) && isS (run (tab recs) k 5 [.str (hv f)]) f
theorem okf98 : (List.range 5).all (fun s => (W s).all (okF 98)) = true := by decide +kernel
theorem okf99 : (List.range 5).all (fun s => (W s).all (okF 99)) = true := by decide +kernel
structure Fc (k : Nat) (f : List Nat) : Prop where
  h11 : run (tab recs) k 11 [.str f] = some (.str (hv f))
  h1 : run (tab recs) k 1 [.str f] = some (.str (hv f))
  h5 : run (tab recs) k 5 [.str (hv f)] = some (.str f)
theorem fc_of {k : Nat} {f : List Nat} (h : okF k f = true) : Fc k f := by
  unfold okF at h
  simp only [Bool.and_eq_true] at h
  exact ⟨isS_eq h.1.1, isS_eq h.1.2, isS_eq h.2⟩
theorem fc98 {s : Nat} (hs : s ≤ 4) {f : List Nat} (h : f ∈ W s) : Fc 98 f := fc_of (List.all_eq_true.mp (List.all_eq_true.mp okf98 s (List.mem_range.mpr (by omega))) f h)
theorem fc99 {s : Nat} (hs : s ≤ 4) {f : List Nat} (h : f ∈ W s) : Fc 99 f := fc_of (List.all_eq_true.mp (List.all_eq_true.mp okf99 s (List.mem_range.mpr (by omega))) f h)
theorem run12 {k s : Nat} (hs : s ≤ 4) : run (tab recs) (k + 1) 12 [.int (s : Nat)] = some (.lst ((W s).map .str)) := by
  refine run_rt (n := k) (fd := t12) rfl rfl ?_
  generalize run (tab recs) k = F
  have : s = 0 ∨ s = 1 ∨ s = 2 ∨ s = 3 ∨ s = 4 := by omega
  rcases this with rfl | rfl | rfl | rfl | rfl <;> rfl
theorem ih_eq {s : Nat} (hs : s ≤ 4) {L : List Nat} (b : Bin L) (hl : L.length + 1 = 2 ^ s) : ihB L = (flw L).isNone := by
  have h1 : L.all lr = true := List.all_eq_true.mpr fun c hc => decide_eq_true (b c hc)
  have h2 : pwr (L.length + 1) = L.length + 1 := by
    rw [hl]
    have : s = 0 ∨ s = 1 ∨ s = 2 ∨ s = 3 ∨ s = 4 := by omega
    rcases this with rfl | rfl | rfl | rfl | rfl <;> rfl
  unfold ihB
  rw [h1, decide_eq_true h2, Bool.true_and, Bool.true_and]
section
variable {k : Nat} {F : Nat → List D → Option D} {L : List Nat}
theorem run5 (hl : L.length ≤ 31) (h : flw L ≠ none) : run (tab recs) (k + 3) 5 [.str L] = some .non := by
  refine run_rt (n := k + 2) (fd := t5) rfl rfl ?_
  have f3 := run3 (k := k) hl
  generalize run (tab recs) (k + 2) = F at f3
  obtain ⟨q, hq⟩ := Option.ne_none_iff_exists'.mp h
  rw [hq] at f3
  have i := isn_non (some q)
  show exec F gas0 (.seq (.iff (.cmp .IsNot (.call 3 (.ac (.v 0) .an)) (.c .non)) (.seq (.ret (.c .non)) .skip) .skip) _) [.sh (.str L), .no, .no] = _
  refine seq_rt (iff_t ?_ (seq_rt rfl))
  simp only [ev, fin_ff, fin_bl, eget, f3, i, hasB, imm, ite_self, Bool.false_eq_true, if_false, Option.isNone_some, Bool.not_false, Option.map_some]
def tl14_5 : IS := .skip
def tl14_4 : IS := .seq (.ret (.call 9 (.ac (.call 5 (.ac (.v 0) .an)) (.ac (.ife (.cmp .Is (.v 3) (.c .non)) (.idx (.v 2) (.c (.int 0))) (.c .non)) .an)))) tl14_5
def tl14_3 : IS := .seq (.iff (.or (.nt (.call 9 (.ac (.call 3 (.ac (.v 0) .an)) (.ac (.v 3) .an)))) (.nt (.call 9 (.ac (.call 4 (.ac (.v 0) .an)) (.ac (.cmp .Is (.v 3) (.c .non)) .an))))) (.seq (.ret (.c (.bl false))) .skip) .skip) tl14_4
def tl14_2 : IS := .seq (.iff (.cmp .NotEq (.cmp .Is (.v 3) (.c .non)) (.cmp .Eq (.bi .len (.ac (.v 2) .an)) (.c (.int 1)))) (.seq (.ret (.c (.bl false))) .skip) .skip) tl14_3
def tl14_1 : IS := .seq (.asg 3 false (.call 13 (.ac (.v 0) .an))) tl14_2
def tl14_0 : IS := .seq (.asg 2 false (.lc [4] (.one 4) (.call 12 (.ac (.v 1) .an)) g14_0 (.v 4))) tl14_1
theorem q_s {n : Nat} (s : List Nat) : run (tab recs) (n + 3) 9 [.str s, .str s] = some (.bl true) := by
  rw [is_run (T := tab recs) (a := 8) (k := 9) rfl rfl (n + 3) 1 (.str s) (.str s) rfl (by omega)]
  show some (D.bl (s == s)) = _
  rw [beq_self_eq_true]
theorem q_f {n : Nat} (o : Option (Nat × Nat)) : run (tab recs) (n + 3) 9 [flD o, flD o] = some (.bl true) := by
  cases o with
  | none => exact isq_non (T := tab recs) (a := 8) (k := 9) rfl rfl
  | some q => exact isq_t (T := tab recs) (a := 8) (k := 9) (l := [(q.1 : Int), (q.2 : Int)]) rfl rfl (by simp)
theorem eqs (a b : List Nat) : cmpD .Eq (.str a) (.str b) = some (a == b) := rfl
theorem run14 {s : Nat} (hs : s ≤ 4) (b : Bin L) (hl : L.length + 1 = 2 ^ s) : run (tab recs) 99 14 [.str L, .int (s : Nat)] = some (.bl true) := by
  have hp : 2 ^ s ≤ 16 := Nat.pow_le_pow_right (n := 2) (by omega) hs
  have kn := known hs b hl
  have ih := ih_eq hs b hl
  have f12 := run12 (k := 97) hs
  have f11 := fun (g : List Nat) (hg : g ∈ W s) => (fc98 hs hg).h11
  have f13 := run13 (k := 96) (L := L) (by omega)
  have f3 := run3 (k := 96) (L := L) (by omega)
  have f4 := run4 (k := 95) (L := L) (by omega)
  have f5 : run (tab recs) 98 5 [.str L] = some (if flw L = none then .str (fo s L) else .non) := by
    by_cases n : flw L = none
    · rw [if_pos n]
      obtain ⟨m, e⟩ := is_hv hs b hl n
      have := (fc98 hs m).h5
      rw [e] at this
      exact this
    · rw [if_neg n]
      exact run5 (k := 95) (by omega) n
  have q1 := q_f (n := 95) (flw L)
  have q2 := fun b => isq_b (T := tab recs) (a := 8) (k := 9) (n := 95) rfl rfl b
  have q3 := q_s (n := 95) (fo s L)
  have q4 := isq_non (T := tab recs) (a := 8) (k := 9) (n := 95) rfl rfl
  rw [ih] at f4
  refine run_rt (n := 98) (fd := t14) rfl rfl ?_
  generalize run (tab recs) 98 = F at *
  have f12 : F 12 [.int (s : Nat)] = some (.lst ((W s).map .str)) := f12
  have f13 : F 13 [.str L] = some (flD (flw L)) := f13
  have f3 : F 3 [.str L] = some (flD (flw L)) := f3
  have f4 : F 4 [.str L] = some (.bl (flw L).isNone) := f4
  have q1 : F 9 [flD (flw L), flD (flw L)] = some (.bl true) := q1
  have q2 : ∀ b, F 9 [.bl b, .bl b] = some (.bl true) := q2
  have q3 : F 9 [.str (fo s L), .str (fo s L)] = some (.bl true) := q3
  have q4 : F 9 [.non, .non] = some (.bl true) := q4
  have q2 := q2 (flw L).isNone
  have i := is_non (flw L)
  have l : ev F (.lc [4] (.one 4) (.call 12 (.ac (.v 1) .an)) g14_0 (.v 4)) false [.sh (.str L), .sh (.int (s : Nat)), .no, .no, .no] = some (.lst (((W s).filter (fun g => hv g == L)).map .str)) := by
    refine lc_ev (d := .lst ((W s).map .str)) (ds := (W s).map .str) ?_ rfl ?_ ?_
    · simp only [ev, fin_ff, eget, f12, hasB, imm, ite_self, Bool.false_eq_true, if_false]
    · refine lc_b (emb := D.str) (p := fun g => hv g == L) (f := D.str) (W s) fun g hg => ⟨_, rfl, ?_, fun _ => rfl⟩
      have q := f11 g hg
      have e := eqs (hv g) L
      simp only [g14_0, ev, fin_ff, fin_bl, wipeE, eget, eset, q, e, hasB, imm, ite_self, Bool.false_eq_true, if_false, Option.map_some]
    · rw [kn]
      split <;> rfl
  rw [kn] at l
  show exec F gas0 tl14_0 [.sh (.str L), .sh (.int (s : Nat)), .no, .no, .no] = _
  unfold tl14_0
  generalize (IE.lc [4] (.one 4) (.call 12 (.ac (.v 1) .an)) g14_0 (.v 4)) = q at l ⊢
  by_cases n : flw L = none
  · rw [if_pos n] at l f5
    rw [n] at f13 f3 f4 q1 q2 i
    refine seq_nx (e1 := [.sh (.str L), .sh (.int (s : Nat)), .sh (.lst [.str (fo s L)]), .no, .no]) ?_ ?_
    · simp only [exec, l, eset, Bool.false_eq_true, if_false]
      rfl
    unfold tl14_1
    refine seq_nx (e1 := [.sh (.str L), .sh (.int (s : Nat)), .sh (.lst [.str (fo s L)]), .sh (flD none), .no]) ?_ ?_
    · simp only [exec, ev, fin_ff, eget, eset, f13, hasB, imm, ite_self, Bool.false_eq_true, if_false]
    have ln : biD .len [.lst [.str (fo s L)]] = some (.int 1) := rfl
    have c1 : cmpD .Eq (.int 1) (.int 1) = some true := rfl
    have c2 : cmpD .NotEq (.bl (none : Option (Nat × Nat)).isNone) (.bl true) = some false := rfl
    have ix : idxD (.lst [.str (fo s L)]) (.int 0) = some (.str (fo s L)) := rfl
    unfold tl14_2
    refine seq_nx (iff_f (t := .skip) ?_ rfl) ?_
    · simp only [ev, fin_ff, fin_bl, eget, i, ln, c1, c2, hasB, imm, ite_self, Bool.false_eq_true, if_false, Option.map_some]
    unfold tl14_3
    refine seq_nx (iff_f (t := .skip) ?_ rfl) ?_
    · simp only [ev, fin_ff, fin_bl, eget, f3, f4, q1, q2, i, hasB, imm, ite_self, Bool.false_eq_true, if_false, Bool.not_true, Option.map_some]
    unfold tl14_4
    refine seq_rt ?_
    rw [show (none : Option (Nat × Nat)).isNone = true from rfl] at i
    simp only [exec, ev, fin_ff, fin_bl, eget, f5, q3, i, ix, hasB, imm, ite_self, Bool.false_eq_true, if_false, Option.map_some]
  · rw [if_neg n] at l f5
    obtain ⟨u, hu⟩ := Option.ne_none_iff_exists'.mp n
    rw [hu] at f13 f3 f4 q1 q2 i
    refine seq_nx (e1 := [.sh (.str L), .sh (.int (s : Nat)), .sh (.lst []), .no, .no]) ?_ ?_
    · simp only [exec, l, eset, Bool.false_eq_true, if_false]
      rfl
    unfold tl14_1
    refine seq_nx (e1 := [.sh (.str L), .sh (.int (s : Nat)), .sh (.lst []), .sh (flD (some u)), .no]) ?_ ?_
    · simp only [exec, ev, fin_ff, eget, eset, f13, hasB, imm, ite_self, Bool.false_eq_true, if_false]
    have ln : biD .len [.lst []] = some (.int 0) := rfl
    have c1 : cmpD .Eq (.int 0) (.int 1) = some false := rfl
    have c2 : cmpD .NotEq (.bl (some u).isNone) (.bl false) = some false := rfl
    unfold tl14_2
    refine seq_nx (iff_f (t := .skip) ?_ rfl) ?_
    · simp only [ev, fin_ff, fin_bl, eget, i, ln, c1, c2, hasB, imm, ite_self, Bool.false_eq_true, if_false, Option.map_some]
    unfold tl14_3
    refine seq_nx (iff_f (t := .skip) ?_ rfl) ?_
    · simp only [ev, fin_ff, fin_bl, eget, f3, f4, q1, q2, i, hasB, imm, ite_self, Bool.false_eq_true, if_false, Bool.not_true, Option.map_some]
    unfold tl14_4
    refine seq_rt ?_
    rw [show (some u).isNone = false from rfl] at i
    simp only [exec, ev, fin_ff, fin_bl, eget, f5, q4, i, hasB, imm, ite_self, Bool.false_eq_true, if_false, Option.map_some]
end
end K81

/-! D81: spoilt letters, the law. -/
namespace K81
open Tl
theorem s_cat {a b : List Nat} (h : a.length + b.length ≤ 100000) : binD .Add (.str a) (.str b) = some (.str (a ++ b)) := by
  show (if okLen (a ++ b) then some (D.str (a ++ b)) else none) = _
  rw [if_pos (okLen_of (by rw [List.length_append]; exact h))]
theorem s_pre {L : List Nat} {i : Nat} (hl : L.length ≤ 100000) (h : i ≤ L.length) : slcD (.str L) none (some (i : Int)) = some (.str (L.take i)) := by
  show (if okLen L then some (D.str (cutL L none (some (i : Int)))) else none) = _
  rw [if_pos (okLen_of hl), cut_pre h]
theorem s_suf {L : List Nat} {i : Nat} (hl : L.length ≤ 100000) : slcD (.str L) (some ((i : Nat) + 1 : Int)) none = some (.str (L.drop (i + 1))) := by
  show (if okLen L then some (D.str (cutL L (some ((i + 1 : Nat) : Int)) none)) else none) = _
  rw [if_pos (okLen_of hl)]
  by_cases h : i + 1 ≤ L.length
  · rw [cut_suf h]
  · congr 2
    unfold cutL sIx
    simp only
    rw [if_neg (by omega)]
    have e : min ((i + 1 : Nat) : Int).toNat L.length = L.length := by omega
    rw [e, List.drop_length, List.take_nil, List.drop_eq_nil_of_le (by omega)]
theorem run10 {k c : Nat} (h : c = 108 ∨ c = 114) : run (tab recs) (k + 1) 10 [.str [c]] = some (.str [fl c]) := by
  refine run_rt (n := k) (fd := t10) rfl rfl ?_
  generalize run (tab recs) k = F
  rcases h with rfl | rfl <;> rfl
theorem getD_bin {L : List Nat} (b : Bin L) {i : Nat} (h : i < L.length) : L.getD i 0 = 108 ∨ L.getD i 0 = 114 := by
  rw [List.getD_eq_getElem?_getD, List.getElem?_eq_getElem h]
  exact b _ (List.getElem_mem h)
theorem run15 {k : Nat} {L : List Nat} (b : Bin L) (hl : L.length ≤ 15) (ws : List Int) : ∃ L', Bin L' ∧ L'.length = L.length ∧ run (tab recs) (k + 2) 15 [.str L, .lst (ws.map .int)] = some (.str L') := by
  have f10 := fun c (h : c = 108 ∨ c = 114) => run10 (k := k) h
  have rr := fun (L' : List Nat) (hx : exec (run (tab recs) (k + 1)) gas0 t15.body (entry t15.slots [.str L, .lst (ws.map .int)]) = some (.rt (.str L'))) => run_rt (T := tab recs) (n := k + 1) (k := 15) (fd := t15) rfl rfl hx
  generalize run (tab recs) (k + 1) = F at f10 rr
  obtain ⟨e', g, M, x2, x3, bM, lM, rfl⟩ := for_i (bd := exec F gas0 b15_0) (k := 2) (fun e => ∃ M x2 x3, Bin M ∧ M.length = L.length ∧ e = [.sh (.str M), .sh (.lst (ws.map .int)), x2, x3]) ws (fun j hj e he => by
    obtain ⟨M, x2, x3, bM, lM, rfl⟩ := he
    have sl := s_len (t := M) (by omega)
    have c := c_gt (M.length : Nat) 0
    by_cases h : M.length = 0
    · rw [decide_eq_false (by omega)] at c
      refine ⟨_, ?_, M, .sh (.int j), x3, bM, lM, rfl⟩
      unfold b15_0
      refine seq_nx (iff_f (t := .skip) ?_ rfl) rfl
      simp only [ev, fin_ff, fin_bl, eget, eset, sl, c, hasB, imm, ite_self, Bool.false_eq_true, if_false, Option.map_some]
    · rw [decide_eq_true (by omega)] at c
      have m := i_mod (a := j) (b := (M.length : Nat)) (by omega)
      have w := mod_at j (m := (M.length : Nat)) (by omega)
      obtain ⟨a, ha⟩ : ∃ a : Nat, j % (M.length : Nat) = (a : Int) := ⟨(j % (M.length : Nat)).toNat, by omega⟩
      rw [ha] at m w
      have hc := getD_bin bM (i := a) (by omega)
      have q := f10 _ hc
      have ix := L_ix (L := M) (a := a) (by omega) (by omega)
      have sp := s_pre (L := M) (i := a) (by omega) (by omega)
      have ss := s_suf (L := M) (i := a) (by omega)
      have tl : (M.take a).length = a := by rw [List.length_take]; omega
      have dl : (M.drop (a + 1)).length = M.length - (a + 1) := List.length_drop
      have k1 := s_cat (a := M.take a) (b := [fl (M.getD a 0)]) (by simp; omega)
      have k2 := s_cat (a := M.take a ++ [fl (M.getD a 0)]) (b := M.drop (a + 1)) (by simp; omega)
      refine ⟨_, ?_, M.take a ++ [fl (M.getD a 0)] ++ M.drop (a + 1), .sh (.int j), .sh (.int (a : Nat)), ?_, ?_, rfl⟩
      · unfold b15_0
        refine seq_nx (e1 := [.sh (.str (M.take a ++ [fl (M.getD a 0)] ++ M.drop (a + 1))), .sh (.lst (ws.map .int)), .sh (.int j), .sh (.int (a : Nat))]) (iff_t ?_ (seq_nx (e1 := [.sh (.str M), .sh (.lst (ws.map .int)), .sh (.int j), .sh (.int (a : Nat))]) ?_ (seq_nx (e1 := [.sh (.str (M.take a ++ [fl (M.getD a 0)] ++ M.drop (a + 1))), .sh (.lst (ws.map .int)), .sh (.int j), .sh (.int (a : Nat))]) ?_ rfl))) rfl
        · simp only [ev, fin_ff, fin_bl, eget, eset, sl, c, hasB, imm, ite_self, Bool.false_eq_true, if_false, Option.map_some]
        · simp only [exec, ev, fin_ff, eget, eset, sl, i_int, m, hasB, imm, ite_self, Bool.false_eq_true, if_false]
        · have n0 : isNo IE.no = true := rfl
          have n1 : isNo (IE.v 3) = false := rfl
          have n2 : isNo (IE.bin .Add (.v 3) (.c (.int 1))) = false := rfl
          simp only [exec, ev, fin_ff, eget, eset, n0, n1, n2, parD, i_add, ix, q, sp, ss, k1, k2, hasB, imm, ite_self, Bool.false_eq_true, if_false, if_true]
      · intro c hc'
        rw [List.mem_append, List.mem_append] at hc'
        rcases hc' with (hc' | hc') | hc'
        · exact bM c (List.mem_of_mem_take hc')
        · rw [List.mem_singleton] at hc'
          rw [hc']
          unfold fl
          split
          · exact .inr rfl
          · exact .inl rfl
        · exact bM c (List.mem_of_mem_drop hc')
      · rw [List.length_append, List.length_append, tl, dl, List.length_singleton]
        omega) [.sh (.str L), .sh (.lst (ws.map .int)), .no, .no] ⟨L, .no, .no, b, rfl, rfl⟩
  refine ⟨M, bM, lM, rr M ?_⟩
  show exec F gas0 (.seq (.for (.one 2) (.v 1) b15_0) (.seq (.ret (.v 0)) .skip)) [.sh (.str L), .sh (.lst (ws.map .int)), .no, .no] = _
  exact seq_nx (for_ev (d := .lst (ws.map .int)) (ds := ws.map .int) rfl rfl g) rfl
theorem isIn_lr (c : Nat) : isIn [c] [108, 114] = lr c := by
  unfold lr
  by_cases h1 : c = 108
  · subst h1; rfl
  by_cases h2 : c = 114
  · subst h2; rfl
  rw [decide_eq_false (by omega)]
  simp [isIn, List.isPrefixOf, h1, h2]
theorem six : ∀ n : Nat, n < 32 → decide ((n : Int) ∈ ([0, 1, 3, 7, 15, 31] : List Int)) = decide (pwr (n + 1) = n + 1) := by decide
section
variable {F : Nat → List D → Option D}
theorem asked {x0 x1 x2 x3 x4 x5 x6 x8 x9 x10 x11 : Sl} {A : List Nat} (hA : A.length ≤ 31) (f4 : F 4 [.str A] = some (.bl (ihB A))) (f13 : F 13 [.str A] = some (flD (flw A))) (q : ∀ b, F 9 [.bl b, .bl b] = some (.bl true)) :
    ∃ y10, exec F gas0 b16_2 [x0, x1, x2, x3, x4, x5, x6, .sh (.str A), x8, x9, x10, x11] = some (.nx [x0, x1, x2, x3, x4, x5, x6, .sh (.str A), x8, x9, y10, x11]) := by
  have sl := s_len (t := A) (by omega)
  have i6 := i_inT (A.length : Nat) [0, 1, 3, 7, 15, 31]
  rw [six A.length (by omega)] at i6
  have i6 : cmpD .In (.int (A.length : Nat)) (.tup [.int 0, .int 1, .int 3, .int 7, .int 15, .int 31]) = some (decide (pwr (A.length + 1) = A.length + 1)) := i6
  have l : ev F (.lc [11] (.one 11) (.v 7) g16_0 x16_1) false [x0, x1, x2, x3, x4, x5, x6, .sh (.str A), x8, x9, x10, x11] = some (.lst ((A.filter fun c => !lr c).map fun _ => .int 1)) := by
    have ok : okLen A = true := okLen_of (by omega)
    refine lc_ev (d := .str A) (ds := A.map fun c => D.str [c]) rfl (by simp [walkD, ok]) ?_ (okLen_of (by
      rw [List.length_map]
      have := List.length_filter_le (fun c => !lr c) A
      omega))
    refine lc_b (emb := fun c => D.str [c]) (p := fun c => !lr c) (f := fun _ => D.int 1) A fun c hc => ⟨_, rfl, ?_, fun _ => rfl⟩
    have e : cmpD .NotIn (.str [c]) (.str [108, 114]) = some (!lr c) := by
      show some (!isIn [c] [108, 114]) = _
      rw [isIn_lr]
    simp only [g16_0, ev, fin_ff, fin_bl, wipeE, eget, eset, e, Option.map_some]
  have ln : biD .len [.lst ((A.filter fun c => !lr c).map fun _ => D.int 1)] = some (.int ((A.filter fun c => !lr c).length : Nat)) := by
    show some (D.int (((A.filter fun c => !lr c).map fun _ => D.int 1).length : Nat)) = _
    rw [List.length_map]
  have e0 : cmpD .Eq (.int ((A.filter fun c => !lr c).length : Nat)) (.int 0) = some (A.all lr) := by
    rw [c_eq]
    congr 1
    by_cases h : A.all lr = true
    · rw [h]
      have : A.filter (fun c => !lr c) = [] := List.filter_eq_nil_iff.mpr fun c hc => by
        rw [List.all_eq_true.mp h c hc]; exact Bool.false_ne_true
      rw [this]; rfl
    · have h' : A.all lr = false := by simpa using h
      rw [h', decide_eq_false_iff_not]
      intro e
      have e : (A.filter fun c => !lr c).length = 0 := by omega
      have := List.filter_eq_nil_iff.mp (List.length_eq_zero_iff.mp e)
      refine h (List.all_eq_true.mpr fun c hc => ?_)
      have := this c hc
      simpa using this
  have i := is_non (flw A)
  have qq := q (ihB A)
  unfold b16_2
  generalize (IE.lc [11] (.one 11) (.v 7) g16_0 x16_1) = w at *
  refine ⟨.sh (.bl (decide (pwr (A.length + 1) = A.length + 1) && A.all lr)), ?_⟩
  have e : ihB A = (decide (pwr (A.length + 1) = A.length + 1) && (A.all lr && (flw A).isNone)) := rfl
  rw [e] at f4 qq
  generalize decide (pwr (A.length + 1) = A.length + 1) = p at *
  generalize A.all lr = a at *
  generalize (flw A).isNone = z at *
  refine seq_nx (e1 := [x0, x1, x2, x3, x4, x5, x6, .sh (.str A), x8, x9, .sh (.bl (p && a)), x11]) ?_ ?_
  · cases p
    · simp only [exec, ev, fin_ff, fin_bl, eget, eset, sl, i6, truD, hasB, imm, ite_self, Bool.false_eq_true, if_false, if_true, Bool.false_and, Option.map_some]
    · simp only [exec, ev, fin_ff, fin_bl, eget, eset, sl, i6, l, ln, e0, truD, hasB, imm, ite_self, Bool.false_eq_true, if_false, if_true, Bool.true_and, Option.map_some]
  refine seq_nx (iff_f (t := .skip) ?_ rfl) rfl
  cases p <;> cases a <;> simp only [Bool.true_and, Bool.false_and] at f4 qq ⊢ <;> simp only [ev, fin_ff, fin_bl, eget, f4, f13, i, qq, truD, hasB, imm, ite_self, Bool.false_eq_true, if_false, if_true, Bool.not_true, Bool.true_and, Bool.false_and, Option.map_some]
end
def tl16_3 : IS := .skip
def tl16_2 : IS := .seq (.ret (.and (.call 9 (.ac (.call 4 (.ac (.c (.str [108, 108, 108])) .an)) (.ac (.c (.bl false)) .an))) (.call 9 (.ac (.call 4 (.ac (.c (.str [108, 114])) .an)) (.ac (.c (.bl false)) .an))))) tl16_3
def tl16_1 : IS := .seq (.for (.one 2) (.rng (.ac (.c (.int 4)) .an)) b16_6) tl16_2
def tl16_0 : IS := .seq (.asg 1 false (.call 7 (.ac (.call 6 (.ac (.v 0) (.ac (.c (.int 0)) .an))) (.ac (.c (.int 40)) .an)))) tl16_1
theorem bin_hv {s : Nat} (hs : s ≤ 4) {f : List Nat} (h : f ∈ W s) : Bin (hv f) := (wf hs h).bin
theorem lo_up : ∀ c, c = 108 ∨ c = 114 → upC c < 128 := by
  rintro c (rfl | rfl) <;> decide
theorem mul2 {L : List Nat} (h : L.length ≤ 15) : binD .Mult (.str L) (.int 2) = some (.str (L ++ L)) := by
  have e : (List.replicate (2 : Int).toNat L).flatten = L ++ L := by
    show (List.replicate 2 L).flatten = _
    simp [List.replicate]
  show (if okLen L && small lim 2 && okLen (List.replicate (2 : Int).toNat L).flatten then some (D.str (List.replicate (2 : Int).toNat L).flatten) else none) = _
  rw [e, okLen_of (l := L) (by omega), okLen_of (l := L ++ L) (by simp; omega)]
  rfl
theorem pureLaw (ns : List Int) (hn : ns.length ≤ 63) : run (tab recs) 100 16 [.ro (ns.map D.int)] = some (.bl true) := by
  refine run_rt (n := 99) (fd := t16) rfl rfl ?_
  have f11 := fun (s : Nat) (hs : s ≤ 4) (f : List Nat) (h : f ∈ W s) => (fc99 hs h).h11
  have f1 := fun (s : Nat) (hs : s ≤ 4) (f : List Nat) (h : f ∈ W s) => (fc99 hs h).h1
  have f14 := fun (s : Nat) (hs : s ≤ 4) (L : List Nat) (b : Bin L) (hl : L.length + 1 = 2 ^ s) => run14 hs b hl
  have f15 := fun (L : List Nat) (b : Bin L) (hl : L.length ≤ 15) (ws : List Int) => run15 (k := 97) b hl ws
  have f4 := fun (L : List Nat) (hl : L.length ≤ 31) => run4 (k := 96) (L := L) hl
  have f13 := fun (L : List Nat) (hl : L.length ≤ 31) => run13 (k := 97) (L := L) hl
  have q2 := fun b => isq_b (T := tab recs) (a := 8) (k := 9) (n := 96) rfl rfl b
  have q3 := fun f => q_s (n := 96) f
  obtain ⟨z0, c0⟩ := cell_run (T := tab recs) (n := 98) (k := 6) rfl ns 0 (by omega)
  obtain ⟨ds, hd, d0⟩ := draws_at (T := tab recs) (n := 98) (k := 7) rfl z0 40 (by omega)
  generalize run (tab recs) 99 = F at *
  have c0 : F 6 [.ro (ns.map .int), .int 0] = some (.int z0) := c0
  have d0 : F 7 [.int z0, .int 40] = some (.lst (ds.map .int)) := d0
  have f15 : ∀ (L : List Nat), Bin L → L.length ≤ 15 → ∀ ws : List Int, ∃ L', Bin L' ∧ L'.length = L.length ∧ F 15 [.str L, .lst (ws.map .int)] = some (.str L') := f15
  have f4 : ∀ (L : List Nat), L.length ≤ 31 → F 4 [.str L] = some (.bl (ihB L)) := f4
  have f13 : ∀ (L : List Nat), L.length ≤ 31 → F 13 [.str L] = some (flD (flw L)) := f13
  have q2 : ∀ b, F 9 [.bl b, .bl b] = some (.bl true) := q2
  have q3 : ∀ f, F 9 [.str f, .str f] = some (.bl true) := q3
  show exec F gas0 tl16_0 [.sh (.ro (ns.map .int)), .no, .no, .no, .no, .no, .no, .no, .no, .no, .no, .no] = _
  unfold tl16_0
  refine seq_nx (e1 := [.sh (.ro (ns.map .int)), .sh (.lst (ds.map .int)), .no, .no, .no, .no, .no, .no, .no, .no, .no, .no]) ?_ ?_
  · simp only [exec, ev, fin_ff, eget, eset, c0, d0, hasB, Bool.false_eq_true, if_false]
  unfold tl16_1
  obtain ⟨e', g, y2, y3, y4, y5, y6, y7, y8, y9, y10, y11, rfl⟩ := for_i (bd := exec F gas0 b16_6) (k := 2) (fun e => ∃ x2 x3 x4 x5 x6 x7 x8 x9 x10 x11, e = [.sh (.ro (ns.map .int)), .sh (.lst (ds.map .int)), x2, x3, x4, x5, x6, x7, x8, x9, x10, x11]) (irange 4) (fun j hj e he => by
    obtain ⟨x2, x3, x4, x5, x6, x7, x8, x9, x10, x11, rfl⟩ := he
    have hj : 0 ≤ j ∧ j < 4 := by
      unfold irange at hj
      obtain ⟨i, hi, rfl⟩ := List.mem_map.mp hj
      have := List.mem_range.mp hi
      omega
    obtain ⟨u, _, _, iu⟩ := hd.at (z := j) (by omega) (by omega)
    have m6 := i_mod (a := u) (b := 6) (by omega)
    have w6 := mod_at u (m := 6) (by omega)
    obtain ⟨s, hs, ip⟩ : ∃ s : Nat, s ≤ 4 ∧ idxD (.tup [.int 4, .int 3, .int 2, .int 4, .int 1, .int 0]) (.int (u % 6)) = some (.int (s : Nat)) := by
      obtain ⟨x, hx, ix⟩ := ix_some (l := ([4, 3, 2, 4, 1, 0] : List Nat).map fun i => D.int (i : Nat)) (i := u % 6) w6.1 (by simp; omega)
      obtain ⟨p, hpm, rfl⟩ := List.mem_map.mp hx
      simp only [List.mem_cons, List.not_mem_nil, or_false] at hpm
      exact ⟨p, by omega, ix⟩
    have hp : 2 ^ s ≤ 16 := Nat.pow_le_pow_right (n := 2) (by omega) hs
    have rg : ∀ p : Nat, p ≤ 1000 → rngD [.int (p : Nat)] = some (.lst (upto p 0)) := fun p hp => by
      have hs : small b62 (p : Nat) = true := sm62 (by omega) (by omega)
      show (if small b62 (p : Nat) then some (D.lst (upto ((p : Nat) : Int).toNat 0)) else none) = _
      rw [if_pos hs]; rfl
    have two : ∀ v : Int, ∃ c, (c = 108 ∨ c = 114) ∧ idxD (.str [108, 114]) (.int (v % 2)) = some (.str [c]) := fun v => by
      have w2 : v % 2 = 0 ∨ v % 2 = 1 := by omega
      rcases w2 with w2 | w2 <;> rw [w2]
      · exact ⟨108, .inl rfl, rfl⟩
      · exact ⟨114, .inr rfl, rfl⟩
    obtain ⟨f, hf1, hf2, ef⟩ := join_ev (F := F) (own := [8]) (k := 8) (x := x16_5) (e := [.sh (.ro (ns.map .int)), .sh (.lst (ds.map .int)), .sh (.int j), .sh (.int (s : Nat)), x4, x5, x6, x7, x8, x9, x10, x11]) (n := s) (it := .rng (.ac (.v 3) .an)) (fun c => c = 108 ∨ c = 114) (by omega) (by
      have r := rg s (by omega)
      simp only [ev, fin_ff, eget, r, hasB, imm, ite_self, Bool.false_eq_true, if_false]) (fun i hi => by
      obtain ⟨v, _, _, iv⟩ := hd.at (z := 4 + 4 * j + (i : Int)) (by omega) (by omega)
      have m2 := i_mod (a := v) (b := 2) (by omega)
      have j4 := i_mul (a := 4) (b := j) (.inl rfl)
      obtain ⟨c, hc, ix⟩ := two v
      refine ⟨c, hc, _, rfl, ?_⟩
      simp only [x16_5, ev, fin_ff, wipeE, eget, eset, j4, i_add, iv, i_int, m2, ix, hasB, imm, ite_self, Bool.false_eq_true, if_false])
    have fm := mem_W hf1 hf2
    have w := wf hs fm
    have g11 := f11 s hs f fm
    have g1 := f1 s hs f fm
    have bL := w.bin
    have lL := w.len
    generalize hv f = L at *
    have sl := s_len (t := L) (by omega)
    obtain ⟨G, hG1, hG2, eG⟩ := join_ev (F := F) (own := [8]) (k := 8) (x := x16_4) (e := [.sh (.ro (ns.map .int)), .sh (.lst (ds.map .int)), .sh (.int j), .sh (.int (s : Nat)), .sh (.str f), .sh (.str L), x6, x7, x8, x9, x10, x11]) (n := L.length) (it := .rng (.ac (.bi .len (.ac (.v 5) .an)) .an)) (fun c => c = 108 ∨ c = 114) (by omega) (by
      have r := rg L.length (by omega)
      simp only [ev, fin_ff, eget, sl, r, hasB, imm, ite_self, Bool.false_eq_true, if_false]) (fun i hi => by
      obtain ⟨v, _, _, iv⟩ := hd.at (z := 20 + (i : Int)) (by omega) (by omega)
      have dv := i_div (a := v) (b := 1 + j) (by omega) (by omega)
      have m2 := i_mod (a := v / (1 + j)) (b := 2) (by omega)
      obtain ⟨c, hc, ix⟩ := two (v / (1 + j))
      refine ⟨c, hc, _, rfl, ?_⟩
      simp only [x16_4, ev, fin_ff, wipeE, eget, eset, i_add, iv, i_int, dv, m2, ix, hasB, imm, ite_self, Bool.false_eq_true, if_false])
    obtain ⟨w1, _, sw1⟩ := hd.cut (a := j) (b := j + 1) (by omega) (by omega) (by omega)
    obtain ⟨w3, _, sw3⟩ := hd.cut (a := j) (b := j + 3) (by omega) (by omega) (by omega)
    obtain ⟨L1, bL1, lL1, g151⟩ := f15 L bL (by omega) w1
    obtain ⟨L3, bL3, lL3, g153⟩ := f15 L bL (by omega) w3
    have qL := q3 L
    -- the four
    obtain ⟨e1, go1, z7, rfl⟩ : ∃ e1, forGo (exec F gas0 b16_3) (.one 7) [.str L, .str L1, .str L3, .str G] [.sh (.ro (ns.map .int)), .sh (.lst (ds.map .int)), .sh (.int j), .sh (.int (s : Nat)), .sh (.str f), .sh (.str L), .sh (.str G), x7, x8, x9, x10, x11] = some (.nx e1) ∧ ∃ z7, e1 = [.sh (.ro (ns.map .int)), .sh (.lst (ds.map .int)), .sh (.int j), .sh (.int (s : Nat)), .sh (.str f), .sh (.str L), .sh (.str G), z7, x8, x9, x10, x11] := by
      refine for_inv (fun e => ∃ z7, e = [.sh (.ro (ns.map .int)), .sh (.lst (ds.map .int)), .sh (.int j), .sh (.int (s : Nat)), .sh (.str f), .sh (.str L), .sh (.str G), z7, x8, x9, x10, x11]) _ (fun d hd e he => ?_) _ ⟨x7, rfl⟩
      obtain ⟨z7, rfl⟩ := he
      obtain ⟨M, rfl, bM, lM⟩ : ∃ M : List Nat, d = .str M ∧ Bin M ∧ M.length = L.length := by
        simp only [List.mem_cons, List.not_mem_nil, or_false] at hd
        rcases hd with rfl | rfl | rfl | rfl
        · exact ⟨_, rfl, bL, rfl⟩
        · exact ⟨_, rfl, bL1, lL1⟩
        · exact ⟨_, rfl, bL3, lL3⟩
        · exact ⟨_, rfl, hG2, hG1⟩
      have g14 := f14 s hs M bM (by omega)
      refine ⟨_, _, rfl, ?_, ⟨.sh (.str M), rfl⟩⟩
      unfold b16_3
      refine seq_nx (iff_f (t := .skip) ?_ rfl) rfl
      simp only [ev, fin_ff, fin_bl, eget, eset, g14, hasB, imm, ite_self, Bool.false_eq_true, if_false, Bool.not_true, Option.map_some]
    obtain ⟨v, _, _, iv⟩ := hd.at (z := 36) (by omega) (by omega)
    have ma := i_mod (a := v) (b := (L.length : Nat) + 1) (by omega)
    have wa := mod_at v (m := (L.length : Nat) + 1) (by omega)
    obtain ⟨a, ha⟩ : ∃ a : Nat, v % ((L.length : Nat) + 1 : Int) = (a : Int) := ⟨(v % ((L.length : Nat) + 1 : Int)).toNat, by omega⟩
    rw [ha] at ma wa
    have sp := s_pre (L := L) (i := a) (by omega) (by omega)
    have ss := s_suf (L := L) (i := a) (by omega)
    have tl : (L.take a).length = a := by rw [List.length_take]; omega
    have dl : (L.drop (a + 1)).length = L.length - (a + 1) := List.length_drop
    have k1 := s_cat (a := L.take a) (b := [120]) (by simp; omega)
    have k2 := s_cat (a := L.take a ++ [120]) (b := L.drop (a + 1)) (by simp; omega)
    have k3 := s_cat (a := L.take a) (b := L.drop (a + 1)) (by simp; omega)
    have k4 := s_cat (a := L.take a ++ L.drop (a + 1)) (b := [108, 114]) (by simp; omega)
    have k5 := s_cat (a := L) (b := L) (by omega)
    have k6 := s_cat (a := L) (b := [108]) (by simp; omega)
    have k7 := s_cat (a := L ++ [108]) (b := L) (by simp; omega)
    have k8 := mul2 (L := L) (by omega)
    have k9 := s_cat (a := L ++ L) (b := [114]) (by simp; omega)
    have uo : (okLen L && L.all fun c => decide (c < 128)) = true := by
      rw [okLen_of (l := L) (by omega), Bool.true_and, List.all_eq_true]
      intro c hc
      rcases bL c hc with rfl | rfl <;> rfl
    obtain ⟨A1, e1⟩ : ∃ A1, L.take a ++ [120] ++ L.drop (a + 1) = A1 := ⟨_, rfl⟩
    have l1 : A1.length ≤ 31 := by rw [← e1]; simp; omega
    obtain ⟨A2, e2⟩ : ∃ A2, L.take a ++ L.drop (a + 1) ++ [108, 114] = A2 := ⟨_, rfl⟩
    have l2 : A2.length ≤ 31 := by rw [← e2]; simp; omega
    obtain ⟨A3, e3⟩ : ∃ A3, L ++ L = A3 := ⟨_, rfl⟩
    have l3 : A3.length ≤ 30 := by rw [← e3]; simp; omega
    obtain ⟨A4, e4⟩ : ∃ A4, L ++ [108] ++ L = A4 := ⟨_, rfl⟩
    have l4 : A4.length ≤ 31 := by rw [← e4]; simp; omega
    obtain ⟨A5, e5⟩ : ∃ A5, L.map upC = A5 := ⟨_, rfl⟩
    have l5 : A5.length ≤ 31 := by rw [← e5]; simp; omega
    rw [e1] at k2
    rw [e2] at k4
    rw [e3] at k5 k8 k9
    rw [e4] at k7
    obtain ⟨A6, e6⟩ : ∃ A6, A3 ++ [114] = A6 := ⟨_, rfl⟩
    have l6 : A6.length ≤ 31 := by rw [← e6]; simp; omega
    rw [e6] at k9
    obtain ⟨e1, go2, w7, w10, rfl⟩ : ∃ e1, forGo (exec F gas0 b16_2) (.one 7) [.str A1, .str A2, .str A3, .str A4, .str A5, .str A6] [.sh (.ro (ns.map .int)), .sh (.lst (ds.map .int)), .sh (.int j), .sh (.int (s : Nat)), .sh (.str f), .sh (.str L), .sh (.str G), z7, .sh (.int (a : Nat)), .sh (.lst [.str A1, .str A2, .str A3]), x10, x11] = some (.nx e1) ∧ ∃ z7 z10, e1 = [.sh (.ro (ns.map .int)), .sh (.lst (ds.map .int)), .sh (.int j), .sh (.int (s : Nat)), .sh (.str f), .sh (.str L), .sh (.str G), z7, .sh (.int (a : Nat)), .sh (.lst [.str A1, .str A2, .str A3]), z10, x11] := by
      refine for_inv (fun e => ∃ z7 z10, e = [.sh (.ro (ns.map .int)), .sh (.lst (ds.map .int)), .sh (.int j), .sh (.int (s : Nat)), .sh (.str f), .sh (.str L), .sh (.str G), z7, .sh (.int (a : Nat)), .sh (.lst [.str A1, .str A2, .str A3]), z10, x11]) _ (fun d hd e he => ?_) _ ⟨z7, x10, rfl⟩
      obtain ⟨z7, z10, rfl⟩ := he
      obtain ⟨M, rfl, lM⟩ : ∃ M : List Nat, d = .str M ∧ M.length ≤ 31 := by
        simp only [List.mem_cons, List.not_mem_nil, or_false] at hd
        rcases hd with rfl | rfl | rfl | rfl | rfl | rfl
        · exact ⟨_, rfl, l1⟩
        · exact ⟨_, rfl, l2⟩
        · exact ⟨_, rfl, by omega⟩
        · exact ⟨_, rfl, l4⟩
        · exact ⟨_, rfl, l5⟩
        · exact ⟨_, rfl, l6⟩
      obtain ⟨y10, h⟩ := asked (F := F) (x0 := .sh (.ro (ns.map .int))) (x1 := .sh (.lst (ds.map .int))) (x2 := .sh (.int j)) (x3 := .sh (.int (s : Nat))) (x4 := .sh (.str f)) (x5 := .sh (.str L)) (x6 := .sh (.str G)) (x8 := .sh (.int (a : Nat))) (x9 := .sh (.lst [.str A1, .str A2, .str A3])) (x10 := z10) (x11 := x11) lM (f4 M lM) (f13 M lM) q2
      exact ⟨_, _, rfl, h, ⟨.sh (.str M), y10, rfl⟩⟩
    refine ⟨_, ?_, ⟨.sh (.int j), .sh (.int (s : Nat)), .sh (.str f), .sh (.str L), .sh (.str G), w7, .sh (.int (a : Nat)), .sh (.lst [.str A1, .str A2, .str A3]), w10, x11, rfl⟩⟩
    unfold b16_6
    refine seq_nx (e1 := [.sh (.ro (ns.map .int)), .sh (.lst (ds.map .int)), .sh (.int j), .sh (.int (s : Nat)), x4, x5, x6, x7, x8, x9, x10, x11]) ?_ ?_
    · simp only [exec, ev, fin_ff, eget, eset, iu, i_int, m6, ip, hasB, imm, ite_self, Bool.false_eq_true, if_false]
    refine seq_nx (e1 := [.sh (.ro (ns.map .int)), .sh (.lst (ds.map .int)), .sh (.int j), .sh (.int (s : Nat)), .sh (.str f), x5, x6, x7, x8, x9, x10, x11]) ?_ ?_
    · generalize (IE.me .join (.c (.str [])) (.ac (.lc [8] (.one 8) (.rng (.ac (.v 3) .an)) .yes x16_5) .an)) = q at ef ⊢
      simp only [exec, ef, eset, Bool.false_eq_true, if_false]
    refine seq_nx (e1 := [.sh (.ro (ns.map .int)), .sh (.lst (ds.map .int)), .sh (.int j), .sh (.int (s : Nat)), .sh (.str f), .sh (.str L), x6, x7, x8, x9, x10, x11]) ?_ ?_
    · simp only [exec, ev, fin_ff, eget, eset, g11, hasB, imm, ite_self, Bool.false_eq_true, if_false]
    refine seq_nx (iff_f (t := .skip) ?_ rfl) ?_
    · simp only [ev, fin_ff, fin_bl, eget, eset, g1, qL, hasB, imm, ite_self, Bool.false_eq_true, if_false, Bool.not_true, Option.map_some]
    refine seq_nx (e1 := [.sh (.ro (ns.map .int)), .sh (.lst (ds.map .int)), .sh (.int j), .sh (.int (s : Nat)), .sh (.str f), .sh (.str L), .sh (.str G), x7, x8, x9, x10, x11]) ?_ ?_
    · generalize (IE.me .join (.c (.str [])) (.ac (.lc [8] (.one 8) (.rng (.ac (.bi .len (.ac (.v 5) .an)) .an)) .yes x16_4) .an)) = q at eG ⊢
      simp only [exec, eG, eset, Bool.false_eq_true, if_false]
    have n0 : isNo IE.no = true := rfl
    have n2 : isNo (IE.v 2) = false := rfl
    have n8 : isNo (IE.v 8) = false := rfl
    have n21 : isNo (IE.bin .Add (.v 2) (.c (.int 1))) = false := rfl
    have n23 : isNo (IE.bin .Add (.v 2) (.c (.int 3))) = false := rfl
    have n81 : isNo (IE.bin .Add (.v 8) (.c (.int 1))) = false := rfl
    refine seq_nx (for_ev (d := .lst [.str L, .str L1, .str L3, .str G]) (ds := [.str L, .str L1, .str L3, .str G]) ?_ rfl go1) ?_
    · simp only [ev, fin_ff, eget, eset, n0, n2, n21, n23, parD, i_add, sw1, sw3, g151, g153, hasB, imm, ite_self, Bool.false_eq_true, if_false]
    refine seq_nx (e1 := [.sh (.ro (ns.map .int)), .sh (.lst (ds.map .int)), .sh (.int j), .sh (.int (s : Nat)), .sh (.str f), .sh (.str L), .sh (.str G), z7, .sh (.int (a : Nat)), x9, x10, x11]) ?_ ?_
    · simp only [exec, ev, fin_ff, eget, eset, iv, i_int, sl, i_add, ma, hasB, imm, ite_self, Bool.false_eq_true, if_false]
    refine seq_nx (e1 := [.sh (.ro (ns.map .int)), .sh (.lst (ds.map .int)), .sh (.int j), .sh (.int (s : Nat)), .sh (.str f), .sh (.str L), .sh (.str G), z7, .sh (.int (a : Nat)), .sh (.lst [.str A1, .str A2, .str A3]), x10, x11]) ?_ ?_
    · simp only [exec, ev, fin_ff, eget, eset, n0, n8, n81, parD, i_add, sp, ss, k1, k2, k3, k4, k5, hasB, imm, ite_self, Bool.false_eq_true, if_false, if_true]
    refine seq_nx (for_ev (d := .lst [.str A1, .str A2, .str A3, .str A4, .str A5, .str A6]) (ds := [.str A1, .str A2, .str A3, .str A4, .str A5, .str A6]) ?_ rfl go2) rfl
    have cc : binD .Add (.lst [.str A1, .str A2, .str A3]) (.lst [.str A4, .str A5, .str A6]) = some (.lst [.str A1, .str A2, .str A3, .str A4, .str A5, .str A6]) := rfl
    simp only [ev, fin_ff, eget, eset, uo, e5, k6, k7, k8, k9, cc, hasB, imm, ite_self, Bool.false_eq_true, if_false, if_true]) _ ⟨.no, .no, .no, .no, .no, .no, .no, .no, .no, .no, rfl⟩
  refine seq_nx (for_ev (d := .lst ((irange 4).map .int)) (ds := (irange 4).map .int) ?_ rfl g) ?_
  · have r : rngD [.int 4] = some (.lst ((irange 4).map .int)) := rng_i rfl
    simp only [ev, fin_ff, r, hasB, imm, ite_self, Bool.false_eq_true, if_false]
  unfold tl16_2
  have h1 := f4 [108, 108, 108] (by simp)
  have h2 := f4 [108, 114] (by simp)
  rw [show ihB [108, 108, 108] = false by decide] at h1
  rw [show ihB [108, 114] = false by decide] at h2
  have qf := q2 false
  refine seq_rt ?_
  simp only [exec, ev, fin_ff, fin_bl, eget, h1, h2, qf, truD, hasB, imm, ite_self, Bool.false_eq_true, if_false, if_true, Option.map_some]
end K81

namespace K81
open PySem L2 Tl
theorem allMk {K : PySem.W.Frag} {h : Heap} {mg : Str → Option Value} {fa : Addr} (X : K.In h) (G : h.Ns mainGlobals mg) (hfa : mg "law" = some (.ref fa))
    {w : World} {f0 f1 f2 f3 f4 f5 f6 f7 f8 f9 f10 f11 f12 f13 f14 f15 f16 : Addr} {od0 od1 od2 od3 od4 od5 od6 od7 od8 od9 od10 od11 od12 od13 od14 od15 od16 an0 an1 an2 an3 an4 an5 an6 an7 an8 an9 an10 an11 an12 an13 an14 an15 an16 : Option Addr} {sl0 sl1 sl2 sl3 sl4 sl5 sl6 sl7 sl8 sl9 sl10 sl11 sl12 sl13 sl14 sl15 sl16 : Array (Option Value)} {oc0 oc1 oc2 oc3 oc4 oc5 oc6 oc7 oc8 oc9 oc10 oc11 oc12 oc13 oc14 oc15 oc16 kv0 kv1 kv2 kv3 kv4 kv5 kv6 kv7 kv8 kv9 kv10 kv11 kv12 kv13 kv14 kv15 kv16 dc0 dc1 dc2 dc3 dc4 dc5 dc6 dc7 dc8 dc9 dc10 dc11 dc12 dc13 dc14 dc15 dc16 pm0 pm1 pm2 pm3 pm4 pm5 pm6 pm7 pm8 pm9 pm10 pm11 pm12 pm13 pm14 pm15 pm16 cd0 cd1 cd2 cd3 cd4 cd5 cd6 cd7 cd8 cd9 cd10 cd11 cd12 cd13 cd14 cd15 cd16 ct0 ct1 ct2 ct3 ct4 ct5 ct6 ct7 ct8 ct9 ct10 ct11 ct12 ct13 ct14 ct15 ct16 : Value}
    (a0 : PySem.W.nsIn K mainGlobals "folded_back" = some (some (.ref f0))) (l0 : K.lookup f0 = some ⟨oc0, od0, .func (PySem.W.fnOf "folded_back" "folded_back" (defArgs r0.st) (defBody r0.st) (defScope r0.st) .none kv0 dc0 pm0 an0 cd0 ct0), sl0⟩) (c0 : PySem.W.codeIn K cd0 "folded_back" = true) (k0 : PySem.W.keepIn K (.ref f0) = true)
    (a1 : PySem.W.nsIn K mainGlobals "halving" = some (some (.ref f1))) (l1 : K.lookup f1 = some ⟨oc1, od1, .func (PySem.W.fnOf "halving" "halving" (defArgs r1.st) (defBody r1.st) (defScope r1.st) .none kv1 dc1 pm1 an1 cd1 ct1), sl1⟩) (c1 : PySem.W.codeIn K cd1 "halving" = true) (k1 : PySem.W.keepIn K (.ref f1) = true)
    (a2 : PySem.W.nsIn K mainGlobals "power_in" = some (some (.ref f2))) (l2 : K.lookup f2 = some ⟨oc2, od2, .func (PySem.W.fnOf "power_in" "power_in" (defArgs r2.st) (defBody r2.st) (defScope r2.st) .none kv2 dc2 pm2 an2 cd2 ct2), sl2⟩) (c2 : PySem.W.codeIn K cd2 "power_in" = true) (k2 : PySem.W.keepIn K (.ref f2) = true)
    (a3 : PySem.W.nsIn K mainGlobals "flaw" = some (some (.ref f3))) (l3 : K.lookup f3 = some ⟨oc3, od3, .func (PySem.W.fnOf "flaw" "flaw" (defArgs r3.st) (defBody r3.st) (defScope r3.st) .none kv3 dc3 pm3 an3 cd3 ct3), sl3⟩) (c3 : PySem.W.codeIn K cd3 "flaw" = true) (k3 : PySem.W.keepIn K (.ref f3) = true)
    (a4 : PySem.W.nsIn K mainGlobals "is_halving" = some (some (.ref f4))) (l4 : K.lookup f4 = some ⟨oc4, od4, .func (PySem.W.fnOf "is_halving" "is_halving" (defArgs r4.st) (defBody r4.st) (defScope r4.st) .none kv4 dc4 pm4 an4 cd4 ct4), sl4⟩) (c4 : PySem.W.codeIn K cd4 "is_halving" = true) (k4 : PySem.W.keepIn K (.ref f4) = true)
    (a5 : PySem.W.nsIn K mainGlobals "folds_of" = some (some (.ref f5))) (l5 : K.lookup f5 = some ⟨oc5, od5, .func (PySem.W.fnOf "folds_of" "folds_of" (defArgs r5.st) (defBody r5.st) (defScope r5.st) .none kv5 dc5 pm5 an5 cd5 ct5), sl5⟩) (c5 : PySem.W.codeIn K cd5 "folds_of" = true) (k5 : PySem.W.keepIn K (.ref f5) = true)
    (a6 : PySem.W.nsIn K mainGlobals "_law_cell" = some (some (.ref f6))) (l6 : K.lookup f6 = some ⟨oc6, od6, .func (PySem.W.fnOf "_law_cell" "_law_cell" (defArgs r6.st) (defBody r6.st) (defScope r6.st) .none kv6 dc6 pm6 an6 cd6 ct6), sl6⟩) (c6 : PySem.W.codeIn K cd6 "_law_cell" = true) (k6 : PySem.W.keepIn K (.ref f6) = true)
    (a7 : PySem.W.nsIn K mainGlobals "_law_draws" = some (some (.ref f7))) (l7 : K.lookup f7 = some ⟨oc7, od7, .func (PySem.W.fnOf "_law_draws" "_law_draws" (defArgs r7.st) (defBody r7.st) (defScope r7.st) .none kv7 dc7 pm7 an7 cd7 ct7), sl7⟩) (c7 : PySem.W.codeIn K cd7 "_law_draws" = true) (k7 : PySem.W.keepIn K (.ref f7) = true)
    (a8 : PySem.W.nsIn K mainGlobals "_law_is_integer" = some (some (.ref f8))) (l8 : K.lookup f8 = some ⟨oc8, od8, .func (PySem.W.fnOf "_law_is_integer" "_law_is_integer" (defArgs r8.st) (defBody r8.st) (defScope r8.st) .none kv8 dc8 pm8 an8 cd8 ct8), sl8⟩) (c8 : PySem.W.codeIn K cd8 "_law_is_integer" = true) (k8 : PySem.W.keepIn K (.ref f8) = true)
    (a9 : PySem.W.nsIn K mainGlobals "_law_is" = some (some (.ref f9))) (l9 : K.lookup f9 = some ⟨oc9, od9, .func (PySem.W.fnOf "_law_is" "_law_is" (defArgs r9.st) (defBody r9.st) (defScope r9.st) .none kv9 dc9 pm9 an9 cd9 ct9), sl9⟩) (c9 : PySem.W.codeIn K cd9 "_law_is" = true) (k9 : PySem.W.keepIn K (.ref f9) = true)
    (a10 : PySem.W.nsIn K mainGlobals "_law_back" = some (some (.ref f10))) (l10 : K.lookup f10 = some ⟨oc10, od10, .func (PySem.W.fnOf "_law_back" "_law_back" (defArgs r10.st) (defBody r10.st) (defScope r10.st) .none kv10 dc10 pm10 an10 cd10 ct10), sl10⟩) (c10 : PySem.W.codeIn K cd10 "_law_back" = true) (k10 : PySem.W.keepIn K (.ref f10) = true)
    (a11 : PySem.W.nsIn K mainGlobals "_law_halving" = some (some (.ref f11))) (l11 : K.lookup f11 = some ⟨oc11, od11, .func (PySem.W.fnOf "_law_halving" "_law_halving" (defArgs r11.st) (defBody r11.st) (defScope r11.st) .none kv11 dc11 pm11 an11 cd11 ct11), sl11⟩) (c11 : PySem.W.codeIn K cd11 "_law_halving" = true) (k11 : PySem.W.keepIn K (.ref f11) = true)
    (a12 : PySem.W.nsIn K mainGlobals "_law_all_folds" = some (some (.ref f12))) (l12 : K.lookup f12 = some ⟨oc12, od12, .func (PySem.W.fnOf "_law_all_folds" "_law_all_folds" (defArgs r12.st) (defBody r12.st) (defScope r12.st) .none kv12 dc12 pm12 an12 cd12 ct12), sl12⟩) (c12 : PySem.W.codeIn K cd12 "_law_all_folds" = true) (k12 : PySem.W.keepIn K (.ref f12) = true)
    (a13 : PySem.W.nsIn K mainGlobals "_law_flaw" = some (some (.ref f13))) (l13 : K.lookup f13 = some ⟨oc13, od13, .func (PySem.W.fnOf "_law_flaw" "_law_flaw" (defArgs r13.st) (defBody r13.st) (defScope r13.st) .none kv13 dc13 pm13 an13 cd13 ct13), sl13⟩) (c13 : PySem.W.codeIn K cd13 "_law_flaw" = true) (k13 : PySem.W.keepIn K (.ref f13) = true)
    (a14 : PySem.W.nsIn K mainGlobals "_law_right" = some (some (.ref f14))) (l14 : K.lookup f14 = some ⟨oc14, od14, .func (PySem.W.fnOf "_law_right" "_law_right" (defArgs r14.st) (defBody r14.st) (defScope r14.st) .none kv14 dc14 pm14 an14 cd14 ct14), sl14⟩) (c14 : PySem.W.codeIn K cd14 "_law_right" = true) (k14 : PySem.W.keepIn K (.ref f14) = true)
    (a15 : PySem.W.nsIn K mainGlobals "_law_spoilt" = some (some (.ref f15))) (l15 : K.lookup f15 = some ⟨oc15, od15, .func (PySem.W.fnOf "_law_spoilt" "_law_spoilt" (defArgs r15.st) (defBody r15.st) (defScope r15.st) .none kv15 dc15 pm15 an15 cd15 ct15), sl15⟩) (c15 : PySem.W.codeIn K cd15 "_law_spoilt" = true) (k15 : PySem.W.keepIn K (.ref f15) = true)
    (a16 : PySem.W.nsIn K mainGlobals "law" = some (some (.ref f16))) (l16 : K.lookup f16 = some ⟨oc16, od16, .func (PySem.W.fnOf "law" "law" (defArgs r16.st) (defBody r16.st) (defScope r16.st) .none kv16 dc16 pm16 an16 cd16 ct16), sl16⟩) (c16 : PySem.W.codeIn K cd16 "law" = true) (k16 : PySem.W.keepIn K (.ref f16) = true)
    (z0 : PySem.W.nsIn K mainGlobals "reversed" = some none)
    (z1 : PySem.W.nsIn K mainGlobals "set" = some none)
    (z2 : PySem.W.nsIn K mainGlobals "enumerate" = some none)
    (z3 : PySem.W.nsIn K mainGlobals "zip" = some none)
    (z4 : PySem.W.nsIn K mainGlobals "len" = some none)
    (z5 : PySem.W.nsIn K mainGlobals "abs" = some none)
    (z6 : PySem.W.nsIn K mainGlobals "int" = some none)
    (z7 : PySem.W.nsIn K mainGlobals "tuple" = some none)
    (z8 : PySem.W.nsIn K mainGlobals "list" = some none)
    (z9 : PySem.W.nsIn K mainGlobals "sum" = some none)
    (z10 : PySem.W.nsIn K mainGlobals "max" = some none)
    (z11 : PySem.W.nsIn K mainGlobals "min" = some none)
    (z12 : PySem.W.nsIn K mainGlobals "all" = some none)
    (z13 : PySem.W.nsIn K mainGlobals "any" = some none)
    (z14 : PySem.W.nsIn K mainGlobals "sorted" = some none)
    (z15 : PySem.W.nsIn K mainGlobals "isinstance" = some none)
    (z16 : PySem.W.nsIn K mainGlobals "bool" = some none)
    (z17 : PySem.W.nsIn K mainGlobals "str" = some none)
    (z18 : PySem.W.nsIn K mainGlobals "range" = some none)
    {d0 : Addr} {n0 : Nat} {ta0_0 tb0_0 ta0_1 tb0_1 : Tok}
    (q0 : PySem.W.nsIn K mainGlobals "OTHER" = some (some (.ref d0))) (kl0 : K.lookup d0 = some ⟨.type "dict", none, .dict ⟨[⟨PyData.keyHash w.params ⟨([108] : List Nat).toArray⟩, .str ⟨([108] : List Nat).toArray⟩ ta0_0, .str ⟨([114] : List Nat).toArray⟩ tb0_0⟩, ⟨PyData.keyHash w.params ⟨([114] : List Nat).toArray⟩, .str ⟨([114] : List Nat).toArray⟩ ta0_1, .str ⟨([108] : List Nat).toArray⟩ tb0_1⟩]⟩ n0, #[]⟩) (s0 : (d0 == sysModules) = false)
    : Top w (cutK K) mg consts withGcd recs ∧ ∃ fd : FuncData, Fun (cutK K) r16.nm r16.nm r16.st fa fd ∧ ∀ (s : Shared) (v : Value), BindsTo s fd ⟨[v], []⟩ [("script", v)] := by
  have e := hfa.symm.trans (PySem.W.mg_of X G a16)
  cases e
  have F0 := cut_fun (fun_mk (st := r0.st) l0 c0 k0)
  have b0 := F0.binds (ps := r0.ps) fun _ _ _ _ _ _ us hl => match us, hl with | [_], _ => rfl
  have F1 := cut_fun (fun_mk (st := r1.st) l1 c1 k1)
  have b1 := F1.binds (ps := r1.ps) fun _ _ _ _ _ _ us hl => match us, hl with | [_], _ => rfl
  have F2 := cut_fun (fun_mk (st := r2.st) l2 c2 k2)
  have b2 := F2.binds (ps := r2.ps) fun _ _ _ _ _ _ us hl => match us, hl with | [_], _ => rfl
  have F3 := cut_fun (fun_mk (st := r3.st) l3 c3 k3)
  have b3 := F3.binds (ps := r3.ps) fun _ _ _ _ _ _ us hl => match us, hl with | [_], _ => rfl
  have F4 := cut_fun (fun_mk (st := r4.st) l4 c4 k4)
  have b4 := F4.binds (ps := r4.ps) fun _ _ _ _ _ _ us hl => match us, hl with | [_], _ => rfl
  have F5 := cut_fun (fun_mk (st := r5.st) l5 c5 k5)
  have b5 := F5.binds (ps := r5.ps) fun _ _ _ _ _ _ us hl => match us, hl with | [_], _ => rfl
  have F6 := cut_fun (fun_mk (st := r6.st) l6 c6 k6)
  have b6 := F6.binds (ps := r6.ps) fun _ _ _ _ _ _ us hl => match us, hl with | [_, _], _ => rfl
  have F7 := cut_fun (fun_mk (st := r7.st) l7 c7 k7)
  have b7 := F7.binds (ps := r7.ps) fun _ _ _ _ _ _ us hl => match us, hl with | [_, _], _ => rfl
  have F8 := cut_fun (fun_mk (st := r8.st) l8 c8 k8)
  have b8 := F8.binds (ps := r8.ps) fun _ _ _ _ _ _ us hl => match us, hl with | [_], _ => rfl
  have F9 := cut_fun (fun_mk (st := r9.st) l9 c9 k9)
  have b9 := F9.binds (ps := r9.ps) fun _ _ _ _ _ _ us hl => match us, hl with | [_, _], _ => rfl
  have F10 := cut_fun (fun_mk (st := r10.st) l10 c10 k10)
  have b10 := F10.binds (ps := r10.ps) fun _ _ _ _ _ _ us hl => match us, hl with | [_], _ => rfl
  have F11 := cut_fun (fun_mk (st := r11.st) l11 c11 k11)
  have b11 := F11.binds (ps := r11.ps) fun _ _ _ _ _ _ us hl => match us, hl with | [_], _ => rfl
  have F12 := cut_fun (fun_mk (st := r12.st) l12 c12 k12)
  have b12 := F12.binds (ps := r12.ps) fun _ _ _ _ _ _ us hl => match us, hl with | [_], _ => rfl
  have F13 := cut_fun (fun_mk (st := r13.st) l13 c13 k13)
  have b13 := F13.binds (ps := r13.ps) fun _ _ _ _ _ _ us hl => match us, hl with | [_], _ => rfl
  have F14 := cut_fun (fun_mk (st := r14.st) l14 c14 k14)
  have b14 := F14.binds (ps := r14.ps) fun _ _ _ _ _ _ us hl => match us, hl with | [_, _], _ => rfl
  have F15 := cut_fun (fun_mk (st := r15.st) l15 c15 k15)
  have b15 := F15.binds (ps := r15.ps) fun _ _ _ _ _ _ us hl => match us, hl with | [_, _], _ => rfl
  have F16 := cut_fun (fun_mk (st := r16.st) l16 c16 k16)
  have b16 := F16.binds (ps := r16.ps) fun _ _ _ _ _ _ us hl => match us, hl with | [_], _ => rfl
  have tp : Top w (cutK K) mg consts withGcd recs := by
    refine ⟨fun k r hk => ?_, fun x hx => ?_, fun j x d hj hnd => ?_, fun j x t l hj => ?_, fun hg => ?_⟩
    · match k, hk with
      | 0, hk => cases hk; exact ⟨_, _, PySem.W.mg_of X G a0, F0, b0⟩
      | 1, hk => cases hk; exact ⟨_, _, PySem.W.mg_of X G a1, F1, b1⟩
      | 2, hk => cases hk; exact ⟨_, _, PySem.W.mg_of X G a2, F2, b2⟩
      | 3, hk => cases hk; exact ⟨_, _, PySem.W.mg_of X G a3, F3, b3⟩
      | 4, hk => cases hk; exact ⟨_, _, PySem.W.mg_of X G a4, F4, b4⟩
      | 5, hk => cases hk; exact ⟨_, _, PySem.W.mg_of X G a5, F5, b5⟩
      | 6, hk => cases hk; exact ⟨_, _, PySem.W.mg_of X G a6, F6, b6⟩
      | 7, hk => cases hk; exact ⟨_, _, PySem.W.mg_of X G a7, F7, b7⟩
      | 8, hk => cases hk; exact ⟨_, _, PySem.W.mg_of X G a8, F8, b8⟩
      | 9, hk => cases hk; exact ⟨_, _, PySem.W.mg_of X G a9, F9, b9⟩
      | 10, hk => cases hk; exact ⟨_, _, PySem.W.mg_of X G a10, F10, b10⟩
      | 11, hk => cases hk; exact ⟨_, _, PySem.W.mg_of X G a11, F11, b11⟩
      | 12, hk => cases hk; exact ⟨_, _, PySem.W.mg_of X G a12, F12, b12⟩
      | 13, hk => cases hk; exact ⟨_, _, PySem.W.mg_of X G a13, F13, b13⟩
      | 14, hk => cases hk; exact ⟨_, _, PySem.W.mg_of X G a14, F14, b14⟩
      | 15, hk => cases hk; exact ⟨_, _, PySem.W.mg_of X G a15, F15, b15⟩
      | 16, hk => cases hk; exact ⟨_, _, PySem.W.mg_of X G a16, F16, b16⟩
      | k + 17, hk =>
        have hk : (none : Option Rc) = some r := hk
        cases hk
    · unfold bltNames at hx
      simp only [List.mem_cons, List.not_mem_nil, or_false] at hx
      rcases hx with rfl | rfl | rfl | rfl | rfl | rfl | rfl | rfl | rfl | rfl | rfl | rfl | rfl | rfl | rfl | rfl | rfl | rfl | rfl
      · exact PySem.W.mg_none_of X G z0
      · exact PySem.W.mg_none_of X G z1
      · exact PySem.W.mg_none_of X G z2
      · exact PySem.W.mg_none_of X G z3
      · exact PySem.W.mg_none_of X G z4
      · exact PySem.W.mg_none_of X G z5
      · exact PySem.W.mg_none_of X G z6
      · exact PySem.W.mg_none_of X G z7
      · exact PySem.W.mg_none_of X G z8
      · exact PySem.W.mg_none_of X G z9
      · exact PySem.W.mg_none_of X G z10
      · exact PySem.W.mg_none_of X G z11
      · exact PySem.W.mg_none_of X G z12
      · exact PySem.W.mg_none_of X G z13
      · exact PySem.W.mg_none_of X G z14
      · exact PySem.W.mg_none_of X G z15
      · exact PySem.W.mg_none_of X G z16
      · exact PySem.W.mg_none_of X G z17
      · exact PySem.W.mg_none_of X G z18
    · match j, hj with
      | 0, hj => cases hj; cases hnd
      | j + 1, hj =>
        have hj : (none : Option (PySem.Str × D)) = some (x, d) := hj
        cases hj
    · match j, hj with
      | 0, hj => cases hj; exact kd_of (PySem.W.mg_of X G q0) kl0 s0 ⟨⟨_, _, rfl, rfl, rfl⟩, ⟨.str _, ⟨_, rfl⟩, fun _ S H => .str _⟩, ⟨_, _, rfl, rfl, rfl⟩, ⟨.str _, ⟨_, rfl⟩, fun _ S H => .str _⟩, trivial⟩
      | j + 1, hj =>
        have hj : (none : Option (PySem.Str × D)) = some (x, .dic t l) := hj
        cases hj
    · cases hg
  exact ⟨tp, _, F16, fun s v => .of_eq rfl⟩
end K81
open PySem PySem.W PyProof.Rows
set_option maxRecDepth 100000 in
set_option maxHeartbeats 0 in
theorem PySem.Challenge.cw_tilehouse_k81_whole_halvings_or_flaws_holds : PySem.Challenge.rw_tilehouse_k81_whole_halvings_or_flaws.Holds := by
  w_on; o_law; k_head; (case hw => w_witness2)
  k_fill
  refine Tl.walkT (l := PySem.Challenge.rw_tilehouse_k81_whole_halvings_or_flaws) (k := 100) (C := K81.consts) (gc := K81.withGcd) (R := K81.recs) (L := 16) (rl := K81.r16) rfl ⟨rfl, by decide, by decide⟩ rfl (fun w h Y => PySem.W.kIn_of Y) (by decide +kernel) K81.okAll rfl rfl rfl K81.pureLaw ?F
  case F =>
    intro w mg fa h KX G hmg
    refine' K81.allMk (w := w) KX G hmg ?a0 ?l0 ?c0 ?k0 ?a1 ?l1 ?c1 ?k1 ?a2 ?l2 ?c2 ?k2 ?a3 ?l3 ?c3 ?k3 ?a4 ?l4 ?c4 ?k4 ?a5 ?l5 ?c5 ?k5 ?a6 ?l6 ?c6 ?k6 ?a7 ?l7 ?c7 ?k7 ?a8 ?l8 ?c8 ?k8 ?a9 ?l9 ?c9 ?k9 ?a10 ?l10 ?c10 ?k10 ?a11 ?l11 ?c11 ?k11 ?a12 ?l12 ?c12 ?k12 ?a13 ?l13 ?c13 ?k13 ?a14 ?l14 ?c14 ?k14 ?a15 ?l15 ?c15 ?k15 ?a16 ?l16 ?c16 ?k16 ?z0 ?z1 ?z2 ?z3 ?z4 ?z5 ?z6 ?z7 ?z8 ?z9 ?z10 ?z11 ?z12 ?z13 ?z14 ?z15 ?z16 ?z17 ?z18 ?q0 ?kl0 ?s0 
    (case a0 => k_is); (case l0 => k_is); (case c0 => k_is); (case k0 => k_is)
    (case a1 => k_is); (case l1 => k_is); (case c1 => k_is); (case k1 => k_is)
    (case a2 => k_is); (case l2 => k_is); (case c2 => k_is); (case k2 => k_is)
    (case a3 => k_is); (case l3 => k_is); (case c3 => k_is); (case k3 => k_is)
    (case a4 => k_is); (case l4 => k_is); (case c4 => k_is); (case k4 => k_is)
    (case a5 => k_is); (case l5 => k_is); (case c5 => k_is); (case k5 => k_is)
    (case a6 => k_is); (case l6 => k_is); (case c6 => k_is); (case k6 => k_is)
    (case a7 => k_is); (case l7 => k_is); (case c7 => k_is); (case k7 => k_is)
    (case a8 => k_is); (case l8 => k_is); (case c8 => k_is); (case k8 => k_is)
    (case a9 => k_is); (case l9 => k_is); (case c9 => k_is); (case k9 => k_is)
    (case a10 => k_is); (case l10 => k_is); (case c10 => k_is); (case k10 => k_is)
    (case a11 => k_is); (case l11 => k_is); (case c11 => k_is); (case k11 => k_is)
    (case a12 => k_is); (case l12 => k_is); (case c12 => k_is); (case k12 => k_is)
    (case a13 => k_is); (case l13 => k_is); (case c13 => k_is); (case k13 => k_is)
    (case a14 => k_is); (case l14 => k_is); (case c14 => k_is); (case k14 => k_is)
    (case a15 => k_is); (case l15 => k_is); (case c15 => k_is); (case k15 => k_is)
    (case a16 => k_is); (case l16 => k_is); (case c16 => k_is); (case k16 => k_is)
    (case z0 => k_is)
    (case z1 => k_is)
    (case z2 => k_is)
    (case z3 => k_is)
    (case z4 => k_is)
    (case z5 => k_is)
    (case z6 => k_is)
    (case z7 => k_is)
    (case z8 => k_is)
    (case z9 => k_is)
    (case z10 => k_is)
    (case z11 => k_is)
    (case z12 => k_is)
    (case z13 => k_is)
    (case z14 => k_is)
    (case z15 => k_is)
    (case z16 => k_is)
    (case z17 => k_is)
    (case z18 => k_is)
    (case q0 => k_is); (case kl0 => k_is); (case s0 => rfl)

