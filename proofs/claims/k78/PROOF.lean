import PyProof.Rows.All
import HandS.ForMost
import HandS.Head2
import HandS.HeadHook2
import HandS.ExcInit
import HandS.ExcSuper
import HandS.TryMany
import HandS.ExcField
import HandS.ExcIs
import KE.KExcSuper
import KE.KExcIs
import HandS.ForExc
import HandS.TupAny
import HandS.TupMul
import HandS.Flow
import HandS.Deep
import PyProof.Rows.IntBool
import HandS.Style
import HandS.Text
import HandS.IsInst
import HandS.More
import HandS.SortInts
import HandS.ExcOwn
import PyProof.ReprRoads
import PyProof.CallFns
import HandS.Zip
import KE.GoesZip
import KE.GoesEnum
import HandS.DictComp
import HandS.Defaults
import HandS.Codes
import HandS.HeadEnd
import HandS.EndBits
import PyProof.ReprLen
import PySem.Challenge.RW_firmwrought_k78_whole_wrong_frames_in_gr
set_option Elab.async false
set_option linter.all false
set_option maxRecDepth 100000
/-! C1: plain data, the small language, its evaluation. -/
namespace Py
open PySem

/-- plain data: a list is its items (it is told where it may change) ; drw, att: the law's row of draws and its place, which have no value here -/
inductive D where
  | non | bl (b : Bool) | int (i : Int) | str (x : Str) | tup (l : List D) | lst (l : List D) | dic (ks : List L2.Key) (vs : List D) | drw | att
  deriving Inhabited

mutual
def D.py : D → PyData
  | .non => .none
  | .bl b => .bool b
  | .int i => .int i
  | .str x => .str x
  | .tup l => .tuple (D.pys l)
  | .lst l => .list (D.pys l)
  | .dic _ _ => .none
  | .drw => .none
  | .att => .none
def D.pys : List D → List PyData
  | [] => []
  | d :: r => D.py d :: D.pys r
end
mutual
/-- none of it a dict, or a mark -/
def D.pl : D → Bool
  | .tup l => D.pls l
  | .lst l => D.pls l
  | .dic _ _ => false
  | .drw => false
  | .att => false
  | _ => true
def D.pls : List D → Bool
  | [] => true
  | d :: r => D.pl d && D.pls r
end
mutual
def D.dep : D → Nat
  | .tup l => D.deps l + 1
  | .lst l => D.deps l + 1
  | _ => 0
def D.deps : List D → Nat
  | [] => 0
  | d :: r => max (D.dep d) (D.deps r)
end
mutual
def D.eq : D → D → Bool
  | .non, .non => true
  | .bl a, .bl b => a == b
  | .bl a, .int j => (if a then 1 else 0) == j
  | .int i, .bl b => i == (if b then 1 else 0)
  | .int i, .int j => i == j
  | .str x, .str y => x == y
  | .lst l, .lst m => D.eqs l m
  | .tup l, .tup m => D.eqs l m
  | _, _ => false
def D.eqs : List D → List D → Bool
  | [], [] => true
  | x :: xs, y :: ys => D.eq x y && D.eqs xs ys
  | _, _ => false
end

/-- an error: its class, what it holds -/
structure Exn where
  cls : Str
  fs : List (Str × D)

inductive Res (α : Type) where
  | ok (a : α) (n : Nat)
  | exc (e : Exn) (n : Nat)
  | bad
def Res.bind {α β : Type} (r : Res α) (f : α → Nat → Res β) : Res β := match r with
  | .ok a n => f a n
  | .exc e n => .exc e n
  | .bad => .bad
/-- no error may leave -/
def Res.quiet {α : Type} : Res α → Res α
  | .ok a n => .ok a n
  | _ => .bad
@[simp] theorem Res.quiet_ok {α : Type} (a : α) (n : Nat) : (Res.ok a n).quiet = .ok a n := rfl
/-- a value that may not be told -/
def Res.of {α : Type} (o : Option α) (n : Nat) : Res α := match o with
  | some a => .ok a n
  | none => .bad
@[simp] theorem Res.bind_ok {α β : Type} (a : α) (n : Nat) (f : α → Nat → Res β) : (Res.ok a n).bind f = f a n := rfl
@[simp] theorem Res.bind_exc {α β : Type} (e : Exn) (n : Nat) (f : α → Nat → Res β) : (Res.exc e n).bind f = .exc e n := rfl
@[simp] theorem Res.bind_bad {α β : Type} (f : α → Nat → Res β) : (Res.bad : Res α).bind f = .bad := rfl
@[simp] theorem Res.of_some {α : Type} (a : α) (n : Nat) : Res.of (some a) n = .ok a n := rfl
@[simp] theorem Res.of_none {α : Type} (n : Nat) : (Res.of none n : Res α) = .bad := rfl

/-- a local name: nothing, plain data (it never changes), a list or a dict of its own -/
inductive Slot where
  | no | val (d : D) | own (d : D)
  deriving Inhabited
abbrev Env := List Slot

/-! ### values -/
abbrev LIM : Nat := 16777216
def D.tru : D → Option Bool
  | .non => some false
  | .bl b => some b
  | .int i => some (i != 0)
  | .str x => if x.length ≤ LIM then some ((x.length : Int) != 0) else none
  | .tup l => some (!l.isEmpty)
  | .lst l => some (!l.isEmpty)
  | .dic ks _ => some (!ks.isEmpty)
  | _ => none
def mulOk (i j : Int) : Bool := decide (i.natAbs.log2 + j.natAbs.log2 < 134217720)
def cat (a b : List D) : Option (List D) := if a.length + b.length ≤ LIM then some (a ++ b) else none
def rep (l : List D) (k : Int) : Option (List D) := if 0 ≤ k ∧ k < 1000000 ∧ l.length * k.toNat ≤ LIM then some ((List.replicate k.toNat l).flatten) else none
/-- dicts: their keys, what they hold -/
def keyD : D → Option L2.Key
  | .int i => some (.inl i)
  | .str x => some (.inr x)
  | _ => none
def dlook : List L2.Key → List D → L2.Key → Option D
  | k :: ks, d :: ds, j => if k = j then some d else dlook ks ds j
  | _, _, _ => none
def dset : List L2.Key → List D → L2.Key → D → List D
  | k :: ks, d :: ds, j, e => (if k = j then e else d) :: dset ks ds j e
  | _, ds, _, _ => ds
def hasK (ks : List L2.Key) (j : L2.Key) : Bool := ks.any fun k => decide (k = j)
def dput (ks : List L2.Key) (ds : List D) (j : L2.Key) (e : D) : D := if hasK ks j then .dic ks (dset ks ds j e) else .dic (ks ++ [j]) (ds ++ [e])
def srep (x : Str) (k : Int) : Option Str := if 2 ≤ k ∧ k ≤ 1000 ∧ 1 ≤ x.length ∧ x.length ≤ 1000 then some ⟨(List.replicate k.toNat x.cps.toList).flatten.toArray⟩ else none
def repT (l : List D) (k : Int) : Option (List D) := if 2 ≤ k ∧ k ≤ 1000 ∧ l ≠ [] ∧ l.length ≤ 1000 then some ((List.replicate k.toNat l).flatten) else none
/-- a op b -/
def binV (op : Operator) (x y : D) : Option D := match op, x, y with
  | .Add, .int i, .int j => some (.int (i + j))
  | .Add, .bl a, .int j => some (.int ((if a then 1 else 0) + j))
  | .Add, .str a, .str b => if a.length + b.length ≤ LIM then some (.str (a ++ b)) else none
  | .Add, .tup a, .tup b => (cat a b).map .tup
  | .Add, .lst a, .lst b => (cat a b).map .lst
  | .Sub, .int i, .int j => some (.int (i - j))
  | .Sub, .bl a, .int j => some (.int ((if a then 1 else 0) - j))
  | .Mult, .int i, .int j => if mulOk i j then some (.int (i * j)) else none
  | .Mult, .lst a, .int k => (rep a k).map .lst
  | .Mult, .tup a, .int k => (repT a k).map .tup
  | .Mult, .str a, .int k => (srep a k).map .str
  | .FloorDiv, .int i, .int j => if decide (j ≠ 0) && !Builtin.divisionGoesByPylong i j then some (.int (i.fdiv j)) else none
  | .Mod, .int i, .int j => if j ≠ 0 then some (.int (i.fmod j)) else none
  | .Pow, .int i, .int j => if 0 ≤ j ∧ j ≤ 1000000 ∧ i.natAbs < 2 ^ 64 then some (.int (i ^ j.toNat)) else none
  | .LShift, .int i, .int j => if 0 ≤ j ∧ j ≤ 1000000 ∧ i.natAbs < 2 ^ 64 then some (.int (i * 2 ^ j.toNat)) else none
  | .RShift, .int i, .int j => if 0 ≤ j then some (.int (i / 2 ^ j.toNat)) else none
  | .BitAnd, .int i, .int j => some (.int (Builtin.bitAnd i j))
  | .BitOr, .int i, .int j => some (.int (Builtin.bitOr i j))
  | _, _, _ => none
/-- a op= b -/
def augV (op : Operator) (x y : D) : Option D := match op, x, y with
  | .Add, .int i, .int j => some (.int (i + j))
  | .Sub, .int i, .int j => some (.int (i - j))
  | _, _, _ => none
/-- x == y -/
def eqV (x y : D) : Option Bool := if x.pl && y.pl && decide (min x.dep y.dep ≤ 180) then some (x.eq y) else none
def inV (x : D) (l : List D) : Option Bool := if x.pl && D.pls l && decide (min (D.deps l) x.dep ≤ 180) then some (l.any fun y => y.eq x) else none
/-- a op b, a comparison -/
def cmpV (op : CmpOp) (x y : D) : Option Bool := match op, x, y with
  | .Eq, x, y => eqV x y
  | .NotEq, x, y => (eqV x y).map (!·)
  | .Lt, .int i, .int j => some (decide (i < j))
  | .LtE, .int i, .int j => some (decide (i ≤ j))
  | .Gt, .int i, .int j => some (decide (j < i))
  | .GtE, .int i, .int j => some (decide (j ≤ i))
  | .Lt, .str a, .str b => some (decide (a.cps.toList < b.cps.toList))
  | .LtE, .str a, .str b => some (!decide (b.cps.toList < a.cps.toList))
  | .In, x, .tup l => inV x l
  | .In, x, .lst l => inV x l
  | .In, .str a, .str b => some (!(Builtin.Str.occurrences b a 0 b.length 1).isEmpty)
  | .In, x, .dic ks _ => (keyD x).map fun k => hasK ks k
  | .NotIn, x, .tup l => (inV x l).map (!·)
  | .NotIn, x, .lst l => (inV x l).map (!·)
  | .NotIn, .str a, .str b => some (!(!(Builtin.Str.occurrences b a 0 b.length 1).isEmpty))
  | .NotIn, x, .dic ks _ => (keyD x).map fun k => !hasK ks k
  | .Is, .non, .non => some true
  | .Is, _, .non => some false
  | .IsNot, .non, .non => some false
  | .IsNot, _, .non => some true
  | .Is, .bl a, .bl b => some (decide (a = b))
  | .IsNot, .bl a, .bl b => some (!decide (a = b))
  | _, _, _ => none
def idxV (x i : D) : Option D := match x, i with
  | .tup l, .int i => L2.atI l i
  | .lst l, .int i => L2.atI l i
  | .dic ks ds, i => (keyD i).bind fun k => dlook ks ds k
  | .str z, .int i => if z.length ≤ LIM then (L2.atI z.cps.toList i).map fun c => .str ⟨#[c]⟩ else none
  | _, _ => none
end Py

namespace Py
open PySem
/-! ### the language -/
inductive Ty where
  | int | str | tup | bool | list | dict
  deriving DecidableEq
def Ty.has : Ty → D → Option Bool
  | .int, .int _ => some true | .int, .bl _ => some true
  | .str, .str _ => some true
  | .tup, .tup _ => some true
  | .bool, .bl _ => some true
  | .list, .lst _ => some true
  | .dict, .dic _ _ => some true
  | _, .drw => none
  | _, .att => none
  | _, _ => some false
/-- built-in functions, by name and number of arguments -/
inductive Blt where
  | abs | int | len | str | all | any | tuple | list | sum | max1 | min1 | max2 | min2 | sorted
  deriving DecidableEq
def intsD : List D → Option (List Int)
  | [] => some []
  | .int i :: r => (intsD r).map (i :: ·)
  | _ => none
def boolsD : List D → Option (List Bool)
  | [] => some []
  | .bl i :: r => (boolsD r).map (i :: ·)
  | _ => none
def maxI : Int → List Int → Int
  | m, [] => m
  | m, x :: r => maxI (if x > m then x else m) r
def minI : Int → List Int → Int
  | m, [] => m
  | m, x :: r => minI (if x < m then x else m) r
/-- a list or a dict -/
def D.isC : D → Bool
  | .lst _ => true
  | .dic _ _ => true
  | _ => false
/-- a list's or a tuple's items -/
def seqV : D → Option (List D)
  | .tup l => some l
  | .lst l => some l
  | _ => none
def insI (x : Int) : List Int → List Int
  | [] => [x]
  | y :: r => if x ≤ y then x :: y :: r else y :: insI x r
def sortI : List Int → List Int
  | [] => []
  | x :: r => insI x (sortI r)
def ltS (a b : Str) : Bool := decide (a.cps.toList < b.cps.toList)
def insS (x : Str) : List Str → List Str
  | [] => [x]
  | y :: r => if ltS y x then y :: insS x r else x :: y :: r
def sortS : List Str → List Str
  | [] => []
  | x :: r => insS x (sortS r)
def keysI : List L2.Key → Option (List Int)
  | [] => some []
  | .inl i :: r => (keysI r).map (i :: ·)
  | _ => none
/-- sorted(x) -/
def srtV : D → Option D
  | .lst l => (intsD l).map fun is => .lst ((sortI is).map .int)
  | .dic ks _ => if ks.length < 64 then (keysI ks).map fun is => .lst ((sortI is).map .int) else none
  | _ => none
/-- a display's pairs -/
def pairsK : List (D × D) → Option (List (L2.Key × D))
  | [] => some []
  | (k, v) :: r => (keyD k).bind fun j => (pairsK r).map fun l => (j, v) :: l
def putD (d : D) (j : L2.Key) (e : D) : D := match d with
  | .dic ks ds => dput ks ds j e
  | d => d
def mkD (l : List (D × D)) : Option D := if l.length ≤ 15 then (pairsK l).map fun kvs => kvs.foldl (fun d kv => putD d kv.1 kv.2) (.dic [] []) else none
def pairD : D → Option (L2.Key × D)
  | .tup [k, v] => (keyD k).map fun j => (j, v)
  | _ => none
def pairsD : List D → Option (List (L2.Key × D))
  | [] => some []
  | x :: r => (pairD x).bind fun p => (pairsD r).map fun l => p :: l
/-- a dict of pairs, put behind each other -/
def mkDs (l : List D) : Option D := if l.length < LIM then (pairsD l).map fun kvs => kvs.foldl (fun d kv => putD d kv.1 kv.2) (.dic [] []) else none
/-- x.get(k, d) -/
def dgetV (x k d : D) : Option D := match x with
  | .dic ks ds => (keyD k).map fun j => (dlook ks ds j).getD d
  | _ => none
def bltV : Blt → List D → Option D
  | .abs, [.int i] => some (.int (if i < 0 then -i else i))
  | .int, [.int i] => some (.int i)
  | .int, [.bl b] => some (.int (if b then 1 else 0))
  | .len, [.tup l] => some (.int l.length)
  | .len, [.lst l] => some (.int l.length)
  | .len, [.dic ks _] => some (.int ks.length)
  | .len, [.str x] => if x.length ≤ LIM then some (.int x.length) else none
  | .str, [.int i] => if i.natAbs.log2 < 1920 then some (.str (toString i)) else none
  | .all, [.lst l] => (boolsD l).map fun bs => .bl (bs.all id)
  | .any, [.lst l] => (boolsD l).map fun bs => .bl (bs.any id)
  | .tuple, [d] => (seqV d).map .tup
  | .list, [d] => (seqV d).map .lst
  | .sum, [.lst l] => (intsD l).map fun is => .int is.sum
  | .max1, [.lst l] => (intsD l).bind fun is => match is with
    | [] => none
    | i :: r => some (.int (maxI i r))
  | .min1, [.lst l] => (intsD l).bind fun is => match is with
    | [] => none
    | i :: r => some (.int (minI i r))
  | .sorted, [d] => srtV d
  | .max2, [.int i, .int j] => some (.int (if j > i then j else i))
  | .min2, [.int i, .int j] => some (.int (if j < i then j else i))
  | _, _ => none
/-- a target: a name's place, or a tuple of targets -/
inductive Tg where
  | nm (i : Nat) | t2 (a b : Tg) | t3 (a b c : Tg) | t4 (a b c d : Tg) | t5 (a b c d e : Tg)
def Tg.bind : Tg → D → Env → Option Env
  | .nm i, d, env => some (env.set i (.val d))
  | .t2 a b, d, env => match d with
    | .tup [x, y] => (a.bind x env).bind fun env => b.bind y env
    | _ => none
  | .t3 a b c, d, env => match d with
    | .tup [x, y, z] => (a.bind x env).bind fun env => (b.bind y env).bind fun env => c.bind z env
    | _ => none
  | .t4 a b c e, d, env => match d with
    | .tup [x, y, z, u] => (a.bind x env).bind fun env => (b.bind y env).bind fun env => (c.bind z env).bind fun env => e.bind u env
    | _ => none
  | .t5 a b c e f, d, env => match d with
    | .tup [x, y, z, u, w] => (a.bind x env).bind fun env => (b.bind y env).bind fun env => (c.bind z env).bind fun env => (e.bind u env).bind fun env => f.bind w env
    | _ => none
def Tg.slots : Tg → List Nat
  | .nm i => [i]
  | .t2 a b => a.slots ++ b.slots
  | .t3 a b c => a.slots ++ (b.slots ++ c.slots)
  | .t4 a b c d => a.slots ++ (b.slots ++ (c.slots ++ d.slots))
  | .t5 a b c d e => a.slots ++ (b.slots ++ (c.slots ++ (d.slots ++ e.slots)))
inductive E where
  | nil | cons (a b : E)
  /-- what the language has not: it may not be reached -/
  | any
  /-- {}; a[::-1] -/
  | dnew | rev (a : E)
  /-- {k: v, ..}: its pairs; a.get(k, d) -/
  | dsp (a : E) | kv (k v r : E) | dget (a k d : E)
  | var (i : Nat)
  /-- a list of one's own, looked at where it stands -/
  | ovar (i : Nat)
  | cst (d : D)
  | glb (j : Nat)
  | tup (es : E) | lst (es : E)
  | bop (op : Operator) (a b : E)
  | neg (a : E)
  | cmp (op : CmpOp) (a b : E)
  | cmp2 (op op' : CmpOp) (a b c : E)
  | andv (a b : E) | orv (a b : E)
  /-- not, as a value -/
  | notv (a : E)
  /-- tests: and, or, not, an expression's truth -/
  | and (a b : E) | or (a b : E) | not (a : E) | tru (a : E)
  | ite (c a b : E)
  /-- a part of a slice that is there; a sequence that is walked -/
  | opt (a : E) | seq (a : E)
  | idx (a i : E)
  | slc (a lo hi : E)
  | call (f : Nat) (args : E)
  /-- .. lists and dicts of one's own may be lent to it -/
  | callB (f : Nat) (args : E)
  | take (i j : Nat) (m : E)
  | blt (b : Blt) (args : E)
  | isi (a : E) (ts : List Ty)
  | comp (elt : E) (tg : Tg) (it : E) (cond : E)
  /-- {k: v for tg in it if cond} -/
  | dcomp (kx vx : E) (tg : Tg) (it : E) (cond : E)
  /-- what a for or a comprehension walks -/
  | rng1 (a : E) | rng2 (a b : E) | zip (es : E) | enu (e : E)
  /-- repr(a) == repr(b), or != -/
  | req (neg : Bool) (a b : E)
mutual
/-- no list, no dict in it -/
def D.noC : D → Bool
  | .lst _ => false
  | .dic _ _ => false
  | .tup l => D.noCs l
  | _ => true
def D.noCs : List D → Bool
  | [] => true
  | d :: r => D.noC d && D.noCs r
end
def Res.flat : Res D → Res D
  | .ok d n => if d.noC then .ok d n else .bad
  | .exc e n => if D.noCs (e.fs.map (·.2)) then .exc e n else .bad
  | .bad => .bad
structure Tab where
  fn : Nat → List D → Nat → Res D
  om : Nat → Int
  sub : Str → Str → Bool
  ctor : Str → Option (List Str)
  con : Nat → D

def slot (env : Env) (i : Nat) : Slot := env.getD i .no
def mapR (f : D → Nat → Res (Option D)) : List D → Nat → Res (List D)
  | [], n => .ok [] n
  | x :: xs, n => (f x n).bind fun o n => (mapR f xs n).bind fun r n => .ok (match o with
    | some y => y :: r
    | none => r) n
def rngV (a b : Int) : Option (List D) := if -(2 ^ 62) ≤ a ∧ a < 2 ^ 62 ∧ -(2 ^ 62) ≤ b ∧ b < 2 ^ 62 ∧ (b - a).toNat < LIM then some ((List.range (b - a).toNat).map fun k => .int (a + (k : Nat))) else none
def zipV : List D → Option (List D)
  | [a, b] => (seqV a).bind fun l => (seqV b).map fun m => (l.zip m).map fun p => .tup [p.1, p.2]
  | [a, b, c] => (seqV a).bind fun l => (seqV b).bind fun m => (seqV c).map fun k => (l.zip (m.zip k)).map fun p => .tup [p.1, p.2.1, p.2.2]
  | _ => none
def enuFrom : Nat → List D → List D
  | _, [] => []
  | k, x :: r => .tup [.int k, x] :: enuFrom (k + 1) r
/-- l[lo:hi] -/
def cutL {α : Type} (l : List α) (lo hi : Option Int) : List α := (l.drop (HT.sIx l.length 0 lo)).take (HT.sIx l.length l.length hi - HT.sIx l.length 0 lo)
def slcV (x : D) (lo hi : Option Int) : Option D := match x with
  | .tup l => some (.tup (cutL l lo hi))
  | .lst l => some (.lst (cutL l lo hi))
  | _ => none
def revV : D → Option D
  | .tup l => some (.tup l.reverse)
  | .lst l => some (.lst l.reverse)
  | _ => none
/-- what is walked -/
def itV : D → Option (List D)
  | .tup l => some l
  | .lst l => some l
  | .str x => if x.length ≤ LIM then some (x.cps.toList.map fun c => .str ⟨#[c]⟩) else none
  | _ => none
mutual
/-- the text's weight in signs, at most -/
def D.rw : D → Nat
  | .int _ => 600
  | .str x => 10 * x.length + 2
  | .tup l => D.rws l + 3
  | .lst l => D.rws l + 3
  | _ => 5
def D.rws : List D → Nat
  | [] => 0
  | d :: r => D.rw d + D.rws r + 2
end
/-- what repr tells may be told -/
def shOk (d : D) : Bool := d.pl && d.py.showable && decide (d.dep ≤ 180) && decide (d.py.shown.length ≤ LIM)
section
variable (T : Tab)
mutual
def ev : E → Env → Nat → Res D
  | .var i, env, n => match slot env i with
    | .val d => .ok d n
    | _ => .bad
  | .ovar i, env, n => match slot env i with
    | .own d => .ok d n
    | _ => .bad
  | .dnew, _, n => .ok (.dic [] []) n
  | .rev a, env, n => (ev a env n).bind fun x n => .of (revV x) n
  | .dsp a, env, n => (evk a env n).bind fun l n => .of (mkD l) n
  | .dget a k d, env, n => (ev a env n).bind fun x n => match x with
    | .dic ks ds => (ev k env n).bind fun y n => (ev d env n).bind fun z n => .of (dgetV (.dic ks ds) y z) n
    | _ => .bad
  | .cst d, _, n => .ok d n
  | .glb j, _, n => .ok (T.con j) n
  | .tup es, env, n => (evs es env n).bind fun l n => .ok (.tup l) n
  | .lst es, env, n => (evs es env n).bind fun l n => .ok (.lst l) n
  | .bop op a b, env, n => (ev a env n).bind fun x n => (ev b env n).bind fun y n => .of (binV op x y) n
  | .neg a, env, n => (ev a env n).bind fun x n => match x with
    | .int i => .ok (.int (-i)) n
    | _ => .bad
  | .cmp op a b, env, n => (ev a env n).bind fun x n => (ev b env n).bind fun y n => .of ((cmpV op x y).map .bl) n
  | .cmp2 op op' a b c, env, n => (ev a env n).bind fun x n => (ev b env n).bind fun y n => (Res.of (cmpV op x y) n).bind fun k n =>
    if k then (ev c env n).bind fun z n => .of ((cmpV op' y z).map .bl) n else .ok (.bl false) n
  | .andv a b, env, n => (ev a env n).bind fun x n => match x with
    | .bl true => ev b env n
    | .bl false => .ok (.bl false) n
    | _ => .bad
  | .orv a b, env, n => (ev a env n).bind fun x n => match x with
    | .bl true => .ok (.bl true) n
    | .bl false => ev b env n
    | _ => .bad
  | .notv a, env, n => (ev a env n).bind fun x n => .of (x.tru.map fun c => .bl (!c)) n
  | .ite c a b, env, n => (tv c env n).bind fun c n => if c then ev a env n else ev b env n
  | .idx a i, env, n => (ev a env n).bind fun x n => (ev i env n).bind fun y n => .of (idxV x y) n
  | .slc a lo hi, env, n => (ev a env n).bind fun x n => (evo lo env n).bind fun y n => (evo hi env n).bind fun z n => .of (slcV x y z) n
  | .call f es, env, n => (evs es env n).bind fun l n => T.fn f l n
  | .callB f es, env, n => (evs es env n).bind fun l n => (T.fn f l n).flat
  | .take i j m, env, n => match slot env i, slot env j with
    | .val .drw, .val .att => (ev m env n).bind fun x n => match x with
      | .int m => if 0 < m ∧ n < 2 ^ 40 then .ok (.int (T.om n % m)) (n + 1) else .bad
      | _ => .bad
    | _, _ => .bad
  | .blt b es, env, n => (evs es env n).bind fun l n => .of (bltV b l) n
  | .isi a ts, env, n => (ev a env n).bind fun x n => match ts with
    | [t] => .of ((t.has x).map .bl) n
    | _ => .bad
  | .comp elt tg it cond, env, n => (evi it env n).bind fun xs n => (mapR (fun x n => match tg.bind x env with
    | some env' => (tv cond env' n).bind fun c n => if c then (ev elt env' n).bind fun y n => .ok (some y) n else .ok none n
    | none => .bad) xs n).quiet.bind fun l n => .ok (.lst l) n
  | .dcomp kx vx tg it cond, env, n => (evi it env n).bind fun xs n => (mapR (fun x n => match tg.bind x env with
    | some env' => (tv cond env' n).bind fun c n => if c then (ev kx env' n).bind fun y n => (ev vx env' n).bind fun z n => .ok (some (.tup [y, z])) n else .ok none n
    | none => .bad) xs n).quiet.bind fun l n => .of (mkDs l) n
  | .req ng a b, env, n => (ev a env n).bind fun x n => if shOk x then (ev b env n).bind fun y n => if shOk y then .ok (.bl ((x.py.shown == y.py.shown) != ng)) n else .bad else .bad
  | _, _, _ => .bad
def tv : E → Env → Nat → Res Bool
  | .nil, _, n => .ok true n
  | .and a b, env, n => (tv a env n).bind fun c n => if c then tv b env n else .ok false n
  | .or a b, env, n => (tv a env n).bind fun c n => if c then .ok true n else tv b env n
  | .not a, env, n => (tv a env n).bind fun c n => .ok (!c) n
  | .tru e, env, n => (ev e env n).bind fun x n => .of x.tru n
  | _, _, _ => .bad
def evs : E → Env → Nat → Res (List D)
  | .nil, _, n => .ok [] n
  | .cons a b, env, n => (ev a env n).bind fun x n => (evs b env n).bind fun l n => .ok (x :: l) n
  | _, _, _ => .bad
/-- a display's pairs, from the left -/
def evk : E → Env → Nat → Res (List (D × D))
  | .nil, _, n => .ok [] n
  | .kv k v r, env, n => (ev k env n).bind fun x n => (ev v env n).bind fun y n => (evk r env n).bind fun l n => .ok ((x, y) :: l) n
  | _, _, _ => .bad
def evo : E → Env → Nat → Res (Option Int)
  | .nil, _, n => .ok none n
  | .opt e, env, n => (ev e env n).bind fun x n => match x with
    | .int i => .ok (some i) n
    | _ => .bad
  | _, _, _ => .bad
/-- the items that are walked -/
def evi : E → Env → Nat → Res (List D)
  | .rng1 a, env, n => (ev a env n).bind fun x n => match x with
    | .int b => .of (rngV 0 b) n
    | _ => .bad
  | .rng2 a b, env, n => (ev a env n).bind fun x n => (ev b env n).bind fun y n => match x, y with
    | .int a, .int b => .of (rngV a b) n
    | _, _ => .bad
  | .zip es, env, n => (evs es env n).bind fun l n => .of (zipV l) n
  | .enu e, env, n => (ev e env n).bind fun x n => .of ((seqV x).map (enuFrom 0)) n
  | .seq e, env, n => (ev e env n).bind fun x n => .of (itV x) n
  | _, _, _ => .bad
end
end
end Py

namespace Py
open PySem
/-! ### statements -/
inductive Flow where
  | nx (env : Env) | ret (d : D) | brk (env : Env) | cnt (env : Env)
/-- what an except suite gives back -/
inductive HE where
  | nil | cons (a b : HE)
  /-- of a clause without a name -/
  | anon (d : D)
  | cst (d : D) | fld (f : Str) | tup (es : HE) | lst (es : HE) | ite (c : Str) (a b : HE)
  /-- is it of the class, and a ValueError, as all of them are? -/
  | iteV (c : Str) (a b : HE)
mutual
def HE.val (sub : Str → Str → Bool) (e : Exn) : HE → Option D
  | .anon d => some d
  | .cst d => some d
  | .fld f => e.fs.lookup f
  | .tup es => (HE.vals sub e es).map .tup
  | .lst es => (HE.vals sub e es).map .lst
  | .ite c a b => if sub e.cls c then HE.val sub e a else HE.val sub e b
  | .iteV c a b => if sub e.cls c then HE.val sub e a else HE.val sub e b
  | _ => none
def HE.vals (sub : Str → Str → Bool) (e : Exn) : HE → Option (List D)
  | .nil => some []
  | .cons a b => (HE.val sub e a).bind fun x => (HE.vals sub e b).map fun l => x :: l
  | _ => none
end
inductive S where
  | skip | seq (a b : S)
  | any
  | set (i : Nat) (e : E)
  | own (i : Nat) (e : E)
  | setT (t : Tg) (e : E)
  | par2 (i j : Nat) (a b : E)
  | app (i : Nat) (e : E)
  | sto (i : Nat) (k e : E)
  | aug (op : Operator) (i : Nat) (e : E)
  | frz (i : Nat)
  | expr (e : E)
  | ret (e : E) | retN | retO (i : Nat)
  | ite (c : E) (a b : S)
  | whl (c : E) (b : S)
  | loop (tg : Tg) (it : E) (b : S)
  | brk | cnt
  | rai (cls : Str) (es : E)
  /-- each clause: its class, its name's place, what it gives back -/
  | tri (b : S) (hs : List (Str × Nat × HE))
def forL (f : D → Env → Nat → Res Flow) : List D → Env → Nat → Res Flow
  | [], env, n => .ok (.nx env) n
  | x :: xs, env, n => (f x env n).bind fun fl n => match fl with
    | .nx e => forL f xs e n
    | .cnt e => forL f xs e n
    | .brk e => .ok (.nx e) n
    | .ret d => .ok (.ret d) n
def whF (t : Env → Nat → Res Bool) (f : Env → Nat → Res Flow) : Nat → Env → Nat → Res Flow
  | 0, _, _ => .bad
  | k + 1, env, n => (t env n).bind fun c n => if c then (f env n).bind fun fl n => match fl with
    | .nx e => whF t f k e n
    | .cnt e => whF t f k e n
    | .brk e => .ok (.nx e) n
    | .ret d => .ok (.ret d) n
    else .ok (.nx env) n
def Res.good {α : Type} : Res α → Prop
  | .bad => False
  | _ => True
open Classical in
noncomputable def whR (t : Env → Nat → Res Bool) (f : Env → Nat → Res Flow) (env : Env) (n : Nat) : Res Flow :=
  if h : ∃ k, (whF t f k env n).good then whF t f (choose h) env n else .bad
def hnd (sub : Str → Str → Bool) (e : Exn) : List (Str × Nat × HE) → Option (Option D)
  | [] => none
  | (c, _, h) :: r => if sub e.cls c then some (h.val sub e) else hnd sub e r
def zipN : List Str → List D → Option (List (Str × D))
  | [], [] => some []
  | a :: r, x :: s => (zipN r s).map ((a, x) :: ·)
  | _, _ => none
/-- c[k] = d -/
def stoV (c k d : D) : Option D := match c with
  | .lst l => match k with
    | .int k => (L2.ixN l.length k).map fun j => .lst (l.set j d)
    | _ => none
  | .dic ks vs => (keyD k).bind fun k => if ks.length < LIM then some (dput ks vs k d) else none
  | _ => none
section
variable (T : Tab)
noncomputable def ex : S → Env → Nat → Res Flow
  | .any, _, _ => .bad
  | .skip, env, n => .ok (.nx env) n
  | .seq a b, env, n => (ex a env n).bind fun fl n => match fl with
    | .nx env => ex b env n
    | fl => .ok fl n
  | .set i e, env, n => (ev T e env n).bind fun d n => .ok (.nx (env.set i (.val d))) n
  | .own i e, env, n => (ev T e env n).bind fun d n => if d.isC then .ok (.nx (env.set i (.own d))) n else .bad
  | .setT t e, env, n => (ev T e env n).bind fun d n => (Res.of (t.bind d env) n).bind fun env n => .ok (.nx env) n
  | .par2 i j a b, env, n => (ev T a env n).bind fun x n => (ev T b env n).bind fun y n => .ok (.nx ((env.set i (.val x)).set j (.val y))) n
  | .app i e, env, n => match slot env i with
    | .own (.lst l) => (ev T e env n).bind fun d n => if l.length < LIM then .ok (.nx (env.set i (.own (.lst (l ++ [d]))))) n else .bad
    | _ => .bad
  | .sto i k e, env, n => (ev T e env n).bind fun d n => match slot env i with
    | .own c => (ev T k env n).bind fun k n => (Res.of (stoV c k d) n).bind fun c n => .ok (.nx (env.set i (.own c))) n
    | _ => .bad
  | .aug op i e, env, n => match slot env i with
    | .val x => (ev T e env n).bind fun y n => (Res.of (augV op x y) n).bind fun d n => .ok (.nx (env.set i (.val d))) n
    | _ => .bad
  | .frz i, env, n => match slot env i with
    | .own d => .ok (.nx (env.set i (.val d))) n
    | _ => .bad
  | .expr e, env, n => (ev T e env n).bind fun _ n => .ok (.nx env) n
  | .ret e, env, n => (ev T e env n).bind fun d n => .ok (.ret d) n
  | .retN, _, n => .ok (.ret .non) n
  | .retO i, env, n => match slot env i with
    | .own d => .ok (.ret d) n
    | _ => .bad
  | .ite c a b, env, n => (tv T c env n).bind fun c n => if c then ex a env n else ex b env n
  | .whl c b, env, n => whR (tv T c) (ex b) env n
  | .loop tg it b, env, n => (evi T it env n).bind fun xs n => forL (fun x env n => match tg.bind x env with
    | some env => ex b env n
    | none => .bad) xs env n
  | .brk, env, n => .ok (.brk env) n
  | .cnt, env, n => .ok (.cnt env) n
  | .rai c es, env, n => match T.ctor c with
    | some ns => (evs T es env n).bind fun l n => match zipN ns l with
      | some fs => .exc ⟨c, fs⟩ n
      | none => .bad
    | none => .bad
  | .tri b hs, env, n => match ex b env n with
    | .exc e n => if decide (T.ctor e.cls = some (e.fs.map (·.1))) && hs.all (fun h => decide (h.2.1 < env.length)) then match hnd T.sub e hs with
      | some (some d) => .ok (.ret d) n
      | some none => .bad
      | none => .exc e n
      else .bad
    | r => r
/-- a def: how many names, parameters; its body -/
structure Def where
  size : Nat
  params : Nat
  body : S
noncomputable def runD (d : Def) (l : List D) (n : Nat) : Res D := if l.length = d.params then
  match ex T d.body (l.map .val ++ List.replicate (d.size - l.length) .no) n with
  | .ok (.ret d) n => .ok d n
  | .ok (.nx _) n => .ok .non n
  | .exc e n => .exc e n
  | _ => .bad
  else .bad
end
/-- the program's functions, by levels -/
structure Prg where
  defs : List Def
  om : Nat → Int
  sub : Str → Str → Bool
  ctor : Str → Option (List Str)
  cons : List (Str × D)
def Prg.con (p : Prg) (j : Nat) : D := (p.cons.getD j ("", .non)).2
noncomputable def Prg.fn (p : Prg) : Nat → Nat → List D → Nat → Res D
  | 0, _, _, _ => .bad
  | k + 1, f, l, n => match p.defs[f]? with
    | some d => runD ⟨p.fn k, p.om, p.sub, p.ctor, p.con⟩ d l n
    | none => .bad
noncomputable def Prg.tab (p : Prg) (k : Nat) : Tab := ⟨p.fn k, p.om, p.sub, p.ctor, p.con⟩
end Py

set_option Elab.async false
set_option linter.all false
set_option maxRecDepth 100000
set_option maxHeartbeats 4000000
/-! C1h: what a head looks at; a law's data. (Early: a big top's run wants memory.) -/
namespace PyX
open PySem PySem.W PySem.Calls PyProof.Rows PySem.HandSPX
def eArgs (f : Str) (a b : Pos) : Arguments := { posonlyargs := [], args := [⟨"self", none, a⟩, ⟨f, none, b⟩], vararg := none, kwonlyargs := [], kw_defaults := [], kwarg := none, defaults := [] }
structure Ps where
  a : Pos
  b : Pos
  c : Pos
  d : Pos
  e : Pos
  g : Pos
  h : Pos
  i : Pos
  j : Pos
  k : Pos
  l : Pos
  m : Pos
def eBody (f : Str) (p : Ps) : List Stmt := [.Expr (.Call (.Attribute (.Call (.Name "super" p.c) [] [] p.d) "__init__" p.e) [.Name f p.g] [] p.h) p.i, .Assign [.Attribute (.Name "self" p.j) f p.k] (.Name f p.l) p.m]
def eScope (f : Str) : Scope := { kind := .function, names := [("self", .local), (f, .local), ("__class__", .free), ("super", .globalImplicit)], isGenerator := false, isCoroutine := false, more := [] }
end PyX
namespace Py
open PySem PySem.Spec L2
structure Sg where
  fns : List Str
  cons : List Str
  /-- classes of errors -/
  ecls : List Str
  /-- draws may be taken -/
  tk : Bool
def takePs : List Str := ["draws", "at", "many"]
def takeN : List Str := ["draws", "at", "many", "place"]
def drPs : List Str := ["script"]
def drN : List Str := ["script", "draws", "cell", "rest", "k", "mixed"]
def lawPs : List Str := ["script"]
def bltNames : List Str := ["abs", "int", "len", "str", "all", "any", "tuple", "list", "sum", "max", "min", "bool", "dict", "isinstance", "range", "repr", "ValueError", "zip", "enumerate", "sorted", "reversed"]
structure DefT where
  params : Arguments
  body : List Stmt
  scope : Scope
  N : List Str
  ps : List Str
structure ErrD where
  x : Str
  qual : Str
  f : Str
  p : PyX.Ps
abbrev IV : Type := Option (Str × Str × Arguments × FuncBody × Scope × Addr × List Str × Value × Value × Addr)
def iAd (K : PySem.W.Frag) (x : Str) : Addr := He.ma K (He.ga K x) "__init__"
def iOb (K : PySem.W.Frag) (e : ErrD) : IV := match K.lookup (iAd K e.x) with
  | some ⟨_, _, .func fd, _⟩ => some (fd.name, fd.qualname, fd.params, fd.body, fd.scope, fd.globals, fd.closure.map (·.1), fd.defaults, fd.kwdefaults, fd.builtins)
  | _ => none
def iVal (e : ErrD) : IV := some ("__init__", e.qual, PyX.eArgs e.f e.p.a e.p.b, .stmts (PyX.eBody e.f e.p), PyX.eScope e.f, mainGlobals, ["__class__"], .none, .none, builtinsNs)
def clB (K : PySem.W.Frag) (C : Addr) : Bool := match K.lookup C with
  | some ⟨.type "type", _, .cls cd, sl⟩ => (match cd.mro, sl.toList with
    | .ref C' :: bm, [_, _, _, _, some (.builtin n), _] => (C' == C && n == "ValueError.__new__") && ((!cd.hasDel && cd.hasDict) && PySem.HandSPX.refsVE bm)
    | _, _ => false)
  | _ => false
def homeC (K : PySem.W.Frag) (x : Str) : Addr × Addr × Addr := match K.lookup (iAd K x) with
  | some ⟨_, _, .func fd, _⟩ => (match fd.closure, fd.code with
    | [(_, cc)], .ref cda => (match K.lookup cc with
      | some ⟨_, _, .cell (some (.ref D)), _⟩ => (D, cc, cda)
      | _ => (0, cc, cda))
    | _, _ => (0, 0, 0))
  | _ => (0, 0, 0)
def errB (file : Str) (K : PySem.W.Frag) (e : ErrD) : Bool :=
  let C := He.ga K e.x
  let h := homeC K e.x
  decide (PySem.W.nsIn K mainGlobals e.x = some (some (.ref C))) && (PySem.W.keepIn K (.ref C) && (clB K C && (decide (PySem.W.findIn K (.ref C) "__setattr__" = some (some (.builtin "object.__setattr__"))) && (decide (PySem.W.findIn K (.ref C) e.f = some none) &&
  (decide (PySem.W.findIn K (.ref C) "__init__" = some (some (.ref (iAd K e.x)))) && (decide (PySem.W.typeIn K (.ref (iAd K e.x)) = some (.type "function")) && (PySem.W.codeIn K (.ref h.2.2) e.qual && ((match K.lookup h.2.2 with
    | some ⟨_, _, .fields vs, _⟩ => (match (vs[2]? : Option Value) with
      | some (Value.str fl _) => decide (fl = file)
      | _ => false)
    | _ => false) && ((match K.lookup h.2.1 with
    | some ⟨_, _, .cell (some (.ref D)), _⟩ => decide (D = h.1)
    | _ => false) && ((match K.lookup (iAd K e.x) with
    | some ⟨_, _, .func fd, _⟩ => decide (fd.closure = [(("__class__" : Str), h.2.1)]) && decide (fd.code = .ref h.2.2)
    | _ => false) && ((PySem.W.clsIn K h.1).isSome && (decide (PySem.W.mroIn K C (.ref h.1) = some true) && (decide (PySem.W.nsIn K cStatics "thirdparty.any" = some none) &&
  (decide (PySem.W.ks_superIn K C h.1 "__init__" = some (some (.builtin "ValueError.__init__"))) && (decide (PySem.W.subIn K (.ref C) (.type "ValueError") = some true) && ((decide (e.f = "reason") || decide (e.f = "at") || decide (e.f = "line")) && ((e.p.e.endLine == e.p.h.line) &&
  (xfB K C && (decide (PySem.W.typeIn K (.ref C) = some (.type "type")) && (decide (PySem.W.findIn K (.ref C) "__class__" = some (some (.builtin "object.__class__"))) && (decide (PySem.W.specialIn K (.builtin "object.__class__") "__get__" = some (some (.builtin "getset_descriptor.__get__"))) &&
  (decide (PySem.W.takesIn K (.builtin "object.__class__") = some true) && decide (PySem.W.mroIn K C (.type "object") = some true)))))))))))))))))))))))
structure RelE where
  x : Str
  c : Str
  b : Bool
def relB (K : PySem.W.Frag) (r : RelE) : Bool := decide (PySem.W.exmOne K (.ref (He.ga K r.x)) (.ref (He.ga K r.c)) = some r.b) && decide (PySem.W.kitOne K (.ref (He.ga K r.x)) (.ref (He.ga K r.c)) = some r.b)
abbrev AlP : Type := He.AlD × Bool × List IV
mutual
/-- u stands for d, whatever comes -/
def conB (K : PySem.W.Frag) : D → Value → Bool
  | .non, .none => true
  | .bl b, .bool c => b == c
  | .int i, .int j _ => decide (i = j)
  | .str x, .str y _ => decide (x = y) && PyData.strOk x
  | .tup l, .ref a => (match K.lookup a with
    | some ⟨.type c, _, .seq its _, _⟩ => decide (c = "tuple") && (decide (its.size ≤ 1000) && conBs K l its.toList)
    | _ => false)
  | _, _ => false
def conBs (K : PySem.W.Frag) : List D → List Value → Bool
  | [], [] => true
  | d :: l, u :: us => conB K d u && conBs K l us
  | _, _ => false
end
def conF (K : PySem.W.Frag) (c : Str × D) : Bool := match PySem.W.nsIn K mainGlobals c.1 with
  | some (some u) => conB K c.2 u
  | _ => false
structure HdP where
  fa : List He.Fa
  fn : List He.DefD
  file : Str
  es : List ErrD
  rs : List RelE
  cs : List (Str × D)
def obsP (z : HdP) (K : PySem.W.Frag) : AlP := (He.obsD z.fa z.fn K, (z.es.all fun e => errB z.file K e) && ((z.rs.all fun r => relB K r) && z.cs.all fun c => conF K c), z.es.map fun e => iOb K e)
def valP (z : HdP) : AlP := (He.valD z.fn, true, z.es.map iVal)
def SaysP (z : HdP) (K : PySem.W.Frag) : Prop := obsP z K = valP z
def glA (g : Addr → Option Obj) (x : Str) : List Addr := match PySem.W.nsIn (He.frG g [mainGlobals]) mainGlobals x with
  | some (some v) => He.refV v
  | _ => []
def stepA (g : Addr → Option Obj) (as : List Addr) : List Addr := as.flatMap fun a => match g a with
  | some o => He.refsD o
  | none => []
def reachA (g : Addr → Option Obj) : Nat → List Addr → List Addr
  | 0, as => as
  | n + 1, as => as ++ reachA g n (stepA g as)
def asP (z : HdP) (g : Addr → Option Obj) (n : Nat) : List Addr := mainGlobals :: (z.fn.flatMap (fun d => reachA g 1 (glA g d.at_.1)) ++ (z.es.flatMap (fun e => (reachA g (n - 1) (glA g e.x)).eraseDups) ++ (z.rs.flatMap (fun r => reachA g 2 (glA g r.c)) ++ z.cs.flatMap fun c => reachA g 3 (glA g c.1))))
def obsPG (n : Nat) (z : HdP) (g : Addr → Option Obj) : AlP := obsP z (He.frG g (cStatics :: asP z g n))
def hookP (n : Nat) (z : HdP) : PySem.W.Hook where
  α := AlP
  obs := fun s => obsPG n z s.heap.get?
  val := fun _ => valP z
  says := fun _ h => ∃ K : PySem.W.Frag, K.In h ∧ SaysP z K
  of := fun _ _ e => ⟨_, He.frG_in, e⟩
  keeps := fun _ _ _ ⟨K, hK, c⟩ k => ⟨K, PySem.W.Frag.In.keeps hK k, c⟩
theorem obsPG_eq {n : Nat} {z : HdP} {g : Addr → Option Obj} {s : Shared} (h : ∀ a, g a = s.heap.get? a) : obsPG n z g = (hookP n z).obs s := by
  have e : g = s.heap.get? := funext h
  rw [e]; rfl
structure LawD where
  fns : List (Str × DefT × Def)
  tm : DefT
  tt : DefT
  td : DefT
  tl : DefT
  bl : S
  q : Nat → Pos
  es : List ErrD
  ecls : List Str
  subs : List (Str × Str)
  cs : List (Str × D)
  file : Str
def LawD.sub (z : LawD) (x c : Str) : Bool := z.subs.contains (x, c)
def LawD.ctor (z : LawD) (x : Str) : Option (List Str) := (z.es.find? fun e => e.x == x).map fun e => [e.f]
def ddef (x : Str) (t : DefT) : He.DefD := ⟨(x, none), x, x, t.params, t.body, t.scope, [], []⟩
def LawD.rels (z : LawD) : List RelE := z.es.flatMap fun e => z.ecls.map fun c => ⟨e.x, c, z.sub e.x c⟩
def ownN : List Str := ["_law_more", "_law_take", "_law_draws", "law"]
def freeN : List Str := "super" :: bltNames
def LawD.names (z : LawD) : List Str := ownN ++ (z.ecls ++ z.fns.map (·.1))
def LawD.hd (z : LawD) : HdP := ⟨z.names.map .glo ++ freeN.map .free, [ddef "_law_more" z.tm, ddef "_law_take" z.tt, ddef "_law_draws" z.td, ddef "law" z.tl] ++ z.fns.map (fun f => ddef f.1 f.2.1), z.file, z.es, z.rels, z.cs⟩
end Py

set_option Elab.async false
set_option linter.all false
set_option maxRecDepth 100000
set_option maxHeartbeats 0
namespace Kx
open PySem PySem.Spec L2 Py
abbrev prog : Program := (PySem.W.OpenLaw.row PySem.Challenge.rw_firmwrought_k78_whole_wrong_frames_in_gr).prog
def top (i : Nat) : Stmt := PySem.Challenge.pw_firmwrought_k78_whole_wrong_frames_in_gr.main.body.getD i (.Pass ⟨0, 0, 0, 0⟩)
def mk (x : Str) (i : Nat) : He.DefD := ⟨(x, none), x, x, defArgs (top i), defBody (top i), defScope (top i), [], []⟩
def dt (i : Nat) (N ps : List Str) : DefT := ⟨defArgs (top i), defBody (top i), defScope (top i), N, ps⟩
def fns0 : List Str := ["is_integer", "in_range", "is_name", "is_letter", "has_form", "check_joint", "check_bar", "check", "can_fit", "accept_can_fit", "misfit_forces", "accept_misfit_forces", "energy_of", "misfit_energy"]
def fns1 : List Str := ["answers", "hurtless", "fewest_anew", "accept_fewest_anew", "trouble", "demand_drawing", "faces", "outer_face", "sides", "stresses", "planes", "accept_planes", "heights", "forces_under"]
def fns2 : List Str := ["reciprocal", "forces_across", "lifted", "demand_all", "count_slower", "slowest_below", "quotient", "is_swinging", "accept_slower", "best_of", "demand_work", "stand_table", "down_table", "accept_down_table"]
def fns3 : List Str := ["way_down", "first_fall", "accept_way_down", "fewest_at_once", "first_to_go", "_law_one", "_law_frame", "_law_called_0", "_law_called_1", "_law_told", "_law_wrong"]
def fns : List Str := fns0 ++ fns1 ++ fns2 ++ fns3
def cons0 : List Str := ["MAX_JOINTS", "MAX_BARS", "MAX_PLACE", "MAX_NAME", "MAX_NUMBER", "MAX_COST", "MAX_ANEW", "MAX_SPRING", "MAX_WRONG", "MAX_DOWN", "HOLDS", "SORTS", "ZERO", "ONE"]
def cons : List Str := cons0
def ecls0 : List Str := ["CheckError", "FrameError"]
def ecls : List Str := ecls0
def sg : Sg := ⟨fns, cons, ecls, true⟩
abbrev i_is_integer : Nat := 0
abbrev i_in_range : Nat := 1
abbrev i_is_name : Nat := 2
abbrev i_is_letter : Nat := 3
abbrev i_has_form : Nat := 4
abbrev i_check_joint : Nat := 5
abbrev i_check_bar : Nat := 6
abbrev i_check : Nat := 7
abbrev i_can_fit : Nat := 8
abbrev i_accept_can_fit : Nat := 9
abbrev i_misfit_forces : Nat := 10
abbrev i_accept_misfit_forces : Nat := 11
abbrev i_energy_of : Nat := 12
abbrev i_misfit_energy : Nat := 13
abbrev i_answers : Nat := 14
abbrev i_hurtless : Nat := 15
abbrev i_fewest_anew : Nat := 16
abbrev i_accept_fewest_anew : Nat := 17
abbrev i_trouble : Nat := 18
abbrev i_demand_drawing : Nat := 19
abbrev i_faces : Nat := 20
abbrev i_outer_face : Nat := 21
abbrev i_sides : Nat := 22
abbrev i_stresses : Nat := 23
abbrev i_planes : Nat := 24
abbrev i_accept_planes : Nat := 25
abbrev i_heights : Nat := 26
abbrev i_forces_under : Nat := 27
abbrev i_reciprocal : Nat := 28
abbrev i_forces_across : Nat := 29
abbrev i_lifted : Nat := 30
abbrev i_demand_all : Nat := 31
abbrev i_count_slower : Nat := 32
abbrev i_slowest_below : Nat := 33
abbrev i_quotient : Nat := 34
abbrev i_is_swinging : Nat := 35
abbrev i_accept_slower : Nat := 36
abbrev i_best_of : Nat := 37
abbrev i_demand_work : Nat := 38
abbrev i_stand_table : Nat := 39
abbrev i_down_table : Nat := 40
abbrev i_accept_down_table : Nat := 41
abbrev i_way_down : Nat := 42
abbrev i_first_fall : Nat := 43
abbrev i_accept_way_down : Nat := 44
abbrev i_fewest_at_once : Nat := 45
abbrev i_first_to_go : Nat := 46
abbrev i__law_one : Nat := 47
abbrev i__law_frame : Nat := 48
abbrev i__law_called_0 : Nat := 49
abbrev i__law_called_1 : Nat := 50
abbrev i__law_told : Nat := 51
abbrev i__law_wrong : Nat := 52
abbrev c_MAX_JOINTS : Nat := 0
abbrev c_MAX_BARS : Nat := 1
abbrev c_MAX_PLACE : Nat := 2
abbrev c_MAX_NAME : Nat := 3
abbrev c_MAX_NUMBER : Nat := 4
abbrev c_MAX_COST : Nat := 5
abbrev c_MAX_ANEW : Nat := 6
abbrev c_MAX_SPRING : Nat := 7
abbrev c_MAX_WRONG : Nat := 8
abbrev c_MAX_DOWN : Nat := 9
abbrev c_HOLDS : Nat := 10
abbrev c_SORTS : Nat := 11
abbrev c_ZERO : Nat := 12
abbrev c_ONE : Nat := 13
def n_is_integer_0 : List Str := ["value"]
def n_is_integer_ : List Str := n_is_integer_0
def p_is_integer : List Str := ["value"]
-- is_integer(value): 0 value
def d_is_integer : Def := ⟨1, 1, (.seq (.ret (.andv (.isi (.var 0) [.int]) (.notv (.isi (.var 0) [.bool])))) S.skip)⟩
def t_is_integer : DefT := dt 11 n_is_integer_ p_is_integer
def n_in_range_0 : List Str := ["value", "least", "most"]
def n_in_range_ : List Str := n_in_range_0
def p_in_range : List Str := ["value", "least", "most"]
-- in_range(value, least, most): 0 value, 1 least, 2 most
def d_in_range : Def := ⟨3, 3, (.seq (.ret (.andv (.call i_is_integer (.cons (.var 0) E.nil)) (.cmp2 .LtE .LtE (.var 1) (.var 0) (.var 2)))) S.skip)⟩
def t_in_range : DefT := dt 12 n_in_range_ p_in_range
def n_is_name_0 : List Str := ["value", "sign"]
def n_is_name_ : List Str := n_is_name_0
def p_is_name : List Str := ["value"]
-- is_name(value): 0 value, 1 sign
def d_is_name : Def := ⟨2, 1, (.seq (.ite (.or (.not (.tru (.isi (.var 0) [.str]))) (.not (.tru (.cmp2 .LtE .LtE (.cst (.int 1)) (.blt .len (.cons (.var 0) E.nil)) (.glb c_MAX_NAME))))) (.seq (.ret (.cst (.bl false))) S.skip) S.skip) (.seq (.ite (.not (.tru (.call i_is_letter (.cons (.idx (.var 0) (.cst (.int 0))) E.nil)))) (.seq (.ret (.cst (.bl false))) S.skip) S.skip) (.seq (.ret (.blt .all (.cons (.comp (.orv (.call i_is_letter (.cons (.var 1) E.nil)) (.orv (.cmp2 .LtE .LtE (.cst (.str "0")) (.var 1) (.cst (.str "9"))) (.cmp .Eq (.var 1) (.cst (.str "_"))))) (.nm 1) (.seq (.var 0)) .nil) E.nil))) S.skip)))⟩
def t_is_name : DefT := dt 13 n_is_name_ p_is_name
def n_is_letter_0 : List Str := ["sign"]
def n_is_letter_ : List Str := n_is_letter_0
def p_is_letter : List Str := ["sign"]
-- is_letter(sign): 0 sign
def d_is_letter : Def := ⟨1, 1, (.seq (.ret (.orv (.cmp2 .LtE .LtE (.cst (.str "a")) (.var 0) (.cst (.str "z"))) (.cmp2 .LtE .LtE (.cst (.str "A")) (.var 0) (.cst (.str "Z"))))) S.skip)⟩
def t_is_letter : DefT := dt 14 n_is_letter_ p_is_letter
def n_has_form_0 : List Str := ["value", "part", "row"]
def n_has_form_ : List Str := n_has_form_0
def p_has_form : List Str := ["value"]
-- has_form(value): 0 value, 1 part, 2 row
def d_has_form : Def := ⟨3, 1, (.seq (.ite (.or (.not (.tru (.isi (.var 0) [.tup]))) (.or (.tru (.cmp .NotEq (.blt .len (.cons (.var 0) E.nil)) (.cst (.int 2)))) (.not (.tru (.blt .all (.cons (.comp (.isi (.var 1) [.tup]) (.nm 1) (.seq (.var 0)) .nil) E.nil)))))) (.seq (.ret (.cst (.bl false))) S.skip) S.skip) (.seq (.loop (.nm 1) (.seq (.var 0)) (.seq (.ite (.not (.tru (.blt .all (.cons (.comp (.andv (.isi (.var 2) [.tup]) (.cmp .Eq (.blt .len (.cons (.var 2) E.nil)) (.cst (.int 4)))) (.nm 2) (.seq (.var 1)) .nil) E.nil)))) (.seq (.ret (.cst (.bl false))) S.skip) S.skip) S.skip)) (.seq (.ret (.cst (.bl true))) S.skip)))⟩
def t_has_form : DefT := dt 25 n_has_form_ p_has_form
def n_check_joint_0 : List Str := ["joint", "names", "name", "x", "y", "hold"]
def n_check_joint_ : List Str := n_check_joint_0
def p_check_joint : List Str := ["joint", "names"]
-- check_joint(joint, names): 0 joint, 1 names, 2 name, 3 x, 4 y, 5 hold
def d_check_joint : Def := ⟨6, 2, (.seq (.setT (.t4 (.nm 2) (.nm 3) (.nm 4) (.nm 5)) (.var 0)) (.seq (.ite (.or (.not (.tru (.isi (.var 2) [.str]))) (.or (.not (.tru (.call i_is_name (.cons (.var 2) E.nil)))) (.tru (.cmp .In (.var 2) (.var 1))))) (.seq (.rai "CheckError" (.cons (.cst (.str "joint")) E.nil)) S.skip) S.skip) (.seq (.ite (.or (.not (.tru (.call i_in_range (.cons (.var 3) (.cons (.neg (.glb c_MAX_PLACE)) (.cons (.glb c_MAX_PLACE) E.nil)))))) (.not (.tru (.call i_in_range (.cons (.var 4) (.cons (.neg (.glb c_MAX_PLACE)) (.cons (.glb c_MAX_PLACE) E.nil))))))) (.seq (.rai "CheckError" (.cons (.cst (.str "place")) E.nil)) S.skip) S.skip) (.seq (.ite (.or (.not (.tru (.isi (.var 5) [.str]))) (.tru (.cmp .NotIn (.var 5) (.glb c_HOLDS)))) (.seq (.rai "CheckError" (.cons (.cst (.str "hold")) E.nil)) S.skip) S.skip) S.skip))))⟩
def t_check_joint : DefT := dt 26 n_check_joint_ p_check_joint
def n_check_bar_0 : List Str := ["bar", "names", "places", "name", "first", "second", "sort"]
def n_check_bar_ : List Str := n_check_bar_0
def p_check_bar : List Str := ["bar", "names", "places"]
-- check_bar(bar, names, places): 0 bar, 1 names, 2 places, 3 name, 4 first, 5 second, 6 sort
def d_check_bar : Def := ⟨7, 3, (.seq (.setT (.t4 (.nm 3) (.nm 4) (.nm 5) (.nm 6)) (.var 0)) (.seq (.ite (.or (.not (.tru (.isi (.var 3) [.str]))) (.or (.not (.tru (.call i_is_name (.cons (.var 3) E.nil)))) (.tru (.cmp .In (.var 3) (.var 1))))) (.seq (.rai "CheckError" (.cons (.cst (.str "bar")) E.nil)) S.skip) S.skip) (.seq (.ite (.or (.not (.tru (.isi (.var 4) [.str]))) (.or (.tru (.cmp .NotIn (.var 4) (.var 2))) (.or (.not (.tru (.isi (.var 5) [.str]))) (.tru (.cmp .NotIn (.var 5) (.var 2)))))) (.seq (.rai "CheckError" (.cons (.cst (.str "ends")) E.nil)) S.skip) S.skip) (.seq (.ite (.tru (.cmp .Eq (.idx (.var 2) (.var 4)) (.idx (.var 2) (.var 5)))) (.seq (.rai "CheckError" (.cons (.cst (.str "ends")) E.nil)) S.skip) S.skip) (.seq (.ite (.or (.not (.tru (.isi (.var 6) [.str]))) (.tru (.cmp .NotIn (.var 6) (.glb c_SORTS)))) (.seq (.rai "CheckError" (.cons (.cst (.str "sort")) E.nil)) S.skip) S.skip) S.skip)))))⟩
def t_check_bar : DefT := dt 27 n_check_bar_ p_check_bar
def n_check_0 : List Str := ["frame", "places", "joint", "names", "bar"]
def n_check_ : List Str := n_check_0
def p_check : List Str := ["frame"]
-- check(frame): 0 frame, 1 places, 2 joint, 3 names, 4 bar
def d_check : Def := ⟨5, 1, (.seq (.ite (.not (.tru (.call i_has_form (.cons (.var 0) E.nil)))) (.seq (.rai "CheckError" (.cons (.cst (.str "form")) E.nil)) S.skip) S.skip) (.seq (.ite (.or (.not (.tru (.cmp2 .LtE .LtE (.cst (.int 1)) (.blt .len (.cons (.idx (.var 0) (.cst (.int 0))) E.nil)) (.glb c_MAX_JOINTS)))) (.tru (.cmp .Gt (.blt .len (.cons (.idx (.var 0) (.cst (.int 1))) E.nil)) (.glb c_MAX_BARS)))) (.seq (.rai "CheckError" (.cons (.cst (.str "many")) E.nil)) S.skip) S.skip) (.seq (.own 1 .dnew) (.seq (.loop (.nm 2) (.seq (.idx (.var 0) (.cst (.int 0)))) (.seq (.expr (.callB i_check_joint (.cons (.var 2) (.cons (.ovar 1) E.nil)))) (.seq (.sto 1 (.idx (.var 2) (.cst (.int 0))) (.slc (.var 2) (.opt (.cst (.int 1))) (.opt (.cst (.int 3))))) S.skip))) (.seq (.frz 1) (.seq (.own 3 .dnew) (.seq (.loop (.nm 4) (.seq (.idx (.var 0) (.cst (.int 1)))) (.seq (.expr (.callB i_check_bar (.cons (.var 4) (.cons (.ovar 3) (.cons (.var 1) E.nil))))) (.seq (.sto 3 (.idx (.var 4) (.cst (.int 0))) (.cst (.bl true))) S.skip))) (.seq (.frz 3) S.skip))))))))⟩
def t_check : DefT := dt 28 n_check_ p_check
def n_can_fit_0 : List Str := ["frame", "misfits", "shift", "factors"]
def n_can_fit_ : List Str := n_can_fit_0
def p_can_fit : List Str := ["frame", "misfits"]
-- can_fit(frame, misfits): 0 frame, 1 misfits, 2 shift, 3 factors
def d_can_fit : Def := ⟨4, 2, (.seq (.expr (.call i_check (.cons (.var 0) E.nil))) (.seq .any (.seq .any (.seq (.ret (.ite (.tru (.cmp .Is (.var 2) (.cst .non))) (.tup (.cons (.cst (.str "stress")) (.cons (.var 3) E.nil))) (.tup (.cons (.cst (.str "fits")) (.cons (.var 2) E.nil))))) S.skip))))⟩
def t_can_fit : DefT := dt 70 n_can_fit_ p_can_fit
def n_accept_can_fit_0 : List Str := ["frame", "misfits", "told", "misfit"]
def n_accept_can_fit_ : List Str := n_accept_can_fit_0
def p_accept_can_fit : List Str := ["frame", "misfits", "told"]
-- accept_can_fit(frame, misfits, told): 0 frame, 1 misfits, 2 told, 3 misfit
def d_accept_can_fit : Def := ⟨4, 3, (.seq (.expr (.call i_check (.cons (.var 0) E.nil))) (.seq .any (.seq (.ite (.or (.not (.tru (.isi (.var 2) [.tup]))) (.or (.tru (.cmp .NotEq (.blt .len (.cons (.var 2) E.nil)) (.cst (.int 2)))) (.not (.tru (.isi (.idx (.var 2) (.cst (.int 0))) [.str]))))) (.seq (.rai "PaperError" (.cons (.cst (.str "form")) E.nil)) S.skip) S.skip) (.seq (.ite (.tru (.cmp .NotIn (.idx (.var 2) (.cst (.int 0))) (.tup (.cons (.cst (.str "fits")) (.cons (.cst (.str "stress")) E.nil))))) (.seq (.rai "PaperError" (.cons (.cst (.str "form")) E.nil)) S.skip) S.skip) (.seq (.ite (.tru (.cmp .Eq (.idx (.var 2) (.cst (.int 0))) (.cst (.str "fits")))) (.seq .any (.seq .any (.seq .retN S.skip))) S.skip) (.seq .any (.seq .any (.seq .any S.skip))))))))⟩
def t_accept_can_fit : DefT := dt 73 n_accept_can_fit_ p_accept_can_fit
def n_misfit_forces_0 : List Str := ["frame", "springs", "misfits"]
def n_misfit_forces_ : List Str := n_misfit_forces_0
def p_misfit_forces : List Str := ["frame", "springs", "misfits"]
-- misfit_forces(frame, springs, misfits): 0 frame, 1 springs, 2 misfits
def d_misfit_forces : Def := ⟨3, 3, (.seq (.expr (.call i_check (.cons (.var 0) E.nil))) (.seq .any (.seq .any (.seq .any S.skip))))⟩
def t_misfit_forces : DefT := dt 75 n_misfit_forces_ p_misfit_forces
def n_accept_misfit_forces_0 : List Str := ["frame", "springs", "misfits", "told", "growths", "part", "growth", "spring", "misfit", "force"]
def n_accept_misfit_forces_ : List Str := n_accept_misfit_forces_0
def p_accept_misfit_forces : List Str := ["frame", "springs", "misfits", "told"]
-- accept_misfit_forces(frame, springs, misfits, told): 0 frame, 1 springs, 2 misfits, 3 told, 4 growths, 5 part, 6 growth, 7 spring, 8 misfit, 9 force
def d_accept_misfit_forces : Def := ⟨10, 4, (.seq (.expr (.call i_check (.cons (.var 0) E.nil))) (.seq .any (.seq .any (.seq .any (.seq .any (.seq .any (.seq .any (.seq .any S.skip))))))))⟩
def t_accept_misfit_forces : DefT := dt 76 n_accept_misfit_forces_ p_accept_misfit_forces
def n_energy_of_0 : List Str := ["springs", "forces", "total", "spring", "force"]
def n_energy_of_ : List Str := n_energy_of_0
def p_energy_of : List Str := ["springs", "forces"]
-- energy_of(springs, forces): 0 springs, 1 forces, 2 total, 3 spring, 4 force
def d_energy_of : Def := ⟨5, 2, (.seq (.set 2 (.glb c_ZERO)) (.seq (.loop (.t2 (.nm 3) (.nm 4)) (.zip (.cons (.var 0) (.cons (.var 1) E.nil))) (.seq .any S.skip)) (.seq (.ret (.var 2)) S.skip)))⟩
def t_energy_of : DefT := dt 77 n_energy_of_ p_energy_of
def n_misfit_energy_0 : List Str := ["frame", "springs", "misfits"]
def n_misfit_energy_ : List Str := n_misfit_energy_0
def p_misfit_energy : List Str := ["frame", "springs", "misfits"]
-- misfit_energy(frame, springs, misfits): 0 frame, 1 springs, 2 misfits
def d_misfit_energy : Def := ⟨3, 3, (.seq (.ret (.call i_energy_of (.cons (.var 1) (.cons (.call i_misfit_forces (.cons (.var 0) (.cons (.var 1) (.cons (.var 2) E.nil)))) E.nil)))) S.skip)⟩
def t_misfit_energy : DefT := dt 78 n_misfit_energy_ p_misfit_energy
def n_answers_0 : List Str := ["frame", "springs", "name", "number", "place"]
def n_answers_ : List Str := n_answers_0
def p_answers : List Str := ["frame", "springs", "name"]
-- answers(frame, springs, name): 0 frame, 1 springs, 2 name, 3 number, 4 place
def d_answers : Def := ⟨5, 3, (.seq (.expr (.call i_check (.cons (.var 0) E.nil))) (.seq .any (.seq .any (.seq .any (.seq .any S.skip)))))⟩
def t_answers : DefT := dt 79 n_answers_ p_answers
def n_hurtless_0 : List Str := ["frame", "basis", "place", "bar", "row"]
def n_hurtless_ : List Str := n_hurtless_0
def p_hurtless : List Str := ["frame"]
-- hurtless(frame): 0 frame, 1 basis, 2 place, 3 bar, 4 row
def d_hurtless : Def := ⟨5, 1, (.seq (.expr (.call i_check (.cons (.var 0) E.nil))) (.seq .any (.seq (.ret (.blt .tuple (.cons (.comp (.idx (.var 3) (.cst (.int 0))) (.t2 (.nm 2) (.nm 3)) (.enu (.idx (.var 0) (.cst (.int 1)))) (.tru (.blt .all (.cons (.comp (.cmp .Eq (.idx (.var 4) (.var 2)) (.glb c_ZERO)) (.nm 4) (.seq (.var 1)) .nil) E.nil)))) E.nil))) S.skip)))⟩
def t_hurtless : DefT := dt 80 n_hurtless_ p_hurtless
def n_fewest_anew_0 : List Str := ["frame", "misfits", "barred", "row", "shift", "factors", "pair"]
def n_fewest_anew_ : List Str := n_fewest_anew_0
def p_fewest_anew : List Str := ["frame", "misfits"]
-- fewest_anew(frame, misfits): 0 frame, 1 misfits, 2 barred, 3 row, 4 shift, 5 factors, 6 pair
def d_fewest_anew : Def := ⟨7, 2, (.seq (.expr (.call i_check (.cons (.var 0) E.nil))) (.seq .any (.seq .any (.seq (.own 2 (.lst E.nil)) (.seq .any (.seq (.frz 2) (.seq (.ret (.cst .non)) S.skip)))))))⟩
def t_fewest_anew : DefT := dt 86 n_fewest_anew_ p_fewest_anew
def n_accept_fewest_anew_0 : List Str := ["frame", "misfits", "told", "growths", "part", "place", "misfit", "barred", "pair", "row"]
def n_accept_fewest_anew_ : List Str := n_accept_fewest_anew_0
def p_accept_fewest_anew : List Str := ["frame", "misfits", "told"]
-- accept_fewest_anew(frame, misfits, told): 0 frame, 1 misfits, 2 told, 3 growths, 4 part, 5 place, 6 misfit, 7 barred, 8 pair, 9 row
def d_accept_fewest_anew : Def := ⟨10, 3, (.seq (.expr (.call i_check (.cons (.var 0) E.nil))) (.seq .any (.seq .any (.seq .any (.seq .any (.seq .any (.seq (.loop (.t2 (.nm 5) (.nm 6)) (.enu (.var 1)) (.seq .any S.skip)) (.seq (.own 7 .dnew) (.seq (.loop (.nm 8) (.seq (.idx (.var 2) (.cst (.int 2)))) (.seq .any (.seq .any (.seq .any (.seq .any (.seq (.sto 7 (.idx (.var 8) (.cst (.int 0))) (.cst (.bl true))) S.skip)))))) (.seq (.frz 7) (.seq .any S.skip)))))))))))⟩
def t_accept_fewest_anew : DefT := dt 88 n_accept_fewest_anew_ p_accept_fewest_anew
def n_trouble_0 : List Str := ["frame"]
def n_trouble_ : List Str := n_trouble_0
def p_trouble : List Str := ["frame"]
-- trouble(frame): 0 frame
def d_trouble : Def := ⟨1, 1, (.seq (.expr (.call i_check (.cons (.var 0) E.nil))) (.seq .any S.skip))⟩
def t_trouble : DefT := dt 99 n_trouble_ p_trouble
def n_demand_drawing_0 : List Str := ["frame"]
def n_demand_drawing_ : List Str := n_demand_drawing_0
def p_demand_drawing : List Str := ["frame"]
-- demand_drawing(frame): 0 frame
def d_demand_drawing : Def := ⟨1, 1, (.seq (.expr (.call i_check (.cons (.var 0) E.nil))) (.seq .any S.skip))⟩
def t_demand_drawing : DefT := dt 100 n_demand_drawing_ p_demand_drawing
def n_faces_0 : List Str := ["frame", "number", "bar", "walk"]
def n_faces_ : List Str := n_faces_0
def p_faces : List Str := ["frame"]
-- faces(frame): 0 frame, 1 number, 2 bar, 3 walk
def d_faces : Def := ⟨4, 1, (.seq (.expr (.call i_demand_drawing (.cons (.var 0) E.nil))) (.seq .any S.skip))⟩
def t_faces : DefT := dt 105 n_faces_ p_faces
def n_outer_face_0 : List Str := ["frame"]
def n_outer_face_ : List Str := n_outer_face_0
def p_outer_face : List Str := ["frame"]
-- outer_face(frame): 0 frame
def d_outer_face : Def := ⟨1, 1, (.seq (.expr (.call i_demand_drawing (.cons (.var 0) E.nil))) (.seq .any S.skip))⟩
def t_outer_face : DefT := dt 108 n_outer_face_ p_outer_face
def n_sides_0 : List Str := ["frame", "rows", "bar", "left", "right"]
def n_sides_ : List Str := n_sides_0
def p_sides : List Str := ["frame"]
-- sides(frame): 0 frame, 1 rows, 2 bar, 3 left, 4 right
def d_sides : Def := ⟨5, 1, (.seq (.expr (.call i_demand_drawing (.cons (.var 0) E.nil))) (.seq .any (.seq (.ret (.blt .tuple (.cons (.comp (.tup (.cons (.idx (.var 2) (.cst (.int 0))) (.cons (.var 3) (.cons (.var 4) E.nil)))) (.t2 (.nm 2) (.t2 (.nm 3) (.nm 4))) (.zip (.cons (.idx (.var 0) (.cst (.int 1))) (.cons (.var 1) E.nil))) .nil) E.nil))) S.skip)))⟩
def t_sides : DefT := dt 110 n_sides_ p_sides
def n_stresses_0 : List Str := ["frame"]
def n_stresses_ : List Str := n_stresses_0
def p_stresses : List Str := ["frame"]
-- stresses(frame): 0 frame
def d_stresses : Def := ⟨1, 1, (.seq (.expr (.call i_demand_drawing (.cons (.var 0) E.nil))) (.seq .any S.skip))⟩
def t_stresses : DefT := dt 112 n_stresses_ p_stresses
def n_planes_0 : List Str := ["frame", "forces", "lack"]
def n_planes_ : List Str := n_planes_0
def p_planes : List Str := ["frame", "forces"]
-- planes(frame, forces): 0 frame, 1 forces, 2 lack
def d_planes : Def := ⟨3, 2, (.seq (.expr (.call i_demand_drawing (.cons (.var 0) E.nil))) (.seq .any (.seq .any (.seq (.ite (.tru (.cmp .IsNot (.var 2) (.cst .non))) (.seq (.ret (.tup (.cons (.cst (.str "lack")) (.cons (.var 2) E.nil)))) S.skip) S.skip) (.seq .any S.skip)))))⟩
def t_planes : DefT := dt 118 n_planes_ p_planes
def n_accept_planes_0 : List Str := ["frame", "forces", "told", "walks", "row", "number", "left", "right", "step", "one", "more"]
def n_accept_planes_ : List Str := n_accept_planes_0
def p_accept_planes : List Str := ["frame", "forces", "told"]
-- accept_planes(frame, forces, told): 0 frame, 1 forces, 2 told, 3 walks, 4 row, 5 number, 6 left, 7 right, 8 step, 9 one, 10 more
def d_accept_planes : Def := ⟨11, 3, (.seq (.expr (.call i_demand_drawing (.cons (.var 0) E.nil))) (.seq .any (.seq (.ite (.or (.not (.tru (.isi (.var 2) [.tup]))) (.or (.tru (.cmp .NotEq (.blt .len (.cons (.var 2) E.nil)) (.cst (.int 2)))) (.not (.tru (.isi (.idx (.var 2) (.cst (.int 0))) [.str]))))) (.seq (.rai "PaperError" (.cons (.cst (.str "form")) E.nil)) S.skip) S.skip) (.seq (.ite (.tru (.cmp .NotIn (.idx (.var 2) (.cst (.int 0))) (.tup (.cons (.cst (.str "planes")) (.cons (.cst (.str "lack")) E.nil))))) (.seq (.rai "PaperError" (.cons (.cst (.str "form")) E.nil)) S.skip) S.skip) (.seq (.ite (.tru (.cmp .Eq (.idx (.var 2) (.cst (.int 0))) (.cst (.str "lack")))) (.seq .any (.seq .retN S.skip)) S.skip) (.seq .any (.seq .any (.seq .any (.seq .any S.skip)))))))))⟩
def t_accept_planes : DefT := dt 120 n_accept_planes_ p_accept_planes
def n_heights_0 : List Str := ["frame", "forces", "told", "walks", "found", "number", "own", "face", "walk", "step"]
def n_heights_ : List Str := n_heights_0
def p_heights : List Str := ["frame", "forces"]
-- heights(frame, forces): 0 frame, 1 forces, 2 told, 3 walks, 4 found, 5 number, 6 own, 7 face, 8 walk, 9 step
def d_heights : Def := ⟨10, 2, (.seq (.set 2 (.call i_planes (.cons (.var 0) (.cons (.var 1) E.nil)))) (.seq (.ite (.tru (.cmp .Eq (.idx (.var 2) (.cst (.int 0))) (.cst (.str "lack")))) (.seq (.ret (.cst .non)) S.skip) S.skip) (.seq .any (.seq (.own 4 (.lst E.nil)) (.seq (.loop (.nm 5) (.rng1 (.blt .len (.cons (.idx (.var 0) (.cst (.int 0))) E.nil))) (.seq (.set 6 (.comp (.var 7) (.t2 (.nm 7) (.nm 8)) (.enu (.var 3)) (.tru (.cmp .In (.var 5) (.comp (.idx (.var 9) (.cst (.int 0))) (.nm 9) (.seq (.var 8)) .nil))))) (.seq .any S.skip))) (.seq (.frz 4) (.seq (.ret (.blt .tuple (.cons (.var 4) E.nil))) S.skip)))))))⟩
def t_heights : DefT := dt 123 n_heights_ p_heights
def n_forces_under_0 : List Str := ["frame", "high", "walks", "rows", "number", "walk", "plane", "step", "forces", "bar", "left", "right", "far"]
def n_forces_under_ : List Str := n_forces_under_0
def p_forces_under : List Str := ["frame", "high"]
-- forces_under(frame, high): 0 frame, 1 high, 2 walks, 3 rows, 4 number, 5 walk, 6 plane, 7 step, 8 forces, 9 bar, 10 left, 11 right, 12 far
def d_forces_under : Def := ⟨13, 2, (.seq (.expr (.call i_demand_drawing (.cons (.var 0) E.nil))) (.seq .any (.seq .any (.seq (.own 3 (.lst E.nil)) (.seq (.loop (.t2 (.nm 4) (.nm 5)) (.enu (.var 2)) (.seq .any (.seq (.ite (.tru (.cmp .Is (.var 6) (.cst .non))) (.seq (.rai "ArgumentError" (.cons (.cst (.str "thin")) E.nil)) S.skip) S.skip) (.seq .any (.seq (.app 3 (.var 6)) S.skip))))) (.seq (.frz 3) (.seq (.own 8 (.lst E.nil)) (.seq .any (.seq (.frz 8) (.seq (.ret (.tup (.cons (.cst (.str "forces")) (.cons (.blt .tuple (.cons (.var 8) E.nil)) E.nil)))) S.skip))))))))))⟩
def t_forces_under : DefT := dt 126 n_forces_under_ p_forces_under
def n_reciprocal_0 : List Str := ["frame", "forces", "told", "row"]
def n_reciprocal_ : List Str := n_reciprocal_0
def p_reciprocal : List Str := ["frame", "forces"]
-- reciprocal(frame, forces): 0 frame, 1 forces, 2 told, 3 row
def d_reciprocal : Def := ⟨4, 2, (.seq (.set 2 (.call i_planes (.cons (.var 0) (.cons (.var 1) E.nil)))) (.seq (.ret (.ite (.tru (.cmp .Eq (.idx (.var 2) (.cst (.int 0))) (.cst (.str "lack")))) (.cst .non) (.blt .tuple (.cons (.comp (.slc (.var 3) .nil (.opt (.cst (.int 2)))) (.nm 3) (.seq (.idx (.var 2) (.cst (.int 1)))) .nil) E.nil)))) S.skip))⟩
def t_reciprocal : DefT := dt 127 n_reciprocal_ p_reciprocal
def n_forces_across_0 : List Str := ["frame", "places", "walks", "one", "forces", "bar", "left", "right", "far", "other"]
def n_forces_across_ : List Str := n_forces_across_0
def p_forces_across : List Str := ["frame", "places"]
-- forces_across(frame, places): 0 frame, 1 places, 2 walks, 3 one, 4 forces, 5 bar, 6 left, 7 right, 8 far, 9 other
def d_forces_across : Def := ⟨10, 2, (.seq (.expr (.call i_demand_drawing (.cons (.var 0) E.nil))) (.seq .any (.seq (.ite (.or (.not (.tru (.isi (.var 1) [.tup]))) (.tru (.cmp .NotEq (.blt .len (.cons (.var 1) E.nil)) (.blt .len (.cons (.var 2) E.nil))))) (.seq (.rai "ArgumentError" (.cons (.cst (.str "places")) E.nil)) S.skip) S.skip) (.seq .any (.seq (.own 4 (.lst E.nil)) (.seq .any (.seq (.frz 4) (.seq (.ret (.blt .tuple (.cons (.var 4) E.nil))) S.skip))))))))⟩
def t_forces_across : DefT := dt 128 n_forces_across_ p_forces_across
def n_lifted_0 : List Str := ["frame", "holds", "joints", "name", "x", "y", "hold", "bar"]
def n_lifted_ : List Str := n_lifted_0
def p_lifted : List Str := ["frame"]
-- lifted(frame): 0 frame, 1 holds, 2 joints, 3 name, 4 x, 5 y, 6 hold, 7 bar
def d_lifted : Def := ⟨8, 1, (.seq (.expr (.call i_check (.cons (.var 0) E.nil))) (.seq (.set 1 (.dsp (.kv (.cst (.str "free")) (.cst (.str "z")) (.kv (.cst (.str "fixed")) (.cst (.str "xyz")) (.kv (.cst (.str "along")) (.cst (.str "yz")) (.kv (.cst (.str "up")) (.cst (.str "xz")) E.nil)))))) (.seq (.set 2 (.blt .tuple (.cons (.comp (.tup (.cons (.var 3) (.cons (.var 4) (.cons (.var 5) (.cons (.cst (.int 0)) (.cons (.idx (.var 1) (.var 6)) E.nil)))))) (.t4 (.nm 3) (.nm 4) (.nm 5) (.nm 6)) (.seq (.idx (.var 0) (.cst (.int 0)))) .nil) E.nil))) (.seq (.ret (.tup (.cons (.var 2) (.cons (.blt .tuple (.cons (.comp (.slc (.var 7) .nil (.opt (.cst (.int 3)))) (.nm 7) (.seq (.idx (.var 0) (.cst (.int 1)))) .nil) E.nil)) E.nil)))) S.skip))))⟩
def t_lifted : DefT := dt 130 n_lifted_ p_lifted
def n_demand_all_0 : List Str := ["frame", "stiffs", "masses"]
def n_demand_all_ : List Str := n_demand_all_0
def p_demand_all : List Str := ["frame", "stiffs", "masses"]
-- demand_all(frame, stiffs, masses): 0 frame, 1 stiffs, 2 masses
def d_demand_all : Def := ⟨3, 3, (.seq (.expr (.call i_check (.cons (.var 0) E.nil))) (.seq .any (.seq .any (.seq .any S.skip))))⟩
def t_demand_all : DefT := dt 139 n_demand_all_ p_demand_all
def n_count_slower_0 : List Str := ["frame", "stiffs", "masses", "number"]
def n_count_slower_ : List Str := n_count_slower_0
def p_count_slower : List Str := ["frame", "stiffs", "masses", "number"]
-- count_slower(frame, stiffs, masses, number): 0 frame, 1 stiffs, 2 masses, 3 number
def d_count_slower : Def := ⟨4, 4, (.seq (.expr (.call i_demand_all (.cons (.var 0) (.cons (.var 1) (.cons (.var 2) E.nil))))) (.seq .any (.seq .any S.skip)))⟩
def t_count_slower : DefT := dt 147 n_count_slower_ p_count_slower
def n_slowest_below_0 : List Str := ["frame", "stiffs", "masses", "high", "low", "middle"]
def n_slowest_below_ : List Str := n_slowest_below_0
def p_slowest_below : List Str := ["frame", "stiffs", "masses"]
-- slowest_below(frame, stiffs, masses): 0 frame, 1 stiffs, 2 masses, 3 high, 4 low, 5 middle
def d_slowest_below : Def := ⟨6, 3, (.seq (.expr (.call i_demand_all (.cons (.var 0) (.cons (.var 1) (.cons (.var 2) E.nil))))) (.seq .any (.seq (.set 3 (.cst (.int 1))) (.seq .any (.seq (.set 4 (.bop .FloorDiv (.var 3) (.cst (.int 2)))) (.seq (.whl (.tru (.cmp .Lt (.bop .Add (.var 4) (.cst (.int 1))) (.var 3))) (.seq (.set 5 (.bop .FloorDiv (.bop .Add (.var 4) (.var 3)) (.cst (.int 2)))) (.seq .any S.skip))) (.seq (.ret (.var 3)) S.skip)))))))⟩
def t_slowest_below : DefT := dt 148 n_slowest_below_ p_slowest_below
def n_quotient_0 : List Str := ["frame", "stiffs", "masses", "motion", "part", "strain", "weight"]
def n_quotient_ : List Str := n_quotient_0
def p_quotient : List Str := ["frame", "stiffs", "masses", "motion"]
-- quotient(frame, stiffs, masses, motion): 0 frame, 1 stiffs, 2 masses, 3 motion, 4 part, 5 strain, 6 weight
def d_quotient : Def := ⟨7, 4, (.seq (.expr (.call i_demand_all (.cons (.var 0) (.cons (.var 1) (.cons (.var 2) E.nil))))) (.seq .any (.seq .any (.seq .any S.skip))))⟩
def t_quotient : DefT := dt 150 n_quotient_ p_quotient
def n_is_swinging_0 : List Str := ["frame", "stiffs", "masses", "motion", "number", "own", "rows", "row", "part"]
def n_is_swinging_ : List Str := n_is_swinging_0
def p_is_swinging : List Str := ["frame", "stiffs", "masses", "motion", "number"]
-- is_swinging(frame, stiffs, masses, motion, number): 0 frame, 1 stiffs, 2 masses, 3 motion, 4 number, 5 own, 6 rows, 7 row, 8 part
def d_is_swinging : Def := ⟨9, 5, (.seq (.expr (.call i_demand_all (.cons (.var 0) (.cons (.var 1) (.cons (.var 2) E.nil))))) (.seq .any (.seq .any (.seq .any (.seq .any (.seq .any S.skip))))))⟩
def t_is_swinging : DefT := dt 151 n_is_swinging_ p_is_swinging
def n_accept_slower_0 : List Str := ["frame", "stiffs", "masses", "number", "told", "motion", "rows", "own", "square", "row", "other", "one", "part"]
def n_accept_slower_ : List Str := n_accept_slower_0
def p_accept_slower : List Str := ["frame", "stiffs", "masses", "number", "told"]
-- accept_slower(frame, stiffs, masses, number, told): 0 frame, 1 stiffs, 2 masses, 3 number, 4 told, 5 motion, 6 rows, 7 own, 8 square, 9 row, 10 other, 11 one, 12 part
def d_accept_slower : Def := ⟨13, 5, (.seq (.expr (.call i_demand_all (.cons (.var 0) (.cons (.var 1) (.cons (.var 2) E.nil))))) (.seq .any (.seq .any (.seq .any (.seq .any (.seq .any (.seq .any S.skip)))))))⟩
def t_accept_slower : DefT := dt 152 n_accept_slower_ p_accept_slower
def n_best_of_0 : List Str := ["frame", "stiffs", "masses", "motions", "motion", "part", "best", "number", "strain", "weight", "found"]
def n_best_of_ : List Str := n_best_of_0
def p_best_of : List Str := ["frame", "stiffs", "masses", "motions"]
-- best_of(frame, stiffs, masses, motions): 0 frame, 1 stiffs, 2 masses, 3 motions, 4 motion, 5 part, 6 best, 7 number, 8 strain, 9 weight, 10 found
def d_best_of : Def := ⟨11, 4, (.seq (.expr (.call i_demand_all (.cons (.var 0) (.cons (.var 1) (.cons (.var 2) E.nil))))) (.seq .any (.seq .any (.seq (.set 6 (.cst .non)) (.seq (.loop (.t2 (.nm 7) (.nm 4)) (.enu (.var 3)) (.seq .any (.seq .any (.seq .any S.skip)))) (.seq (.ret (.idx (.var 6) (.cst (.int 1)))) S.skip))))))⟩
def t_best_of : DefT := dt 153 n_best_of_ p_best_of
def n_demand_work_0 : List Str := ["frame", "weights"]
def n_demand_work_ : List Str := n_demand_work_0
def p_demand_work : List Str := ["frame", "weights"]
-- demand_work(frame, weights): 0 frame, 1 weights
def d_demand_work : Def := ⟨2, 2, (.seq (.expr (.call i_check (.cons (.var 0) E.nil))) (.seq .any (.seq .any S.skip)))⟩
def t_demand_work : DefT := dt 158 n_demand_work_ p_demand_work
def n_stand_table_0 : List Str := ["frame", "weights", "one"]
def n_stand_table_ : List Str := n_stand_table_0
def p_stand_table : List Str := ["frame", "weights"]
-- stand_table(frame, weights): 0 frame, 1 weights, 2 one
def d_stand_table : Def := ⟨3, 2, (.seq (.expr (.call i_demand_work (.cons (.var 0) (.cons (.var 1) E.nil)))) (.seq .any S.skip))⟩
def t_stand_table : DefT := dt 162 n_stand_table_ p_stand_table
def n_down_table_0 : List Str := ["frame", "weights", "most"]
def n_down_table_ : List Str := n_down_table_0
def p_down_table : List Str := ["frame", "weights", "most"]
-- down_table(frame, weights, most): 0 frame, 1 weights, 2 most
def d_down_table : Def := ⟨3, 3, (.seq (.expr (.call i_demand_work (.cons (.var 0) (.cons (.var 1) E.nil)))) (.seq .any (.seq .any S.skip)))⟩
def t_down_table : DefT := dt 167 n_down_table_ p_down_table
def n_accept_down_table_0 : List Str := ["frame", "weights", "most", "told", "entry", "standing", "one"]
def n_accept_down_table_ : List Str := n_accept_down_table_0
def p_accept_down_table : List Str := ["frame", "weights", "most", "told"]
-- accept_down_table(frame, weights, most, told): 0 frame, 1 weights, 2 most, 3 told, 4 entry, 5 standing, 6 one
def d_accept_down_table : Def := ⟨7, 4, (.seq (.expr (.call i_demand_work (.cons (.var 0) (.cons (.var 1) E.nil)))) (.seq .any (.seq (.ite (.or (.not (.tru (.isi (.var 3) [.tup]))) (.tru (.cmp .NotEq (.blt .len (.cons (.var 3) E.nil)) (.bop .LShift (.cst (.int 1)) (.blt .len (.cons (.idx (.var 0) (.cst (.int 1))) E.nil)))))) (.seq (.rai "PaperError" (.cons (.cst (.str "form")) E.nil)) S.skip) S.skip) (.seq (.ite (.not (.tru (.blt .all (.cons (.comp (.orv (.cmp .Is (.var 4) (.cst .non)) (.call i_is_integer (.cons (.var 4) E.nil))) (.nm 4) (.seq (.var 3)) .nil) E.nil)))) (.seq (.rai "PaperError" (.cons (.cst (.str "form")) E.nil)) S.skip) S.skip) (.seq .any (.seq (.loop (.t2 (.nm 6) (.nm 4)) (.enu (.var 3)) (.seq .any S.skip)) S.skip))))))⟩
def t_accept_down_table : DefT := dt 168 n_accept_down_table_ p_accept_down_table
def n_way_down_0 : List Str := ["frame", "weights", "most", "table", "one", "steps", "part"]
def n_way_down_ : List Str := n_way_down_0
def p_way_down : List Str := ["frame", "weights", "most"]
-- way_down(frame, weights, most): 0 frame, 1 weights, 2 most, 3 table, 4 one, 5 steps, 6 part
def d_way_down : Def := ⟨7, 3, (.seq (.expr (.call i_demand_work (.cons (.var 0) (.cons (.var 1) E.nil)))) (.seq .any (.seq .any (.seq (.set 4 (.bop .Sub (.blt .len (.cons (.var 3) E.nil)) (.cst (.int 1)))) (.seq (.ite (.tru (.cmp .Is (.idx (.var 3) (.var 4)) (.cst .non))) (.seq (.ret (.cst .non)) S.skip) S.skip) (.seq (.own 5 (.lst E.nil)) (.seq (.whl (.tru (.cmp .Gt (.var 4) (.cst (.int 0)))) (.seq .any (.seq .any (.seq (.aug .Sub 4 (.var 6)) S.skip)))) (.seq (.frz 5) (.seq (.ret (.blt .tuple (.cons (.var 5) E.nil))) S.skip)))))))))⟩
def t_way_down : DefT := dt 170 n_way_down_ p_way_down
def n_first_fall_0 : List Str := ["frame", "weights", "steps"]
def n_first_fall_ : List Str := n_first_fall_0
def p_first_fall : List Str := ["frame", "weights", "steps"]
-- first_fall(frame, weights, steps): 0 frame, 1 weights, 2 steps
def d_first_fall : Def := ⟨3, 3, (.seq (.expr (.call i_demand_work (.cons (.var 0) (.cons (.var 1) E.nil)))) (.seq .any (.seq .any S.skip)))⟩
def t_first_fall : DefT := dt 173 n_first_fall_ p_first_fall
def n_accept_way_down_0 : List Str := ["frame", "weights", "most", "told", "table", "row"]
def n_accept_way_down_ : List Str := n_accept_way_down_0
def p_accept_way_down : List Str := ["frame", "weights", "most", "told"]
-- accept_way_down(frame, weights, most, told): 0 frame, 1 weights, 2 most, 3 told, 4 table, 5 row
def d_accept_way_down : Def := ⟨6, 4, (.seq (.expr (.call i_demand_work (.cons (.var 0) (.cons (.var 1) E.nil)))) (.seq .any (.seq .any (.seq (.ite (.tru (.cmp .Is (.var 3) (.cst .non))) (.seq (.ite (.tru (.cmp .IsNot (.idx (.var 4) (.neg (.cst (.int 1)))) (.cst .non))) (.seq (.rai "PaperError" (.cons (.cst (.str "none")) E.nil)) S.skip) S.skip) (.seq .retN S.skip)) S.skip) (.seq .any (.seq .any (.seq (.ite (.tru (.cmp .NotEq (.blt .len (.cons (.var 3) E.nil)) (.idx (.var 4) (.neg (.cst (.int 1)))))) (.seq (.rai "PaperError" (.cons (.cst (.str "fewest")) E.nil)) S.skip) S.skip) S.skip)))))))⟩
def t_accept_way_down : DefT := dt 174 n_accept_way_down_ p_accept_way_down
def n_fewest_at_once_0 : List Str := ["frame", "weights", "most"]
def n_fewest_at_once_ : List Str := n_fewest_at_once_0
def p_fewest_at_once : List Str := ["frame", "weights"]
-- fewest_at_once(frame, weights): 0 frame, 1 weights, 2 most
def d_fewest_at_once : Def := ⟨3, 2, (.seq (.expr (.call i_demand_work (.cons (.var 0) (.cons (.var 1) E.nil)))) (.seq .any (.seq (.loop (.nm 2) (.rng1 (.bop .Add (.blt .len (.cons (.idx (.var 0) (.cst (.int 1))) E.nil)) (.cst (.int 1)))) (.seq .any S.skip)) (.seq (.ret (.cst .non)) S.skip))))⟩
def t_fewest_at_once : DefT := dt 175 n_fewest_at_once_ p_fewest_at_once
def n_first_to_go_0 : List Str := ["frame", "weights", "most", "table", "full", "parts", "part", "names", "name", "bar"]
def n_first_to_go_ : List Str := n_first_to_go_0
def p_first_to_go : List Str := ["frame", "weights", "most"]
-- first_to_go(frame, weights, most): 0 frame, 1 weights, 2 most, 3 table, 4 full, 5 parts, 6 part, 7 names, 8 name, 9 bar
def d_first_to_go : Def := ⟨10, 3, (.seq (.expr (.call i_demand_work (.cons (.var 0) (.cons (.var 1) E.nil)))) (.seq .any (.seq .any (.seq (.set 4 (.bop .Sub (.blt .len (.cons (.var 3) E.nil)) (.cst (.int 1)))) (.seq (.ite (.tru (.cmp .Is (.idx (.var 3) (.var 4)) (.cst .non))) (.seq (.ret (.tup E.nil)) S.skip) S.skip) (.seq .any (.seq (.own 7 .dnew) (.seq (.loop (.nm 6) (.seq (.var 5)) (.seq .any S.skip)) (.seq (.frz 7) (.seq (.ret (.blt .tuple (.cons (.comp (.idx (.var 9) (.cst (.int 0))) (.nm 9) (.seq (.idx (.var 0) (.cst (.int 1)))) (.tru (.cmp .In (.idx (.var 9) (.cst (.int 0))) (.var 7)))) E.nil))) S.skip))))))))))⟩
def t_first_to_go : DefT := dt 176 n_first_to_go_ p_first_to_go
def n__law_one_0 : List Str := ["rows", "draws", "at"]
def n__law_one_ : List Str := n__law_one_0
def p__law_one : List Str := ["rows", "draws", "at"]
-- _law_one(rows, draws, at): 0 rows, 1 draws, 2 at
def d__law_one : Def := ⟨3, 3, (.seq (.ret (.idx (.var 0) (.take 1 2 (.blt .len (.cons (.var 0) E.nil))))) S.skip)⟩
def t__law_one : DefT := dt 181 n__law_one_ p__law_one
def n__law_frame_0 : List Str := ["draws", "at", "most", "names", "count", "span", "joints", "bars", "k", "hold", "first", "step", "j", "ends"]
def n__law_frame_1 : List Str := ["sorts", "rows"]
def n__law_frame_ : List Str := n__law_frame_0 ++ n__law_frame_1
def p__law_frame : List Str := ["draws", "at", "most"]
-- _law_frame(draws, at, most): 0 draws, 1 at, 2 most, 3 names, 4 count, 5 span, 6 joints, 7 bars, 8 k, 9 hold, 10 first, 11 step, 12 j, 13 ends, 14 sorts, 15 rows
def d__law_frame : Def := ⟨16, 3, (.seq (.set 3 (.lst (.cons (.cst (.str "A")) (.cons (.cst (.str "b")) (.cons (.cst (.str "C_1")) (.cons (.cst (.str "dd")) (.cons (.cst (.str "E")) (.cons (.cst (.str "F6")) (.cons (.cst (.str "g")) (.cons (.cst (.str "hhhhhhhhhhhh")) (.cons (.cst (.str "J")) (.cons (.cst (.str "k")) (.cons (.cst (.str "L9_")) (.cons (.cst (.str "b0")) E.nil)))))))))))))) (.seq (.set 4 (.bop .Add (.cst (.int 1)) (.take 0 1 (.var 2)))) (.seq (.set 5 (.call i__law_one (.cons (.lst (.cons (.cst (.int 2)) (.cons (.cst (.int 3)) (.cons (.cst (.int 8)) (.cons (.cst (.int 40)) (.cons (.cst (.int 1000)) E.nil)))))) (.cons (.var 0) (.cons (.var 1) E.nil))))) (.seq (.own 6 (.lst E.nil)) (.seq (.own 7 (.lst E.nil)) (.seq (.loop (.nm 8) (.rng1 (.var 4)) (.seq (.set 9 (.call i__law_one (.cons (.lst (.cons (.cst (.str "free")) (.cons (.cst (.str "free")) (.cons (.cst (.str "free")) (.cons (.cst (.str "free")) (.cons (.cst (.str "free")) (.cons (.cst (.str "free")) (.cons (.cst (.str "fixed")) (.cons (.cst (.str "along")) (.cons (.cst (.str "up")) E.nil)))))))))) (.cons (.var 0) (.cons (.var 1) E.nil))))) (.seq (.ite (.tru (.cmp .Lt (.var 8) (.cst (.int 2)))) (.seq (.set 9 (.call i__law_one (.cons (.lst (.cons (.cst (.str "fixed")) (.cons (.cst (.str "fixed")) (.cons (.cst (.str "fixed")) (.cons (.cst (.str "along")) (.cons (.cst (.str "up")) (.cons (.cst (.str "free")) E.nil))))))) (.cons (.var 0) (.cons (.var 1) E.nil))))) S.skip) S.skip) (.seq (.app 6 (.tup (.cons (.idx (.var 3) (.var 8)) (.cons (.bop .Sub (.take 0 1 (.bop .Add (.bop .Mult (.cst (.int 2)) (.var 5)) (.cst (.int 1)))) (.var 5)) (.cons (.bop .Sub (.take 0 1 (.bop .Add (.bop .Mult (.cst (.int 2)) (.var 5)) (.cst (.int 1)))) (.var 5)) (.cons (.var 9) E.nil)))))) (.seq (.set 10 (.take 0 1 (.cst (.int 12)))) (.seq (.set 11 (.bop .Add (.cst (.int 1)) (.take 0 1 (.cst (.int 5))))) (.seq (.loop (.nm 12) (.rng1 (.ite (.tru (.cmp .Gt (.var 8) (.cst (.int 0)))) (.call i__law_one (.cons (.lst (.cons (.cst (.int 2)) (.cons (.cst (.int 2)) (.cons (.cst (.int 2)) (.cons (.cst (.int 2)) (.cons (.cst (.int 2)) (.cons (.cst (.int 1)) (.cons (.cst (.int 3)) (.cons (.cst (.int 0)) E.nil))))))))) (.cons (.var 0) (.cons (.var 1) E.nil)))) (.cst (.int 0)))) (.seq (.set 13 (.lst (.cons (.idx (.ovar 6) (.var 8)) (.cons (.idx (.ovar 6) (.bop .Mod (.blt .int (.cons (.bop .Add (.var 10) (.bop .Mult (.var 12) (.var 11))) E.nil)) (.var 8))) E.nil)))) (.seq (.app 7 (.ite (.tru (.cmp .Eq (.take 0 1 (.cst (.int 2))) (.cst (.int 0)))) (.rev (.var 13)) (.var 13))) S.skip))) S.skip))))))) (.seq (.frz 6) (.seq (.loop (.nm 12) (.rng1 (.call i__law_one (.cons (.lst (.cons (.cst (.int 0)) (.cons (.cst (.int 0)) (.cons (.cst (.int 1)) (.cons (.cst (.int 2)) (.cons (.cst (.int 5)) E.nil)))))) (.cons (.var 0) (.cons (.var 1) E.nil))))) (.seq (.app 7 (.lst (.cons (.call i__law_one (.cons (.var 6) (.cons (.var 0) (.cons (.var 1) E.nil)))) (.cons (.call i__law_one (.cons (.var 6) (.cons (.var 0) (.cons (.var 1) E.nil)))) E.nil)))) S.skip)) (.seq (.frz 7) (.seq (.set 7 (.slc (.comp (.var 13) (.nm 13) (.seq (.var 7)) (.tru (.cmp .NotEq (.slc (.idx (.var 13) (.cst (.int 0))) (.opt (.cst (.int 1))) (.opt (.cst (.int 3)))) (.slc (.idx (.var 13) (.cst (.int 1))) (.opt (.cst (.int 1))) (.opt (.cst (.int 3))))))) .nil (.opt (.cst (.int 30))))) (.seq (.ite (.tru (.cmp .Eq (.take 0 1 (.cst (.int 3))) (.cst (.int 0)))) (.seq (.set 7 (.rev (.var 7))) S.skip) S.skip) (.seq (.set 14 (.call i__law_one (.cons (.lst (.cons (.lst (.cons (.cst (.str "bar")) E.nil)) (.cons (.lst (.cons (.cst (.str "bar")) (.cons (.cst (.str "bar")) (.cons (.cst (.str "rope")) (.cons (.cst (.str "strut")) E.nil))))) (.cons (.lst (.cons (.cst (.str "rope")) (.cons (.cst (.str "strut")) E.nil))) (.cons (.lst (.cons (.cst (.str "rope")) (.cons (.cst (.str "rope")) (.cons (.cst (.str "bar")) E.nil)))) E.nil))))) (.cons (.var 0) (.cons (.var 1) E.nil))))) (.seq (.set 15 (.comp (.tup (.cons (.bop .Add (.cst (.str "b")) (.blt .str (.cons (.var 8) E.nil))) (.cons (.idx (.idx (.idx (.var 7) (.var 8)) (.cst (.int 0))) (.cst (.int 0))) (.cons (.idx (.idx (.idx (.var 7) (.var 8)) (.cst (.int 1))) (.cst (.int 0))) (.cons (.call i__law_one (.cons (.var 14) (.cons (.var 0) (.cons (.var 1) E.nil)))) E.nil))))) (.nm 8) (.rng1 (.blt .len (.cons (.var 7) E.nil))) .nil)) (.seq (.ret (.tup (.cons (.blt .tuple (.cons (.var 6) E.nil)) (.cons (.blt .tuple (.cons (.var 15) E.nil)) E.nil)))) S.skip))))))))))))))⟩
def t__law_frame : DefT := dt 182 n__law_frame_ p__law_frame
def n__law_called_0_0 : List Str := ["which", "frame"]
def n__law_called_0_ : List Str := n__law_called_0_0
def p__law_called_0 : List Str := ["which", "frame"]
-- _law_called_0(which, frame): 0 which, 1 frame
def d__law_called_0 : Def := ⟨2, 2, (.seq (.ite (.tru (.cmp .Eq (.var 0) (.cst (.int 0)))) (.seq (.expr (.call i_trouble (.cons (.var 1) E.nil))) S.skip) (.seq (.ite (.tru (.cmp .Eq (.var 0) (.cst (.int 1)))) (.seq (.expr (.call i_faces (.cons (.var 1) E.nil))) S.skip) (.seq (.ite (.tru (.cmp .Eq (.var 0) (.cst (.int 2)))) (.seq (.expr (.call i_outer_face (.cons (.var 1) E.nil))) S.skip) (.seq (.ite (.tru (.cmp .Eq (.var 0) (.cst (.int 3)))) (.seq (.expr (.call i_sides (.cons (.var 1) E.nil))) S.skip) (.seq (.ite (.tru (.cmp .Eq (.var 0) (.cst (.int 4)))) (.seq (.expr (.call i_stresses (.cons (.var 1) E.nil))) S.skip) (.seq (.ite (.tru (.cmp .Eq (.var 0) (.cst (.int 5)))) (.seq (.expr (.call i_planes (.cons (.var 1) (.cons (.cst .non) E.nil)))) S.skip) (.seq (.ite (.tru (.cmp .Eq (.var 0) (.cst (.int 6)))) (.seq (.expr (.call i_accept_planes (.cons (.var 1) (.cons (.cst .non) (.cons (.cst .non) E.nil))))) S.skip) (.seq (.ite (.tru (.cmp .Eq (.var 0) (.cst (.int 7)))) (.seq (.expr (.call i_heights (.cons (.var 1) (.cons (.cst .non) E.nil)))) S.skip) (.seq (.ite (.tru (.cmp .Eq (.var 0) (.cst (.int 8)))) (.seq (.expr (.call i_reciprocal (.cons (.var 1) (.cons (.cst .non) E.nil)))) S.skip) (.seq (.ite (.tru (.cmp .Eq (.var 0) (.cst (.int 9)))) (.seq (.expr (.call i_forces_under (.cons (.var 1) (.cons (.cst .non) E.nil)))) S.skip) (.seq (.ite (.tru (.cmp .Eq (.var 0) (.cst (.int 10)))) (.seq (.expr (.call i_forces_across (.cons (.var 1) (.cons (.cst .non) E.nil)))) S.skip) (.seq (.ite (.tru (.cmp .Eq (.var 0) (.cst (.int 11)))) (.seq (.expr (.call i_can_fit (.cons (.var 1) (.cons (.cst .non) E.nil)))) S.skip) (.seq (.ite (.tru (.cmp .Eq (.var 0) (.cst (.int 12)))) (.seq (.expr (.call i_accept_can_fit (.cons (.var 1) (.cons (.cst .non) (.cons (.cst .non) E.nil))))) S.skip) (.seq (.ite (.tru (.cmp .Eq (.var 0) (.cst (.int 13)))) (.seq (.expr (.call i_hurtless (.cons (.var 1) E.nil))) S.skip) (.seq (.ite (.tru (.cmp .Eq (.var 0) (.cst (.int 14)))) (.seq (.expr (.call i_fewest_anew (.cons (.var 1) (.cons (.cst .non) E.nil)))) S.skip) (.seq (.ite (.tru (.cmp .Eq (.var 0) (.cst (.int 15)))) (.seq (.expr (.call i_accept_fewest_anew (.cons (.var 1) (.cons (.cst .non) (.cons (.cst .non) E.nil))))) S.skip) (.seq (.ite (.tru (.cmp .Eq (.var 0) (.cst (.int 16)))) (.seq (.expr (.call i_misfit_forces (.cons (.var 1) (.cons (.cst .non) (.cons (.cst .non) E.nil))))) S.skip) (.seq (.ite (.tru (.cmp .Eq (.var 0) (.cst (.int 17)))) (.seq (.expr (.call i_accept_misfit_forces (.cons (.var 1) (.cons (.cst .non) (.cons (.cst .non) (.cons (.cst .non) E.nil)))))) S.skip) S.skip) S.skip)) S.skip)) S.skip)) S.skip)) S.skip)) S.skip)) S.skip)) S.skip)) S.skip)) S.skip)) S.skip)) S.skip)) S.skip)) S.skip)) S.skip)) S.skip)) S.skip)) S.skip)⟩
def t__law_called_0 : DefT := dt 183 n__law_called_0_ p__law_called_0
def n__law_called_1_0 : List Str := ["which", "frame"]
def n__law_called_1_ : List Str := n__law_called_1_0
def p__law_called_1 : List Str := ["which", "frame"]
-- _law_called_1(which, frame): 0 which, 1 frame
def d__law_called_1 : Def := ⟨2, 2, (.seq (.ite (.tru (.cmp .Eq (.var 0) (.cst (.int 0)))) (.seq (.expr (.call i_misfit_energy (.cons (.var 1) (.cons (.cst .non) (.cons (.cst .non) E.nil))))) S.skip) (.seq (.ite (.tru (.cmp .Eq (.var 0) (.cst (.int 1)))) (.seq (.expr (.call i_answers (.cons (.var 1) (.cons (.cst .non) (.cons (.cst .non) E.nil))))) S.skip) (.seq (.ite (.tru (.cmp .Eq (.var 0) (.cst (.int 2)))) (.seq (.expr (.call i_stand_table (.cons (.var 1) (.cons (.cst .non) E.nil)))) S.skip) (.seq (.ite (.tru (.cmp .Eq (.var 0) (.cst (.int 3)))) (.seq (.expr (.call i_down_table (.cons (.var 1) (.cons (.cst .non) (.cons (.cst .non) E.nil))))) S.skip) (.seq (.ite (.tru (.cmp .Eq (.var 0) (.cst (.int 4)))) (.seq (.expr (.call i_accept_down_table (.cons (.var 1) (.cons (.cst .non) (.cons (.cst .non) (.cons (.cst .non) E.nil)))))) S.skip) (.seq (.ite (.tru (.cmp .Eq (.var 0) (.cst (.int 5)))) (.seq (.expr (.call i_way_down (.cons (.var 1) (.cons (.cst .non) (.cons (.cst .non) E.nil))))) S.skip) (.seq (.ite (.tru (.cmp .Eq (.var 0) (.cst (.int 6)))) (.seq (.expr (.call i_accept_way_down (.cons (.var 1) (.cons (.cst .non) (.cons (.cst .non) (.cons (.cst .non) E.nil)))))) S.skip) (.seq (.ite (.tru (.cmp .Eq (.var 0) (.cst (.int 7)))) (.seq (.expr (.call i_first_to_go (.cons (.var 1) (.cons (.cst .non) (.cons (.cst .non) E.nil))))) S.skip) (.seq (.ite (.tru (.cmp .Eq (.var 0) (.cst (.int 8)))) (.seq (.expr (.call i_fewest_at_once (.cons (.var 1) (.cons (.cst .non) E.nil)))) S.skip) (.seq (.ite (.tru (.cmp .Eq (.var 0) (.cst (.int 9)))) (.seq (.expr (.call i_first_fall (.cons (.var 1) (.cons (.cst .non) (.cons (.cst .non) E.nil))))) S.skip) (.seq (.ite (.tru (.cmp .Eq (.var 0) (.cst (.int 10)))) (.seq (.expr (.call i_count_slower (.cons (.var 1) (.cons (.cst .non) (.cons (.cst .non) (.cons (.cst .non) E.nil)))))) S.skip) (.seq (.ite (.tru (.cmp .Eq (.var 0) (.cst (.int 11)))) (.seq (.expr (.call i_accept_slower (.cons (.var 1) (.cons (.cst .non) (.cons (.cst .non) (.cons (.cst .non) (.cons (.cst .non) E.nil))))))) S.skip) (.seq (.ite (.tru (.cmp .Eq (.var 0) (.cst (.int 12)))) (.seq (.expr (.call i_slowest_below (.cons (.var 1) (.cons (.cst .non) (.cons (.cst .non) E.nil))))) S.skip) (.seq (.ite (.tru (.cmp .Eq (.var 0) (.cst (.int 13)))) (.seq (.expr (.call i_quotient (.cons (.var 1) (.cons (.cst .non) (.cons (.cst .non) (.cons (.cst .non) E.nil)))))) S.skip) (.seq (.ite (.tru (.cmp .Eq (.var 0) (.cst (.int 14)))) (.seq (.expr (.call i_is_swinging (.cons (.var 1) (.cons (.cst .non) (.cons (.cst .non) (.cons (.cst .non) (.cons (.cst .non) E.nil))))))) S.skip) (.seq (.ite (.tru (.cmp .Eq (.var 0) (.cst (.int 15)))) (.seq (.expr (.call i_best_of (.cons (.var 1) (.cons (.cst .non) (.cons (.cst .non) (.cons (.cst .non) E.nil)))))) S.skip) (.seq (.ite (.tru (.cmp .Eq (.var 0) (.cst (.int 16)))) (.seq (.expr (.call i_lifted (.cons (.var 1) E.nil))) S.skip) S.skip) S.skip)) S.skip)) S.skip)) S.skip)) S.skip)) S.skip)) S.skip)) S.skip)) S.skip)) S.skip)) S.skip)) S.skip)) S.skip)) S.skip)) S.skip)) S.skip)) S.skip)⟩
def t__law_called_1 : DefT := dt 184 n__law_called_1_ p__law_called_1
def n__law_told_0 : List Str := ["which", "frame", "e"]
def n__law_told_ : List Str := n__law_told_0
def p__law_told : List Str := ["which", "frame"]
-- _law_told(which, frame): 0 which, 1 frame, 2 e
def d__law_told : Def := ⟨3, 2, (.seq (.tri (.seq (.ite (.tru (.cmp .Lt (.var 0) (.cst (.int 18)))) (.seq (.expr (.call i__law_called_0 (.cons (.var 0) (.cons (.var 1) E.nil)))) S.skip) (.seq (.expr (.call i__law_called_1 (.cons (.bop .Sub (.var 0) (.cst (.int 18))) (.cons (.var 1) E.nil)))) S.skip)) S.skip) [("FrameError", 2, (.iteV "CheckError" (.fld "reason") (.cst (.str "another"))))]) (.seq (.ret (.cst (.str "none"))) S.skip))⟩
def t__law_told : DefT := dt 185 n__law_told_ p__law_told
def n__law_wrong_0 : List Str := ["frame", "draws", "at", "joints", "bars", "name", "rows", "odd", "some"]
def n__law_wrong_ : List Str := n__law_wrong_0
def p__law_wrong : List Str := ["frame", "draws", "at"]
-- _law_wrong(frame, draws, at): 0 frame, 1 draws, 2 at, 3 joints, 4 bars, 5 name, 6 rows, 7 odd, 8 some
def d__law_wrong : Def := ⟨9, 3, (.seq (.setT (.t2 (.nm 3) (.nm 4)) (.var 0)) (.seq (.set 5 (.idx (.idx (.var 3) (.take 1 2 (.blt .len (.cons (.var 3) E.nil)))) (.cst (.int 0)))) (.seq (.own 6 (.lst (.cons (.tup (.cons (.cst .non) (.cons (.cst (.str "form")) E.nil))) (.cons (.tup (.cons (.cst (.int 5)) (.cons (.cst (.str "form")) E.nil))) (.cons (.tup (.cons (.cst (.str "ab")) (.cons (.cst (.str "form")) E.nil))) (.cons (.tup (.cons (.tup (.cons (.var 3) E.nil)) (.cons (.cst (.str "form")) E.nil))) (.cons (.tup (.cons (.bop .Add (.var 0) (.tup (.cons (.tup E.nil) E.nil))) (.cons (.cst (.str "form")) E.nil))) (.cons (.tup (.cons (.tup (.cons (.var 3) (.cons (.cst .non) E.nil))) (.cons (.cst (.str "form")) E.nil))) (.cons (.tup (.cons (.tup (.cons (.bop .Add (.var 3) (.tup (.cons (.tup (.cons (.var 5) (.cons (.cst (.int 0)) (.cons (.cst (.int 0)) E.nil)))) E.nil))) (.cons (.var 4) E.nil))) (.cons (.cst (.str "form")) E.nil))) E.nil))))))))) (.seq (.own 6 (.bop .Add (.ovar 6) (.lst (.cons (.tup (.cons (.tup (.cons (.tup E.nil) (.cons (.tup E.nil) E.nil))) (.cons (.cst (.str "many")) E.nil))) (.cons (.tup (.cons (.tup (.cons (.bop .Mult (.var 3) (.cst (.int 13))) (.cons (.var 4) E.nil))) (.cons (.cst (.str "many")) E.nil))) (.cons (.tup (.cons (.tup (.cons (.var 3) (.cons (.bop .Mult (.tup (.cons (.tup (.cons (.cst (.str "q")) (.cons (.var 5) (.cons (.var 5) (.cons (.cst (.str "bar")) E.nil))))) E.nil)) (.cst (.int 31))) E.nil))) (.cons (.cst (.str "many")) E.nil))) E.nil)))))) (.seq (.loop (.nm 7) (.seq (.lst (.cons (.var 5) (.cons (.cst (.str "")) (.cons (.cst (.str "1a")) (.cons (.bop .Mult (.cst (.str "x")) (.cst (.int 13))) (.cons (.cst .non) (.cons (.cst (.int 5)) (.cons (.cst (.str "a-b")) E.nil))))))))) (.seq (.app 6 (.tup (.cons (.tup (.cons (.ite (.tru (.cmp .NotEq (.var 7) (.var 5))) (.bop .Add (.slc (.var 3) .nil (.opt (.cst (.int 11)))) (.tup (.cons (.tup (.cons (.var 7) (.cons (.cst (.int 0)) (.cons (.cst (.int 0)) (.cons (.cst (.str "free")) E.nil))))) E.nil))) (.bop .Add (.slc (.var 3) .nil (.opt (.cst (.int 1)))) (.slc (.var 3) .nil (.opt (.cst (.int 1)))))) (.cons (.var 4) E.nil))) (.cons (.cst (.str "joint")) E.nil)))) S.skip)) (.seq (.loop (.nm 7) (.seq (.lst (.cons (.cst (.int 1001)) (.cons (.neg (.cst (.int 1001))) (.cons (.cst .non) (.cons (.cst (.bl true)) (.cons (.cst (.str "0")) E.nil))))))) (.seq (.app 6 (.tup (.cons (.tup (.cons (.bop .Add (.slc (.var 3) .nil (.opt (.cst (.int 11)))) (.tup (.cons (.tup (.cons (.cst (.str "new")) (.cons (.var 7) (.cons (.cst (.int 0)) (.cons (.cst (.str "free")) E.nil))))) E.nil))) (.cons (.var 4) E.nil))) (.cons (.cst (.str "place")) E.nil)))) S.skip)) (.seq (.loop (.nm 7) (.seq (.lst (.cons (.cst (.str "loose")) (.cons (.cst (.str "")) (.cons (.cst .non) (.cons (.cst (.int 5)) E.nil)))))) (.seq (.app 6 (.tup (.cons (.tup (.cons (.bop .Add (.slc (.var 3) .nil (.opt (.cst (.int 11)))) (.tup (.cons (.tup (.cons (.cst (.str "new")) (.cons (.cst (.int 0)) (.cons (.cst (.int 0)) (.cons (.var 7) E.nil))))) E.nil))) (.cons (.var 4) E.nil))) (.cons (.cst (.str "hold")) E.nil)))) S.skip)) (.seq (.set 8 (.slc (.var 4) .nil (.opt (.cst (.int 29))))) (.seq (.loop (.nm 7) (.seq (.lst (.cons (.cst (.str "")) (.cons (.cst (.str "1a")) (.cons (.cst .non) (.cons (.cst (.int 5)) E.nil)))))) (.seq (.app 6 (.tup (.cons (.tup (.cons (.var 3) (.cons (.bop .Add (.var 8) (.tup (.cons (.tup (.cons (.var 7) (.cons (.var 5) (.cons (.var 5) (.cons (.cst (.str "bar")) E.nil))))) E.nil))) E.nil))) (.cons (.cst (.str "bar")) E.nil)))) S.skip)) (.seq (.loop (.nm 7) (.seq (.lst (.cons (.cst (.str "zz")) (.cons (.cst (.str "")) (.cons (.cst .non) (.cons (.var 5) E.nil)))))) (.seq (.app 6 (.tup (.cons (.tup (.cons (.var 3) (.cons (.bop .Add (.var 8) (.tup (.cons (.tup (.cons (.cst (.str "new")) (.cons (.var 5) (.cons (.var 7) (.cons (.cst (.str "bar")) E.nil))))) E.nil))) E.nil))) (.cons (.cst (.str "ends")) E.nil)))) S.skip)) (.seq (.frz 6) (.seq (.ret (.call i__law_one (.cons (.var 6) (.cons (.var 1) (.cons (.var 2) E.nil))))) S.skip))))))))))))⟩
def t__law_wrong : DefT := dt 186 n__law_wrong_ p__law_wrong
def nl_0 : List Str := ["script", "draws", "at", "frame", "turn", "value", "reason", "which"]
def nl_ : List Str := nl_0
def bl : S := (.seq (.set 3 (.call i__law_frame (.cons (.var 1) (.cons (.var 2) (.cons (.cst (.int 10)) E.nil))))) (.seq (.loop (.nm 4) (.rng1 (.cst (.int 4))) (.seq (.setT (.t2 (.nm 5) (.nm 6)) (.call i__law_wrong (.cons (.var 3) (.cons (.var 1) (.cons (.var 2) E.nil))))) (.seq (.ite (.tru (.cmp .NotEq (.comp (.var 7) (.nm 7) (.rng1 (.cst (.int 35))) (.tru (.cmp .NotEq (.call i__law_told (.cons (.var 7) (.cons (.var 5) E.nil))) (.var 6)))) (.lst E.nil))) (.seq (.ret (.cst (.bl false))) S.skip) S.skip) S.skip))) (.seq (.ret (.cst (.bl true))) S.skip)))
def tl : DefT := dt 187 nl_ lawPs
def tm : DefT := dt 179 ["draws", "place", "mixed", "k"] ["draws", "place"]
def tt : DefT := dt 180 takeN takePs
def td : DefT := dt 178 drN drPs
def defs0 : List Def := [d_is_integer, d_in_range, d_is_name, d_is_letter, d_has_form, d_check_joint, d_check_bar, d_check]
def defs1 : List Def := [d_can_fit, d_accept_can_fit, d_misfit_forces, d_accept_misfit_forces, d_energy_of, d_misfit_energy, d_answers, d_hurtless]
def defs2 : List Def := [d_fewest_anew, d_accept_fewest_anew, d_trouble, d_demand_drawing, d_faces, d_outer_face, d_sides, d_stresses]
def defs3 : List Def := [d_planes, d_accept_planes, d_heights, d_forces_under, d_reciprocal, d_forces_across, d_lifted, d_demand_all]
def defs4 : List Def := [d_count_slower, d_slowest_below, d_quotient, d_is_swinging, d_accept_slower, d_best_of, d_demand_work, d_stand_table]
def defs5 : List Def := [d_down_table, d_accept_down_table, d_way_down, d_first_fall, d_accept_way_down, d_fewest_at_once, d_first_to_go, d__law_one]
def defs6 : List Def := [d__law_frame, d__law_called_0, d__law_called_1, d__law_told, d__law_wrong]
def po0 : List Pos := [⟨965, 19, 965, 23⟩, ⟨965, 26, 965, 27⟩, ⟨965, 19, 965, 27⟩, ⟨966, 37, 966, 41⟩, ⟨966, 33, 966, 36⟩, ⟨966, 33, 966, 42⟩, ⟨966, 45, 966, 49⟩, ⟨966, 33, 966, 49⟩, ⟨966, 20, 966, 25⟩, ⟨966, 20, 966, 50⟩, ⟨967, 27, 967, 31⟩, ⟨967, 35, 967, 39⟩, ⟨967, 27, 967, 39⟩, ⟨967, 20, 967, 24⟩, ⟨967, 20, 967, 39⟩, ⟨965, 16, 967, 39⟩, ⟨964, 16, 964, 17⟩, ⟨964, 27, 964, 29⟩, ⟨964, 21, 964, 26⟩, ⟨964, 21, 964, 30⟩, ⟨964, 12, 967, 39⟩, ⟨969, 24, 969, 28⟩, ⟨969, 31, 969, 36⟩, ⟨969, 24, 969, 36⟩, ⟨969, 39, 969, 41⟩, ⟨969, 24, 969, 41⟩]
def po1 : List Pos := [⟨969, 20, 969, 23⟩, ⟨969, 20, 969, 42⟩, ⟨969, 45, 969, 55⟩, ⟨969, 20, 969, 55⟩, ⟨969, 12, 969, 17⟩, ⟨969, 12, 969, 55⟩, ⟨971, 28, 971, 33⟩, ⟨971, 36, 971, 41⟩, ⟨971, 28, 971, 41⟩, ⟨971, 44, 971, 49⟩, ⟨971, 52, 971, 53⟩, ⟨971, 44, 971, 53⟩, ⟨971, 28, 971, 53⟩, ⟨971, 56, 971, 57⟩, ⟨971, 28, 971, 57⟩, ⟨971, 24, 971, 27⟩, ⟨971, 24, 971, 58⟩, ⟨971, 61, 971, 71⟩, ⟨971, 24, 971, 71⟩, ⟨971, 16, 971, 21⟩, ⟨971, 16, 971, 71⟩, ⟨972, 29, 972, 34⟩, ⟨972, 38, 972, 42⟩, ⟨972, 29, 972, 42⟩, ⟨972, 16, 972, 21⟩, ⟨972, 16, 972, 43⟩]
def po2 : List Pos := [⟨970, 16, 970, 17⟩, ⟨970, 27, 970, 29⟩, ⟨970, 21, 970, 26⟩, ⟨970, 21, 970, 30⟩, ⟨970, 12, 972, 43⟩, ⟨0, 0, 0, 0⟩, ⟨0, 0, 0, 0⟩, ⟨0, 0, 0, 0⟩, ⟨0, 0, 0, 0⟩, ⟨0, 0, 0, 0⟩, ⟨0, 0, 0, 0⟩, ⟨962, 19, 962, 23⟩, ⟨962, 15, 962, 18⟩, ⟨962, 15, 962, 24⟩, ⟨962, 8, 962, 12⟩, ⟨962, 8, 962, 24⟩, ⟨0, 0, 0, 0⟩, ⟨0, 0, 0, 0⟩, ⟨0, 0, 0, 0⟩, ⟨0, 0, 0, 0⟩, ⟨0, 0, 0, 0⟩, ⟨0, 0, 0, 0⟩, ⟨960, 4, 960, 9⟩, ⟨960, 12, 960, 14⟩, ⟨960, 4, 960, 14⟩, ⟨973, 11, 973, 16⟩]
def po3 : List Pos := [⟨973, 4, 973, 16⟩, ⟨963, 11, 963, 15⟩, ⟨963, 19, 963, 21⟩, ⟨963, 25, 963, 27⟩, ⟨963, 19, 963, 27⟩, ⟨963, 11, 963, 27⟩, ⟨963, 8, 972, 43⟩, ⟨961, 8, 961, 12⟩, ⟨961, 16, 961, 22⟩, ⟨961, 24, 961, 26⟩, ⟨961, 23, 961, 26⟩, ⟨961, 16, 961, 27⟩, ⟨961, 4, 972, 43⟩, ⟨0, 0, 0, 0⟩, ⟨0, 0, 0, 0⟩, ⟨0, 0, 0, 0⟩, ⟨0, 0, 0, 0⟩, ⟨0, 0, 0, 0⟩, ⟨0, 0, 0, 0⟩, ⟨0, 0, 0, 0⟩, ⟨0, 0, 0, 0⟩, ⟨0, 0, 0, 0⟩, ⟨966, 20, 966, 32⟩, ⟨966, 20, 966, 50⟩, ⟨972, 16, 972, 28⟩, ⟨972, 16, 972, 43⟩]
def po (i : Nat) : Pos := (po0 ++ po1 ++ po2 ++ po3).getD i ⟨0, 0, 0, 0⟩
def cs0 : List (Str × D) := [("MAX_JOINTS", (.int 12)), ("MAX_BARS", (.int 30)), ("MAX_PLACE", (.int 1000)), ("MAX_NAME", (.int 12)), ("MAX_NUMBER", (.int 1000000000)), ("MAX_COST", (.int 1000000)), ("MAX_ANEW", (.int 10)), ("MAX_SPRING", (.int 1000)), ("MAX_WRONG", (.int 1000)), ("MAX_DOWN", (.int 8)), ("HOLDS", (.tup [(.str "free"), (.str "fixed"), (.str "along"), (.str "up")])), ("SORTS", (.tup [(.str "bar"), (.str "rope"), (.str "strut")]))]
def cs1 : List (Str × D) := [("ZERO", (.tup [(.int 0), (.int 1)])), ("ONE", (.tup [(.int 1), (.int 1)]))]
def csl : List (Str × D) := cs0 ++ cs1
def es : List ErrD := [⟨"ArgumentError", "ReasonError.__init__", "reason", ⟨⟨36, 17, 36, 21⟩, ⟨36, 23, 36, 29⟩, ⟨37, 8, 37, 13⟩, ⟨37, 8, 37, 15⟩, ⟨37, 8, 37, 24⟩, ⟨37, 25, 37, 31⟩, ⟨37, 8, 37, 32⟩, ⟨37, 8, 37, 32⟩, ⟨38, 8, 38, 12⟩, ⟨38, 8, 38, 19⟩, ⟨38, 22, 38, 28⟩, ⟨38, 8, 38, 28⟩⟩⟩, ⟨"CheckError", "ReasonError.__init__", "reason", ⟨⟨36, 17, 36, 21⟩, ⟨36, 23, 36, 29⟩, ⟨37, 8, 37, 13⟩, ⟨37, 8, 37, 15⟩, ⟨37, 8, 37, 24⟩, ⟨37, 25, 37, 31⟩, ⟨37, 8, 37, 32⟩, ⟨37, 8, 37, 32⟩, ⟨38, 8, 38, 12⟩, ⟨38, 8, 38, 19⟩, ⟨38, 22, 38, 28⟩, ⟨38, 8, 38, 28⟩⟩⟩, ⟨"PaperError", "ReasonError.__init__", "reason", ⟨⟨36, 17, 36, 21⟩, ⟨36, 23, 36, 29⟩, ⟨37, 8, 37, 13⟩, ⟨37, 8, 37, 15⟩, ⟨37, 8, 37, 24⟩, ⟨37, 25, 37, 31⟩, ⟨37, 8, 37, 32⟩, ⟨37, 8, 37, 32⟩, ⟨38, 8, 38, 12⟩, ⟨38, 8, 38, 19⟩, ⟨38, 22, 38, 28⟩, ⟨38, 8, 38, 28⟩⟩⟩]
def subs : List (Str × Str) := [("ArgumentError", "FrameError"), ("CheckError", "CheckError"), ("CheckError", "FrameError"), ("PaperError", "FrameError")]
def fl0 : List (Str × DefT × Def) := [("is_integer", t_is_integer, d_is_integer), ("in_range", t_in_range, d_in_range), ("is_name", t_is_name, d_is_name), ("is_letter", t_is_letter, d_is_letter), ("has_form", t_has_form, d_has_form), ("check_joint", t_check_joint, d_check_joint), ("check_bar", t_check_bar, d_check_bar), ("check", t_check, d_check)]
def fl1 : List (Str × DefT × Def) := [("can_fit", t_can_fit, d_can_fit), ("accept_can_fit", t_accept_can_fit, d_accept_can_fit), ("misfit_forces", t_misfit_forces, d_misfit_forces), ("accept_misfit_forces", t_accept_misfit_forces, d_accept_misfit_forces), ("energy_of", t_energy_of, d_energy_of), ("misfit_energy", t_misfit_energy, d_misfit_energy), ("answers", t_answers, d_answers), ("hurtless", t_hurtless, d_hurtless)]
def fl2 : List (Str × DefT × Def) := [("fewest_anew", t_fewest_anew, d_fewest_anew), ("accept_fewest_anew", t_accept_fewest_anew, d_accept_fewest_anew), ("trouble", t_trouble, d_trouble), ("demand_drawing", t_demand_drawing, d_demand_drawing), ("faces", t_faces, d_faces), ("outer_face", t_outer_face, d_outer_face), ("sides", t_sides, d_sides), ("stresses", t_stresses, d_stresses)]
def fl3 : List (Str × DefT × Def) := [("planes", t_planes, d_planes), ("accept_planes", t_accept_planes, d_accept_planes), ("heights", t_heights, d_heights), ("forces_under", t_forces_under, d_forces_under), ("reciprocal", t_reciprocal, d_reciprocal), ("forces_across", t_forces_across, d_forces_across), ("lifted", t_lifted, d_lifted), ("demand_all", t_demand_all, d_demand_all)]
def fl4 : List (Str × DefT × Def) := [("count_slower", t_count_slower, d_count_slower), ("slowest_below", t_slowest_below, d_slowest_below), ("quotient", t_quotient, d_quotient), ("is_swinging", t_is_swinging, d_is_swinging), ("accept_slower", t_accept_slower, d_accept_slower), ("best_of", t_best_of, d_best_of), ("demand_work", t_demand_work, d_demand_work), ("stand_table", t_stand_table, d_stand_table)]
def fl5 : List (Str × DefT × Def) := [("down_table", t_down_table, d_down_table), ("accept_down_table", t_accept_down_table, d_accept_down_table), ("way_down", t_way_down, d_way_down), ("first_fall", t_first_fall, d_first_fall), ("accept_way_down", t_accept_way_down, d_accept_way_down), ("fewest_at_once", t_fewest_at_once, d_fewest_at_once), ("first_to_go", t_first_to_go, d_first_to_go), ("_law_one", t__law_one, d__law_one)]
def fl6 : List (Str × DefT × Def) := [("_law_frame", t__law_frame, d__law_frame), ("_law_called_0", t__law_called_0, d__law_called_0), ("_law_called_1", t__law_called_1, d__law_called_1), ("_law_told", t__law_told, d__law_told), ("_law_wrong", t__law_wrong, d__law_wrong)]
def fl : List (Str × DefT × Def) := fl0 ++ fl1 ++ fl2 ++ fl3 ++ fl4 ++ fl5 ++ fl6
def z : LawD := ⟨fl, tm, tt, td, tl, bl, po, es, ecls, subs, csl, prog.main.file⟩
end Kx

set_option Elab.async false
set_option linter.all false
set_option maxRecDepth 100000
set_option maxHeartbeats 0
namespace Kx
open PySem PySem.Spec L2 Py
def nmx0 : List Str := ["MAX_JOINTS", "MAX_BARS", "MAX_PLACE", "MAX_NAME", "MAX_NUMBER", "MAX_COST", "MAX_ANEW", "MAX_SPRING", "MAX_WRONG", "MAX_DOWN", "is_integer", "in_range", "is_name", "is_letter"]
def nmx1 : List Str := ["chosen_rows", "FrameError", "ReasonError", "CheckError", "ArgumentError", "PaperError", "HOLDS", "SORTS", "has_form", "check_joint", "check_bar", "check", "bar_numbers", "joint_numbers"]
def nmx2 : List Str := ["demand_bar", "ZERO", "ONE", "divisor", "fraction_of", "whole", "add", "negative", "subtract", "multiply", "divide", "is_less", "is_fraction", "is_small"]
def nmx3 : List Str := ["dot", "without_column", "reduce_rows", "rank_of", "kernel_of", "solve_rows", "are_fractions", "AXES", "directions_of", "reach", "matrix_of", "columns_of", "spread", "gathered"]
def nmx4 : List Str := ["stretches_of", "is_motion", "demand_misfits", "demand_springs", "growth_rows", "width_of", "fit_of", "can_fit", "is_stress", "grows_by", "accept_can_fit", "forces_by", "misfit_forces", "accept_misfit_forces"]
def nmx5 : List Str := ["energy_of", "misfit_energy", "answers", "hurtless", "fits_without", "rows_from", "lesser_rows", "demand_few", "demand_few_misfits", "fewest_anew", "are_places", "accept_fewest_anew", "turn_of", "place_of"]
def nmx6 : List Str := ["is_between", "lies_on", "signs_unlike", "cross", "first_trouble", "linked", "neighbours", "trouble", "demand_drawing", "is_ahead", "around", "face_walks", "rotated", "faces"]
def nmx7 : List Str := ["area_of", "outer_number", "outer_face", "sides_of", "sides", "free_rows", "stresses", "demand_forces", "lack_of", "sums_at", "step_over", "planes_by", "planes", "is_row"]
def nmx8 : List Str := ["accept_planes", "accept_lack", "height_at", "heights", "plane_through", "plane_by", "forces_under", "reciprocal", "forces_across", "lifted", "is_firm", "demand_firm", "demand_stiff", "stiffness_rows"]
def nmx9 : List Str := ["demand_masses", "demand_all", "mass_of", "shifted_rows", "signs_of", "without_square", "unlike_pair", "with_sum", "demand_number", "count_slower", "slowest_below", "works_of", "quotient", "is_swinging"]
def nmx10 : List Str := ["accept_slower", "best_of", "demand_weights", "demand_few_takingdown", "demand_work", "half_weights", "numbers_in", "can_stand", "stand_table", "parts_of", "entry_of", "demand_most", "table_of", "down_table"]
def nmx11 : List Str := ["accept_down_table", "names_of", "way_down", "are_steps", "fall_of", "first_fall", "accept_way_down", "fewest_at_once", "first_to_go", "_law_draws", "_law_more", "_law_take", "_law_one", "_law_frame"]
def nmx12 : List Str := ["_law_called_0", "_law_called_1", "_law_told", "_law_wrong"]
def nms : List Str := nmx0 ++ nmx1 ++ nmx2 ++ nmx3 ++ nmx4 ++ nmx5 ++ nmx6 ++ nmx7 ++ nmx8 ++ nmx9 ++ nmx10 ++ nmx11 ++ nmx12
abbrev Rw : PySem.W.OpenRow := PySem.W.OpenLaw.row PySem.Challenge.rw_firmwrought_k78_whole_wrong_frames_in_gr
abbrev hk : PySem.W.Hook := hookP 5 z.hd
def ob (s : PySem.W.SharedT) : AlP := obsPG 5 z.hd (HandSHeadRun.getT s)
theorem ob_eq (s : PySem.W.SharedT) : ob s = hk.obs s.abs := obsPG_eq (HandSHeadRun.getT_eq s)

theorem run_join {S : Type} {o : Option S} {f : S → Bool} {B : Type} {g : S → B} {h : S → AlP} {b : B} {v : AlP} (h1 : o.map f = some true) (h2 : o.map g = some b) (h3 : o.map (fun s => (h s).1) = some v.1) (h4 : o.map (fun s => (h s).2.1) = some v.2.1) (h5 : o.map (fun s => (h s).2.2) = some v.2.2) : o.map (fun s => (f s, g s, h s)) = some (true, b, v) := by
  cases o with
  | none => cases h1
  | some s =>
    simp only [Option.map_some, Option.some.injEq] at h1 h2 h3 h4 h5 ⊢
    rw [h1, h2]
    exact congrArg (fun x => (true, b, x)) (Prod.ext h3 (Prod.ext h4 h5))
open PySem.W PyProof.Rows in
theorem runF0 (w : World) (os : OsState) : (HandSHeadRun.endF (HandSHeadRun.stepQ (HandSHeadRun.denQ HandSHeadRun.tabQ) Rw.prog (w.withFollow "special-get-raises" false)) 9000 Rw.prog (w.withFollow "special-get-raises" false) os).map (fun s => HandSHeadRun.looksF Rw.prog (boot_heap (w.withFollow "special-get-raises" false).params) s.abs) = some (true) := by
  kernel_rfl
open PySem.W PyProof.Rows in
theorem runF1 (w : World) (os : OsState) : (HandSHeadRun.endF (HandSHeadRun.stepQ (HandSHeadRun.denQ HandSHeadRun.tabQ) Rw.prog (w.withFollow "special-get-raises" false)) 9000 Rw.prog (w.withFollow "special-get-raises" false) os).map (fun s => HandSHeadRun.seenQ (PySem.W.view Rw.prog [187]) nms (importedModules Rw.prog.main.body) (fun s => PySem.W.xlAt (PySem.W.view Rw.prog [187]) [] s && PySem.W.recOk Rw.toRowW.records s) s.abs) = some (PySem.W.openGood (PySem.W.view Rw.prog [187]) nms) := by
  kernel_rfl
open PySem.W PyProof.Rows in
theorem runF2 (w : World) (os : OsState) : (HandSHeadRun.endF (HandSHeadRun.stepQ (HandSHeadRun.denQ HandSHeadRun.tabQ) Rw.prog (w.withFollow "special-get-raises" false)) 9000 Rw.prog (w.withFollow "special-get-raises" false) os).map (fun s => (ob s).1) = some ((valP z.hd).1) := by
  kernel_rfl
open PySem.W PyProof.Rows in
theorem runF3 (w : World) (os : OsState) : (HandSHeadRun.endF (HandSHeadRun.stepQ (HandSHeadRun.denQ HandSHeadRun.tabQ) Rw.prog (w.withFollow "special-get-raises" false)) 9000 Rw.prog (w.withFollow "special-get-raises" false) os).map (fun s => (ob s).2.1) = some ((valP z.hd).2.1) := by
  kernel_rfl
open PySem.W PyProof.Rows in
theorem runF4 (w : World) (os : OsState) : (HandSHeadRun.endF (HandSHeadRun.stepQ (HandSHeadRun.denQ HandSHeadRun.tabQ) Rw.prog (w.withFollow "special-get-raises" false)) 9000 Rw.prog (w.withFollow "special-get-raises" false) os).map (fun s => (ob s).2.2) = some ((valP z.hd).2.2) := by
  kernel_rfl
theorem runF (w : World) : HandSHeadRun.RunEq Rw (PySem.W.view Rw.prog [187]) hk ob 9000 nms (w.withFollow "special-get-raises" false) := fun os => run_join (runF0 w os) (runF1 w os) (runF2 w os) (runF3 w os) (runF4 w os)
open PySem.W PyProof.Rows in
theorem runT0 (w : World) (os : OsState) : (HandSHeadRun.endF (HandSHeadRun.stepQ (HandSHeadRun.denQ HandSHeadRun.tabQ) Rw.prog (w.withFollow "special-get-raises" true)) 9000 Rw.prog (w.withFollow "special-get-raises" true) os).map (fun s => HandSHeadRun.looksF Rw.prog (boot_heap (w.withFollow "special-get-raises" true).params) s.abs) = some (true) := by
  kernel_rfl
open PySem.W PyProof.Rows in
theorem runT1 (w : World) (os : OsState) : (HandSHeadRun.endF (HandSHeadRun.stepQ (HandSHeadRun.denQ HandSHeadRun.tabQ) Rw.prog (w.withFollow "special-get-raises" true)) 9000 Rw.prog (w.withFollow "special-get-raises" true) os).map (fun s => HandSHeadRun.seenQ (PySem.W.view Rw.prog [187]) nms (importedModules Rw.prog.main.body) (fun s => PySem.W.xlAt (PySem.W.view Rw.prog [187]) [] s && PySem.W.recOk Rw.toRowW.records s) s.abs) = some (PySem.W.openGood (PySem.W.view Rw.prog [187]) nms) := by
  kernel_rfl
open PySem.W PyProof.Rows in
theorem runT2 (w : World) (os : OsState) : (HandSHeadRun.endF (HandSHeadRun.stepQ (HandSHeadRun.denQ HandSHeadRun.tabQ) Rw.prog (w.withFollow "special-get-raises" true)) 9000 Rw.prog (w.withFollow "special-get-raises" true) os).map (fun s => (ob s).1) = some ((valP z.hd).1) := by
  kernel_rfl
open PySem.W PyProof.Rows in
theorem runT3 (w : World) (os : OsState) : (HandSHeadRun.endF (HandSHeadRun.stepQ (HandSHeadRun.denQ HandSHeadRun.tabQ) Rw.prog (w.withFollow "special-get-raises" true)) 9000 Rw.prog (w.withFollow "special-get-raises" true) os).map (fun s => (ob s).2.1) = some ((valP z.hd).2.1) := by
  kernel_rfl
open PySem.W PyProof.Rows in
theorem runT4 (w : World) (os : OsState) : (HandSHeadRun.endF (HandSHeadRun.stepQ (HandSHeadRun.denQ HandSHeadRun.tabQ) Rw.prog (w.withFollow "special-get-raises" true)) 9000 Rw.prog (w.withFollow "special-get-raises" true) os).map (fun s => (ob s).2.2) = some ((valP z.hd).2.2) := by
  kernel_rfl
theorem runT (w : World) : HandSHeadRun.RunEq Rw (PySem.W.view Rw.prog [187]) hk ob 9000 nms (w.withFollow "special-get-raises" true) := fun os => run_join (runT0 w os) (runT1 w os) (runT2 w os) (runT3 w os) (runT4 w os)
theorem run (w : World) : HandSHeadRun.RunEq Rw (PySem.W.view Rw.prog [187]) hk ob 9000 nms w := PySem.W.byRow2 "special-get-raises" runF runT w
end Kx
open PySem PySem.W PySem.Calls PyProof.Rows in
theorem Kx.fin_head (hc : PySem.W.WalkO (view (OpenLaw.row PySem.Challenge.rw_firmwrought_k78_whole_wrong_frames_in_gr).prog [187]) Kx.nms (PySem.W.XL (view (OpenLaw.row PySem.Challenge.rw_firmwrought_k78_whole_wrong_frames_in_gr).prog [187]) []) Kx.hk.says (OpenLaw.row PySem.Challenge.rw_firmwrought_k78_whole_wrong_frames_in_gr).toRowW (HandSHeadRun.topDef (OpenLaw.row PySem.Challenge.rw_firmwrought_k78_whole_wrong_frames_in_gr).prog 187) [] fun f vs => PySem.call f vs) : PySem.Challenge.rw_firmwrought_k78_whole_wrong_frames_in_gr.Holds := by
  w_on; o_law
  refine HandSHeadRun.head_any (r := OpenLaw.row PySem.Challenge.rw_firmwrought_k78_whole_wrong_frames_in_gr) (q := view (OpenLaw.row PySem.Challenge.rw_firmwrought_k78_whole_wrong_frames_in_gr).prog [187]) (H := Kx.hk) (ob := Kx.ob) (M := 9000) (loose := Kx.nms) (d := HandSHeadRun.topDef (OpenLaw.row PySem.Challenge.rw_firmwrought_k78_whole_wrong_frames_in_gr).prog 187) (kwd := []) Kx.ob_eq
    (by kernel_rfl) (fun s => by kernel_rfl) Kx.run (by kernel_rfl) (by kernel_rfl) (by kernel_rfl) (by rfl) (by first | assumption | decide +kernel) (by decide +kernel) ⟨rfl, rfl, rfl, rfl, rfl, by decide +kernel⟩ ?hw hc
  case hw => w_witness2

set_option Elab.async false
set_option linter.all false
namespace Py
open PySem
section
variable {t : Env → Nat → Res Bool} {f : Env → Nat → Res Flow}
theorem whF_mono : ∀ (k : Nat) (env : Env) (n : Nat), (whF t f k env n).good → whF t f (k + 1) env n = whF t f k env n := by
  intro k
  induction k with
  | zero => intro env n h; exact h.elim
  | succ k ih =>
    intro env n h
    rw [whF]
    conv => rhs; rw [whF]
    rw [whF] at h
    cases ht : t env n with
    | bad => rfl
    | exc e m => rfl
    | ok c m =>
      rw [ht] at h
      simp only [Res.bind_ok] at h ⊢
      cases c with
      | false => rfl
      | true =>
        simp only [if_true] at h ⊢
        cases hf : f env m with
        | bad => rfl
        | exc e m => rfl
        | ok fl m2 =>
          rw [hf] at h
          simp only [Res.bind_ok] at h ⊢
          cases fl with
          | nx e => exact ih e m2 h
          | cnt e => exact ih e m2 h
          | brk e => rfl
          | ret d => rfl
theorem whF_le {k : Nat} {env : Env} {n : Nat} (h : (whF t f k env n).good) : ∀ j, k ≤ j → whF t f j env n = whF t f k env n := by
  intro j hj
  induction j with
  | zero => have : k = 0 := by omega
            subst this; rfl
  | succ j ih =>
    by_cases e : k = j + 1
    · rw [e]
    · have q := ih (by omega)
      rw [← q]
      exact whF_mono j env n (by rw [q]; exact h)
theorem whR_of {k : Nat} {env : Env} {n : Nat} (h : (whF t f k env n).good) : whR t f env n = whF t f k env n := by
  have hx : ∃ k, (whF t f k env n).good := ⟨k, h⟩
  unfold whR
  rw [dif_pos hx]
  have g := Classical.choose_spec hx
  rcases Nat.le_total k (Classical.choose hx) with q | q
  · exact whF_le h _ q
  · exact (whF_le g _ q).symm
theorem whR_eq (env : Env) (n : Nat) : whR t f env n = (t env n).bind fun c n => if c then (f env n).bind fun fl n => match fl with
    | .nx e => whR t f e n
    | .cnt e => whR t f e n
    | .brk e => .ok (.nx e) n
    | .ret d => .ok (.ret d) n
    else .ok (.nx env) n := by
  by_cases hx : ∃ k, (whF t f k env n).good
  · obtain ⟨k, h⟩ := hx
    rw [whR_of h]
    cases k with
    | zero => exact h.elim
    | succ k =>
      rw [whF] at h ⊢
      cases ht : t env n with
      | bad => rfl
      | exc e m => rfl
      | ok c m =>
        rw [ht] at h
        simp only [Res.bind_ok] at h ⊢
        cases c with
        | false => rfl
        | true =>
          simp only [if_true] at h ⊢
          cases hf : f env m with
          | bad => rfl
          | exc e m => rfl
          | ok fl m2 =>
            rw [hf] at h
            simp only [Res.bind_ok] at h ⊢
            cases fl with
            | nx e => exact (whR_of h).symm
            | cnt e => exact (whR_of h).symm
            | brk e => rfl
            | ret d => rfl
  · have hb : whR t f env n = .bad := by unfold whR; rw [dif_neg hx]
    rw [hb]
    cases ht : t env n with
    | bad => rfl
    | exc e m => exact (hx ⟨1, by rw [whF, ht]; trivial⟩).elim
    | ok c m =>
      simp only [Res.bind_ok]
      cases c with
      | false => exact (hx ⟨1, by rw [whF, ht]; trivial⟩).elim
      | true =>
        simp only [if_true]
        cases hf : f env m with
        | bad => rfl
        | exc e m2 => exact (hx ⟨1, by rw [whF, ht]; simp only [Res.bind_ok, if_true, hf, Res.bind_exc]; trivial⟩).elim
        | ok fl m2 =>
          simp only [Res.bind_ok]
          have go : ∀ e, (∀ k, whF t f (k + 1) env n = whF t f k e m2) → Res.bad = whR t f e m2 := fun e q => by
            unfold whR
            rw [dif_neg]
            rintro ⟨k, h⟩
            exact hx ⟨k + 1, by rw [q]; exact h⟩
          cases fl with
          | nx e => exact go e fun k => by rw [whF, ht]; simp only [Res.bind_ok, if_true, hf]
          | cnt e => exact go e fun k => by rw [whF, ht]; simp only [Res.bind_ok, if_true, hf]
          | brk e => exact (hx ⟨1, by rw [whF, ht]; simp only [Res.bind_ok, if_true, hf]; trivial⟩).elim
          | ret d => exact (hx ⟨1, by rw [whF, ht]; simp only [Res.bind_ok, if_true, hf]; trivial⟩).elim
end
end Py

set_option Elab.async false
set_option linter.all false
set_option maxRecDepth 100000
/-! C1c: rules to reckon with. -/
namespace Py
open PySem
section
variable {T : Tab} {env env' : Env} {n m k : Nat} {a b c e : E} {x y r : D}
theorem ev_bop {op : Operator} (ha : ev T a env n = .ok x m) (hb : ev T b env m = .ok y k) (h : binV op x y = some r) : ev T (.bop op a b) env n = .ok r k := by
  rw [ev, ha, Res.bind_ok, hb, Res.bind_ok, h]; rfl
theorem ev_cmp {op : CmpOp} {q : Bool} (ha : ev T a env n = .ok x m) (hb : ev T b env m = .ok y k) (h : cmpV op x y = some q) : ev T (.cmp op a b) env n = .ok (.bl q) k := by
  rw [ev, ha, Res.bind_ok, hb, Res.bind_ok, h]; rfl
theorem ev_idx (ha : ev T a env n = .ok x m) (hb : ev T b env m = .ok y k) (h : idxV x y = some r) : ev T (.idx a b) env n = .ok r k := by
  rw [ev, ha, Res.bind_ok, hb, Res.bind_ok, h]; rfl
theorem ev_blt1 {f : Blt} (ha : ev T a env n = .ok x m) (h : bltV f [x] = some r) : ev T (.blt f (.cons a .nil)) env n = .ok r m := by
  rw [ev, evs, ha, Res.bind_ok, evs, Res.bind_ok, Res.bind_ok, h]; rfl
theorem ev_tup {l : List D} (h : evs T a env n = .ok l m) : ev T (.tup a) env n = .ok (.tup l) m := by rw [ev, h]; rfl
theorem ev_lst {l : List D} (h : evs T a env n = .ok l m) : ev T (.lst a) env n = .ok (.lst l) m := by rw [ev, h]; rfl
theorem evs_cons {l : List D} (ha : ev T a env n = .ok x m) (hb : evs T b env m = .ok l k) : evs T (.cons a b) env n = .ok (x :: l) k := by rw [evs, ha, Res.bind_ok, hb]; rfl
theorem ev_call {f : Nat} {l : List D} {q : Res D} (h : evs T a env n = .ok l m) (hf : T.fn f l m = q) : ev T (.call f a) env n = q := by rw [ev, h, Res.bind_ok, hf]
theorem tv_tru {q : Bool} (ha : ev T a env n = .ok x m) (h : x.tru = some q) : tv T (.tru a) env n = .ok q m := by rw [tv, ha, Res.bind_ok, h]; rfl
theorem ex_set {i : Nat} (h : ev T e env n = .ok x m) : ex T (.set i e) env n = .ok (.nx (env.set i (.val x))) m := by rw [ex, h]; rfl
theorem ex_seq {u v : S} (h : ex T u env n = .ok (.nx env') m) : ex T (.seq u v) env n = ex T v env' m := by rw [ex, h]; rfl
theorem ex_ret (h : ev T e env n = .ok x m) : ex T (.ret e) env n = .ok (.ret x) m := by rw [ex, h]; rfl
theorem ex_seqR {u v : S} {d : D} (h : ex T u env n = .ok (.ret d) m) : ex T (.seq u v) env n = .ok (.ret d) m := by rw [ex, h]; rfl
theorem ex_ite {q : Bool} {u v : S} (h : tv T c env n = .ok q m) : ex T (.ite c u v) env n = if q then ex T u env m else ex T v env m := by rw [ex, h]; rfl
end
theorem run_ret {T : Tab} {d : Def} {l : List D} {n m : Nat} {v : D} (h1 : l.length = d.params) (h : ex T d.body (l.map .val ++ List.replicate (d.size - l.length) .no) n = .ok (.ret v) m) : runD T d l n = .ok v m := by
  unfold runD
  rw [if_pos h1, h]
theorem run_exc {T : Tab} {d : Def} {l : List D} {n m : Nat} {x : Exn} (h1 : l.length = d.params) (h : ex T d.body (l.map .val ++ List.replicate (d.size - l.length) .no) n = .exc x m) : runD T d l n = .exc x m := by
  unfold runD
  rw [if_pos h1, h]
theorem b_add (i j : Int) : binV .Add (.int i) (.int j) = some (.int (i + j)) := rfl
theorem b_sub (i j : Int) : binV .Sub (.int i) (.int j) = some (.int (i - j)) := rfl
theorem mulOk_small {i j : Int} (h1 : i.natAbs < 2 ^ 1000) (h2 : j.natAbs < 2 ^ 1000) : mulOk i j = true := by
  unfold mulOk
  rw [decide_eq_true_eq]
  have a : i.natAbs.log2 ≤ 1000 := by
    by_cases q : i.natAbs = 0
    · rw [q]; decide
    · exact Nat.le_of_lt ((Nat.log2_lt q).mpr h1)
  have b : j.natAbs.log2 ≤ 1000 := by
    by_cases q : j.natAbs = 0
    · rw [q]; decide
    · exact Nat.le_of_lt ((Nat.log2_lt q).mpr h2)
  omega
theorem b_mul {i j : Int} (h : mulOk i j = true) : binV .Mult (.int i) (.int j) = some (.int (i * j)) := by
  show (if mulOk i j = true then _ else _) = _
  rw [if_pos h]
theorem b_muls {i j : Int} (h1 : i.natAbs < 2 ^ 1000) (h2 : j.natAbs < 2 ^ 1000) : binV .Mult (.int i) (.int j) = some (.int (i * j)) := b_mul (mulOk_small h1 h2)
theorem b_mod {i j : Int} (h : 0 < j) : binV .Mod (.int i) (.int j) = some (.int (i % j)) := by
  show (if j ≠ 0 then _ else _) = _
  rw [if_pos (by omega), Int.fmod_eq_emod_of_nonneg _ (by omega)]
theorem noPy {i j : Int} (h : j.natAbs < 2 ^ 9000) : Builtin.divisionGoesByPylong i j = false := by
  unfold Builtin.divisionGoesByPylong
  by_cases q : j = 0
  · subst q; simp
  · have hj : j.natAbs ≠ 0 := by omega
    have hb : (j == 0) = false := by simpa using q
    have hl : j.natAbs.log2 < 9000 := (Nat.log2_lt hj).mpr h
    simp only [hb, Bool.false_eq_true, if_false]
    have : ¬ (j.natAbs.log2 / 30 + 1 > 300) := by omega
    simp [this]
theorem b_fdiv {i j : Int} (h : 0 < j) (h2 : j.natAbs < 2 ^ 9000) : binV .FloorDiv (.int i) (.int j) = some (.int (i / j)) := by
  show (if (decide (j ≠ 0) && !Builtin.divisionGoesByPylong i j) = true then _ else _) = _
  rw [if_pos (by rw [noPy h2]; simp; omega), Int.fdiv_eq_ediv_of_nonneg _ (by omega)]
theorem len_lst (l : List D) : bltV .len [.lst l] = some (.int l.length) := rfl
theorem len_tup (l : List D) : bltV .len [.tup l] = some (.int l.length) := rfl
theorem int_int (i : Int) : bltV .int [.int i] = some (.int i) := rfl
end Py

set_option Elab.async false
set_option linter.all false
set_option maxRecDepth 100000
set_option maxHeartbeats 2000000
/-! C2: what stands for plain data in the heap; the states between. -/
namespace Py
open PySem PySem.Spec L2

/-- where the law's draws stand, and their place; the draws -/
structure Orc where
  aD : Addr
  aA : Addr
  ds : List Int
section
variable (K : PySem.W.Frag) (O : Orc) (F : Hp)
mutual
inductive Rp : V → D → Prop where
  | non : Rp .non .non
  | bl (b : Bool) : Rp (.bl b) (.bl b)
  | int (i : Int) : Rp (.int i) (.int i)
  | str (x : Str) (h : PyData.strOk x = true) : Rp (.str x) (.str x)
  | tup {a : Addr} {xs : List V} {l : List D} (h : SqT K F a xs) (r : RpA xs l) (n : l.length ≤ LIM) : Rp (.ref a) (.tup l)
  | lst {a : Addr} {xs : List V} {l : List D} (h : F a = some (.lst xs)) (r : RpA xs l) (n : l.length ≤ LIM) : Rp (.ref a) (.lst l)
  | dic {a : Addr} {kvs : List (Key × V)} {ks : List Key} {ds : List D} (h : F a = some (.dK kvs)) (hk : kvs.map (·.1) = ks) (r : RpA (kvs.map (·.2)) ds) (n : kvs.length ≤ LIM) : Rp (.ref a) (.dic ks ds)
  | drw : Rp (.ref O.aD) .drw
  | att : Rp (.ref O.aA) .att
inductive RpA : List V → List D → Prop where
  | nil : RpA [] []
  | cons {v : V} {vs : List V} {d : D} {l : List D} (h : Rp v d) (t : RpA vs l) : RpA (v :: vs) (d :: l)
end
end
/-- what a list's or a dict's object holds -/
def RpC (K : PySem.W.Frag) (O : Orc) (F : Hp) (o : HO) (d : D) : Prop := match o, d with
  | .lst xs, .lst l => RpA K O F xs l ∧ l.length ≤ LIM
  | .dK kvs, .dic ks ds => kvs.map (·.1) = ks ∧ RpA K O F (kvs.map (·.2)) ds ∧ kvs.length ≤ LIM
  | _, _ => False
theorem Same.sqt {K : PySem.W.Frag} {H H' : Hp} {a : Addr} {xs : List V} (e : Same H H') (h : SqT K H a xs) : SqT K H' a xs := by
  rcases h with (h | ⟨o, h⟩) | h
  · exact .inl (.inl (e _ _ h))
  · exact .inl (.inr ⟨o, e _ _ h⟩)
  · exact .inr h
section
variable {K : PySem.W.Frag} {O : Orc} {F F' : Hp}
mutual
theorem Rp.mono (s : Same F F') : ∀ {v : V} {d : D}, Rp K O F v d → Rp K O F' v d
  | _, _, .non => .non
  | _, _, .bl b => .bl b
  | _, _, .int i => .int i
  | _, _, .str x h => .str x h
  | _, _, .tup h r n => .tup (Same.sqt s h) (RpA.mono s r) n
  | _, _, .lst h r n => .lst (s _ _ h) (RpA.mono s r) n
  | _, _, .dic h hk r n => .dic (s _ _ h) hk (RpA.mono s r) n
  | _, _, .drw => .drw
  | _, _, .att => .att
theorem RpA.mono (s : Same F F') : ∀ {v : List V} {d : List D}, RpA K O F v d → RpA K O F' v d
  | _, _, .nil => .nil
  | _, _, .cons h t => .cons (Rp.mono s h) (RpA.mono s t)
end
theorem RpC.mono (s : Same F F') {o : HO} {d : D} (h : RpC K O F o d) : RpC K O F' o d := by
  unfold RpC at h ⊢
  split at h
  · exact ⟨h.1.mono s, h.2⟩
  · exact ⟨h.1, h.2.1.mono s, h.2.2⟩
  · exact h.elim
theorem RpC.isC {o : HO} {d : D} (h : RpC K O F o d) : d.isC = true := by
  unfold RpC at h
  split at h
  · rfl
  · rfl
  · exact h.elim
theorem RpC.lst {o : HO} {l : List D} (h : RpC K O F o (.lst l)) : ∃ xs, o = .lst xs ∧ RpA K O F xs l ∧ l.length ≤ LIM := by
  unfold RpC at h
  split at h
  · rename_i e; cases e; exact ⟨_, rfl, h⟩
  · rename_i e; cases e
  · exact h.elim
theorem RpC.dic {o : HO} {ks : List Key} {ds : List D} (h : RpC K O F o (.dic ks ds)) : ∃ kvs, o = .dK kvs ∧ kvs.map (·.1) = ks ∧ RpA K O F (kvs.map (·.2)) ds ∧ kvs.length ≤ LIM := by
  unfold RpC at h
  split at h
  · rename_i e; cases e
  · rename_i e; cases e; exact ⟨_, rfl, h⟩
  · exact h.elim
/-- what is frozen stands for itself -/
theorem RpC.rp {a : Addr} {o : HO} {d : D} (e : F a = some o) (h : RpC K O F o d) : Rp K O F (.ref a) d := by
  unfold RpC at h
  split at h
  · exact .lst e h.1 h.2
  · exact .dic e h.1 h.2.1 h.2.2
  · exact h.elim
theorem RpA.length : ∀ {vs : List V} {l : List D}, RpA K O F vs l → vs.length = l.length
  | _, _, .nil => rfl
  | _, _, .cons _ t => by rw [List.length_cons, List.length_cons, RpA.length t]
theorem RpA.get : ∀ {vs : List V} {l : List D} {i : Nat} {d : D}, RpA K O F vs l → l[i]? = some d → ∃ v, vs[i]? = some v ∧ Rp K O F v d
  | _, _, _, _, .nil, e => by simp at e
  | _, _, 0, _, .cons h _, e => by simp at e; subst e; exact ⟨_, rfl, h⟩
  | _, _, i + 1, d, .cons _ t, e => by
    obtain ⟨v, h1, h2⟩ := RpA.get (i := i) (d := d) t (by simpa using e)
    exact ⟨v, by simpa using h1, h2⟩
theorem RpA.getV : ∀ {vs : List V} {l : List D} {i : Nat} {v : V}, RpA K O F vs l → vs[i]? = some v → ∃ d, l[i]? = some d ∧ Rp K O F v d
  | _, _, _, _, .nil, e => by simp at e
  | _, _, 0, _, .cons h _, e => by simp at e; subst e; exact ⟨_, rfl, h⟩
  | _, _, i + 1, d, .cons _ t, e => by
    obtain ⟨v, h1, h2⟩ := RpA.getV (i := i) (v := d) t (by simpa using e)
    exact ⟨v, by simpa using h1, h2⟩
theorem RpA.app : ∀ {vs ws : List V} {l m : List D}, RpA K O F vs l → RpA K O F ws m → RpA K O F (vs ++ ws) (l ++ m)
  | _, _, _, _, .nil, s => s
  | _, _, _, _, .cons h t, s => .cons h (RpA.app t s)
theorem RpA.take : ∀ {vs : List V} {l : List D} (n : Nat), RpA K O F vs l → RpA K O F (vs.take n) (l.take n)
  | _, _, 0, _ => .nil
  | _, _, _ + 1, .nil => .nil
  | _, _, n + 1, .cons h t => .cons h (RpA.take n t)
theorem RpA.drop : ∀ {vs : List V} {l : List D} (n : Nat), RpA K O F vs l → RpA K O F (vs.drop n) (l.drop n)
  | _, _, 0, r => r
  | _, _, _ + 1, .nil => .nil
  | _, _, n + 1, .cons _ t => RpA.drop n t
theorem RpA.set {v : V} {d : D} (h : Rp K O F v d) : ∀ {vs : List V} {l : List D} (i : Nat), RpA K O F vs l → RpA K O F (vs.set i v) (l.set i d)
  | _, _, _, .nil => .nil
  | _, _, 0, .cons _ t => .cons h t
  | _, _, i + 1, .cons q t => .cons q (RpA.set h i t)
theorem RpA.one {v : V} {d : D} (h : Rp K O F v d) : RpA K O F [v] [d] := .cons h .nil
theorem RpA.rep {vs : List V} {l : List D} (h : RpA K O F vs l) : ∀ k : Nat, RpA K O F (List.replicate k vs).flatten (List.replicate k l).flatten
  | 0 => .nil
  | k + 1 => by
    rw [List.replicate_succ, List.replicate_succ, List.flatten_cons, List.flatten_cons]
    exact h.app (RpA.rep h k)
theorem RpA.cut {vs : List V} {l : List D} (h : RpA K O F vs l) (lo hi : Option Int) : RpA K O F (cutV vs lo hi) (cutL l lo hi) := by
  unfold cutV cutL
  rw [h.length]
  exact (h.drop _).take _
mutual
/-- as the library's data -/
theorem Rp.dp : ∀ {v : V} {d : D}, Rp K O F v d → d.pl = true → Dp K F v d.py
  | _, _, .non, _ => .non
  | _, _, .bl b, _ => .bl b
  | _, _, .int i, _ => .int i
  | _, _, .str x h, _ => .str x
  | _, _, .tup h r n, p => .tup h (RpA.dp r (by rw [D.pl] at p; exact p))
  | _, _, .lst h r n, p => .lst (SqL.of h) (RpA.dp r (by rw [D.pl] at p; exact p))
  | _, _, .dic h hk r n, p => by rw [D.pl] at p; cases p
  | _, _, .drw, p => by rw [D.pl] at p; cases p
  | _, _, .att, p => by rw [D.pl] at p; cases p
theorem RpA.dp : ∀ {vs : List V} {l : List D}, RpA K O F vs l → D.pls l = true → DpAll K F vs (D.pys l)
  | _, _, .nil, _ => .nil
  | _, _, .cons h t, p => by
    rw [D.pls, Bool.and_eq_true] at p
    exact .cons (Rp.dp h p.1) (RpA.dp t p.2)
end
mutual
theorem Rp.lay : ∀ {v : V} {d : D}, Rp K O F v d → d.py.canLay0 = true
  | _, _, .non => rfl
  | _, _, .bl b => rfl
  | _, _, .int i => rfl
  | _, _, .str x h => by rw [D.py, PyData.canLay0]; exact h
  | _, _, .tup h r n => by rw [D.py, PyData.canLay0]; exact RpA.lay r
  | _, _, .lst h r n => by rw [D.py, PyData.canLay0]; exact RpA.lay r
  | _, _, .dic h hk r n => rfl
  | _, _, .drw => rfl
  | _, _, .att => rfl
theorem RpA.lay : ∀ {vs : List V} {l : List D}, RpA K O F vs l → PyData.canLayAll0 (D.pys l) = true
  | _, _, .nil => rfl
  | _, _, .cons h t => by rw [D.pys, PyData.canLayAll0, Rp.lay h, RpA.lay t]; rfl
end
end
mutual
theorem D.eq_py : ∀ (x y : D), x.pl = true → y.pl = true → PyData.eqv x.py y.py = D.eq x y
  | .non, y, _, q => by cases y <;> first | rfl | (rw [D.pl] at q; cases q)
  | .bl a, y, _, q => by cases y <;> first | rfl | (rw [D.pl] at q; cases q)
  | .int a, y, _, q => by cases y <;> first | rfl | (rw [D.pl] at q; cases q)
  | .str a, y, _, q => by cases y <;> first | rfl | (rw [D.pl] at q; cases q)
  | .tup l, y, p, q => by
    cases y with
    | tup m => rw [D.py, D.py, PyData.eqv, D.eq]; exact D.eqs_py l m (by rw [D.pl] at p; exact p) (by rw [D.pl] at q; exact q)
    | _ => first | rfl | (rw [D.pl] at q; cases q)
  | .lst l, y, p, q => by
    cases y with
    | lst m => rw [D.py, D.py, PyData.eqv, D.eq]; exact D.eqs_py l m (by rw [D.pl] at p; exact p) (by rw [D.pl] at q; exact q)
    | _ => first | rfl | (rw [D.pl] at q; cases q)
  | .dic _ _, _, p, _ => by rw [D.pl] at p; cases p
  | .drw, _, p, _ => by rw [D.pl] at p; cases p
  | .att, _, p, _ => by rw [D.pl] at p; cases p
theorem D.eqs_py : ∀ (l m : List D), D.pls l = true → D.pls m = true → PyData.eqvAll (D.pys l) (D.pys m) = D.eqs l m
  | [], [], _, _ => rfl
  | [], _ :: _, _, _ => rfl
  | _ :: _, [], _, _ => rfl
  | x :: l, y :: m, p, q => by
    rw [D.pls, Bool.and_eq_true] at p q
    rw [D.pys, D.pys, PyData.eqvAll, D.eqs, D.eq_py x y p.1 q.1, D.eqs_py l m p.2 q.2]
end
mutual
theorem D.dep_py : ∀ x : D, x.py.depth = x.dep
  | .non => rfl | .bl _ => rfl | .int _ => rfl | .str _ => rfl
  | .tup l => by rw [D.py, PyData.depth, D.dep, D.deps_py l]
  | .lst l => by rw [D.py, PyData.depth, D.dep, D.deps_py l]
  | .dic _ _ => rfl | .drw => rfl | .att => rfl
theorem D.deps_py : ∀ l : List D, PyData.depthAll (D.pys l) = D.deps l
  | [] => rfl
  | x :: l => by rw [D.pys, PyData.depthAll, D.deps, D.dep_py x, D.deps_py l]
end
/-! ### states -/
section
variable (K : PySem.W.Frag) (O : Orc)
/-- H: all; F: what never changes; n: how many draws are taken -/
structure St0 (K : PySem.W.Frag) (O : Orc) (F H : Hp) (n : Nat) : Prop where
  sub : Same F H
  fA : F O.aA = none
  hA : H O.aA = some (.lst [.int n])
  dr : F O.aD = some (.lst (O.ds.map V.int))
/-- from (F, H, n) on: new things are laid; of what stood the draws' place alone has changed -/
structure Ext (F H : Hp) (n : Nat) (F' H' : Hp) (n' : Nat) : Prop where
  same : Same F F'
  sub : Same F' H'
  fA : F' O.aA = none
  hA : H' O.aA = some (.lst [.int n'])
  keep : ∀ b o, b ≠ O.aA → H b = some o → H' b = some o
  new : ∀ b o, F' b = some o → F b = some o ∨ H b = none
/-- a local name's state -/
def SlOk (F H : Hp) (a : Addr) (x : Option (Option V)) : Slot → Prop
  | .no => True
  | .val d => ∃ v, x = some (some v) ∧ Rp K O F v d
  | .own d => ∃ o, x = some (some (.ref a)) ∧ F a = none ∧ a ≠ O.aA ∧ H a = some o ∧ RpC K O F o d
def isOwn : Slot → Bool
  | .own _ => true
  | _ => false
structure EnOk (F H : Hp) (σ : St) (env : Env) (ad : Nat → Addr) : Prop where
  len : σ.length = env.length
  ok : ∀ i, SlOk K O F H (ad i) σ[i]? (slot env i)
  inj : ∀ i j, i ≠ j → isOwn (slot env i) = true → isOwn (slot env j) = true → ad i ≠ ad j
end
section
variable {K : PySem.W.Frag} {O : Orc} {F H F' H' F2 H2 : Hp} {n n' n2 : Nat} {σ : St} {env : Env} {ad : Nat → Addr}
theorem Ext.refl (s : St0 K O F H n) : Ext O F H n F H n := ⟨Same.refl F, s.sub, s.fA, s.hA, fun _ _ _ e => e, fun _ _ e => .inl e⟩
theorem Ext.trans (a : Ext O F H n F' H' n') (b : Ext O F' H' n' F2 H2 n2) : Ext O F H n F2 H2 n2 where
  same := a.same.trans b.same
  sub := b.sub
  fA := b.fA
  hA := b.hA
  keep := fun c o hc e => b.keep c o hc (a.keep c o hc e)
  new := fun c o e => by
    rcases b.new c o e with q | q
    · exact a.new c o q
    · by_cases hc : c = O.aA
      · subst hc; rw [b.fA] at e; cases e
      · cases z : H c with
        | none => exact .inr rfl
        | some u => rw [a.keep c u hc z] at q; cases q
theorem St0.ext (s : St0 K O F H n) (e : Ext O F H n F' H' n') : St0 K O F' H' n' := ⟨e.sub, e.fA, e.hA, e.same _ _ s.dr⟩
theorem SlOk.ext {a : Addr} {x : Option (Option V)} {sl : Slot} (e : Ext O F H n F' H' n') (h : SlOk K O F H a x sl) : SlOk K O F' H' a x sl := by
  cases sl with
  | no => trivial
  | val d => obtain ⟨v, h1, h2⟩ := h; exact ⟨v, h1, h2.mono e.same⟩
  | own l =>
    obtain ⟨xs, h1, h2, h3, h4, h5⟩ := h
    refine ⟨xs, h1, ?_, h3, e.keep _ _ h3 h4, h5.mono e.same⟩
    cases z : F' a with
    | none => rfl
    | some o =>
      rcases e.new a o z with q | q
      · rw [h2] at q; cases q
      · rw [h4] at q; cases q
theorem EnOk.ext (e : Ext O F H n F' H' n') (h : EnOk K O F H σ env ad) : EnOk K O F' H' σ env ad := ⟨h.len, fun i => (h.ok i).ext e, h.inj⟩
/-- a new thing is laid, frozen -/
theorem Ext.lay (s : St0 K O F H n) {p : Addr} (hp : H p = none) (o : HO) : Ext O F H n (upd F p o) (upd H p o) n := by
  have pA : p ≠ O.aA := fun e => by subst e; rw [s.hA] at hp; cases hp
  have pF : F p = none := s.sub.free hp
  refine ⟨fun b u e => ?_, fun b u e => ?_, ?_, ?_, fun b u hb e => ?_, fun b u e => ?_⟩
  · rw [upd_ne (ne_of_none e pF)]; exact e
  · by_cases hb : b = p
    · subst hb; rw [upd_same] at e ⊢; exact e
    · rw [upd_ne hb] at e ⊢; exact s.sub _ _ e
  · rw [upd_ne pA.symm]; exact s.fA
  · rw [upd_ne pA.symm]; exact s.hA
  · rw [upd_ne (ne_of_none e hp)]; exact e
  · by_cases hb : b = p
    · subst hb; exact .inr hp
    · rw [upd_ne hb] at e; exact .inl e
/-- .. not frozen (a list of one's own) -/
theorem Ext.layO (s : St0 K O F H n) {p : Addr} (hp : H p = none) (o : HO) : Ext O F H n F (upd H p o) n := by
  have pA : p ≠ O.aA := fun e => by subst e; rw [s.hA] at hp; cases hp
  refine ⟨Same.refl F, fun b u e => ?_, s.fA, ?_, fun b u hb e => ?_, fun b u e => .inl e⟩
  · rw [upd_ne (ne_of_none (s.sub _ _ e) hp)]; exact s.sub _ _ e
  · rw [upd_ne pA.symm]; exact s.hA
  · rw [upd_ne (ne_of_none e hp)]; exact e
end
/-! ### operands: plain data, or a list of one's own where it stands -/
section
variable (K : PySem.W.Frag) (O : Orc)
inductive RpO (F H : Hp) : V → D → Prop where
  | of {v : V} {d : D} (h : Rp K O F v d) : RpO F H v d
  | own {a : Addr} {o : HO} {d : D} (ha : a ≠ O.aA) (hf : F a = none) (h : H a = some o) (r : RpC K O F o d) : RpO F H (.ref a) d
end
section
variable {K : PySem.W.Frag} {O : Orc} {F H F' H' : Hp} {n n' : Nat} {v : V} {l : List D} {d : D}
theorem RpO.ext (e : Ext O F H n F' H' n') (h : RpO K O F H v d) : RpO K O F' H' v d := by
  cases h with
  | of h => exact .of (h.mono e.same)
  | own ha hf h r =>
    refine .own ha ?_ (e.keep _ _ ha h) (r.mono e.same)
    cases z : F' _ with
    | none => rfl
    | some u =>
      rcases e.new _ _ z with q | q
      · rw [hf] at q; cases q
      · rw [h] at q; cases q
theorem RpO.lst (s : Same F H) (h : RpO K O F H v (.lst l)) : ∃ a xs, v = .ref a ∧ H a = some (.lst xs) ∧ RpA K O F xs l ∧ l.length ≤ LIM := by
  cases h with
  | of h => cases h with
    | lst h r m => exact ⟨_, _, rfl, s _ _ h, r, m⟩
  | own ha hf h r => obtain ⟨xs, rfl, q⟩ := r.lst; exact ⟨_, _, rfl, h, q⟩
theorem RpO.tup (s : Same F H) (h : RpO K O F H v (.tup l)) : ∃ a xs, v = .ref a ∧ SqT K H a xs ∧ RpA K O F xs l ∧ l.length ≤ LIM := by
  cases h with
  | of h => cases h with
    | tup h r m => exact ⟨_, _, rfl, Same.sqt s h, r, m⟩
  | own ha hf h r => cases r.isC
theorem RpO.dic {ks : List Key} {ds : List D} (s : Same F H) (h : RpO K O F H v (.dic ks ds)) : ∃ a kvs, v = .ref a ∧ H a = some (.dK kvs) ∧ kvs.map (·.1) = ks ∧ RpA K O F (kvs.map (·.2)) ds ∧ kvs.length ≤ LIM := by
  cases h with
  | of h => cases h with
    | dic h hk r m => exact ⟨_, _, rfl, s _ _ h, hk, r, m⟩
  | own ha hf h r => obtain ⟨kvs, rfl, q⟩ := r.dic; exact ⟨_, _, rfl, h, q⟩
theorem RpO.int {i : Int} (h : RpO K O F H v (.int i)) : v = .int i := by
  cases h with
  | of h => cases h; rfl
  | own ha hf h r => cases r.isC
theorem RpO.bl {b : Bool} (h : RpO K O F H v (.bl b)) : v = .bl b := by
  cases h with
  | of h => cases h; rfl
  | own ha hf h r => cases r.isC
theorem RpO.non (h : RpO K O F H v .non) : v = .non := by
  cases h with
  | of h => cases h; rfl
  | own ha hf h r => cases r.isC
theorem RpO.str {x : Str} (h : RpO K O F H v (.str x)) : v = .str x ∧ PyData.strOk x = true := by
  cases h with
  | of h => cases h with
    | str _ h => exact ⟨rfl, h⟩
  | own ha hf h r => cases r.isC
theorem RpO.dp (s : Same F H) (h : RpO K O F H v d) (p : d.pl = true) : Dp K H v d.py := by
  cases h with
  | of h => exact (h.mono s).dp p
  | own ha hf h r =>
    unfold RpC at r
    split at r
    · exact .lst (SqL.of h) ((r.1.mono s).dp (by rw [D.pl] at p; exact p))
    · rw [D.pl] at p; cases p
    · exact r.elim
theorem RpO.lay (h : RpO K O F H v d) : d.py.canLay0 = true := by
  cases h with
  | of h => exact h.lay
  | own ha hf h r =>
    unfold RpC at r
    split at r
    · rw [D.py, PyData.canLay0]; exact r.1.lay
    · rfl
    · exact r.elim
end
end Py

set_option Elab.async false
set_option linter.all false
set_option maxRecDepth 100000
set_option maxHeartbeats 2000000
/-! C3: the look that holds a text against the language; readings; what a body's surroundings must be. -/
namespace Py
open PySem PySem.Spec L2

/-! ### the look -/
def okN (x : Str) : Bool := !(x == ("__debug__" : Str)) && !(x == ("__classdict__" : Str)) && !(x == ("__name__" : Str))
def isVis (sc : Scope) (x : Str) : Bool := match sc.names.lookup x with
  | some .local => true
  | some .cell => true
  | some .free => true
  | _ => false
def isLoc (sc : Scope) (x : Str) : Bool := match sc.names.lookup x with
  | some .local => true
  | some .cell => true
  | _ => false
def isGl (sc : Scope) (x : Str) : Bool := match sc.names.lookup x with
  | some .globalImplicit => true
  | _ => false
def Blt.nm : Blt → Str
  | .abs => "abs" | .int => "int" | .len => "len" | .str => "str" | .all => "all" | .any => "any" | .tuple => "tuple" | .list => "list" | .sum => "sum"
  | .max1 => "max" | .min1 => "min" | .max2 => "max" | .min2 => "min" | .sorted => "sorted"
def Blt.ar : Blt → Nat
  | .max2 => 2 | .min2 => 2 | _ => 1
def Ty.nm : Ty → Str
  | .int => "int" | .str => "str" | .tup => "tuple" | .bool => "bool" | .list => "list" | .dict => "dict"
def isTupX : Expr → Bool
  | .Tuple .. => true
  | _ => false
/-- what makes new pairs is walked by a target that takes them apart -/
def zOk (i : E) (tg : Expr) : Bool := match i with
  | .zip _ => isTupX tg
  | .enu _ => isTupX tg
  | _ => true
def E.len : E → Nat
  | .cons _ b => b.len + 1
  | _ => 0
/-- what is looked at besides the text: the functions' names, the constants' names -/
def cstOk : D → Const → Bool
  | .int i, .int j => decide (i = j)
  | .bl a, .bool b => a == b
  | .str x, .str y => decide (x = y) && PyData.strOk x
  | .non, .none => true
  | _, _ => false
section
variable (g : Sg) (N : List Str)
def chkG (sc : Scope) : Tg → Expr → Bool
  | .nm i, e => match e with
    | .Name x _ => decide (N[i]? = some x) && isLoc sc x && okN x
    | _ => false
  | .t2 a b, e => match e with
    | .Tuple [x, y] _ _ => chkG sc a x && chkG sc b y
    | _ => false
  | .t3 a b c, e => match e with
    | .Tuple [x, y, z] _ _ => chkG sc a x && (chkG sc b y && chkG sc c z)
    | _ => false
  | .t4 a b c d, e => match e with
    | .Tuple [x, y, z, u] _ _ => chkG sc a x && (chkG sc b y && (chkG sc c z && chkG sc d u))
    | _ => false
  | .t5 a b c d f, e => match e with
    | .Tuple [x, y, z, u, w] _ _ => chkG sc a x && (chkG sc b y && (chkG sc c z && (chkG sc d u && chkG sc f w)))
    | _ => false
/-- the names that a target stores, with their places -/
def ownOf : Tg → Expr → List (Str × Nat)
  | .nm i, e => match e with
    | .Name x _ => [(x, i)]
    | _ => []
  | .t2 a b, e => match e with
    | .Tuple [x, y] _ _ => ownOf a x ++ ownOf b y
    | _ => []
  | .t3 a b c, e => match e with
    | .Tuple [x, y, z] _ _ => ownOf a x ++ (ownOf b y ++ ownOf c z)
    | _ => []
  | .t4 a b c d, e => match e with
    | .Tuple [x, y, z, u] _ _ => ownOf a x ++ (ownOf b y ++ (ownOf c z ++ ownOf d u))
    | _ => []
  | .t5 a b c d f, e => match e with
    | .Tuple [x, y, z, u, w] _ _ => ownOf a x ++ (ownOf b y ++ (ownOf c z ++ (ownOf d u ++ ownOf f w)))
    | _ => []
/-- no star ahead of it, no slice -/
def plainX : Expr → Bool
  | .Starred .. => false
  | .Slice .. => false
  | .Set .. => false
  | _ => true
def noCall : Expr → Bool
  | .Call .. => false
  | _ => true
mutual
/-- o: where a list of one's own may be looked at -/
def chkE (o : Bool) (sc : Scope) : E → Expr → Bool
  | .any, e => plainX e
  | .dnew, e => match e with
    | .Dict [] [] _ => true
    | _ => false
  | .dsp a, e => match e with
    | .Dict (k :: ks) vs _ => decide ((k :: ks).length ≤ 15) && chkK sc a (k :: ks) vs
    | _ => false
  | .dget a i d, e => match e with
    | .Call (.Attribute x m p) [y, z] [] q => decide (m = "get") && (p.endLine == q.line) && noCall x && chkE true sc a x && chkE true sc i y && chkE false sc d z
    | _ => false
  | .rev a, e => match e with
    | .Subscript x (.Slice none none (some (.UnaryOp .USub (.Constant (.int j) _ _) _)) _) _ => decide (j = 1) && chkE true sc a x
    | _ => false
  | .var i, e => match e with
    | .Name x _ => decide (N[i]? = some x) && isVis sc x && okN x
    | _ => false
  | .ovar i, e => match e with
    | .Name x _ => o && (decide (N[i]? = some x) && isVis sc x && okN x)
    | _ => false
  | .cst d, e => match e with
    | .Constant c _ _ => cstOk d c
    | _ => false
  | .glb j, e => match e with
    | .Name x _ => decide (g.cons[j]? = some x) && isGl sc x && okN x
    | _ => false
  | .tup es, e => match e with
    | .Tuple l _ _ => decide (l.length ≤ 1000) && chkEs false sc es l
    | _ => false
  | .lst es, e => match e with
    | .List l _ => decide (l.length ≤ 1000) && chkEs false sc es l
    | _ => false
  | .bop op a b, e => match e with
    | .BinOp x op' y _ => decide (op = op') && chkE true sc a x && chkE true sc b y
    | _ => false
  | .neg a, e => match e with
    | .UnaryOp .USub x _ => chkE true sc a x
    | _ => false
  | .cmp op a b, e => match e with
    | .Compare x [op'] [y] _ => decide (op = op') && !behindInMarks op y && chkE true sc a x && chkE true sc b y
    | _ => false
  | .cmp2 op op2 a b c, e => match e with
    | .Compare x [op', op2'] [y, z] _ => decide (op = op') && decide (op2 = op2') && !lastMarks [op, op2] [y, z] && chkE true sc a x && chkE true sc b y && chkE true sc c z
    | _ => false
  | .andv a b, e => match e with
    | .BoolOp .And [x, y] _ => chkE true sc a x && chkE o sc b y
    | .BoolOp .And (x :: y :: z :: r) p => chkE true sc a x && chkE o sc b (.BoolOp .And (y :: z :: r) p)
    | _ => false
  | .orv a b, e => match e with
    | .BoolOp .Or [x, y] _ => chkE true sc a x && chkE o sc b y
    | .BoolOp .Or (x :: y :: z :: r) p => chkE true sc a x && chkE o sc b (.BoolOp .Or (y :: z :: r) p)
    | _ => false
  | .notv a, e => match e with
    | .UnaryOp .Not x _ => chkE true sc a x
    | _ => false
  | .ite c a b, e => match e with
    | .IfExp t x y _ => chkT sc c t && chkE false sc a x && chkE false sc b y
    | _ => false
  | .idx a i, e => match e with
    | .Subscript x y _ => chkE true sc a x && chkE true sc i y
    | _ => false
  | .slc a lo hi, e => match e with
    | .Subscript x (.Slice l h none _) _ => chkE true sc a x && chkP sc lo l && chkP sc hi h
    | _ => false
  | .call f es, e => match e with
    | .Call (.Name x _) (y :: l) [] _ => decide (g.fns[f]? = some x) && isGl sc x && okN x && chkEs false sc es (y :: l)
    | _ => false
  | .callB f es, e => match e with
    | .Call (.Name x _) (y :: l) [] _ => decide (g.fns[f]? = some x) && isGl sc x && okN x && chkEs true sc es (y :: l)
    | _ => false
  | .take i j m, e => match e with
    | .Call (.Name x _) [.Name u _, .Name v _, y] [] _ => g.tk && decide (x = "_law_take") && isGl sc x && (decide (N[i]? = some u) && isVis sc u && okN u) && (decide (N[j]? = some v) && isVis sc v && okN v) && chkE true sc m y
    | _ => false
  | .blt b es, e => match e with
    | .Call (.Name x _) (y :: l) [] _ => decide (x = b.nm) && decide (es.len = b.ar) && isGl sc x && chkEs true sc es (y :: l)
    | _ => false
  | .isi a ts, e => match e with
    | .Call (.Name x _) [y, .Name t _] [] _ => decide (x = "isinstance") && isGl sc x && chkE true sc a y && (match ts with
      | [t'] => decide (t = t'.nm) && isGl sc t
      | _ => false)
    | _ => false
  | .comp elt tg it cond, e => match e with
    | .ListComp z [⟨t, i, ifs, 0⟩] scope _ => (chkI false sc it i && zOk it t) && blkC N sc scope (ownOf tg t) && chkG N scope tg t && (match ifs with
      | [] => (match cond with
        | .nil => true
        | _ => false)
      | [c] => chkT (relS scope sc) cond c
      | _ => false) && chkE false (relS scope sc) elt z
    | _ => false
  | .dcomp kx vx tg it cond, e => match e with
    | .DictComp z y [⟨t, i, ifs, 0⟩] scope _ => (chkI false sc it i && zOk it t) && blkC N sc scope (ownOf tg t) && chkG N scope tg t && (match ifs with
      | [] => (match cond with
        | .nil => true
        | _ => false)
      | [c] => chkT (relS scope sc) cond c
      | _ => false) && (chkE false (relS scope sc) kx z && chkE false (relS scope sc) vx y)
    | _ => false
  | .req ng a b, e => match e with
    | .Compare (.Call (.Name x _) [y] [] _) [op] [.Call (.Name u _) [z] [] _] _ => decide (x = "repr") && decide (u = "repr") && isGl sc x && isGl sc u && decide (op = if ng then .NotEq else .Eq) && chkE true sc a y && chkE true sc b z
    | _ => false
  | _, _ => false
/-- a display's pairs -/
def chkK (sc : Scope) : E → List (Option Expr) → List Expr → Bool
  | .nil, ks, vs => ks.isEmpty && vs.isEmpty
  | .kv a b r, ks, vs => match ks, vs with
    | some x :: ks, y :: vs => chkE false sc a x && chkE false sc b y && chkK sc r ks vs
    | _, _ => false
  | _, _, _ => false
/-- tests -/
def chkT (sc : Scope) : E → Expr → Bool
  | .any, _ => true
  | .and a b, e => match e with
    | .BoolOp .And [x, y] _ => chkT sc a x && chkT sc b y
    | .BoolOp .And (x :: y :: z :: r) p => chkT sc a x && chkT sc b (.BoolOp .And (y :: z :: r) p)
    | _ => false
  | .or a b, e => match e with
    | .BoolOp .Or [x, y] _ => chkT sc a x && chkT sc b y
    | .BoolOp .Or (x :: y :: z :: r) p => chkT sc a x && chkT sc b (.BoolOp .Or (y :: z :: r) p)
    | _ => false
  | .not a, e => match e with
    | .UnaryOp .Not x _ => chkT sc a x
    | _ => false
  | .tru a, e => match e with
    | .BoolOp .. => false
    | .UnaryOp .Not .. => false
    | .IfExp .. => false
    | e => chkE true sc a e
  | _, _ => false
def chkEs (o : Bool) (sc : Scope) : E → List Expr → Bool
  | .nil, es => es.isEmpty
  | .cons a b, es => match es with
    | x :: r => chkE o sc a x && chkEs o sc b r
    | [] => false
  | _, _ => false
def chkP (sc : Scope) : E → Option Expr → Bool
  | .nil, e => e.isNone
  | .opt a, e => match e with
    | some x => chkE true sc a x
    | none => false
  | _, _ => false
/-- fz: it must not change -/
def chkI (fz : Bool) (sc : Scope) : E → Expr → Bool
  | .any, e => plainX e
  | .rng1 a, e => match e with
    | .Call (.Name x _) [y] [] _ => decide (x = "range") && isGl sc x && chkE true sc a y
    | _ => false
  | .rng2 a b, e => match e with
    | .Call (.Name x _) [y, z] [] _ => decide (x = "range") && isGl sc x && chkE true sc a y && chkE true sc b z
    | _ => false
  | .zip as, e => match e with
    | .Call (.Name x _) [y, z] [] _ => decide (x = "zip") && (isGl sc x && (plainX y && (plainX z && chkEs (!fz) sc as [y, z])))
    | _ => false
  | .enu a, e => match e with
    | .Call (.Name x _) [y] [] _ => decide (x = "enumerate") && (isGl sc x && chkE (!fz) sc a y)
    | _ => false
  | .seq a, e => chkE (!fz) sc a e
  | _, _ => false
end
end
end Py

set_option Elab.async false
set_option linter.all false
set_option maxRecDepth 100000
set_option maxHeartbeats 2000000
/-! C4: readings. -/
namespace Py
open PySem PySem.Spec L2

/-- what stands fixed: the written part, the draws, the classes of errors -/
structure Gb where
  K : PySem.W.Frag
  O : Orc
  cad : Str → Addr
/-- an error lies at c, its dict at dx -/
def ExR (B : Gb) (e : Exn) (c : Value) (dx : Option Addr) (F H : Hp) : Prop :=
  c = .ref (B.cad e.cls) ∧ ∃ (d : Addr) (fs : List (Str × V)), dx = some d ∧ H d = some (.xd fs) ∧ fs.map (·.1) = e.fs.map (·.1) ∧ RpA B.K B.O F (fs.map (·.2)) (e.fs.map (·.2))
section
variable (B : Gb) (W : WX)
/-- from (F, H, n) on the result r comes, and post behind it; W: what is wanted of an error -/
def R {α : Type} (σ : St) (F H : Hp) (n : Nat) (r : Res α) (post : α → Nat → Hp → Hp → Prop) : Prop := match r with
  | .ok a n' => ∀ F' H', Ext B.O F H n F' H' n' → post a n' F' H'
  | .exc e n' => ∀ F' H' c dx, Ext B.O F H n F' H' n' → ExR B e c dx F' H' → W c dx σ H'
  | .bad => False
end
section
variable {B : Gb} {W : WX} {α β : Type} {σ : St} {F H : Hp} {n : Nat} {post post' : α → Nat → Hp → Hp → Prop} {r : Res α}
theorem R.imp (h : R B W σ F H n r post) (k : ∀ a n' F' H', r = .ok a n' → Ext B.O F H n F' H' n' → post a n' F' H' → post' a n' F' H') : R B W σ F H n r post' := by
  cases r with
  | ok a n' => exact fun F' H' e => k a n' F' H' rfl e (h F' H' e)
  | exc e n' => exact h
  | bad => exact h
theorem R.shift {F1 H1 : Hp} {n1 : Nat} (h : R B W σ F H n r post) (e : Ext B.O F H n F1 H1 n1) : R B W σ F1 H1 n1 r post := by
  cases r with
  | ok a n' => exact fun F' H' e' => h F' H' (e.trans e')
  | exc x n' => exact fun F' H' c dx e' => h F' H' c dx (e.trans e')
  | bad => exact h
theorem R.seq {f : α → Nat → Res β} {post : β → Nat → Hp → Hp → Prop} (h : R B W σ F H n (r.bind f) post) : R B W σ F H n r (fun a n1 F1 H1 => R B W σ F1 H1 n1 (f a n1) post) := by
  cases r with
  | ok a n' => exact fun F' H' e => R.shift h e
  | exc e n' => exact h
  | bad => exact h
end
/-- a value stands for data: o, an operand (a list of one's own may be looked at) -/
def Rq (B : Gb) (o : Bool) (F H : Hp) (v : V) (d : D) : Prop := if o = true then RpO B.K B.O F H v d else Rp B.K B.O F v d
theorem Rq.opd {B : Gb} {o : Bool} {F H : Hp} {v : V} {d : D} (h : Rq B o F H v d) : RpO B.K B.O F H v d := by
  unfold Rq at h
  cases o with
  | true => exact h
  | false => exact .of h
theorem Rq.of {B : Gb} {o : Bool} {F H : Hp} {v : V} {d : D} (h : Rp B.K B.O F v d) : Rq B o F H v d := by
  unfold Rq
  cases o with
  | true => exact .of h
  | false => exact h
/-- lists of such -/
inductive RqA (B : Gb) (o : Bool) (F H : Hp) : List V → List D → Prop where
  | nil : RqA B o F H [] []
  | cons {v : V} {vs : List V} {d : D} {l : List D} (h : Rq B o F H v d) (t : RqA B o F H vs l) : RqA B o F H (v :: vs) (d :: l)
theorem RqA.frz {B : Gb} {F H : Hp} : ∀ {vs : List V} {l : List D}, RqA B false F H vs l → RpA B.K B.O F vs l
  | _, _, .nil => .nil
  | _, _, .cons h t => .cons h (RqA.frz t)
theorem Rq.ext {B : Gb} {o : Bool} {F H F' H' : Hp} {n n' : Nat} {v : V} {d : D} (e : Ext B.O F H n F' H' n') (h : Rq B o F H v d) : Rq B o F' H' v d := by
  unfold Rq at h ⊢
  cases o with
  | true => exact RpO.ext e h
  | false => exact Rp.mono e.same h
section
variable (B : Gb) (T : Tab) (W : WX)
/-- the state a reading begins in -/
def At (σ : St) (H : Hp) (k : Hp → Env → Nat → Prop) : Prop := ∃ F env ad n, St0 B.K B.O F H n ∧ EnOk B.K B.O F H σ env ad ∧ k F env n
def tE (o : Bool) (i : E) : TE := fun σ H Q => At B σ H fun F env n => R B W σ F H n (ev T i env n) fun d _ F' H' => ∀ v, Rq B o F' H' v d → Q v H'
def tT (i : E) : TT := fun σ H Q => At B σ H fun F env n => R B W σ F H n (tv T i env n) fun b _ _ H' => Q b H'
def tA (o : Bool) (i : E) : TA := fun σ H Q => At B σ H fun F env n => R B W σ F H n (evs T i env n) fun l _ F' H' => ∀ vs, RqA B o F' H' vs l → Q vs H'
def tP (i : E) : TO := fun σ H Q => At B σ H fun F env n => R B W σ F H n (evo T i env n) fun d _ _ H' => Q d H'
end
section
variable {B : Gb} {T : Tab} {W : WX} {σ : St} {F H : Hp} {n : Nat} {env : Env} {ad : Nat → Addr} {β : Type} {post : β → Nat → Hp → Hp → Prop} {o : Bool} {i : E}
theorem tE_of {Q : VK} {f : D → Nat → Res β} (s : St0 B.K B.O F H n) (en : EnOk B.K B.O F H σ env ad) (h : R B W σ F H n ((ev T i env n).bind f) post)
    (k : ∀ d n1 F1 H1, St0 B.K B.O F1 H1 n1 → EnOk B.K B.O F1 H1 σ env ad → Ext B.O F H n F1 H1 n1 → R B W σ F1 H1 n1 (f d n1) post → ∀ v, Rq B o F1 H1 v d → Q v H1) : tE B T W o i σ H Q :=
  ⟨F, env, ad, n, s, en, h.seq.imp fun d n1 F1 H1 _ e q => k d n1 F1 H1 (s.ext e) (en.ext e) e q⟩
theorem tT_of {Q : Bool → Hp → Prop} {f : Bool → Nat → Res β} (s : St0 B.K B.O F H n) (en : EnOk B.K B.O F H σ env ad) (h : R B W σ F H n ((tv T i env n).bind f) post)
    (k : ∀ d n1 F1 H1, St0 B.K B.O F1 H1 n1 → EnOk B.K B.O F1 H1 σ env ad → Ext B.O F H n F1 H1 n1 → R B W σ F1 H1 n1 (f d n1) post → Q d H1) : tT B T W i σ H Q :=
  ⟨F, env, ad, n, s, en, h.seq.imp fun d n1 F1 H1 _ e q => k d n1 F1 H1 (s.ext e) (en.ext e) e q⟩
theorem tP_of {Q : Option Int → Hp → Prop} {f : Option Int → Nat → Res β} (s : St0 B.K B.O F H n) (en : EnOk B.K B.O F H σ env ad) (h : R B W σ F H n ((evo T i env n).bind f) post)
    (k : ∀ d n1 F1 H1, St0 B.K B.O F1 H1 n1 → EnOk B.K B.O F1 H1 σ env ad → Ext B.O F H n F1 H1 n1 → R B W σ F1 H1 n1 (f d n1) post → Q d H1) : tP B T W i σ H Q :=
  ⟨F, env, ad, n, s, en, h.seq.imp fun d n1 F1 H1 _ e q => k d n1 F1 H1 (s.ext e) (en.ext e) e q⟩
theorem tA_of {Q : List V → Hp → Prop} {f : List D → Nat → Res β} (s : St0 B.K B.O F H n) (en : EnOk B.K B.O F H σ env ad) (h : R B W σ F H n ((evs T i env n).bind f) post)
    (k : ∀ d n1 F1 H1, St0 B.K B.O F1 H1 n1 → EnOk B.K B.O F1 H1 σ env ad → Ext B.O F H n F1 H1 n1 → R B W σ F1 H1 n1 (f d n1) post → ∀ v, RqA B o F1 H1 v d → Q v H1) : tA B T W o i σ H Q :=
  ⟨F, env, ad, n, s, en, h.seq.imp fun d n1 F1 H1 _ e q => k d n1 F1 H1 (s.ext e) (en.ext e) e q⟩
/-- the end: a value that the last step makes, at the heap as it stands -/
theorem R.val {r : Option D} {Q : VK} (s : St0 B.K B.O F H n) (h : R B W σ F H n (Res.of r n) fun d _ F' H' => ∀ v, Rq B o F' H' v d → Q v H') : ∃ d, r = some d ∧ ∀ v, Rq B o F H v d → Q v H := by
  cases r with
  | none => exact h.elim
  | some d => exact ⟨d, rfl, h F H (Ext.refl s)⟩
/-- .. with a new thing at p -/
theorem R.new {d : D} {Q : VK} {p : Addr} {u : HO} (s : St0 B.K B.O F H n) (h : R B W σ F H n (.ok d n) fun d _ F' H' => ∀ v, Rq B o F' H' v d → Q v H') (hp : H p = none) (r : Rp B.K B.O (upd F p u) (.ref p) d) : Q (.ref p) (upd H p u) :=
  h _ _ (Ext.lay s hp u) _ (Rq.of r)
end
/-- a reading may be weaker -/
theorem PEw {X : Cx} {e : Expr} {t t' : TE} (h : PE X e t) (k : ∀ σ H Q, t' σ H Q → t σ H Q) : PE X e t' := ⟨fun pins s σ H Q I q => h.run pins s σ H Q I (k _ _ _ q)⟩
theorem PTw {X : Cx} {e : Expr} {t t' : TT} (h : PT X e t) (k : ∀ σ H Q, t' σ H Q → t σ H Q) : PT X e t' := ⟨fun pins s σ H Q I q => h.run pins s σ H Q I (k _ _ _ q)⟩
theorem PWw {X : Cx} {e : Expr} {t t' : TT} (h : PW X e t) (k : ∀ σ H Q, t' σ H Q → t σ H Q) : PW X e t' := ⟨fun w pins s σ H Q I q => h.run w pins s σ H Q I (k _ _ _ q)⟩
theorem PAw {X : Cx} {e : List Expr} {t t' : TA} (h : PA X e t) (k : ∀ σ H Q, t' σ H Q → t σ H Q) : PA X e t' := ⟨fun p pins s σ H Q I q => h.run p pins s σ H Q I (k _ _ _ q)⟩
theorem POw {X : Cx} {e : Option Expr} {t t' : TO} (h : PO X e t) (k : ∀ σ H Q, t' σ H Q → t σ H Q) : PO X e t' := ⟨fun pins s σ H Q I q => h.run pins s σ H Q I (k _ _ _ q)⟩
theorem PSw {X : Cx} {e : Stmt} {t t' : TS} (h : PS X e t) (k : ∀ D σ H, t' D σ H → t D σ H) : PS X e t' := ⟨fun pins s σ H D I q => h.run pins s σ H D I (k _ _ _ q)⟩
theorem PSsw {X : Cx} {e : List Stmt} {t t' : TS} (h : PSs X e t) (k : ∀ D σ H, t' D σ H → t D σ H) : PSs X e t' := ⟨fun pins s σ H D I q => h.run pins s σ H D I (k _ _ _ q)⟩

/-! ### names, constants, displays, operators -/
section
variable {X : Cx} {B : Gb} {T : Tab} {W : WX} {a b c : Expr} {pos : Pos} {o : Bool} {ia ib ic : E}
theorem o_var {i : Nat} {x : Str} (hN : X.N[i]? = some x) (hv : Vis X.env.scope x) (hd : (x == ("__debug__" : Str)) = false) (hc : (x == ("__classdict__" : Str)) = false) : PE X (.Name x pos) (tE B T W o (.var i)) :=
  PEw (pe_var hN hv hd hc) fun σ H Q ⟨F, env, ad, n, s, en, h⟩ => by
    have q := en.ok i
    dsimp only [ev] at h
    cases e : slot env i with
    | no => rw [e] at h; exact h.elim
    | own l => rw [e] at h; exact h.elim
    | val d =>
      rw [e] at h q
      obtain ⟨v, h1, h2⟩ := q
      exact ⟨v, h1, h F H (Ext.refl s) v (Rq.of h2)⟩
theorem o_ovar {i : Nat} {x : Str} (hN : X.N[i]? = some x) (hv : Vis X.env.scope x) (hd : (x == ("__debug__" : Str)) = false) (hc : (x == ("__classdict__" : Str)) = false) : PE X (.Name x pos) (tE B T W true (.ovar i)) :=
  PEw (pe_var hN hv hd hc) fun σ H Q ⟨F, env, ad, n, s, en, h⟩ => by
    have q := en.ok i
    dsimp only [ev] at h
    cases e : slot env i with
    | no => rw [e] at h; exact h.elim
    | val d => rw [e] at h; exact h.elim
    | own l =>
      rw [e] at h q
      obtain ⟨xs, h1, h2, h3, h4, h5⟩ := q
      exact ⟨.ref (ad i), h1, h F H (Ext.refl s) _ (RpO.own h3 h2 h4 h5)⟩
theorem o_any {e : Expr} : PE X e (tE B T W o .any) := ⟨fun pins s σ H Q I ⟨F, env, ad, n, st, en, h⟩ => h.elim⟩
theorem o_int {i : Int} {k : Nat} : PE X (.Constant (.int i) k pos) (tE B T W o (.cst (.int i))) :=
  PEw pe_int fun σ H Q ⟨F, env, ad, n, s, en, h⟩ => h F H (Ext.refl s) _ (Rq.of (.int i))
theorem o_bl {i : Bool} {k : Nat} : PE X (.Constant (.bool i) k pos) (tE B T W o (.cst (.bl i))) :=
  PEw pe_bl fun σ H Q ⟨F, env, ad, n, s, en, h⟩ => h F H (Ext.refl s) _ (Rq.of (.bl i))
theorem o_non {k : Nat} : PE X (.Constant .none k pos) (tE B T W o (.cst .non)) :=
  PEw pe_non fun σ H Q ⟨F, env, ad, n, s, en, h⟩ => h F H (Ext.refl s) _ (Rq.of .non)
theorem o_str {x : Str} {k : Nat} (hx : PyData.strOk x = true) : PE X (.Constant (.str x) k pos) (tE B T W o (.cst (.str x))) :=
  PEw pe_str fun σ H Q ⟨F, env, ad, n, s, en, h⟩ => h F H (Ext.refl s) _ (Rq.of (.str x hx))
theorem o_glb {j : Nat} {x : Str} {v : V} {u : Value} (hg : Gl X x) (hm : X.mg x = some u) (r : RelV v u) (hd : (x == ("__debug__" : Str)) = false) (hv : ∀ F, Rp B.K B.O F v (T.con j)) : PE X (.Name x pos) (tE B T W o (.glb j)) :=
  PEw (pe_glob hg hm r hd) fun σ H Q ⟨F, env, ad, n, s, en, h⟩ => h F H (Ext.refl s) _ (Rq.of (hv F))
theorem o_nil : PA X [] (tA B T W o .nil) := PAw pa_nil fun σ H Q ⟨F, env, ad, n, s, en, h⟩ => h F H (Ext.refl s) _ .nil
end
end Py

set_option Elab.async false
set_option linter.all false
set_option maxRecDepth 100000
set_option maxHeartbeats 2000000
/-! C5: operators, comparisons, displays, subscripts. -/
namespace Py
open PySem PySem.Spec L2

theorem lim_eq : LIM = sizeLine := by rw [sizeLine_eq]
theorem St0.lt {K : PySem.W.Frag} {O : Orc} {F H : Hp} {n : Nat} (s : St0 K O F H n) {p : Addr} (hp : H p = none) : F p = none := s.sub.free hp
section
variable {K : PySem.W.Frag} {O : Orc} {F H : Hp} {p : Addr}
/-- a new tuple, a new list -/
theorem Rp.newT {xs : List V} {l : List D} (hp : F p = none) (r : RpA K O F xs l) (h : l.length ≤ LIM) : Rp K O (upd F p (.tup xs)) (.ref p) (.tup l) :=
  .tup (SqT.of upd_same) (r.mono fun b o e => by rw [upd_ne (ne_of_none e hp)]; exact e) h
theorem Rp.newL {xs : List V} {l : List D} (hp : F p = none) (r : RpA K O F xs l) (h : l.length ≤ LIM) : Rp K O (upd F p (.lst xs)) (.ref p) (.lst l) :=
  .lst upd_same (r.mono fun b o e => by rw [upd_ne (ne_of_none e hp)]; exact e) h
end
section
variable (B : Gb)
/-- what a step by values gives: the data r, at a heap with new things -/
def Gv (F H : Hp) (n : Nat) (r : D) (Q : VK) : Prop := ∀ v F' H', Ext B.O F H n F' H' n → Rp B.K B.O F' v r → Q v H'
def rBin (op : Operator) : R2 := fun x y H Q => ∃ F n d e r, St0 B.K B.O F H n ∧ RpO B.K B.O F H x d ∧ RpO B.K B.O F H y e ∧ binV op d e = some r ∧ Gv B F H n r Q
def rCmp (op : CmpOp) : R2 := fun x y H Q => ∃ F n d e r, St0 B.K B.O F H n ∧ RpO B.K B.O F H x d ∧ RpO B.K B.O F H y e ∧ cmpV op d e = some r ∧ Q (.bl r) H
def rIdx : R2 := fun x y H Q => ∃ F n d e r, St0 B.K B.O F H n ∧ RpO B.K B.O F H x d ∧ RpO B.K B.O F H y e ∧ idxV d e = some r ∧ ∀ v, Rp B.K B.O F v r → Q v H
end
section
variable {B : Gb} {F H : Hp} {n : Nat} {r : D} {Q : VK}
theorem Gv.here (g : Gv B F H n r Q) (s : St0 B.K B.O F H n) {v : V} (h : Rp B.K B.O F v r) : Q v H := g v F H (Ext.refl s) h
theorem Gv.tupN {xs : List V} {l : List D} (g : Gv B F H n (.tup l) Q) (s : St0 B.K B.O F H n) (r : RpA B.K B.O F xs l) (h : l.length ≤ LIM) : ∀ p, H p = none → Q (.ref p) (upd H p (.tup xs)) :=
  fun p hp => g _ _ _ (Ext.lay s hp _) (Rp.newT (s.lt hp) r h)
theorem Gv.lstN {xs : List V} {l : List D} (g : Gv B F H n (.lst l) Q) (s : St0 B.K B.O F H n) (r : RpA B.K B.O F xs l) (h : l.length ≤ LIM) : ∀ p, H p = none → Q (.ref p) (upd H p (.lst xs)) :=
  fun p hp => g _ _ _ (Ext.lay s hp _) (Rp.newL (s.lt hp) r h)
theorem cat_some {a b r : List D} (h : cat a b = some r) : r = a ++ b ∧ a.length + b.length ≤ LIM := by
  unfold cat at h
  split at h
  · exact ⟨(Option.some.inj h).symm, by assumption⟩
  · cases h
theorem rep_some {a r : List D} {k : Int} (h : rep a k = some r) : r = (List.replicate k.toNat a).flatten ∧ 0 ≤ k ∧ k < 1000000 ∧ a.length * k.toNat ≤ LIM := by
  unfold rep at h
  split at h
  · rename_i q
    exact ⟨(Option.some.inj h).symm, q.1, q.2.1, q.2.2⟩
  · cases h
theorem flat_len {α : Type} (l : List α) : ∀ k : Nat, (List.replicate k l).flatten.length = k * l.length
  | 0 => by simp
  | k + 1 => by rw [List.replicate_succ, List.flatten_cons, List.length_append, flat_len l k, Nat.succ_mul]; omega
theorem strOk_app {x y : Str} (hx : PyData.strOk x = true) (hy : PyData.strOk y = true) : PyData.strOk (x ++ y) = true := by
  unfold PyData.strOk at hx hy ⊢
  show (x.cps ++ y.cps).all _ = true
  rw [Array.all_append, hx, hy]; rfl
theorem mulOk_ok {i j : Int} (h : mulOk i j = true) : IntMulOk i j := by
  have h := of_decide_eq_true h
  have b : ∀ x : Int, Builtin.Int.intBits x ≤ x.natAbs.log2 + 1 := fun x => by
    unfold Builtin.Int.intBits
    split <;> omega
  have h1 := b i
  have h2 := b j
  have e : bitsLine = 134217728 := by decide
  intro z
  rw [Bool.and_eq_true] at z
  have z2 := z.2
  unfold Builtin.Int.intTooBig at z2
  have z3 := of_decide_eq_true z2
  omega
end
section
variable {X : Cx} {B : Gb}
theorem op_mulB : OpR X (binaryOp .Mult) (rI (fun i j => mulOk i j = true) fun i j => .int (i * j)) := opI fun _ _ _ _ _ _ _ hc q => PyProof.Rows.mul_int q (mulOk_ok hc)
theorem op_fdivB : OpR X (binaryOp .FloorDiv) (rI (fun i j => j ≠ 0 ∧ Builtin.divisionGoesByPylong i j = false) fun i j => .int (i.fdiv j)) := opI fun _ _ _ _ _ _ _ hc q => PyProof.Rows.floordiv_int hc.1 q (.inl hc.2)
theorem foldl_cat (x : Array Nat) : ∀ (k : Nat) (a : Array Nat), (List.replicate k x).foldl (· ++ ·) a = a ++ (List.replicate k x.toList).flatten.toArray
  | 0, a => by simp
  | k + 1, a => by
    rw [List.replicate_succ, List.foldl_cons, foldl_cat x k, List.replicate_succ, List.flatten_cons]
    apply Array.toList_inj.mp
    simp
theorem strOk_rep {x : Str} (hx : PyData.strOk x = true) (k : Nat) : PyData.strOk ⟨(List.replicate k x.cps.toList).flatten.toArray⟩ = true := by
  unfold PyData.strOk at hx ⊢
  have e : x.cps = x.cps.toList.toArray := by simp
  rw [e] at hx
  simp only [List.all_toArray', List.all_flatten, List.all_eq_true, decide_eq_true_eq] at hx ⊢
  intro l hl c hc
  rw [List.mem_replicate] at hl
  rw [hl.2] at hc
  exact hx c hc
theorem op_mulS : OpR X (binaryOp .Mult) (fun x y H Q => ∃ (i : Str) (k : Int), x = .str i ∧ y = .int k ∧ 2 ≤ k ∧ k ≤ 1000 ∧ 1 ≤ i.length ∧ i.length ≤ 1000 ∧ Q (.str ⟨(List.replicate k.toNat i.cps.toList).flatten.toArray⟩) H) := by
  intro pins s σ H x y v u Q I rx ry h
  obtain ⟨i, k, rfl, rfl, h1, h2, h3, h4, q⟩ := h
  obtain ⟨t, rfl⟩ := rx
  obtain ⟨t', rfl⟩ := ry
  have hm : i.length * k.toNat ≤ 1000 * 1000 := Nat.mul_le_mul h4 (by omega)
  refine PySem.P.mul_str (by rw [decide_eq_false (by omega), decide_eq_false (by omega)]; rfl) (fun _ _ hb => ?_) (fun _ _ => ?_) ?_
  · have : (9223372036854775807 : Int) / k ≥ 9223372036854775 := by
      refine Int.le_ediv_of_mul_le (by omega) ?_
      omega
    have e : ((2 : Int) ^ 63 - 1) = 9223372036854775807 := by decide
    rw [e] at hb
    omega
  · unfold Builtin.Str.tooLong
    rw [sizeLine_eq]
    exact decide_eq_false (by omega)
  · rw [if_neg (by omega), if_neg (by simp; omega), foldl_cat]
    refine ⟨?_, ⟨.str _, H, I.tok _, ⟨_, rfl⟩, ?_⟩⟩
    · show (#[] ++ (List.replicate k.toNat i.cps.toList).flatten.toArray).size ≤ sizeLine
      have e : i.cps.toList.length = i.length := by simp [Str.length]
      rw [Array.empty_append, List.size_toArray, flat_len, e, sizeLine_eq, Nat.mul_comm]
      omega
    · rw [Array.empty_append]; exact q
theorem nlim (l : List D) (h : l.length ≤ LIM) {xs : List V} {K : PySem.W.Frag} {O : Orc} {F : Hp} (r : RpA K O F xs l) : xs.length ≤ sizeLine := by rw [r.length, ← lim_eq]; exact h
theorem op_bin (hK : B.K = X.K) (op : Operator) : OpR X (binaryOp op) (rBin B op) := by
  intro pins s σ H x y v u Q I rx ry h
  obtain ⟨F, n, d, e, r, st, hx, hy, hb, g⟩ := h
  unfold binV at hb
  split at hb
  · obtain rfl := hx.int; obtain rfl := hy.int
    cases hb
    exact op_add pins s σ H _ _ v u Q I rx ry ⟨_, _, rfl, rfl, g.here st (.int _)⟩
  · obtain rfl := hx.bl; obtain rfl := hy.int
    cases hb
    cases rx
    obtain ⟨t, rfl⟩ := ry
    exact PySem.IntBool.add_bool_int ⟨.int _, H, I.tok _, ⟨_, rfl⟩, g.here st (.int _)⟩
  · obtain ⟨rfl, ha⟩ := hx.str; obtain ⟨rfl, hb'⟩ := hy.str
    split at hb
    · rename_i hl
      cases hb
      exact op_add_str pins s σ H _ _ v u Q I rx ry ⟨_, _, rfl, rfl, (by rw [← lim_eq]; exact hl), g.here st (.str _ (strOk_app ha hb'))⟩
    · cases hb
  · obtain ⟨a, xs, rfl, h1, r1, n1⟩ := hx.tup st.sub
    obtain ⟨b, ys, rfl, h2, r2, n2⟩ := hy.tup st.sub
    obtain ⟨z, hz, rfl⟩ := Option.map_eq_some_iff.mp hb
    obtain ⟨rfl, hl⟩ := cat_some hz
    rw [hK] at h1 h2
    refine op_catA pins s σ H _ _ v u Q I rx ry ⟨a, b, xs, ys, rfl, rfl, h1, h2, (by rw [r1.length, r2.length, ← lim_eq]; exact hl), fun ex => ?_, fun ex ey => ?_, fun ex ey => ?_⟩
    · subst ex
      cases r1
      rw [List.nil_append] at g
      cases hy with
      | of q => exact g.here st q
      | own ha _ h r => cases r.isC
    · subst ey
      cases r2
      rw [List.append_nil] at g
      cases hx with
      | of q => exact g.here st q
      | own ha _ h r => cases r.isC
    · exact g.tupN st (r1.app r2) (by rw [List.length_append]; exact hl)
  · obtain ⟨a, xs, rfl, h1, r1, n1⟩ := hx.lst st.sub
    obtain ⟨b, ys, rfl, h2, r2, n2⟩ := hy.lst st.sub
    obtain ⟨z, hz, rfl⟩ := Option.map_eq_some_iff.mp hb
    obtain ⟨rfl, hl⟩ := cat_some hz
    exact op_cat pins s σ H _ _ v u Q I rx ry ⟨a, b, xs, ys, rfl, rfl, h1, h2, (by rw [r1.length, r2.length, ← lim_eq]; exact hl), g.lstN st (r1.app r2) (by rw [List.length_append]; exact hl)⟩
  · obtain rfl := hx.int; obtain rfl := hy.int
    cases hb
    exact op_sub pins s σ H _ _ v u Q I rx ry ⟨_, _, rfl, rfl, g.here st (.int _)⟩
  · obtain rfl := hx.bl; obtain rfl := hy.int
    cases hb
    cases rx
    obtain ⟨t, rfl⟩ := ry
    exact PySem.IntBool.sub_bool_int ⟨.int _, H, I.tok _, ⟨_, rfl⟩, g.here st (.int _)⟩
  · obtain rfl := hx.int; obtain rfl := hy.int
    split at hb
    · rename_i hm
      cases hb
      exact op_mulB pins s σ H _ _ v u Q I rx ry ⟨_, _, rfl, rfl, hm, g.here st (.int _)⟩
    · cases hb
  · obtain ⟨a, xs, rfl, h1, r1, n1⟩ := hx.lst st.sub
    obtain rfl := hy.int
    obtain ⟨z, hz, rfl⟩ := Option.map_eq_some_iff.mp hb
    obtain ⟨rfl, k0, k1, hl⟩ := rep_some hz
    exact op_rep pins s σ H _ _ v u Q I rx ry ⟨a, _, xs, rfl, rfl, h1, by omega, by omega, (by rw [r1.length, ← lim_eq]; exact hl), g.lstN st (r1.rep _) (by rw [flat_len, Nat.mul_comm]; exact hl)⟩
  · obtain ⟨a, xs, rfl, h1, r1, n1⟩ := hx.tup st.sub
    obtain rfl := hy.int
    obtain ⟨z, hz, rfl⟩ := Option.map_eq_some_iff.mp hb
    unfold repT at hz
    split at hz
    · rename_i hc
      cases hz
      rw [hK] at h1
      exact op_repT pins s σ H _ _ v u Q I rx ry ⟨a, _, xs, rfl, rfl, h1, (fun e => hc.2.2.1 (by subst e; cases r1; rfl)), hc.1, hc.2.1, (by rw [r1.length]; exact hc.2.2.2), g.tupN st (r1.rep _) (by rw [flat_len]; have := Nat.mul_le_mul (show Int.toNat ‹Int› ≤ 1000 from by omega) hc.2.2.2; simp only [LIM]; omega)⟩
    · cases hz
  · obtain ⟨rfl, ha⟩ := hx.str
    obtain rfl := hy.int
    obtain ⟨z, hz, rfl⟩ := Option.map_eq_some_iff.mp hb
    unfold srep at hz
    split at hz
    · rename_i hc
      cases hz
      exact op_mulS pins s σ H _ _ v u Q I rx ry ⟨_, _, rfl, rfl, hc.1, hc.2.1, hc.2.2.1, hc.2.2.2, g.here st (.str _ (strOk_rep ha _))⟩
    · cases hz
  · obtain rfl := hx.int; obtain rfl := hy.int
    split at hb
    · rename_i hm
      cases hb
      rw [Bool.and_eq_true] at hm
      exact op_fdivB pins s σ H _ _ v u Q I rx ry ⟨_, _, rfl, rfl, ⟨of_decide_eq_true hm.1, by simpa using hm.2⟩, g.here st (.int _)⟩
    · cases hb
  · obtain rfl := hx.int; obtain rfl := hy.int
    split at hb
    · rename_i hm
      cases hb
      exact op_modN pins s σ H _ _ v u Q I rx ry ⟨_, _, rfl, rfl, hm, g.here st (.int _)⟩
    · cases hb
  · obtain rfl := hx.int; obtain rfl := hy.int
    split at hb
    · rename_i hm
      cases hb
      exact op_pow pins s σ H _ _ v u Q I rx ry ⟨_, _, rfl, rfl, hm, g.here st (.int _)⟩
    · cases hb
  · obtain rfl := hx.int; obtain rfl := hy.int
    split at hb
    · rename_i hm
      cases hb
      exact op_shl pins s σ H _ _ v u Q I rx ry ⟨_, _, rfl, rfl, hm, g.here st (.int _)⟩
    · cases hb
  · obtain rfl := hx.int; obtain rfl := hy.int
    split at hb
    · rename_i hm
      cases hb
      exact op_shr pins s σ H _ _ v u Q I rx ry ⟨_, _, rfl, rfl, hm, g.here st (.int _)⟩
    · cases hb
  · obtain rfl := hx.int; obtain rfl := hy.int
    cases hb
    exact op_and pins s σ H _ _ v u Q I rx ry ⟨_, _, rfl, rfl, g.here st (.int _)⟩
  · obtain rfl := hx.int; obtain rfl := hy.int
    cases hb
    exact op_or pins s σ H _ _ v u Q I rx ry ⟨_, _, rfl, rfl, g.here st (.int _)⟩
  · cases hb
end
end Py

set_option Elab.async false
set_option linter.all false
set_option maxRecDepth 100000
set_option maxHeartbeats 2000000
/-! C6: comparisons, subscripts, slices. -/
namespace Py
open PySem PySem.Spec L2

theorem D.pys_map : ∀ l : List D, D.pys l = l.map D.py
  | [] => rfl
  | x :: r => by rw [D.pys, D.pys_map r]; rfl
theorem any_eq (x : D) (hx : x.pl = true) : ∀ l : List D, D.pls l = true → ((D.pys l).any fun y => PyData.eqv y x.py) = l.any fun y => y.eq x
  | [], _ => rfl
  | y :: r, h => by
    rw [D.pls, Bool.and_eq_true] at h
    rw [D.pys, List.any_cons, List.any_cons, any_eq x hx r h.2, D.eq_py y x h.1 hx]
section
variable {X : Cx} {B : Gb} {F H : Hp} {n : Nat}
theorem RpO.rd {pins : List (Addr × Obj)} {σ : St} {s : Shared} {v : V} {u : Value} {d : D} (hK : B.K = X.K) (I : Inv X pins σ H s) (sub : Same F H) (h : RpO B.K B.O F H v d) (p : d.pl = true) (r : RelV v u) : ∃ as, Reads s.heap u d.py as := by
  have q := h.dp sub p
  rw [hK] at q
  exact Dp.reads I _ _ _ q r
theorem keyD_v {K : PySem.W.Frag} {O : Orc} {F H : Hp} {x : V} {d : D} {k : Key} (h : RpO K O F H x d) (e : keyD d = some k) : x = kV k := by
  cases d with
  | int i => obtain rfl := h.int; cases e; rfl
  | str y => obtain ⟨rfl, _⟩ := h.str; cases e; rfl
  | _ => cases e
theorem hasK_v {kvs : List (Key × V)} {ks : List Key} {k : Key} (h : kvs.map (·.1) = ks) : hasK ks k = (valV kvs k).isSome := by
  subst h
  unfold hasK
  rw [← valV_any, List.any_map]
  rfl
theorem dlook_v {K : PySem.W.Frag} {O : Orc} {F : Hp} {k : Key} {d : D} : ∀ {kvs : List (Key × V)} {ks : List Key} {ds : List D}, kvs.map (·.1) = ks → RpA K O F (kvs.map (·.2)) ds → dlook ks ds k = some d → ∃ v, valV kvs k = some v ∧ Rp K O F v d
  | [], _, ds, h, r, e => by
    subst h
    simp [dlook] at e
  | (k', v') :: kvs, _, ds, h, r, e => by
    subst h
    simp only [List.map_cons] at r e
    cases r with
    | cons r1 r2 =>
      rw [dlook] at e
      by_cases q : k' = k
      · rw [if_pos q] at e
        cases e
        exact ⟨v', valV_pos q, r1⟩
      · rw [if_neg q] at e
        obtain ⟨v, h1, h2⟩ := dlook_v rfl r2 e
        exact ⟨v, by rw [valV_neg (p := (k', v')) q]; exact h1, h2⟩
theorem op_cmpB (hK : B.K = X.K) (hu : X.A.units + 190 < cLine) (op : CmpOp) : OpR X (compareOp op) (rCmp B op) := by
  intro pins s σ H x y v u Q I rx ry h
  obtain ⟨F, n, d, e, r, st, hx, hy, hb, g⟩ := h
  have eqc : ∀ {r}, eqV d e = some r → d.pl = true ∧ e.pl = true ∧ min d.py.depth e.py.depth ≤ 180 ∧ r = PyData.eqv d.py e.py := fun {r} q => by
    unfold eqV at q
    split at q
    · rename_i c
      rw [Bool.and_eq_true, Bool.and_eq_true] at c
      refine ⟨c.1.1, c.1.2, ?_, ?_⟩
      · rw [D.dep_py, D.dep_py]; exact of_decide_eq_true c.2
      · rw [D.eq_py _ _ c.1.1 c.1.2]; exact (Option.some.inj q).symm
    · cases q
  have inc : ∀ {l r}, inV d l = some r → d.pl = true ∧ D.pls l = true ∧ min (PyData.depthAll (D.pys l)) d.py.depth ≤ 180 ∧ r = (D.pys l).any fun y => PyData.eqv y d.py := fun {l r} q => by
    unfold inV at q
    split at q
    · rename_i c
      rw [Bool.and_eq_true, Bool.and_eq_true] at c
      refine ⟨c.1.1, c.1.2, ?_, ?_⟩
      · rw [D.dep_py, D.deps_py]; exact of_decide_eq_true c.2
      · rw [any_eq _ c.1.1 _ c.1.2]; exact (Option.some.inj q).symm
    · cases q
  unfold cmpV at hb
  split at hb
  · obtain ⟨p1, p2, hd, rfl⟩ := eqc hb
    obtain ⟨as, r1⟩ := RpO.rd hK I st.sub hx p1 rx
    obtain ⟨bs, r2⟩ := RpO.rd hK I st.sub hy p2 ry
    exact SeqAt.compareEq_reads r1 r2 hx.lay hy.lay (by omega) ⟨.bl _, H, I, rfl, g⟩
  · obtain ⟨z, hz, rfl⟩ := Option.map_eq_some_iff.mp hb
    obtain ⟨p1, p2, hd, rfl⟩ := eqc hz
    obtain ⟨as, r1⟩ := RpO.rd hK I st.sub hx p1 rx
    obtain ⟨bs, r2⟩ := RpO.rd hK I st.sub hy p2 ry
    exact SeqAt.compareNe_reads r1 r2 hx.lay hy.lay (by omega) ⟨.bl _, H, I, rfl, g⟩
  · obtain rfl := hx.int; obtain rfl := hy.int
    cases hb
    exact op_lt pins s σ H _ _ v u Q I rx ry ⟨_, _, rfl, rfl, g⟩
  · obtain rfl := hx.int; obtain rfl := hy.int
    cases hb
    exact op_le pins s σ H _ _ v u Q I rx ry ⟨_, _, rfl, rfl, g⟩
  · obtain rfl := hx.int; obtain rfl := hy.int
    cases hb
    exact op_gt pins s σ H _ _ v u Q I rx ry ⟨_, _, rfl, rfl, g⟩
  · obtain rfl := hx.int; obtain rfl := hy.int
    cases hb
    exact op_ge pins s σ H _ _ v u Q I rx ry ⟨_, _, rfl, rfl, g⟩
  · obtain ⟨rfl, _⟩ := hx.str; obtain ⟨rfl, _⟩ := hy.str
    cases hb
    exact op_lt_str pins s σ H _ _ v u Q I rx ry ⟨_, _, rfl, rfl, g⟩
  · obtain ⟨rfl, _⟩ := hx.str; obtain ⟨rfl, _⟩ := hy.str
    cases hb
    exact op_le_str pins s σ H _ _ v u Q I rx ry ⟨_, _, rfl, rfl, g⟩
  · rename_i l
    obtain ⟨p1, p2, hd, rfl⟩ := inc hb
    obtain ⟨as, r1⟩ := RpO.rd hK I st.sub hx p1 rx
    obtain ⟨bs, r2⟩ := RpO.rd hK I st.sub hy (d := .tup l) (by rw [D.pl]; exact p2) ry
    have hl := hy.lay
    rw [D.py] at r2 hl
    rw [PyData.canLay0] at hl
    exact SeqAt.in_tuple_reads r2 r1 hl hx.lay (by omega) ⟨.bl _, H, I, rfl, g⟩
  · rename_i l
    obtain ⟨p1, p2, hd, rfl⟩ := inc hb
    obtain ⟨as, r1⟩ := RpO.rd hK I st.sub hx p1 rx
    obtain ⟨bs, r2⟩ := RpO.rd hK I st.sub hy (d := .lst l) (by rw [D.pl]; exact p2) ry
    have hl := hy.lay
    rw [D.py] at r2 hl
    rw [PyData.canLay0] at hl
    exact SeqAt.in_list_reads r2 r1 hl hx.lay (by omega) ⟨.bl _, H, I, rfl, g⟩
  · obtain ⟨rfl, _⟩ := hx.str; obtain ⟨rfl, _⟩ := hy.str
    cases hb
    exact op_in_str pins s σ H _ _ v u Q I rx ry ⟨_, _, rfl, rfl, g⟩
  · rename_i ks ds _
    obtain ⟨k, hk, rfl⟩ := Option.map_eq_some_iff.mp hb
    obtain ⟨a, kvs, rfl, h1, h2, -, -⟩ := hy.dic st.sub
    cases ry
    have gg : DGet H a x (valV kvs k) := by rw [keyD_v hx hk]; exact DGet.k h1
    refine d_in (A := X.A) (by omega) I gg rx fun s' I' => ⟨.bl _, H, I', rfl, ?_⟩
    rw [← hasK_v h2]; exact g
  · rename_i l
    obtain ⟨z, hz, rfl⟩ := Option.map_eq_some_iff.mp hb
    obtain ⟨p1, p2, hd, rfl⟩ := inc hz
    obtain ⟨as, r1⟩ := RpO.rd hK I st.sub hx p1 rx
    obtain ⟨bs, r2⟩ := RpO.rd hK I st.sub hy (d := .tup l) (by rw [D.pl]; exact p2) ry
    have hl := hy.lay
    rw [D.py] at r2 hl
    rw [PyData.canLay0] at hl
    exact SeqAt.notIn_tuple_reads r2 r1 hl hx.lay (by omega) ⟨.bl _, H, I, rfl, g⟩
  · rename_i l
    obtain ⟨z, hz, rfl⟩ := Option.map_eq_some_iff.mp hb
    obtain ⟨p1, p2, hd, rfl⟩ := inc hz
    obtain ⟨as, r1⟩ := RpO.rd hK I st.sub hx p1 rx
    obtain ⟨bs, r2⟩ := RpO.rd hK I st.sub hy (d := .lst l) (by rw [D.pl]; exact p2) ry
    have hl := hy.lay
    rw [D.py] at r2 hl
    rw [PyData.canLay0] at hl
    exact SeqAt.notIn_list_reads r2 r1 hl hx.lay (by omega) ⟨.bl _, H, I, rfl, g⟩
  · obtain ⟨rfl, _⟩ := hx.str; obtain ⟨rfl, _⟩ := hy.str
    cases hb
    exact op_notin_str pins s σ H _ _ v u Q I rx ry ⟨_, _, rfl, rfl, g⟩
  · rename_i ks ds _
    obtain ⟨k, hk, rfl⟩ := Option.map_eq_some_iff.mp hb
    obtain ⟨a, kvs, rfl, h1, h2, -, -⟩ := hy.dic st.sub
    cases ry
    have gg : DGet H a x (valV kvs k) := by rw [keyD_v hx hk]; exact DGet.k h1
    refine d_notIn (A := X.A) (by omega) I gg rx fun s' I' => ⟨.bl _, H, I', rfl, ?_⟩
    rw [← hasK_v h2]; exact g
  · obtain rfl := hx.non; obtain rfl := hy.non
    cases hb
    exact op_isN pins s σ H _ _ v u Q I rx ry ⟨rfl, g⟩
  · rename_i hn
    obtain rfl := hy.non
    cases hb
    have hv : decide (x = V.non) = false := by
      cases hx with
      | of h => cases h <;> first | rfl | exact absurd rfl hn
      | own _ _ _ _ => rfl
    exact op_isN pins s σ H _ _ v u Q I rx ry ⟨rfl, by rw [hv]; exact g⟩
  · obtain rfl := hx.non; obtain rfl := hy.non
    cases hb
    exact op_notN pins s σ H _ _ v u Q I rx ry ⟨rfl, g⟩
  · rename_i hn
    obtain rfl := hy.non
    cases hb
    have hv : decide (x = V.non) = false := by
      cases hx with
      | of h => cases h <;> first | rfl | exact absurd rfl hn
      | own _ _ _ _ => rfl
    exact op_notN pins s σ H _ _ v u Q I rx ry ⟨rfl, by rw [hv]; exact g⟩
  · obtain rfl := hx.bl; obtain rfl := hy.bl
    cases hb
    exact op_isBl pins s σ H _ _ v u Q I rx ry ⟨_, _, rfl, rfl, g⟩
  · obtain rfl := hx.bl; obtain rfl := hy.bl
    cases hb
    exact op_notBl pins s σ H _ _ v u Q I rx ry ⟨_, _, rfl, rfl, g⟩
  · cases hb

theorem atI_rp {K : PySem.W.Frag} {O : Orc} {xs : List V} {l : List D} {i : Int} {d : D} (r : RpA K O F xs l) (h : atI l i = some d) : ∃ v, atI xs i = some v ∧ Rp K O F v d := by
  unfold atI at h ⊢
  rw [r.length]
  cases e : ixN l.length i with
  | none => rw [e] at h; cases h
  | some j =>
    rw [e] at h
    exact r.get h
theorem ix_B (hK : B.K = X.K) (hu : X.A.units + 190 < cLine) : IxR X (rIdx B) := by
  intro value slice pins s σ H x y v u Q I rx ry h hs
  obtain ⟨F, n, d, e, r, st, hx, hy, hb, g⟩ := h
  unfold idxV at hb
  split at hb
  · obtain ⟨a, xs, rfl, h1, r1, n1⟩ := hx.tup st.sub
    obtain rfl := hy.int
    obtain ⟨w, hw, rw'⟩ := atI_rp r1 hb
    rw [hK] at h1
    exact ix_tup value slice pins s σ H _ _ v u Q I rx ry ⟨a, xs, _, w, rfl, rfl, h1, hw, g w rw'⟩ hs
  · obtain ⟨a, xs, rfl, h1, r1, n1⟩ := hx.lst st.sub
    obtain rfl := hy.int
    obtain ⟨w, hw, rw'⟩ := atI_rp r1 hb
    exact ix_list value slice pins s σ H _ _ v u Q I rx ry ⟨a, xs, _, w, rfl, rfl, SqL.of h1, hw, g w rw'⟩ hs
  · obtain ⟨k, hk, hb⟩ := Option.bind_eq_some_iff.mp hb
    obtain ⟨a, kvs, rfl, h1, h2, h3, -⟩ := hx.dic st.sub
    obtain ⟨w, hw, rw'⟩ := dlook_v h2 h3 hb
    have gg : DGet H a y (some w) := by
      have := DGet.k (k := k) h1
      rw [hw, ← keyD_v hy hk] at this
      exact this
    cases rx
    refine PyProof.Rows.tail_any (ops := [.ref a, u]) (dict_typeIs I gg) PySem.F.slot_dict_getitem.lookup ?_ hs
    exact d_getItem (by omega) I gg ry fun w' s' I' r' => ⟨w, H, I', r', g w rw'⟩
  · obtain ⟨rfl, hx2⟩ := hx.str
    obtain rfl := hy.int
    split at hb
    · rename_i hl
      obtain ⟨c, hc, rfl⟩ := Option.map_eq_some_iff.mp hb
      refine ix_str value slice pins s σ H _ _ v u Q I rx ry ⟨_, _, c, rfl, rfl, (by rw [← lim_eq]; exact hl), hc, g _ (.str _ ?_)⟩ hs
      obtain ⟨j, _, hj, _⟩ := atI_get hc
      unfold PyData.strOk at hx2 ⊢
      rw [Array.all_eq_true'] at hx2
      have hm : c < 0x110000 := of_decide_eq_true (hx2 c (by
        have := List.mem_of_getElem? hj
        simpa using this))
      simp only [List.all_toArray', List.all_cons, List.all_nil, Bool.and_true]
      first | exact decide_eq_true hm | (simp; exact hm)
    · cases hb
  · cases hb
end
/-! ### the terms -/
section
variable {X : Cx} {B : Gb} {T : Tab} {W : WX} {a b c : Expr} {pos : Pos} {o o1 o2 o3 : Bool} {ia ib ic : E} {es : List Expr}
theorem o_cons (h : PE X a (tE B T W o ia)) (t : PA X es (tA B T W o ib)) (hs : starEach (a :: es) X.env = (false, eval a X.env) :: starEach es X.env) : PA X (a :: es) (tA B T W o (.cons ia ib)) :=
  PAw (pa_cons h t hs) fun σ H Q ⟨F, env, ad, n, s, en, h⟩ => by
    dsimp only [evs] at h
    exact tE_of s en h fun d n1 F1 H1 s1 en1 e1 h1 v rv => tA_of s1 en1 h1 fun l n2 F2 H2 s2 en2 e2 h2 vs rvs => h2 F2 H2 (Ext.refl s2) _ (.cons (rv.ext e2) rvs)
theorem o_tup {k : Nat} (h : PA X es (tA B T W false ia)) (hl : ∀ env n l m, evs T ia env n = .ok l m → l.length ≤ LIM) : PE X (.Tuple es k pos) (tE B T W o (.tup ia)) :=
  PEw (pe_tup h) fun σ H Q ⟨F, env, ad, n, s, en, h⟩ => by
    dsimp only [ev] at h
    refine ⟨F, env, ad, n, s, en, h.seq.imp fun l n1 F1 H1 er e1 h1 vs rvs => ?_⟩
    have rv := rvs.frz
    have hn := hl _ _ _ _ er
    exact ⟨by rw [rv.length, ← lim_eq]; exact hn, fun p hp => R.new (s.ext e1) h1 hp (Rp.newT ((s.ext e1).lt hp) rv hn)⟩
theorem o_lst (h : PA X es (tA B T W false ia)) (hl : ∀ env n l m, evs T ia env n = .ok l m → l.length ≤ LIM) : PE X (.List es pos) (tE B T W o (.lst ia)) :=
  PEw (pe_lst h) fun σ H Q ⟨F, env, ad, n, s, en, h⟩ => by
    dsimp only [ev] at h
    refine ⟨F, env, ad, n, s, en, h.seq.imp fun l n1 F1 H1 er e1 h1 vs rvs => ?_⟩
    have rv := rvs.frz
    have hn := hl _ _ _ _ er
    exact ⟨by rw [rv.length, ← lim_eq]; exact hn, fun p hp => R.new (s.ext e1) h1 hp (Rp.newL ((s.ext e1).lt hp) rv hn)⟩
theorem o_bop {op : Operator} (hK : B.K = X.K) (ha : PE X a (tE B T W o1 ia)) (hb : PE X b (tE B T W o2 ib)) : PE X (.BinOp a op b pos) (tE B T W o (.bop op ia ib)) :=
  PEw (pe_op (op_bin hK op) ha hb) fun σ H Q ⟨F, env, ad, n, s, en, h⟩ => by
    dsimp only [ev] at h
    refine tE_of s en h fun x n1 F1 H1 s1 en1 e1 h1 v rv => tE_of s1 en1 h1 fun y n2 F2 H2 s2 en2 e2 h2 w rw' => ?_
    cases er : binV op x y with
    | none => rw [er] at h2; exact h2.elim
    | some r =>
      rw [er] at h2
      exact ⟨F2, n2, x, y, r, s2, (rv.ext e2).opd, rw'.opd, er, fun v F' H' e' q => h2 F' H' e' v (Rq.of q)⟩
theorem o_neg (ha : PE X a (tE B T W o1 ia)) : PE X (.UnaryOp .USub a pos) (tE B T W o (.neg ia)) :=
  PEw (pe_un un_neg ha) fun σ H Q ⟨F, env, ad, n, s, en, h⟩ => by
    dsimp only [ev] at h
    refine tE_of s en h fun x n1 F1 H1 s1 en1 e1 h1 v rv => ?_
    cases x with
    | int i => exact ⟨i, rv.opd.int, h1 F1 H1 (Ext.refl s1) _ (Rq.of (.int _))⟩
    | _ => exact h1.elim
theorem o_cmp {op : CmpOp} (hK : B.K = X.K) (hu : X.A.units + 190 < cLine) (hm : behindInMarks op b = false) (ha : PE X a (tE B T W o1 ia)) (hb : PE X b (tE B T W o2 ib)) : PE X (.Compare a [op] [b] pos) (tE B T W o (.cmp op ia ib)) :=
  PEw (pe_cmpR (op_cmpB hK hu op) ha hb hm) fun σ H Q ⟨F, env, ad, n, s, en, h⟩ => by
    dsimp only [ev] at h
    refine tE_of s en h fun x n1 F1 H1 s1 en1 e1 h1 v rv => tE_of s1 en1 h1 fun y n2 F2 H2 s2 en2 e2 h2 w rw' => ?_
    cases er : cmpV op x y with
    | none => rw [er] at h2; exact h2.elim
    | some r =>
      rw [er] at h2
      exact ⟨F2, n2, x, y, r, s2, (rv.ext e2).opd, rw'.opd, er, h2 F2 H2 (Ext.refl s2) _ (Rq.of (.bl _))⟩
theorem o_tcmp {op : CmpOp} (hK : B.K = X.K) (hu : X.A.units + 190 < cLine) (hm : behindInMarks op b = false) (ha : PE X a (tE B T W o1 ia)) (hb : PE X b (tE B T W o2 ib)) : PT X (.Compare a [op] [b] pos) (tT B T W (.tru (.cmp op ia ib))) :=
  PTw (pt_cmpR (op_cmpB hK hu op) ha hb hm) fun σ H Q ⟨F, env, ad, n, s, en, h⟩ => by
    dsimp only [tv, ev] at h
    have h := R.seq h
    refine tE_of s en h fun x n1 F1 H1 s1 en1 e1 h1 v rv => tE_of s1 en1 h1 fun y n2 F2 H2 s2 en2 e2 h2 w rw' => ?_
    cases er : cmpV op x y with
    | none => rw [er] at h2; exact h2.elim
    | some r =>
      rw [er] at h2
      exact ⟨F2, n2, x, y, r, s2, (rv.ext e2).opd, rw'.opd, er, r, rfl, (h2 F2 H2 (Ext.refl s2)) F2 H2 (Ext.refl s2)⟩
theorem o_idx (hK : B.K = X.K) (hu : X.A.units + 190 < cLine) (hs : PlainIx b) (ha : PE X a (tE B T W o1 ia)) (hb : PE X b (tE B T W o2 ib)) : PE X (.Subscript a b pos) (tE B T W o (.idx ia ib)) :=
  PEw (pe_ix (ix_B hK hu) ha hb hs) fun σ H Q ⟨F, env, ad, n, s, en, h⟩ => by
    dsimp only [ev] at h
    refine tE_of s en h fun x n1 F1 H1 s1 en1 e1 h1 v rv => tE_of s1 en1 h1 fun y n2 F2 H2 s2 en2 e2 h2 w rw' => ?_
    obtain ⟨r, er, hr⟩ := R.val s2 h2
    exact ⟨F2, n2, x, y, r, s2, (rv.ext e2).opd, rw'.opd, er, fun v q => hr v (Rq.of q)⟩
end
end Py

set_option Elab.async false
set_option linter.all false
set_option maxRecDepth 100000
set_option maxHeartbeats 2000000
/-! C7: truth, and, or, not, if; built-in functions; isinstance; slices. -/
namespace Py
open PySem PySem.Spec L2
section
variable {X : Cx} {B : Gb} {T : Tab} {W : WX} {a b c : Expr} {pos : Pos} {o o1 o2 o3 : Bool} {ia ib ic : E} {es : List Expr}
theorem empty_eq {K : PySem.W.Frag} {O : Orc} {F : Hp} : ∀ {xs : List V} {l : List D}, RpA K O F xs l → xs.isEmpty = l.isEmpty
  | _, _, .nil => rfl
  | _, _, .cons _ _ => rfl
theorem tru_V (hK : B.K = X.K) {F H : Hp} {v : V} {d : D} {k : Bool} (sub : Same F H) (r : RpO B.K B.O F H v d) (h : d.tru = some k) : TruV X.K v H k := by
  cases d with
  | non => obtain rfl := r.non; cases h; exact rfl
  | bl b => obtain rfl := r.bl; cases h; exact rfl
  | int i => obtain rfl := r.int; cases h; exact rfl
  | str x =>
    obtain ⟨rfl, _⟩ := r.str
    rw [D.tru] at h
    split at h
    · rename_i hl
      cases h
      exact ⟨by rw [← lim_eq]; exact hl, rfl⟩
    · cases h
  | tup l =>
    obtain ⟨a, xs, rfl, h1, r1, _⟩ := r.tup sub
    cases h
    rw [hK] at h1
    exact .inr (.inl ⟨xs, h1, by rw [empty_eq r1]⟩)
  | lst l =>
    obtain ⟨a, xs, rfl, h1, r1, _⟩ := r.lst sub
    cases h
    exact .inl ⟨xs, SqL.of h1, by rw [empty_eq r1]⟩
  | dic ks ds =>
    obtain ⟨a, kvs, rfl, h1, h2, -, -⟩ := r.dic sub
    cases h
    exact .inr (.inr ⟨kvs, h1, by rw [← h2]; cases kvs <;> rfl⟩)
  | _ => cases h
theorem o_tru (hK : B.K = X.K) (ha : PE X a (tE B T W o1 ia)) (he : ∀ whole, isTrue a X.env whole = (do let v ← whole; standAt a.pos; holding [v] (truthy v))) : PT X a (tT B T W (.tru ia)) :=
  PTw (pt_truth ha he) fun σ H Q ⟨F, env, ad, n, s, en, h⟩ => by
    dsimp only [tv] at h
    refine tE_of s en h fun x n1 F1 H1 s1 en1 e1 h1 v rv => ?_
    cases er : x.tru with
    | none => rw [er] at h1; exact h1.elim
    | some k =>
      rw [er] at h1
      exact ⟨k, tru_V hK s1.sub rv.opd er, h1 F1 H1 (Ext.refl s1)⟩
theorem o_tcmp2 {op op' : CmpOp} (hK : B.K = X.K) (hu : X.A.units + 190 < cLine) (hm : lastMarks [op, op'] [b, c] = false) (ha : PE X a (tE B T W o1 ia)) (hb : PE X b (tE B T W o2 ib)) (hc : PE X c (tE B T W o3 ic)) :
    PT X (.Compare a [op, op'] [b, c] pos) (tT B T W (.tru (.cmp2 op op' ia ib ic))) :=
  PTw (pt_chain (op_cmpB hK hu op) (op_cmpB hK hu op') ha hb hc hm) fun σ H Q ⟨F, env, ad, n, s, en, h⟩ => by
    dsimp only [tv, ev] at h
    have h := R.seq h
    refine tE_of s en h fun x n1 F1 H1 s1 en1 e1 h1 v rv => tE_of s1 en1 h1 fun y n2 F2 H2 s2 en2 e2 h2 w rw' => ?_
    have h2 := R.seq h2
    cases er : cmpV op x y with
    | none => rw [er] at h2; exact h2.elim
    | some r =>
      rw [er] at h2
      have h3 := h2 F2 H2 (Ext.refl s2)
      refine ⟨F2, n2, x, y, r, s2, (rv.ext e2).opd, rw'.opd, er, r, rfl, ?_⟩
      cases r with
      | false =>
        rw [if_neg Bool.false_ne_true] at h3 ⊢
        exact ⟨_, rfl, (h3 F2 H2 (Ext.refl s2)) F2 H2 (Ext.refl s2)⟩
      | true =>
        rw [if_pos rfl] at h3 ⊢
        refine tE_of s2 en2 h3 fun z n3 F3 H3 s3 en3 e3 h4 u ru => ?_
        cases er' : cmpV op' y z with
        | none => rw [er'] at h4; exact h4.elim
        | some r' =>
          rw [er'] at h4
          exact ⟨F3, n3, y, z, r', s3, (rw'.ext e3).opd, ru.opd, er', r', rfl, (h4 F3 H3 (Ext.refl s3)) F3 H3 (Ext.refl s3)⟩
theorem o_cmp2 {op op' : CmpOp} (hK : B.K = X.K) (hu : X.A.units + 190 < cLine) (hm : lastMarks [op, op'] [b, c] = false) (ha : PE X a (tE B T W o1 ia)) (hb : PE X b (tE B T W o2 ib)) (hc : PE X c (tE B T W o3 ic)) :
    PE X (.Compare a [op, op'] [b, c] pos) (tE B T W o (.cmp2 op op' ia ib ic)) :=
  PEw (pe_chain (op_cmpB hK hu op) (op_cmpB hK hu op') ha hb hc hm) fun σ H Q ⟨F, env, ad, n, s, en, h⟩ => by
    dsimp only [ev] at h
    refine tE_of s en h fun x n1 F1 H1 s1 en1 e1 h1 v rv => tE_of s1 en1 h1 fun y n2 F2 H2 s2 en2 e2 h2 w rw' => ?_
    have h2 := R.seq h2
    cases er : cmpV op x y with
    | none => rw [er] at h2; exact h2.elim
    | some r =>
      rw [er] at h2
      have h3 := h2 F2 H2 (Ext.refl s2)
      refine ⟨F2, n2, x, y, r, s2, (rv.ext e2).opd, rw'.opd, er, r, rfl, ?_⟩
      cases r with
      | false =>
        rw [if_neg Bool.false_ne_true] at h3 ⊢
        exact h3 F2 H2 (Ext.refl s2) _ (Rq.of (.bl _))
      | true =>
        rw [if_pos rfl] at h3 ⊢
        refine tE_of s2 en2 h3 fun z n3 F3 H3 s3 en3 e3 h4 u ru => ?_
        cases er' : cmpV op' y z with
        | none => rw [er'] at h4; exact h4.elim
        | some r' =>
          rw [er'] at h4
          exact ⟨F3, n3, y, z, r', s3, (rw'.ext e3).opd, ru.opd, er', h4 F3 H3 (Ext.refl s3) _ (Rq.of (.bl _))⟩
/-! tests -/
theorem o_yes : PTs X [] (tT B T W .nil) := ⟨fun pins s σ H Q I ⟨F, env, ad, n, st, en, h⟩ => pts_nil.run pins s σ H Q I (h F H (Ext.refl st))⟩
theorem o_one (h : PT X a (tT B T W ia)) : PTs X [a] (tT B T W ia) := pts_one h
theorem o_tnot (ha : PT X a (tT B T W ia)) : PT X (.UnaryOp .Not a pos) (tT B T W (.not ia)) :=
  PTw (pt_not ha) fun σ H Q ⟨F, env, ad, n, s, en, h⟩ => by
    dsimp only [tv] at h
    exact tT_of s en h fun x n1 F1 H1 s1 en1 e1 h1 => h1 F1 H1 (Ext.refl s1)
theorem tand {tb : TT} (hb : ∀ σ H Q, tT B T W ib σ H Q → tb σ H Q) : ∀ σ H Q, tT B T W (.and ia ib) σ H Q → tAnd (tT B T W ia) tb σ H Q := fun σ H Q ⟨F, env, ad, n, s, en, h⟩ => by
  dsimp only [tv] at h
  refine tT_of s en h fun x n1 F1 H1 s1 en1 e1 h1 => ?_
  cases x with
  | true =>
    rw [if_pos rfl] at h1 ⊢
    exact hb _ _ _ ⟨F1, env, ad, n1, s1, en1, h1⟩
  | false =>
    rw [if_neg Bool.false_ne_true] at h1 ⊢
    exact h1 F1 H1 (Ext.refl s1)
theorem tor {tb : TT} (hb : ∀ σ H Q, tT B T W ib σ H Q → tb σ H Q) : ∀ σ H Q, tT B T W (.or ia ib) σ H Q → tOr (tT B T W ia) tb σ H Q := fun σ H Q ⟨F, env, ad, n, s, en, h⟩ => by
  dsimp only [tv] at h
  refine tT_of s en h fun x n1 F1 H1 s1 en1 e1 h1 => ?_
  cases x with
  | true =>
    rw [if_pos rfl] at h1 ⊢
    exact h1 F1 H1 (Ext.refl s1)
  | false =>
    rw [if_neg Bool.false_ne_true] at h1 ⊢
    exact hb _ _ _ ⟨F1, env, ad, n1, s1, en1, h1⟩
theorem o_tand1 (ha : PT X a (tT B T W ia)) (hb : PT X b (tT B T W ib)) : PW X (.BoolOp .And [a, b] pos) (tT B T W (.and ia ib)) := PWw (pw_and ha (pw_and1 hb)) (tand fun _ _ _ h => h)
theorem o_tand2 (ha : PT X a (tT B T W ia)) (hb : PW X (.BoolOp .And (b :: es) pos) (tT B T W ib)) : PW X (.BoolOp .And (a :: b :: es) pos) (tT B T W (.and ia ib)) := PWw (pw_and ha hb) (tand fun _ _ _ h => h)
theorem o_tor1 (ha : PT X a (tT B T W ia)) (hb : PT X b (tT B T W ib)) : PW X (.BoolOp .Or [a, b] pos) (tT B T W (.or ia ib)) := PWw (pw_or ha (pw_or1 hb)) (tor fun _ _ _ h => h)
theorem o_tor2 (ha : PT X a (tT B T W ia)) (hb : PW X (.BoolOp .Or (b :: es) pos) (tT B T W ib)) : PW X (.BoolOp .Or (a :: b :: es) pos) (tT B T W (.or ia ib)) := PWw (pw_or ha hb) (tor fun _ _ _ h => h)
/-! values -/
theorem vand : ∀ σ H Q, tE B T W o (.andv ia ib) σ H Q → tAndV (tE B T W o1 ia) (tE B T W o ib) σ H Q := fun σ H Q ⟨F, env, ad, n, s, en, h⟩ => by
  dsimp only [ev] at h
  refine tE_of s en h fun x n1 F1 H1 s1 en1 e1 h1 v rv => ?_
  cases x with
  | bl b =>
    refine ⟨b, rv.opd.bl, ?_⟩
    cases b with
    | true => rw [if_pos rfl]; exact ⟨F1, env, ad, n1, s1, en1, h1⟩
    | false => rw [if_neg Bool.false_ne_true]; exact h1 F1 H1 (Ext.refl s1) _ (Rq.of (.bl _))
  | _ => exact h1.elim
theorem vor : ∀ σ H Q, tE B T W o (.orv ia ib) σ H Q → tOrV (tE B T W o1 ia) (tE B T W o ib) σ H Q := fun σ H Q ⟨F, env, ad, n, s, en, h⟩ => by
  dsimp only [ev] at h
  refine tE_of s en h fun x n1 F1 H1 s1 en1 e1 h1 v rv => ?_
  cases x with
  | bl b =>
    refine ⟨b, rv.opd.bl, ?_⟩
    cases b with
    | true => rw [if_pos rfl]; exact h1 F1 H1 (Ext.refl s1) _ (Rq.of (.bl _))
    | false => rw [if_neg Bool.false_ne_true]; exact ⟨F1, env, ad, n1, s1, en1, h1⟩
  | _ => exact h1.elim
theorem o_vand1 (ha : PE X a (tE B T W o1 ia)) (hb : PE X b (tE B T W o ib)) : PE X (.BoolOp .And [a, b] pos) (tE B T W o (.andv ia ib)) := PEw (pe_and ha (pe_one hb)) vand
theorem o_vand2 (ha : PE X a (tE B T W o1 ia)) (hb : PE X (.BoolOp .And (b :: es) pos) (tE B T W o ib)) : PE X (.BoolOp .And (a :: b :: es) pos) (tE B T W o (.andv ia ib)) := PEw (pe_and ha hb) vand
theorem o_vor1 (ha : PE X a (tE B T W o1 ia)) (hb : PE X b (tE B T W o ib)) : PE X (.BoolOp .Or [a, b] pos) (tE B T W o (.orv ia ib)) := PEw (pe_or ha (pe_one hb)) vor
theorem o_vor2 (ha : PE X a (tE B T W o1 ia)) (hb : PE X (.BoolOp .Or (b :: es) pos) (tE B T W o ib)) : PE X (.BoolOp .Or (a :: b :: es) pos) (tE B T W o (.orv ia ib)) := PEw (pe_or ha hb) vor
theorem o_notv (hK : B.K = X.K) (ha : PE X a (tE B T W o1 ia)) : PE X (.UnaryOp .Not a pos) (tE B T W o (.notv ia)) :=
  PEw (pe_notT ha) fun σ H Q ⟨F, env, ad, n, s, en, h⟩ => by
    dsimp only [ev] at h
    refine tE_of s en h fun x n1 F1 H1 s1 en1 e1 h1 v rv => ?_
    cases er : x.tru with
    | none => rw [er] at h1; exact h1.elim
    | some k =>
      rw [er] at h1
      exact ⟨k, tru_V hK s1.sub rv.opd er, h1 F1 H1 (Ext.refl s1) _ (Rq.of (.bl _))⟩
theorem o_ite (hc : PT X c (tT B T W ic)) (ha : PE X a (tE B T W false ia)) (hb : PE X b (tE B T W false ib)) : PE X (.IfExp c a b pos) (tE B T W o (.ite ic ia ib)) :=
  PEw (pe_ifExp hc ha hb) fun σ H Q ⟨F, env, ad, n, s, en, h⟩ => by
    dsimp only [ev] at h
    refine tT_of s en h fun x n1 F1 H1 s1 en1 e1 h1 => ?_
    cases x with
    | true =>
      rw [if_pos rfl] at h1 ⊢
      exact ⟨F1, env, ad, n1, s1, en1, h1.imp fun d n2 F2 H2 _ _ q v r => q v (Rq.of r)⟩
    | false =>
      rw [if_neg Bool.false_ne_true] at h1 ⊢
      exact ⟨F1, env, ad, n1, s1, en1, h1.imp fun d n2 F2 H2 _ _ q v r => q v (Rq.of r)⟩
/-! slices -/
theorem o_pnone : PO X none (tP B T W .nil) := POw po_none fun σ H Q ⟨F, env, ad, n, s, en, h⟩ => h F H (Ext.refl s)
theorem o_psome (ha : PE X a (tE B T W o1 ia)) : PO X (some a) (tP B T W (.opt ia)) :=
  POw (po_some ha) fun σ H Q ⟨F, env, ad, n, s, en, h⟩ => by
    dsimp only [evo] at h
    refine tE_of s en h fun x n1 F1 H1 s1 en1 e1 h1 v rv => ?_
    cases x with
    | int i => exact ⟨i, rv.opd.int, h1 F1 H1 (Ext.refl s1)⟩
    | _ => exact h1.elim
def rSlc (B : Gb) : V → Option Int → Option Int → Hp → VK → Prop := fun x lo hi H Q => ∃ F n d r, St0 B.K B.O F H n ∧ RpO B.K B.O F H x d ∧ slcV d lo hi = some r ∧ Gv B F H n r Q
theorem cut_len {α : Type} (l : List α) (lo hi : Option Int) : (cutL l lo hi).length ≤ l.length := by
  unfold cutL
  rw [List.length_take, List.length_drop]
  omega
theorem cut_whole {α : Type} {l : List α} {lo hi : Option Int} (h : HT.sIx l.length 0 lo = 0 ∧ HT.sIx l.length l.length hi = l.length) : cutL l lo hi = l := by
  unfold cutL
  rw [h.1, h.2]
  simp
theorem sl_B (hK : B.K = X.K) : SlR X (rSlc B) := by
  intro pins s σ H x v vl vu lo hi sl Q I rx hs pl pu h
  obtain ⟨F, n, d, r, st, hx, hb, g⟩ := h
  unfold slcV at hb
  split at hb
  · obtain ⟨a, xs, rfl, h1, r1, n1⟩ := hx.tup st.sub
    cases hb
    rw [hK] at h1
    refine sl_tupA pins s σ H _ v vl vu lo hi sl Q I rx hs pl pu ⟨a, xs, rfl, h1, fun w => ?_, fun w => ?_⟩
    · rw [r1.length] at w
      rw [cut_whole w] at g
      cases hx with
      | of q => exact g.here st q
      | own _ _ _ r => cases r.isC
    · exact g.tupN st (r1.cut lo hi) (Nat.le_trans (cut_len _ _ _) n1)
  · obtain ⟨a, xs, rfl, h1, r1, n1⟩ := hx.lst st.sub
    cases hb
    exact sl_list pins s σ H _ v vl vu lo hi sl Q I rx hs pl pu ⟨a, xs, rfl, SqL.of h1, g.lstN st (r1.cut lo hi) (Nat.le_trans (cut_len _ _ _) n1)⟩
  · cases hb
theorem o_slc {lo hi : Option Expr} {il ih : E} {p2 : Pos} (hK : B.K = X.K) (ha : PE X a (tE B T W o1 ia)) (hl : PO X lo (tP B T W il)) (hh : PO X hi (tP B T W ih)) : PE X (.Subscript a (.Slice lo hi none p2) pos) (tE B T W o (.slc ia il ih)) :=
  PEw (pe_slice (sl_B hK) ha hl hh) fun σ H Q ⟨F, env, ad, n, s, en, h⟩ => by
    dsimp only [ev] at h
    refine tE_of s en h fun x n1 F1 H1 s1 en1 e1 h1 v rv => tP_of s1 en1 h1 fun y n2 F2 H2 s2 en2 e2 h2 => tP_of s2 en2 h2 fun z n3 F3 H3 s3 en3 e3 h3 => ?_
    cases er : slcV x y z with
    | none => rw [er] at h3; exact h3.elim
    | some r =>
      rw [er] at h3
      exact ⟨F3, n3, x, r, s3, ((rv.ext e2).ext e3).opd, er, fun v F' H' e' q => h3 F' H' e' v (Rq.of q)⟩
/-! ### built-in functions -/
def Blt.v : Blt → Value
  | .abs => .builtin "abs" | .int => .type "int" | .len => .builtin "len" | .str => .type "str" | .all => .builtin "all" | .any => .builtin "any"
  | .tuple => .type "tuple" | .list => .type "list" | .sum => .builtin "sum" | .max1 => .builtin "max" | .min1 => .builtin "min" | .max2 => .builtin "max" | .min2 => .builtin "min" | .sorted => .builtin "sorted"
def rBlt (B : Gb) (b : Blt) : List V → Hp → VK → Prop := fun xs H Q => ∃ F n l r, St0 B.K B.O F H n ∧ RqA B true F H xs l ∧ bltV b l = some r ∧ Gv B F H n r Q
theorem RqA.one {F H : Hp} {xs : List V} {d : D} (h : RqA B true F H xs [d]) : ∃ v, xs = [v] ∧ RpO B.K B.O F H v d := by
  cases h with
  | cons h t => cases t; exact ⟨_, rfl, h⟩
theorem RqA.two {F H : Hp} {xs : List V} {d e : D} (h : RqA B true F H xs [d, e]) : ∃ v w, xs = [v, w] ∧ RpO B.K B.O F H v d ∧ RpO B.K B.O F H w e := by
  cases h with
  | cons h t => cases t with
    | cons h2 t => cases t; exact ⟨_, _, rfl, h, h2⟩
theorem intsD_rp {K : PySem.W.Frag} {O : Orc} {F : Hp} : ∀ {xs : List V} {l : List D} {is : List Int}, RpA K O F xs l → intsD l = some is → xs = is.map V.int
  | _, _, _, .nil, h => by cases h; rfl
  | _, _, _, .cons (d := d) h t, e => by
    cases d with
    | int i =>
      rw [intsD] at e
      obtain ⟨z, hz, rfl⟩ := Option.map_eq_some_iff.mp e
      cases h
      rw [intsD_rp t hz]; rfl
    | _ => cases e
theorem boolsD_rp {K : PySem.W.Frag} {O : Orc} {F : Hp} : ∀ {xs : List V} {l : List D} {is : List Bool}, RpA K O F xs l → boolsD l = some is → xs = is.map V.bl
  | _, _, _, .nil, h => by cases h; rfl
  | _, _, _, .cons (d := d) h t, e => by
    cases d with
    | bl i =>
      rw [boolsD] at e
      obtain ⟨z, hz, rfl⟩ := Option.map_eq_some_iff.mp e
      cases h
      rw [boolsD_rp t hz]; rfl
    | _ => cases e
theorem maxI_spec : ∀ (l : List Int) (m : Int), m ≤ maxI m l ∧ (∀ y ∈ l, y ≤ maxI m l) ∧ (maxI m l = m ∨ maxI m l ∈ l)
  | [], m => ⟨Int.le_refl _, fun _ h => (nomatch h), .inl rfl⟩
  | x :: r, m => by
    rw [maxI]
    obtain ⟨h1, h2, h3⟩ := maxI_spec r (if x > m then x else m)
    refine ⟨?_, fun y hy => ?_, ?_⟩
    · split at h1 <;> rename_i c <;> simp only [c, if_true, if_false] <;> omega
    · rcases List.mem_cons.mp hy with rfl | hy
      · split at h1 <;> rename_i c <;> simp only [c, if_true, if_false] <;> omega
      · exact h2 y hy
    · rcases h3 with h3 | h3
      · by_cases c : x > m
        · rw [if_pos c] at h3 ⊢; exact .inr (by rw [h3]; exact List.mem_cons_self)
        · rw [if_neg c] at h3 ⊢; exact .inl h3
      · exact .inr (List.mem_cons_of_mem _ h3)
theorem minI_spec : ∀ (l : List Int) (m : Int), minI m l ≤ m ∧ (∀ y ∈ l, minI m l ≤ y) ∧ (minI m l = m ∨ minI m l ∈ l)
  | [], m => ⟨Int.le_refl _, fun _ h => (nomatch h), .inl rfl⟩
  | x :: r, m => by
    rw [minI]
    obtain ⟨h1, h2, h3⟩ := minI_spec r (if x < m then x else m)
    refine ⟨?_, fun y hy => ?_, ?_⟩
    · split at h1 <;> rename_i c <;> simp only [c, if_true, if_false] <;> omega
    · rcases List.mem_cons.mp hy with rfl | hy
      · split at h1 <;> rename_i c <;> simp only [c, if_true, if_false] <;> omega
      · exact h2 y hy
    · rcases h3 with h3 | h3
      · by_cases c : x < m
        · rw [if_pos c] at h3 ⊢; exact .inr (by rw [h3]; exact List.mem_cons_self)
        · rw [if_neg c] at h3 ⊢; exact .inl h3
      · exact .inr (List.mem_cons_of_mem _ h3)
theorem max_one {i m : Int} {r : List Int} (h : m ∈ i :: r) (h2 : ∀ y ∈ i :: r, y ≤ m) : m = maxI i r := by
  obtain ⟨a, b, c⟩ := maxI_spec r i
  have l1 : m ≤ maxI i r := by
    rcases List.mem_cons.mp h with rfl | h
    · exact a
    · exact b _ h
  have l2 : maxI i r ≤ m := by
    rcases c with c | c
    · rw [c]; exact h2 _ List.mem_cons_self
    · exact h2 _ (List.mem_cons_of_mem _ c)
  omega
theorem min_one {i m : Int} {r : List Int} (h : m ∈ i :: r) (h2 : ∀ y ∈ i :: r, m ≤ y) : m = minI i r := by
  obtain ⟨a, b, c⟩ := minI_spec r i
  have l1 : minI i r ≤ m := by
    rcases List.mem_cons.mp h with rfl | h
    · exact a
    · exact b _ h
  have l2 : m ≤ minI i r := by
    rcases c with c | c
    · rw [c]; exact h2 _ List.mem_cons_self
    · exact h2 _ (List.mem_cons_of_mem _ c)
  omega
theorem strOk_of (z : String) : PyData.strOk (Str.ofString z) = true := by
  rw [Str.ofString_eq_toList]
  unfold PyData.strOk
  simp only [List.all_toArray', List.all_map, List.all_eq_true]
  intro c _
  show decide (c.toNat < 1114112) = true
  have hv : c.toNat < 0xd800 ∨ (0xdfff < c.toNat ∧ c.toNat < 0x110000) := c.valid
  exact decide_eq_true (by omega)
theorem insI_perm (x : Int) : ∀ l : List Int, (insI x l).Perm (x :: l)
  | [] => List.Perm.refl _
  | y :: r => by
    rw [insI]
    split
    · exact List.Perm.refl _
    · exact ((insI_perm x r).cons y).trans (List.Perm.swap x y r)
theorem sortI_perm : ∀ l : List Int, (sortI l).Perm l
  | [] => List.Perm.refl _
  | x :: r => (insI_perm x _).trans ((sortI_perm r).cons x)
theorem insI_up (x : Int) : ∀ l : List Int, l.Pairwise (· ≤ ·) → (insI x l).Pairwise (· ≤ ·)
  | [], _ => by simp [insI]
  | y :: r, h => by
    rw [insI]
    obtain ⟨h1, h2⟩ := List.pairwise_cons.mp h
    split
    · rename_i c
      refine List.pairwise_cons.mpr ⟨fun z hz => ?_, h⟩
      rcases List.mem_cons.mp hz with rfl | hz
      · exact c
      · exact Int.le_trans c (h1 z hz)
    · rename_i c
      refine List.pairwise_cons.mpr ⟨fun z hz => ?_, insI_up x r h2⟩
      rcases List.mem_cons.mp ((insI_perm x r).mem_iff.mp hz) with rfl | hz
      · omega
      · exact h1 z hz
theorem sortI_up : ∀ l : List Int, (sortI l).Pairwise (· ≤ ·)
  | [] => List.Pairwise.nil
  | x :: r => insI_up x _ (sortI_up r)
theorem up_uniq : ∀ {l m : List Int}, l.Perm m → l.Pairwise (· ≤ ·) → m.Pairwise (· ≤ ·) → l = m
  | [], m, p, _, _ => by rw [List.nil_perm.mp p]
  | x :: r, m, p, h1, h2 => by
    cases m with
    | nil => exact absurd p.length_eq (by simp)
    | cons y s =>
      obtain ⟨a1, a2⟩ := List.pairwise_cons.mp h1
      obtain ⟨b1, b2⟩ := List.pairwise_cons.mp h2
      have e : x = y := by
        have q1 : x ∈ y :: s := p.mem_iff.mp List.mem_cons_self
        have q2 : y ∈ x :: r := p.mem_iff.mpr List.mem_cons_self
        rcases List.mem_cons.mp q1 with q1 | q1
        · exact q1
        · rcases List.mem_cons.mp q2 with q2 | q2
          · exact q2.symm
          · have := a1 y q2; have := b1 x q1; omega
      subst e
      rw [up_uniq (List.perm_cons _ |>.mp p) a2 b2]
theorem keysI_ok : ∀ {ks : List L2.Key} {is : List Int}, keysI ks = some is → ks = is.map Sum.inl
  | [], _, h => by cases h; rfl
  | .inl i :: r, is, h => by
    rw [keysI] at h
    obtain ⟨z, hz, rfl⟩ := Option.map_eq_some_iff.mp h
    rw [keysI_ok hz]; rfl
  | .inr _ :: r, is, h => by cases h
theorem ints_rp {K : PySem.W.Frag} {O : Orc} {F : Hp} : ∀ l : List Int, RpA K O F (l.map V.int) (l.map D.int)
  | [] => .nil
  | x :: r => .cons (.int x) (ints_rp r)
theorem call_B (hK : B.K = X.K) (hc : X.calm = true) (b : Blt) : CallR X b.v (rBlt B b) := by
  intro pins s σ H xs us Q I r h
  obtain ⟨F, n, l, r0, st, hx, hb, g⟩ := h
  unfold bltV at hb
  split at hb
  · obtain ⟨v, rfl, h1⟩ := hx.one
    obtain rfl := h1.int
    cases hb
    exact call_abs pins s σ H _ us Q I r ⟨_, rfl, g.here st (.int _)⟩
  · obtain ⟨v, rfl, h1⟩ := hx.one
    obtain rfl := h1.int
    cases hb
    exact call_int1 pins s σ H _ us Q I r (.inl ⟨_, rfl, g.here st (.int _)⟩)
  · obtain ⟨v, rfl, h1⟩ := hx.one
    obtain rfl := h1.bl
    cases hb
    exact call_int1 pins s σ H _ us Q I r (.inr ⟨_, rfl, g.here st (.int _)⟩)
  · obtain ⟨v, rfl, h1⟩ := hx.one
    obtain ⟨a, ys, rfl, h2, r1, n1⟩ := h1.tup st.sub
    cases hb
    rw [hK] at h2
    exact call_len pins s σ H _ us Q I r ⟨_, _, rfl, .inr ⟨ys, h2, rfl⟩, by rw [r1.length]; exact g.here st (.int _)⟩
  · obtain ⟨v, rfl, h1⟩ := hx.one
    obtain ⟨a, ys, rfl, h2, r1, n1⟩ := h1.lst st.sub
    cases hb
    exact call_len pins s σ H _ us Q I r ⟨_, _, rfl, .inl ⟨ys, SqL.of h2, rfl⟩, by rw [r1.length]; exact g.here st (.int _)⟩
  · obtain ⟨v, rfl, h1⟩ := hx.one
    obtain ⟨a, kvs, rfl, h2, h3, -, -⟩ := h1.dic st.sub
    cases hb
    obtain ⟨u, rfl, rx⟩ := vals1 r
    cases rx
    refine d_len I (.inl h2) fun t s' I' => ⟨.int _, H, I', ⟨_, rfl⟩, ?_⟩
    rw [← List.length_map (f := (·.1)), h3]
    exact g.here st (.int _)
  · obtain ⟨v, rfl, h1⟩ := hx.one
    obtain ⟨rfl, _⟩ := h1.str
    split at hb
    · rename_i hl
      cases hb
      exact call_len pins s σ H _ us Q I r ⟨_, _, rfl, ⟨by rw [← lim_eq]; exact hl, rfl⟩, g.here st (.int _)⟩
    · cases hb
  · obtain ⟨v, rfl, h1⟩ := hx.one
    obtain rfl := h1.int
    split at hb
    · rename_i hl
      cases hb
      exact call_str_int pins s σ H _ us Q I r ⟨_, rfl, hl, g.here st (.str _ (strOk_of _))⟩
    · cases hb
  · obtain ⟨v, rfl, h1⟩ := hx.one
    obtain ⟨a, ys, rfl, h2, r1, n1⟩ := h1.lst st.sub
    obtain ⟨bs, hz, rfl⟩ := Option.map_eq_some_iff.mp hb
    have e := boolsD_rp r1 hz
    subst e
    exact cr_all hc pins s σ H _ us Q I r ⟨a, bs, rfl, SqL.of h2, g.here st (.bl _)⟩
  · obtain ⟨v, rfl, h1⟩ := hx.one
    obtain ⟨a, ys, rfl, h2, r1, n1⟩ := h1.lst st.sub
    obtain ⟨bs, hz, rfl⟩ := Option.map_eq_some_iff.mp hb
    have e := boolsD_rp r1 hz
    subst e
    exact cr_any hc pins s σ H _ us Q I r ⟨a, bs, rfl, SqL.of h2, g.here st (.bl _)⟩
  · obtain ⟨v, rfl, h1⟩ := hx.one
    rename_i d
    cases d with
    | tup l =>
      obtain ⟨a, ys, rfl, h2, r1, n1⟩ := h1.tup st.sub
      cases hb
      rw [hK] at h2
      refine call_tuple_of pins s σ H _ us Q I r ⟨a, ys, rfl, .inr ⟨h2, ?_⟩⟩
      cases h1 with
      | of q => exact g.here st q
      | own _ _ _ r => cases r.isC
    | lst l =>
      obtain ⟨a, ys, rfl, h2, r1, n1⟩ := h1.lst st.sub
      cases hb
      exact call_tuple_of pins s σ H _ us Q I r ⟨a, ys, rfl, .inl ⟨SqL.of h2, g.tupN st r1 n1⟩⟩
    | _ => cases hb
  · obtain ⟨v, rfl, h1⟩ := hx.one
    rename_i d
    cases d with
    | tup l =>
      obtain ⟨a, ys, rfl, h2, r1, n1⟩ := h1.tup st.sub
      cases hb
      rw [hK] at h2
      exact call_list_of pins s σ H _ us Q I r ⟨a, ys, rfl, .inr h2, g.lstN st r1 n1⟩
    | lst l =>
      obtain ⟨a, ys, rfl, h2, r1, n1⟩ := h1.lst st.sub
      cases hb
      exact call_list_of pins s σ H _ us Q I r ⟨a, ys, rfl, .inl (SqL.of h2), g.lstN st r1 n1⟩
    | _ => cases hb
  · obtain ⟨v, rfl, h1⟩ := hx.one
    obtain ⟨a, ys, rfl, h2, r1, n1⟩ := h1.lst st.sub
    obtain ⟨bs, hz, rfl⟩ := Option.map_eq_some_iff.mp hb
    have e := intsD_rp r1 hz
    subst e
    exact cr_sum hc pins s σ H _ us Q I r ⟨a, bs, rfl, SqL.of h2, g.here st (.int _)⟩
  · obtain ⟨v, rfl, h1⟩ := hx.one
    obtain ⟨a, ys, rfl, h2, r1, n1⟩ := h1.lst st.sub
    obtain ⟨bs, hz, hb⟩ := Option.bind_eq_some_iff.mp hb
    have e := intsD_rp r1 hz
    subst e
    cases bs with
    | nil => cases hb
    | cons i rr =>
      cases hb
      exact cr_max hc pins s σ H _ us Q I r ⟨a, _, rfl, SqL.of h2, Nat.succ_pos _, fun m q1 q2 => by rw [max_one q1 q2]; exact g.here st (.int _)⟩
  · obtain ⟨v, rfl, h1⟩ := hx.one
    obtain ⟨a, ys, rfl, h2, r1, n1⟩ := h1.lst st.sub
    obtain ⟨bs, hz, hb⟩ := Option.bind_eq_some_iff.mp hb
    have e := intsD_rp r1 hz
    subst e
    cases bs with
    | nil => cases hb
    | cons i rr =>
      cases hb
      exact cr_min hc pins s σ H _ us Q I r ⟨a, _, rfl, SqL.of h2, Nat.succ_pos _, fun m q1 q2 => by rw [min_one q1 q2]; exact g.here st (.int _)⟩
  · obtain ⟨v, rfl, h1⟩ := hx.one
    unfold srtV at hb
    split at hb
    · obtain ⟨a, ys, rfl, h2, r1, n1⟩ := h1.lst st.sub
      obtain ⟨is, hz, rfl⟩ := Option.map_eq_some_iff.mp hb
      have e := intsD_rp r1 hz
      subst e
      refine cr_sortedI pins s σ H _ us Q I r ⟨a, is, rfl, SqL.of h2, fun ns' p q1 q2 q3 => ?_⟩
      rw [up_uniq (q1.trans (sortI_perm is).symm) q2 (sortI_up is)]
      refine g.lstN st (ints_rp _) ?_ p q3
      rw [List.length_map, (sortI_perm is).length_eq, ← List.length_map (f := V.int), r1.length]; exact n1
    · obtain ⟨a, kvs, rfl, h2, h3, h4, n1⟩ := h1.dic st.sub
      split at hb
      · rename_i c
        obtain ⟨is, hz, rfl⟩ := Option.map_eq_some_iff.mp hb
        have e := keysI_ok hz
        subst e
        refine call_sortedDI hc pins s σ H _ us Q I r ⟨a, kvs, is, rfl, .inl h2, h3, by rw [List.length_map] at c; exact c, fun ns' p q1 q2 q3 => ?_⟩
        rw [up_uniq (q1.trans (sortI_perm is).symm) q2 (sortI_up is)]
        refine g.lstN st (ints_rp _) ?_ p q3
        rw [List.length_map] at c
        rw [List.length_map, (sortI_perm is).length_eq]
        exact Nat.le_trans (Nat.le_of_lt c) (by decide)
      · cases hb
    · cases hb
  · obtain ⟨v, w, rfl, h1, h2⟩ := hx.two
    obtain rfl := h1.int
    obtain rfl := h2.int
    cases hb
    exact call_max2 hc pins s σ H _ us Q I r ⟨_, _, rfl, g.here st (.int _)⟩
  · obtain ⟨v, w, rfl, h1, h2⟩ := hx.two
    obtain rfl := h1.int
    obtain rfl := h2.int
    cases hb
    exact call_min2 hc pins s σ H _ us Q I r ⟨_, _, rfl, g.here st (.int _)⟩
  · cases hb
end
end Py

set_option Elab.async false
set_option linter.all false
set_option maxRecDepth 100000
set_option maxHeartbeats 4000000
/-! C7r: a[::-1]. -/
namespace HT
open PySem PySem.Spec PyProof.Rows
section
variable {prog : Program} {w : World} {A : Around} {E : Value → Shared → Prop} {s : Shared}
theorem places_rev (n : Nat) : Builtin.Slice.slicePlaces ((n : Int) - 1) (-1) (-1) = n := by
  unfold Builtin.Slice.slicePlaces
  rw [if_neg (by omega)]
  split <;> simp <;> omega
theorem sliceApplied_rev {sl : Addr} {vs : Value} {n : Nat} {Q : Int × Int × Nat → Shared → Prop} (hs : s.heap.IsSliceOf sl .none .none vs) (ps : IsPart vs (some (-1)))
    (h : Q ((n : Int) - 1, -1, n) s) : wpAny (model prog w) A (Builtin.Slice.sliceApplied (.ref sl) (pure (n : Int))) Q E s := by
  obtain ⟨os, hos, hcs, hds⟩ := id hs
  unfold Builtin.Slice.sliceApplied Builtin.Slice.sliceFields
  refine wpAny_bind (wpAny_bind (wpAny_field hos hds (x := .none) rfl (wpAny_bind (wpAny_field hos hds (x := .none) rfl (wpAny_bind (wpAny_field hos hds (x := vs) rfl (wpAny_pure ?_)))))))
  show wpAny _ _ (Builtin.Slice.slicePartIndex vs >>= _) _ _ s
  refine wpAny_bind (slicePart_ ps ?_)
  show wpAny _ _ (if ((-1 : Int) == 0) = true then _ else _) _ _ s
  rw [if_neg (by decide)]
  refine wpAny_bind (slicePart_none (wpAny_bind (slicePart_none (wpAny_bind (wpAny_pure ?_)))))
  have ea : Builtin.Slice.sliceAdjust none none (-1) (n : Int) = ((n : Int) - 1, -1) := by
    unfold Builtin.Slice.sliceAdjust
    simp
  show wpAny _ _ (match Builtin.Slice.sliceAdjust none none (-1) (n : Int) with | (lo, hi) => pure (lo, (-1 : Int), Builtin.Slice.slicePlaces lo hi (-1))) _ _ s
  rw [ea]
  show wpAny _ _ (pure ((n : Int) - 1, (-1 : Int), Builtin.Slice.slicePlaces ((n : Int) - 1) (-1) (-1))) _ _ s
  rw [places_rev]
  exact wpAny_pure h
theorem pick_rev (xs : Array Value) : ((List.range xs.size).filterMap fun (m : Nat) => xs[((xs.size : Int) - 1 + (m : Int) * -1).toNat]?).toArray = xs.toList.reverse.toArray := by
  congr 1
  have e : (fun (m : Nat) => xs[((xs.size : Int) - 1 + (m : Int) * -1).toNat]?) = (fun j => xs[j]?) ∘ fun m => xs.size - 1 - m := by
    funext m
    show _ = xs[xs.size - 1 - m]?
    congr 1
    omega
  rw [e, ← List.filterMap_map, PySem.W.krv_range, List.filterMap_reverse, PySem.W.krv_all]
theorem getItem_tuple_rev {t sl : Addr} {items : Array Value} {vs : Value} {Q : Value → Shared → Prop} (ht : IsTup s.heap t items) (hs : s.heap.IsSliceOf sl .none .none vs) (ps : IsPart vs (some (-1)))
    (h : Q (.ref s.heap.objs.size) { s with heap := s.heap.push { cls := .type "tuple", data := .seq items.toList.reverse.toArray } })
    (hsz : items.size ≤ sizeLine) : wpAny (model prog w) A (getItem (.ref t) (.ref sl)) Q E s := by
  have htake : sizeOk (.seq items.toList.reverse.toArray) := by
    show items.toList.reverse.toArray.size ≤ sizeLine
    rw [List.size_toArray, List.length_reverse, Array.length_toList]
    exact hsz
  obtain ⟨os, hos, hcs, hds⟩ := id hs
  have hTs : s.TypeIs (.ref sl) "slice" := ⟨os, hos, hcs⟩
  unfold getItem
  try with_reducible refine wpAny_holding ?_
  first | refine wpAny_bind (wpAny_pure ?_) | skip
  refine wpAny_bind (wpAny_sequenceKey ht.typeIs (by decide) ?_)
  refine wpAny_bind (wpAny_callSpecial?_slot (name := Str.ofString "__getitem__") ht.typeIs PyProof.Rows.slot_tuple_getitem
    (wpAny_call_entry PyProof.Rows.slot_tuple_getitem ht.typeIs entry_tuple_getitem ?_ (args_tuple_getitem _ _)))
  show wpAny _ _ (Builtin.Tuple.tupleItemsOf (.ref t) >>= _) _ _ s
  refine wpAny_bind (tupleItemsOf_ ht ?_)
  refine wpAny_bind (wpAny_typeOf hTs ?_)
  rw [if_pos (by decide)]
  refine wpAny_bind (sliceApplied_rev hs ps ?_)
  have hno : ¬ ((((items.size : Int) - 1) == 0 && (-1 : Int) == 1 && items.size == items.size) = true) := by
    intro q
    rw [Bool.and_eq_true, Bool.and_eq_true] at q
    exact absurd q.1.2 (by decide)
  show wpAny _ _ (if (((items.size : Int) - 1) == 0 && (-1 : Int) == 1 && items.size == items.size) = true then _ else _) _ _ s
  rw [if_neg hno, pick_rev]
  first
    | exact wpAny_bind (m := Builtin.Tuple.tupleExact _) (wpAny_newObj_type (wpAny_pure ⟨_, rfl, wpAny_pure h⟩) htake)
    | exact wpAny_bind (m := Builtin.Tuple.tupleExact _) (wpAny_newObj_type (wpAny_bind (wpAny_pure (wpAny_pure ⟨_, rfl, wpAny_pure h⟩))) htake)
    | exact wpAny_bind (wpAny_bind (m := Builtin.Tuple.tupleExact _) (wpAny_newObj_type (wpAny_pure (wpAny_pure ⟨_, rfl, wpAny_pure h⟩)) htake))
    | exact wpAny_bind (wpAny_bind (m := Builtin.Tuple.tupleExact _) (wpAny_newObj_type (wpAny_pure ⟨_, rfl, wpAny_pure h⟩) htake))
end
end HT
namespace Py
open PySem PySem.Spec L2
def tRev (K : PySem.W.Frag) (te : TE) : TE := fun σ H Q => te σ H fun x H1 => (∃ a xs, x = .ref a ∧ SqL K H1 a xs ∧ ∀ p, H1 p = none → Q (.ref p) (upd H1 p (.lst xs.reverse))) ∨ ∃ a xs, x = .ref a ∧ SqT K H1 a xs ∧ ∀ p, H1 p = none → Q (.ref p) (upd H1 p (.tup xs.reverse))
theorem pe_rev {X : Cx} {e : Expr} {te : TE} {k : Nat} {p1 p2 p3 pos : Pos} (he : PE X e te) : PE X (.Subscript e (.Slice none none (some (.UnaryOp .USub (.Constant (.int 1) k p1) p2)) p3) pos) (tRev X.K te) := by
  refine ⟨fun pins s σ H Q I h => ?_⟩
  refine PyProof.Rows.Subscript_ (thn (he.run pins s σ H _ I h) fun v s1 ⟨x, H1, I1, r1, q1⟩ => ?_)
  have hst : PO X (some (.UnaryOp .USub (.Constant (.int 1) k p1) p2)) (tPart (tUn (rU fun i => .int (-i)) (tC (.int 1)))) := po_some (pe_un un_neg pe_int)
  refine wpAny_Slice (thn (po_none.run pins s1 σ H1 (fun o H2 => o = none ∧ H2 = H1) I1 ⟨rfl, rfl⟩) fun vl s2 ⟨l, H2, I2, pl, el, e2⟩ => ?_)
  subst el e2
  refine thn (po_none.run pins s2 σ H2 (fun o H3 => o = none ∧ H3 = H2) I2 ⟨rfl, rfl⟩) fun vu s3 ⟨u, H3, I3, pu, eu, e3⟩ => ?_
  subst eu e3
  refine thn (hst.run pins s3 σ H3 (fun o H4 => o = some (-1) ∧ H4 = H3) I3 ⟨1, rfl, -1, rfl, rfl, rfl⟩) fun vs s4 ⟨o, H4, I4, ps, eo, e4⟩ => ?_
  subst eo e4
  have I5 : Inv X pins σ H4 { s4 with heap := s4.heap.push { cls := .type "slice", data := .fields #[vl, vu, vs] } } := I4.kept (t' := s4.toks) fun b ob q => Heap.get?_push_of_some _ q
  rcases q1 with ⟨a, xs, ex, hx, q⟩ | ⟨a, xs, ex, hx, q⟩
  · subst ex
    cases r1
    obtain ⟨its, r, ht, hz⟩ := I5.list hx
    have hlen := r.length
    show wpAny (model X.prog X.w) X.A (PyProof.Rows.subscriptTail e (.Slice none none (some (.UnaryOp .USub (.Constant (.int 1) k p1) p2)) p3) (.ref a) (.ref s4.heap.objs.size)) (EP X pins σ Q) X.xe { s4 with heap := s4.heap.push { cls := .type "slice", data := .fields #[vl, vu, vs] } }
    refine PyProof.Rows.tail_any (ops := [.ref a, .ref s4.heap.objs.size]) ht.isList.typeIs (PySem.slot_list_getitem.lookup) ?_ (by with_unfolding_all rfl)
    refine wpAny_getItem_list_slice ht.isList (Heap.IsSliceOf.new _ vl vu vs) pl pu ps (by decide) ?_ (by rw [List.size_toArray]; omega)
    rw [PySem.W.krv_pick]
    refine ⟨.ref _, _, I5.laid (t' := s4.toks) (o := .lst xs.reverse) (fun b ob q => Heap.get?_push_of_some _ q) (Nat.le_refl _) ?_, rfl, q _ (I5.hok.fresh (Nat.le_refl _))⟩
    exact ⟨by rw [List.length_reverse]; exact hz, _, 0, r.reverse, Heap.get?_push_size _ rfl⟩
  · subst ex
    cases r1
    obtain ⟨its, r, ht, hz⟩ := I5.tuple hx
    have hlen := r.length
    have el : vl = .none := by cases pl; rfl
    have eu : vu = .none := by cases pu; rfl
    subst el eu
    show wpAny (model X.prog X.w) X.A (PyProof.Rows.subscriptTail e (.Slice none none (some (.UnaryOp .USub (.Constant (.int 1) k p1) p2)) p3) (.ref a) (.ref s4.heap.objs.size)) (EP X pins σ Q) X.xe { s4 with heap := s4.heap.push { cls := .type "slice", data := .fields #[.none, .none, vs] } }
    refine PyProof.Rows.tail_any (ops := [.ref a, .ref s4.heap.objs.size]) ht.typeIs (PyProof.Rows.slot_tuple_getitem.lookup) ?_ (by with_unfolding_all rfl)
    refine HT.getItem_tuple_rev ht (Heap.IsSliceOf.new _ .none .none vs) ps ?_ (by rw [List.size_toArray]; omega)
    refine ⟨.ref _, _, I5.laid (t' := s4.toks) (o := .tup xs.reverse) (fun b ob q => Heap.get?_push_of_some _ q) (Nat.le_refl _) ?_, rfl, q _ (I5.hok.fresh (Nat.le_refl _))⟩
    exact ⟨by rw [List.length_reverse]; exact hz, _, r.reverse, PyProof.Rows.IsTup.new _ _⟩
theorem RpA.rev {K : PySem.W.Frag} {O : Orc} {F : Hp} : ∀ {vs : List V} {l : List D}, RpA K O F vs l → RpA K O F vs.reverse l.reverse
  | _, _, .nil => .nil
  | _, _, .cons h t => by rw [List.reverse_cons, List.reverse_cons]; exact t.rev.app (.one h)
section
variable {X : Cx} {B : Gb} {T : Tab} {W : WX} {a : Expr} {o o1 : Bool} {ia : E}
theorem o_rev {k : Nat} {p1 p2 p3 pos : Pos} (hK : B.K = X.K) (ha : PE X a (tE B T W o1 ia)) : PE X (.Subscript a (.Slice none none (some (.UnaryOp .USub (.Constant (.int 1) k p1) p2)) p3) pos) (tE B T W o (.rev ia)) :=
  PEw (pe_rev ha) fun σ H Q ⟨F, env, ad, n, s, en, h⟩ => by
    dsimp only [ev] at h
    refine tE_of s en h fun x n1 F1 H1 s1 en1 e1 h1 v rv => ?_
    have g : ∀ {r}, revV x = some r → Gv B F1 H1 n1 r Q := fun {r} er => by
      rw [er] at h1
      exact fun v F' H' e' q => h1 F' H' e' v (Rq.of q)
    cases x with
    | tup l =>
      obtain ⟨a, xs, rfl, h2, r1, m1⟩ := rv.opd.tup s1.sub
      rw [hK] at h2
      exact .inr ⟨a, xs, rfl, h2, (g rfl).tupN s1 r1.rev (by rw [List.length_reverse]; exact m1)⟩
    | lst l =>
      obtain ⟨a, xs, rfl, h2, r1, m1⟩ := rv.opd.lst s1.sub
      exact .inl ⟨a, xs, rfl, SqL.of h2, (g rfl).lstN s1 r1.rev (by rw [List.length_reverse]; exact m1)⟩
    | _ => exact h1.elim
/-- {} -/
theorem o_dnew {pos : Pos} : PE X (.Dict [] [] pos) (tE B T W o .dnew) :=
  PEw pe_dnewK fun σ H Q ⟨F, env, ad, n, s, en, h⟩ p hp => R.new s h hp (.dic upd_same rfl .nil (by decide))
end
end Py

set_option Elab.async false
set_option linter.all false
set_option maxRecDepth 100000
set_option maxHeartbeats 2000000
/-! C8: calls: of built-in functions, of isinstance and repr, of the program's functions. -/
namespace Py
open PySem PySem.Spec L2
theorem star1 {e : Expr} {es : List Expr} {env : PySem.Env} (h : plainX e = true) : starEach (e :: es) env = (false, eval e env) :: starEach es env := by
  cases e <;> first | rfl | cases h
theorem starN {env : PySem.Env} {pos : Pos} : ∀ {es : List Expr}, es.all plainX = true → (backTo pos (starEach es env)).any (·.1) = false
  | [], _ => rfl
  | e :: es, h => by
    rw [List.all_cons, Bool.and_eq_true] at h
    rw [star1 h.1]
    show (false || (backTo pos (starEach es env)).any (·.1)) = false
    rw [starN h.2]; rfl
theorem plainIx_of {e : Expr} (h : plainX e = true) : PlainIx e := fun o i => by
  cases e <;> first | rfl | cases h
theorem nofold {e : Expr} {env : PySem.Env} (h : plainX e = true) (x : Value) : foldedSetIterable e env x = pure x := by
  cases e <;> first | rfl | cases h
section
variable {X : Cx} {B : Gb} {T : Tab} {W : WX} {a b c e : Expr} {p pos : Pos} {o o1 o2 o3 : Bool} {ia ib ic : E} {es : List Expr}
def Blt.ty : Blt → Bool
  | .int => true | .str => true | .tuple => true | .list => true | _ => false
theorem o_blt {bl : Blt} {x : Str} (hK : B.K = X.K) (hc : X.calm = true) (hx : x = bl.nm) (hg : Gl X x) (hm : X.mg x = none) (hp : plainX e = true) (hps : es.all plainX = true) (ha : PA X (e :: es) (tA B T W true ia)) :
    PE X (.Call (.Name x p) (e :: es) [] pos) (tE B T W o (.blt bl ia)) := by
  have go : PE X (.Call (.Name x p) (e :: es) [] pos) (tCB (rBlt B bl) (tA B T W true ia)) := by
    subst hx
    have hcall := call_B hK hc bl
    have h1 := star1 (env := X.env) (es := es) hp
    have h2 := starN (env := X.env) (pos := pos) hps
    cases bl with
    | abs => exact pe_callB hcall hg hm PyProof.Rows.boot_abs ha (by decide) (by decide) h1 h2
    | int => exact pe_callTy hcall hg hm PyProof.Rows.boot_int ha (by decide) (by decide) h1 h2
    | len => exact pe_callB hcall hg hm PySem.boot_len ha (by decide) (by decide) h1 h2
    | str => exact pe_callTy hcall hg hm PyProof.Rows.boot_str ha (by decide) (by decide) h1 h2
    | all => exact pe_callB hcall hg hm PyProof.Rows.boot_all ha (by decide) (by decide) h1 h2
    | any => exact pe_callB hcall hg hm PyProof.Rows.boot_any ha (by decide) (by decide) h1 h2
    | tuple => exact pe_callTy hcall hg hm PyProof.Rows.boot_tuple ha (by decide) (by decide) h1 h2
    | list => exact pe_callTy hcall hg hm PyProof.Rows.boot_list ha (by decide) (by decide) h1 h2
    | sum => exact pe_callB hcall hg hm PyProof.Rows.boot_sum ha (by decide) (by decide) h1 h2
    | max1 => exact pe_callB hcall hg hm PyProof.Rows.boot_max ha (by decide) (by decide) h1 h2
    | min1 => exact pe_callB hcall hg hm PyProof.Rows.boot_min ha (by decide) (by decide) h1 h2
    | max2 => exact pe_callB hcall hg hm PyProof.Rows.boot_max ha (by decide) (by decide) h1 h2
    | min2 => exact pe_callB hcall hg hm PyProof.Rows.boot_min ha (by decide) (by decide) h1 h2
    | sorted => exact pe_callB hcall hg hm PyProof.Rows.boot_sorted ha (by decide) (by decide) h1 h2
  refine PEw go fun σ H Q ⟨F, env, ad, n, s, en, h⟩ => ?_
  dsimp only [ev] at h
  refine tA_of s en h fun l n1 F1 H1 s1 en1 e1 h1 vs rvs => ?_
  cases er : bltV bl l with
  | none => rw [er] at h1; exact h1.elim
  | some r =>
    rw [er] at h1
    exact ⟨F1, n1, l, r, s1, rvs, er, fun v F' H' e' q => h1 F' H' e' v (Rq.of q)⟩
/-! isinstance -/
def Ty.s : Ty → String
  | .int => "int" | .str => "str" | .tup => "tuple" | .bool => "bool" | .list => "list" | .dict => "dict"
def D.ts : D → String
  | .non => "NoneType" | .bl _ => "bool" | .int _ => "int" | .str _ => "str" | .tup _ => "tuple" | .lst _ => "list" | .dic _ _ => "dict" | _ => ""
theorem ty_X (hK : B.K = X.K) {F H : Hp} {v : V} {d : D} (sub : Same F H) (h : RpO B.K B.O F H v d) (hd : d ≠ .drw ∧ d ≠ .att) : TyX X.K H v (.type d.ts) := by
  cases d with
  | non => obtain rfl := h.non; exact .base .non
  | bl b => obtain rfl := h.bl; exact .base (.bl b)
  | int i => obtain rfl := h.int; exact .base (.int i)
  | str x => obtain ⟨rfl, _⟩ := h.str; exact .base (.str x)
  | tup l =>
    obtain ⟨a, xs, rfl, h1, _, _⟩ := h.tup sub
    rw [hK] at h1
    rcases h1 with (h1 | ⟨o, h1⟩) | ⟨o, its, n, h1, h2, _⟩
    · exact .base (.tup h1)
    · exact .fTuple h1
    · exact .kTuple h1 h2
  | lst l =>
    obtain ⟨a, xs, rfl, h1, _, _⟩ := h.lst sub
    exact .base (.lst h1)
  | dic ks ds =>
    obtain ⟨a, kvs, rfl, h1, _⟩ := h.dic sub
    exact .base (.dK h1)
  | drw => exact absurd rfl hd.1
  | att => exact absurd rfl hd.2
theorem has_kit (t : Ty) (d : D) {k : Bool} (h : t.has d = some k) : kitB d.ts t.s = some k ∧ d ≠ .drw ∧ d ≠ .att := by
  cases d <;> cases t <;> cases h <;> exact ⟨(by dsimp only [D.ts, Ty.s]; decide +kernel), (nofun), (nofun)⟩
theorem boot_ty (t : Ty) : bootBuiltins t.nm = some (.type t.s) := by cases t <;> decide +kernel
theorem o_isi {x z : Str} {t : Ty} {p2 : Pos} (hK : B.K = X.K) (hx : x = "isinstance") (hg : Gl X x) (hm : X.mg x = none) (hz : z = t.nm) (hg2 : Gl X z) (hm2 : X.mg z = none) (hp : plainX a = true) (ha : PE X a (tE B T W true ia)) :
    PE X (.Call (.Name x p) [a, .Name z p2] [] pos) (tE B T W o (.isi ia [t])) := by
  subst hx hz
  have h2 : PE X (.Name t.nm p2) (tC (.ty t.s)) := pe_bltn hg2 hm2 (boot_ty t) rfl (by cases t <;> decide) (by cases t <;> decide)
  refine PEw (pe_callB call_isi hg hm PyProof.Rows.boot_isinstance (pa_cons ha (pa_cons h2 pa_nil rfl) (star1 hp)) (by decide) (by decide) (star1 hp) rfl) fun σ H Q ⟨F, env, ad, n, s, en, h⟩ => ?_
  dsimp only [ev] at h
  refine tE_of s en h fun d n1 F1 H1 s1 en1 e1 h1 v rv => ?_
  cases er : t.has d with
  | none => rw [er] at h1; exact h1.elim
  | some k =>
    rw [er] at h1
    obtain ⟨h3, h4⟩ := has_kit t d er
    exact ⟨v, _, _, _, k, rfl, .ty _, ty_X hK s1.sub rv.opd h4, kit_ty h3, h1 F1 H1 (Ext.refl s1) _ (Rq.of (.bl _))⟩
/-! repr -/
def rRep1 (B : Gb) : List V → Hp → VK → Prop := fun xs H Q => ∃ F n d v, St0 B.K B.O F H n ∧ xs = [v] ∧ RpO B.K B.O F H v d ∧ shOk d = true ∧ Q (.str d.py.shown) H
theorem shOk_all {d : D} (h : shOk d = true) : d.pl = true ∧ d.py.showable = true ∧ d.py.depth ≤ 180 ∧ d.py.shown.length ≤ sizeLine := by
  unfold shOk at h
  simp only [Bool.and_eq_true, decide_eq_true_eq] at h
  rw [D.dep_py, ← lim_eq]
  exact ⟨h.1.1.1, h.1.1.2, h.1.2, h.2⟩
mutual
theorem D.noDict : ∀ d : D, d.py.hasDict = false
  | .non => rfl | .bl _ => rfl | .int _ => rfl | .str _ => rfl | .dic _ _ => rfl | .drw => rfl | .att => rfl
  | .tup l => by rw [D.py, PyData.hasDict]; exact D.noDicts l
  | .lst l => by rw [D.py, PyData.hasDict]; exact D.noDicts l
theorem D.noDicts : ∀ l : List D, PyData.hasDictAll (D.pys l) = false
  | [] => rfl
  | x :: r => by rw [D.pys, PyData.hasDictAll, D.noDict x, D.noDicts r]; rfl
end
theorem call_rep (hK : B.K = X.K) (hu : X.A.units + 190 < cLine) (hgd : X.A.guards = some []) : CallR X (.builtin "repr") (rRep1 B) := by
  intro pins s σ H xs us Q I r h
  obtain ⟨F, n, d, v, st, rfl, hv, hs, q⟩ := h
  obtain ⟨u, rfl, ru⟩ := vals1 r
  obtain ⟨p1, p2, p3, p4⟩ := shOk_all hs
  cases d with
  | non => obtain rfl := hv.non; cases ru; exact PySem.P.repr_of_none ⟨.str _, H, I.tok _, ⟨_, rfl⟩, q⟩
  | bl b => obtain rfl := hv.bl; cases ru; exact PySem.P.repr_of_bool ⟨.str _, H, I.tok _, ⟨_, by cases b <;> rfl⟩, q⟩
  | int i => obtain rfl := hv.int; obtain ⟨t, rfl⟩ := ru; exact PySem.P.repr_of_int (of_decide_eq_true (show decide (i.natAbs.log2 < 1920) = true from p2)) ⟨.str _, H, I.tok _, ⟨_, rfl⟩, q⟩
  | str x => obtain ⟨rfl, _⟩ := hv.str; obtain ⟨t, rfl⟩ := ru; exact PySem.P.repr_of_str ⟨.str _, H, I.tok _, ⟨_, rfl⟩, q⟩ p4
  | tup l =>
    obtain ⟨a, xs, rfl, h1, _, _⟩ := hv.tup st.sub
    obtain ⟨as, rd⟩ := RpO.rd hK I st.sub hv p1 ru
    cases ru
    exact PySem.repr_of_reads' rd p2 (fun z => by rw [D.noDict] at z; cases z) hgd (by omega) (fun _ _ e => e) (fun h' u tk kp => ⟨.str _, H, I.kept kp, ⟨_, rfl⟩, q⟩) p4
  | lst l =>
    obtain ⟨a, xs, rfl, h1, _, _⟩ := hv.lst st.sub
    obtain ⟨as, rd⟩ := RpO.rd hK I st.sub hv p1 ru
    cases ru
    exact PySem.repr_of_reads' rd p2 (fun z => by rw [D.noDict] at z; cases z) hgd (by omega) (fun _ _ e => e) (fun h' u tk kp => ⟨.str _, H, I.kept kp, ⟨_, rfl⟩, q⟩) p4
  | _ => rw [D.pl] at p1; cases p1
end
end Py

set_option Elab.async false
set_option linter.all false
set_option maxRecDepth 100000
set_option maxHeartbeats 2000000
/-! C9: the program's functions: what is promised of them, their calls. -/
namespace Py
open PySem PySem.Spec L2
/-- a function's promise where no text is being told (no guard stands) -/
structure FnG (P : Program) (w : World) (K : PySem.W.Frag) (mg : Str → Option Value) (base : Heap) (k : Nat) (f : Addr) (fd : FuncData) (ps : List Str) (sp : Sp) : Prop where
  ar : ∀ vs H Q E, sp vs H Q E → vs.length = ps.length
  go : ∀ (A : Around) (out : List PySem.Env) (s : Shared) (H : Hp) (as : Args) (us : List Value) (vs : List V) (Q : VK) (E : XK), Room k A → A.guards = some [] → Env0 P w K mg base A out s H →
    BindsTo s fd as (ps.zip us) → Vals vs us → sp vs H Q E → codeAny (model P w) A (.call (.ref f) as) (CR (L2.CX P w) out P w H s Q E) s
theorem FnG.imp {P : Program} {w : World} {K : PySem.W.Frag} {mg : Str → Option Value} {base : Heap} {k : Nat} {f : Addr} {fd : FuncData} {ps : List Str} {sp sp' : Sp} (F : FnG P w K mg base k f fd ps sp)
    (h : ∀ vs H Q E, sp' vs H Q E → sp vs H Q E) : FnG P w K mg base k f fd ps sp' :=
  ⟨fun vs H Q E q => F.ar vs H Q E (h _ _ _ _ q), fun A out s H as us vs Q E hr hg he hb hv hs => F.go A out s H as us vs Q E hr hg he hb hv (h _ _ _ _ hs)⟩
theorem FnG.up {P : Program} {w : World} {K : PySem.W.Frag} {mg : Str → Option Value} {base : Heap} {j k : Nat} {f : Addr} {fd : FuncData} {ps : List Str} {sp : Sp} (F : FnG P w K mg base j f fd ps sp) (h : j ≤ k) :
    FnG P w K mg base k f fd ps sp := ⟨F.ar, fun A out s H as us vs Q E hr => F.go A out s H as us vs Q E (hr.mono h)⟩
theorem FnG.of {P : Program} {w : World} {K : PySem.W.Frag} {mg : Str → Option Value} {base : Heap} {k : Nat} {f : Addr} {fd : FuncData} {ps : List Str} {sp : Sp} (F : FnOk P w K mg base (L2.CX P w) k f fd ps sp) :
    FnG P w K mg base k f fd ps sp := ⟨F.len, fun A out s H as us vs Q E hr _ => F.run A out s H as us vs Q E hr⟩
section
variable {X : Cx} {k : Nat} {f : Addr} {fd : FuncData} {ps : List Str} {sp : Sp} {E : St → XK} {x : Str} {p pos : Pos} {e : Expr} {es : List Expr} {t : TA}
theorem callG {pins : List (Addr × Obj)} {σ : St} {H : Hp} {s : Shared} {Q : VK} {us : List Value} {vs : List V} (F : FnG X.prog X.w X.K X.mg X.base k f fd ps sp) (hr : Room k X.A) (hgd : X.A.guards = some []) (hb : Binds X.K fd ps [])
    (hx : PassesAt (L2.CX X.prog X.w) X σ (E σ)) (I : Inv X pins σ H s) (r : Vals vs us) (h : sp vs H Q (E σ)) : wpAny (model X.prog X.w) X.A (call (.ref f) us) (EP X pins σ Q) X.xe s := by
  have hl : us.length = ps.length := by
    rw [← r.length]
    exact F.ar _ _ _ _ h
  have b := hb s us I.kIn (by simpa using hl)
  simp only [List.append_nil] at b
  refine wpAny_call (codeAny_mono (F.go X.A X.stack s H ⟨us, []⟩ us vs Q (E σ) hr hgd I.env0 b r h) fun res s2 hq => ?_)
  match res, hq with
  | .error er, hq => exact hx pins H s er s2 I hq
  | .ok (.ret u), hq => exact I.after hq
  | .ok .next, hq => exact hq.elim
  | .ok .brk, hq => exact hq.elim
  | .ok .cont, hq => exact hq.elim
theorem pe_callG (F : FnG X.prog X.w X.K X.mg X.base k f fd ps sp) (hr : Room k X.A) (hgd : X.A.guards = some []) (hg : Gl X x) (hm : X.mg x = some (.ref f)) (hk : PySem.W.keepIn X.K (.ref f) = true) (hb : Binds X.K fd ps [])
    (hx : ∀ σ, PassesAt (L2.CX X.prog X.w) X σ (E σ)) (ha : PA X (e :: es) t) (hdb : (x == ("__debug__" : Str)) = false) (h1 : plainX e = true) (h2 : es.all plainX = true) :
    PE X (.Call (.Name x p) (e :: es) [] pos) (tCallS sp E t) := ⟨fun pins s σ H Q I h =>
  wpAny_Call_Name_kw (ld_glob I hg hm (PySem.W.callWith_K (h₀ := X.base) I.ok.mod.kin hk (thn (ha.run pos pins s σ H _ I h) fun us s1 ⟨vs, H1, I1, r, q⟩ => ⟨I1.kIn, callG F hr hgd hb (hx σ) I1 r q⟩) (star1 h1) (starN h2)) hdb)⟩
end
/-- what a function of the language is promised: its arguments stand for l -/
def spD (B : Gb) (fn : List D → Nat → Res D) (ar : Nat) : Sp := fun vs H Q E => vs.length = ar ∧ ∃ F n l, St0 B.K B.O F H n ∧ RpA B.K B.O F vs l ∧
  R B (fun c dx _ H' => E c dx H') [] F H n (fn l n) fun d _ F' H' => ∀ v, Rp B.K B.O F' v d → Q v H'
/-- the draws: _law_take(draws, at, many) -/
def spT (B : Gb) (om : Nat → Int) : Sp := fun vs H Q _ => ∃ (F : Hp) (n : Nat) (m : Int), vs = [.ref B.O.aD, .ref B.O.aA, .int m] ∧ St0 B.K B.O F H n ∧ (0 < m ∧ n < 2 ^ 40) ∧ ∀ F' H', Ext B.O F H n F' H' (n + 1) → Q (.int (om n % m)) H'
theorem R.good {B : Gb} {W : WX} {α : Type} {σ : St} {F H : Hp} {n : Nat} {r : Res α} {post : α → Nat → Hp → Hp → Prop} (h : R B W σ F H n r post) : r.good := by
  cases r with
  | bad => exact h.elim
  | _ => trivial
/-- the draws' place goes on by one -/
theorem Ext.took {K : PySem.W.Frag} {O : Orc} {F H : Hp} {n : Nat} (s : St0 K O F H n) : Ext O F H n F (upd H O.aA (.lst [.int ((n : Int) + 1)])) (n + 1) where
  same := Same.refl F
  sub := fun b o e => by rw [upd_ne (ne_of_none e s.fA)]; exact s.sub _ _ e
  fA := s.fA
  hA := by rw [upd_same]; rfl
  keep := fun b o hb e => by rw [upd_ne hb]; exact e
  new := fun b o e => .inl e
section
variable {X : Cx} {B : Gb} {T : Tab} {W : WX} {a b c e : Expr} {p pos : Pos} {o o1 o2 o3 : Bool} {ia ib ic : E} {es : List Expr}
theorem o_call {f : Nat} {fa : Addr} {fd : FuncData} {k : Nat} {ps : List Str} {x : Str} (F : FnG X.prog X.w X.K X.mg X.base k fa fd ps (spD B (T.fn f) ps.length)) (hr : Room k X.A) (hgd : X.A.guards = some []) (hg : Gl X x) (hm : X.mg x = some (.ref fa))
    (hk : PySem.W.keepIn X.K (.ref fa) = true) (hb : Binds X.K fd ps []) (hx : ∀ σ, PassesAt (L2.CX X.prog X.w) X σ (WE W σ)) (hdb : (x == ("__debug__" : Str)) = false) (h1 : plainX e = true) (h2 : es.all plainX = true)
    (har : ∀ l n, (T.fn f l n).good → l.length = ps.length) (ha : PA X (e :: es) (tA B T W false ia)) :
    PE X (.Call (.Name x p) (e :: es) [] pos) (tE B T W o (.call f ia)) := by
  refine ⟨fun pins s σ H Q I ⟨F0, env, ad, n, st, en, h⟩ => ?_⟩
  dsimp only [ev] at h
  -- the arguments are as many as there are parameters
  refine wpAny_Call_Name_kw (ld_glob I hg hm (PySem.W.callWith_K (h₀ := X.base) I.ok.mod.kin hk (thn (ha.run pos pins s σ H (fun vs H1 => ∃ F1 n1 l, St0 B.K B.O F1 H1 n1 ∧ RpA B.K B.O F1 vs l ∧ R B W σ F1 H1 n1 (T.fn f l n1) fun d _ F' H' => ∀ v, Rq B o F' H' v d → Q v H') I
    (tA_of st en h fun l n1 F1 H1 s1 en1 e1 h1 vs rvs => ⟨F1, n1, l, s1, rvs.frz, h1⟩)) fun us s1 ⟨vs, H1, I1, r, F1, n1, l, s1', rl, q⟩ => ⟨I1.kIn, ?_⟩) (star1 h1) (starN h2)) hdb)
  have hv : vs.length = ps.length := by rw [rl.length]; exact har l n1 (R.good q)
  exact callG (E := WE W) F hr hgd hb (hx σ) I1 r ⟨hv, F1, n1, l, s1', rl, q.imp fun d n2 F2 H2 _ _ z v rv => z v (Rq.of rv)⟩
/-! lists and dicts of one's own, lent -/
def HO.isC : HO → Bool
  | .lst _ => true
  | .dK _ => true
  | _ => false
def lent (F H : Hp) (S : List Addr) : Hp := fun b => if b ∈ S then H b else F b
def unl (S : List Addr) (F : Hp) : Hp := fun b => if b ∈ S then none else F b
def Lent (O : Orc) (F H : Hp) (S : List Addr) : Prop := ∀ b ∈ S, F b = none ∧ b ≠ O.aA ∧ ∃ o, H b = some o ∧ HO.isC o = true
theorem Lent.same {O : Orc} {F H : Hp} {S : List Addr} (h : Lent O F H S) : Same F (lent F H S) := fun b o e => by
  unfold lent
  rw [if_neg (fun m => by rw [(h b m).1] at e; cases e)]; exact e
theorem Lent.st {K : PySem.W.Frag} {O : Orc} {F H : Hp} {S : List Addr} {n : Nat} (h : Lent O F H S) (s : St0 K O F H n) : St0 K O (lent F H S) H n where
  sub := fun b o e => by
    unfold lent at e
    split at e
    · exact e
    · exact s.sub _ _ e
  fA := by
    unfold lent
    rw [if_neg (fun m => (h _ m).2.1 rfl)]; exact s.fA
  hA := s.hA
  dr := h.same _ _ s.dr
theorem RqA.lend {B : Gb} {F H : Hp} : ∀ {vs : List V} {l : List D}, RqA B true F H vs l → ∃ S, Lent B.O F H S ∧ RpA B.K B.O (lent F H S) vs l
  | _, _, .nil => ⟨[], (fun _ m => nomatch m), .nil⟩
  | _, _, .cons h t => by
    obtain ⟨S, h1, h2⟩ := RqA.lend t
    have h : RpO B.K B.O F H _ _ := h
    cases h with
    | of h => exact ⟨S, h1, .cons (h.mono h1.same) h2⟩
    | @own a o d ha hf ho r =>
      have h3 : Lent B.O F H (a :: S) := fun b m => by
        rcases List.mem_cons.mp m with rfl | m
        · refine ⟨hf, ha, o, ho, ?_⟩
          unfold RpC at r
          split at r
          · rfl
          · rfl
          · exact r.elim
        · exact h1 b m
      have up : Same (lent F H S) (lent F H (a :: S)) := fun b o e => by
        unfold lent at e ⊢
        by_cases m : b ∈ a :: S
        · rw [if_pos m]
          by_cases m2 : b ∈ S
          · rw [if_pos m2] at e; exact e
          · rw [if_neg m2, (h3 b m).1] at e; cases e
        · rw [if_neg m]
          rw [if_neg (fun m2 => m (List.mem_cons_of_mem _ m2))] at e; exact e
      refine ⟨a :: S, h3, .cons (RpC.rp (o := o) ?_ (r.mono h3.same)) (h2.mono up)⟩
      unfold lent
      rw [if_pos List.mem_cons_self]; exact ho
theorem Lent.back {O : Orc} {F H F' H' : Hp} {S : List Addr} {n n' : Nat} (h : Lent O F H S) (e : Ext O (lent F H S) H n F' H' n') : Ext O F H n (unl S F') H' n' where
  same := fun b o q => by
    have nm : b ∉ S := fun m => by rw [(h b m).1] at q; cases q
    unfold unl
    rw [if_neg nm]
    exact e.same _ _ (h.same _ _ q)
  sub := fun b o q => by
    unfold unl at q
    split at q
    · cases q
    · exact e.sub _ _ q
  fA := by
    unfold unl
    split
    · rfl
    · exact e.fA
  hA := e.hA
  keep := e.keep
  new := fun b o q => by
    unfold unl at q
    split at q
    · cases q
    · rename_i nm
      have := e.new _ _ q
      unfold lent at this
      rw [if_neg nm] at this
      exact this
section
variable {K : PySem.W.Frag} {O : Orc} {F : Hp} {S : List Addr}
theorem unl_sqt (hS : ∀ b ∈ S, ∃ o, F b = some o ∧ HO.isC o = true) {a : Addr} {xs : List V} (h : SqT K F a xs) : SqT K (unl S F) a xs := by
  have no : ∀ o, F a = some o → HO.isC o = false → unl S F a = some o := fun o e c => by
    unfold unl
    rw [if_neg (fun m => by obtain ⟨u, h1, h2⟩ := hS a m; rw [e] at h1; cases h1; rw [c] at h2; cases h2)]; exact e
  rcases h with (h | ⟨o, h⟩) | h
  · exact .inl (.inl (no _ h rfl))
  · exact .inl (.inr ⟨o, no _ h rfl⟩)
  · exact .inr h
mutual
theorem Rp.unl (hS : ∀ b ∈ S, ∃ o, F b = some o ∧ HO.isC o = true) : ∀ {v : V} {d : D}, Rp K O F v d → d.noC = true → Rp K O (unl S F) v d
  | _, _, .non, _ => .non
  | _, _, .bl b, _ => .bl b
  | _, _, .int i, _ => .int i
  | _, _, .str x h, _ => .str x h
  | _, _, .tup h r n, c => .tup (unl_sqt hS h) (RpA.unl hS r (by rw [D.noC] at c; exact c)) n
  | _, _, .lst h r n, c => by rw [D.noC] at c; cases c
  | _, _, .dic h hk r n, c => by rw [D.noC] at c; cases c
  | _, _, .drw, _ => .drw
  | _, _, .att, _ => .att
theorem RpA.unl (hS : ∀ b ∈ S, ∃ o, F b = some o ∧ HO.isC o = true) : ∀ {vs : List V} {l : List D}, RpA K O F vs l → D.noCs l = true → RpA K O (unl S F) vs l
  | _, _, .nil, _ => .nil
  | _, _, .cons h t, c => by
    rw [D.noCs, Bool.and_eq_true] at c
    exact .cons (Rp.unl hS h c.1) (RpA.unl hS t c.2)
end
end
theorem Lent.there {O : Orc} {F H F' H' : Hp} {S : List Addr} {n n' : Nat} (h : Lent O F H S) (e : Ext O (lent F H S) H n F' H' n') : ∀ b ∈ S, ∃ o, F' b = some o ∧ HO.isC o = true := fun b m => by
  obtain ⟨-, -, o, h1, h2⟩ := h b m
  refine ⟨o, e.same _ _ ?_, h2⟩
  unfold lent
  rw [if_pos m]; exact h1
theorem Lent.flat {B : Gb} {W : WX} {σ : St} {F H : Hp} {S : List Addr} {n : Nat} {r : Res D} {Q : V → Hp → Prop} (h : Lent B.O F H S) (q : R B W σ F H n r.flat fun d _ F' H' => ∀ v, Rp B.K B.O F' v d → Q v H') :
    R B W σ (lent F H S) H n r fun d _ F' H' => ∀ v, Rp B.K B.O F' v d → Q v H' := by
  cases r with
  | bad => exact q
  | ok d m =>
    unfold Res.flat at q
    dsimp only at q
    split at q
    · rename_i c
      exact fun F' H' e v rv => q (Py.unl S F') H' (h.back e) v (rv.unl (h.there e) c)
    · exact q.elim
  | exc x m =>
    unfold Res.flat at q
    dsimp only at q
    split at q
    · rename_i c
      rintro F' H' cl dx e ⟨e1, d, fs, e2, e3, e4, e5⟩
      exact q (Py.unl S F') H' cl dx (h.back e) ⟨e1, d, fs, e2, e3, e4, e5.unl (h.there e) c⟩
    · exact q.elim
theorem o_callB {f : Nat} {fa : Addr} {fd : FuncData} {ps : List Str} {k : Nat} {x : Str} (F : FnG X.prog X.w X.K X.mg X.base k fa fd ps (spD B (T.fn f) ps.length)) (hr : Room k X.A) (hgd : X.A.guards = some []) (hg : Gl X x) (hm : X.mg x = some (.ref fa))
    (hk : PySem.W.keepIn X.K (.ref fa) = true) (hb : Binds X.K fd ps []) (hx : ∀ σ, PassesAt (L2.CX X.prog X.w) X σ (WE W σ)) (hdb : (x == ("__debug__" : Str)) = false) (h1 : plainX e = true) (h2 : es.all plainX = true)
    (har : ∀ l n, (T.fn f l n).good → l.length = ps.length) (ha : PA X (e :: es) (tA B T W true ia)) : PE X (.Call (.Name x p) (e :: es) [] pos) (tE B T W o (.callB f ia)) := by
  refine ⟨fun pins s σ H Q I ⟨F0, env, ad, n, st, en, h⟩ => ?_⟩
  dsimp only [ev] at h
  refine wpAny_Call_Name_kw (ld_glob I hg hm (PySem.W.callWith_K (h₀ := X.base) I.ok.mod.kin hk (thn (ha.run pos pins s σ H (fun vs H1 => ∃ F1 n1 l, St0 B.K B.O F1 H1 n1 ∧ RpA B.K B.O F1 vs l ∧ R B W σ F1 H1 n1 (T.fn f l n1) fun d _ F' H' => ∀ v, Rp B.K B.O F' v d → Q v H') I
    (tA_of st en h fun l n1 F1 H1 s1 en1 e1 h1 vs rvs => by
      obtain ⟨S, q1, q2⟩ := rvs.lend
      exact ⟨lent F1 H1 S, n1, l, q1.st s1, q2, q1.flat (h1.imp fun d _ F' H' _ _ z v rv => z v (Rq.of rv))⟩)) fun us s1 ⟨vs, H1, I1, r, F1, n1, l, s1', rl, q⟩ => ⟨I1.kIn, ?_⟩) (star1 h1) (starN h2)) hdb)
  have hv : vs.length = ps.length := by rw [rl.length]; exact har l n1 (R.good q)
  exact callG (E := WE W) F hr hgd hb (hx σ) I1 r ⟨hv, F1, n1, l, s1', rl, q⟩
/-- _law_take(draws, at, m) -/
theorem o_take {i j : Nat} {fa : Addr} {fd : FuncData} {k : Nat} {x u z : Str} {p2 p3 : Pos} (hK : B.K = X.K) (F : FnG X.prog X.w X.K X.mg X.base k fa fd ["draws", "at", "many"] (spT B T.om)) (hr : Room k X.A) (hgd : X.A.guards = some []) (hg : Gl X x) (hm : X.mg x = some (.ref fa))
    (hk : PySem.W.keepIn X.K (.ref fa) = true) (hb : Binds X.K fd ["draws", "at", "many"] []) (hx : ∀ σ, PassesAt (L2.CX X.prog X.w) X σ (WE W σ)) (hdb : (x == ("__debug__" : Str)) = false)
    (hu : PE X (.Name u p2) (tVar i)) (hz : PE X (.Name z p3) (tVar j)) (h2 : plainX a = true) (ha : PE X a (tE B T W true ia)) :
    PE X (.Call (.Name x p) [.Name u p2, .Name z p3, a] [] pos) (tE B T W o (.take i j ia)) := by
  refine PEw (pe_callG (E := WE W) F hr hgd hg hm hk hb hx (pa_cons hu (pa_cons hz (pa_cons ha pa_nil (star1 h2)) rfl) rfl) hdb rfl (by rw [List.all_cons, List.all_cons, h2]; rfl)) fun σ H Q ⟨F, env, ad, n, s, en, h⟩ => ?_
  dsimp only [ev] at h
  have qi := en.ok i
  have qj := en.ok j
  cases ei : slot env i with
  | no => rw [ei] at h; exact h.elim
  | own l => rw [ei] at h; exact h.elim
  | val d =>
    cases ej : slot env j with
    | no => rw [ei, ej] at h; cases d <;> exact h.elim
    | own l => rw [ei, ej] at h; cases d <;> exact h.elim
    | val d2 =>
      rw [ei] at h qi
      rw [ej] at h qj
      cases d with
      | drw =>
        cases d2 with
        | att =>
          obtain ⟨v1, g1, g2⟩ := qi
          obtain ⟨v2, g3, g4⟩ := qj
          cases g2
          cases g4
          refine ⟨_, g1, _, g3, tE_of s en h fun y n1 F1 H1 s1 en1 e1 h1 v rv => ?_⟩
          cases y with
          | int m =>
            obtain rfl := rv.opd.int
            dsimp only at h1
            split at h1
            · rename_i hm0
              exact ⟨F1, n1, m, rfl, s1, hm0, fun F' H' e => h1 F' H' e _ (Rq.of (.int _))⟩
            · exact h1.elim
          | _ => exact h1.elim
        | _ => exact h.elim
      | _ => exact h.elim
end
end Py

set_option Elab.async false
set_option linter.all false
set_option maxRecDepth 100000
set_option maxHeartbeats 2000000
/-! C10: targets; what is walked; comprehensions. -/
namespace Py
open PySem PySem.Spec L2
/-! ### targets -/
def gT (K : PySem.W.Frag) : Tg → TG
  | .nm i => gName i
  | .t2 a b => gTup K 2 (gCons (gT K a) (gCons (gT K b) gNil))
  | .t3 a b c => gTup K 3 (gCons (gT K a) (gCons (gT K b) (gCons (gT K c) gNil)))
  | .t4 a b c d => gTup K 4 (gCons (gT K a) (gCons (gT K b) (gCons (gT K c) (gCons (gT K d) gNil))))
  | .t5 a b c d e => gTup K 5 (gCons (gT K a) (gCons (gT K b) (gCons (gT K c) (gCons (gT K d) (gCons (gT K e) gNil)))))
section
variable {X : Cx} {N : List Str}
theorem g_plain {sc : Scope} : ∀ {t : Tg} {e : Expr}, chkG N sc t e = true → plainX e = true
  | t, e, h => by cases t <;> cases e <;> first | rfl | (simp [chkG] at h)
theorem each1 {x : Expr} {r : List Expr} {env : PySem.Env} (px : plainX x = true) : assignEach (x :: r) env = (false, assign x env) :: assignEach r env := by cases x <;> first | rfl | cases px
/-- a target's text keeps to it: where its names may be stored -/
theorem g_ok (hc : X.calm = true) (hN : X.N = N) (hd : X.N.Nodup) {sc : Scope} (hl : ∀ x, isLoc sc x = true → L2.Loc X.env.scope x ∧ (X.fn x = true ∨ X.env.scope.names.lookup x = some .local)) :
    ∀ (t : Tg) (e : Expr), chkG N sc t e = true → PG X e (gT X.K t) := by
  intro t
  induction t with
  | nm i =>
    intro e h
    cases e with
    | Name x p =>
      simp only [chkG, Bool.and_eq_true, decide_eq_true_eq] at h
      obtain ⟨h1, h2⟩ := hl x h.1.2
      exact pg_name hd (by rw [hN]; exact h.1.1) h1 h2
    | _ => simp [chkG] at h
  | t2 a b iha ihb =>
    intro e h
    unfold chkG at h
    split at h
    · simp only [Bool.and_eq_true] at h
      have p1 := g_plain h.1
      have p2 := g_plain h.2
      refine pg_tup hc (pgs_cons (iha _ h.1) (pgs_cons (ihb _ h.2) pgs_nil ?_) ?_) ?_ ?_ <;> simp [each1 p1, each1 p2, assignEach]
    · cases h
  | t3 a b c iha ihb ihc =>
    intro e h
    unfold chkG at h
    split at h
    · simp only [Bool.and_eq_true] at h
      have p1 := g_plain h.1
      have p2 := g_plain h.2.1
      have p3 := g_plain h.2.2
      refine pg_tup hc (pgs_cons (iha _ h.1) (pgs_cons (ihb _ h.2.1) (pgs_cons (ihc _ h.2.2) pgs_nil ?_) ?_) ?_) ?_ ?_ <;> simp [each1 p1, each1 p2, each1 p3, assignEach]
    · cases h
  | t4 a b c d iha ihb ihc ihd =>
    intro e h
    unfold chkG at h
    split at h
    · simp only [Bool.and_eq_true] at h
      have p1 := g_plain h.1
      have p2 := g_plain h.2.1
      have p3 := g_plain h.2.2.1
      have p4 := g_plain h.2.2.2
      refine pg_tup hc (pgs_cons (iha _ h.1) (pgs_cons (ihb _ h.2.1) (pgs_cons (ihc _ h.2.2.1) (pgs_cons (ihd _ h.2.2.2) pgs_nil ?_) ?_) ?_) ?_) ?_ ?_ <;> simp [each1 p1, each1 p2, each1 p3, each1 p4, assignEach]
    · cases h
  | t5 a b c d f iha ihb ihc ihd ihf =>
    intro e h
    unfold chkG at h
    split at h
    · simp only [Bool.and_eq_true] at h
      have p1 := g_plain h.1
      have p2 := g_plain h.2.1
      have p3 := g_plain h.2.2.1
      have p4 := g_plain h.2.2.2.1
      have p5 := g_plain h.2.2.2.2
      refine pg_tup hc (pgs_cons (iha _ h.1) (pgs_cons (ihb _ h.2.1) (pgs_cons (ihc _ h.2.2.1) (pgs_cons (ihd _ h.2.2.2.1) (pgs_cons (ihf _ h.2.2.2.2) pgs_nil ?_) ?_) ?_) ?_) ?_) ?_ ?_ <;> simp [each1 p1, each1 p2, each1 p3, each1 p4, each1 p5, assignEach]
    · cases h
end
section
variable (K : PySem.W.Frag) (O : Orc)
/-- the names' states but those at vs -/
structure EnX (vs : List Nat) (F H : Hp) (σ : St) (env : Env) (ad : Nat → Addr) : Prop where
  len : σ.length = env.length
  ok : ∀ i, i ∉ vs → SlOk K O F H (ad i) σ[i]? (slot env i)
  inj : ∀ i j, i ∉ vs → j ∉ vs → i ≠ j → isOwn (slot env i) = true → isOwn (slot env j) = true → ad i ≠ ad j
end
section
variable {K : PySem.W.Frag} {O : Orc} {F H : Hp} {ad : Nat → Addr} {σ : St} {env : Env}
theorem EnOk.x (e : EnOk K O F H σ env ad) (vs : List Nat) : EnX K O vs F H σ env ad := ⟨e.len, fun i _ => e.ok i, fun i j _ _ => e.inj i j⟩
theorem EnX.all (e : EnX K O [] F H σ env ad) : EnOk K O F H σ env ad := ⟨e.len, fun i => e.ok i (by simp), fun i j => e.inj i j (by simp) (by simp)⟩
theorem slot_set {env : Env} {i j : Nat} {s : Slot} : slot (env.set i s) j = if i = j ∧ i < env.length then s else slot env j := by
  unfold slot
  rw [List.getD_eq_getElem?_getD, List.getD_eq_getElem?_getD, List.getElem?_set]
  by_cases h : i = j
  · subst h
    by_cases hl : i < env.length
    · rw [if_pos rfl, if_pos hl, if_pos ⟨rfl, hl⟩]; rfl
    · rw [if_pos rfl, if_neg hl, if_neg (fun q => hl q.2), List.getElem?_eq_none (by omega)]
  · rw [if_neg h, if_neg (fun q => h q.1)]
theorem EnX.set {vs : List Nat} {i : Nat} {v : V} {d : D} (e : EnX K O (i :: vs) F H σ env ad) (r : Rp K O F v d) : EnX K O vs F H (σ.set i (some v)) (env.set i (.val d)) ad where
  len := by rw [List.length_set, List.length_set]; exact e.len
  ok := fun j hj => by
    rw [slot_set]
    by_cases hij : i = j
    · subst hij
      by_cases hl : i < env.length
      · rw [if_pos ⟨rfl, hl⟩]
        exact ⟨v, List.getElem?_set_self (by rw [e.len]; exact hl), r⟩
      · rw [if_neg (fun q => hl q.2)]
        have : slot env i = .no := by unfold slot; rw [List.getD_eq_getElem?_getD, List.getElem?_eq_none (by omega)]; rfl
        rw [this]; trivial
    · rw [if_neg (fun q => hij q.1), List.getElem?_set_ne hij]
      exact e.ok j (by simp [hj]; exact fun q => hij q.symm)
  inj := fun a b ha hb hab h1 h2 => by
    rw [slot_set] at h1 h2
    have na : i ≠ a := fun q => by
      subst q
      by_cases hl : i < env.length
      · rw [if_pos ⟨rfl, hl⟩] at h1; cases h1
      · have : slot env i = .no := by unfold slot; rw [List.getD_eq_getElem?_getD, List.getElem?_eq_none (by omega)]; rfl
        rw [if_neg (fun q => hl q.2), this] at h1; cases h1
    have nb : i ≠ b := fun q => by
      subst q
      by_cases hl : i < env.length
      · rw [if_pos ⟨rfl, hl⟩] at h2; cases h2
      · have : slot env i = .no := by unfold slot; rw [List.getD_eq_getElem?_getD, List.getElem?_eq_none (by omega)]; rfl
        rw [if_neg (fun q => hl q.2), this] at h2; cases h2
    rw [if_neg (fun q => na q.1)] at h1
    rw [if_neg (fun q => nb q.1)] at h2
    exact e.inj a b (by simp [ha]; exact fun q => na q.symm) (by simp [hb]; exact fun q => nb q.symm) hab h1 h2
theorem wipe_set {i : Nat} {x : Option V} : ∀ {vs : List Nat} {σ : St}, i ∈ vs → wipe (σ.set i x) vs = wipe σ vs
  | [], _, h => by cases h
  | v :: vs, σ, h => by
    show (wipe (σ.set i x) vs).set v none = (wipe σ vs).set v none
    by_cases hv : i ∈ vs
    · rw [wipe_set hv]
    · have e : i = v := by
        rcases List.mem_cons.mp h with q | q
        · exact q
        · exact absurd q hv
      subst e
      have go : ∀ (ws : List Nat) (σ : St), i ∉ ws → (wipe (σ.set i x) ws).set i none = (wipe σ ws).set i none := by
        intro ws
        induction ws with
        | nil => intro σ _; show (σ.set i x).set i none = σ.set i none; rw [List.set_set]
        | cons w ws ih =>
          intro σ hn
          simp only [List.mem_cons, not_or] at hn
          show ((wipe (σ.set i x) ws).set w none).set i none = ((wipe σ ws).set w none).set i none
          rw [List.set_comm _ _ (Ne.symm hn.1), ih σ hn.2, List.set_comm _ _ hn.1]
      exact go vs σ hv
/-- a target takes a value: the states behind -/
theorem g_bind (sub : Same F H) : ∀ (t : Tg) (d : D) (env env' : Env) (σ : St) (vs : List Nat) (v : V) (Q : St → Hp → Prop), EnX K O (t.slots ++ vs) F H σ env ad → t.bind d env = some env' → Rp K O F v d →
    (∀ σ', EnX K O vs F H σ' env' ad → (∀ ws, (∀ i ∈ t.slots, i ∈ ws) → wipe σ' ws = wipe σ ws) → Q σ' H) → gT K t v σ H Q := by
  intro t
  induction t with
  | nm i =>
    intro d env env' σ vs v Q e hb r k
    rw [Tg.bind] at hb
    cases hb
    exact k _ (EnX.set (vs := vs) (by simpa [Tg.slots] using e) r) fun ws hw => wipe_set (hw i (by simp [Tg.slots]))
  | t2 a b iha ihb =>
    intro d env env' σ vs v Q e hb r k
    unfold Tg.bind at hb
    split at hb
    · obtain ⟨v1, h1, hb⟩ := Option.bind_eq_some_iff.mp hb
      cases r with
      | tup hh rr nn =>
        cases rr with
        | cons r1 rr => cases rr with
          | cons r2 rr =>
            cases rr
            refine ⟨_, _, rfl, Same.sqt sub hh, rfl, _, _, rfl, iha _ _ _ _ (b.slots ++ vs) _ _ (by simpa [Tg.slots, List.append_assoc] using e) h1 r1 fun σ1 e1 w1 => ⟨_, _, rfl, ihb _ _ _ _ vs _ _ e1 hb r2 fun σ2 e2 w2 => ⟨rfl, k σ2 e2 fun ws hw => ?_⟩⟩⟩
            simp only [Tg.slots, List.mem_append] at hw
            rw [w2 ws fun i hi => hw i (.inr hi), w1 ws fun i hi => hw i (.inl hi)]
    · cases hb
  | t3 a b c iha ihb ihc =>
    intro d env env' σ vs v Q e hb r k
    unfold Tg.bind at hb
    split at hb
    · obtain ⟨v1, h1, hb⟩ := Option.bind_eq_some_iff.mp hb
      obtain ⟨v2, h2, hb⟩ := Option.bind_eq_some_iff.mp hb
      cases r with
      | tup hh rr nn =>
        cases rr with
        | cons r1 rr => cases rr with
          | cons r2 rr => cases rr with
            | cons r3 rr =>
              cases rr
              refine ⟨_, _, rfl, Same.sqt sub hh, rfl, _, _, rfl, iha _ _ _ _ (b.slots ++ (c.slots ++ vs)) _ _ (by simpa [Tg.slots, List.append_assoc] using e) h1 r1 fun σ1 e1 w1 => ⟨_, _, rfl, ihb _ _ _ _ (c.slots ++ vs) _ _ e1 h2 r2 fun σ2 e2 w2 =>
                ⟨_, _, rfl, ihc _ _ _ _ vs _ _ e2 hb r3 fun σ3 e3 w3 => ⟨rfl, k σ3 e3 fun ws hw => ?_⟩⟩⟩⟩
              simp only [Tg.slots, List.mem_append] at hw
              rw [w3 ws fun i hi => hw i (.inr (.inr hi)), w2 ws fun i hi => hw i (.inr (.inl hi)), w1 ws fun i hi => hw i (.inl hi)]
    · cases hb
  | t4 a b c f iha ihb ihc ihf =>
    intro d env env' σ vs v Q e hb r k
    unfold Tg.bind at hb
    split at hb
    · obtain ⟨v1, h1, hb⟩ := Option.bind_eq_some_iff.mp hb
      obtain ⟨v2, h2, hb⟩ := Option.bind_eq_some_iff.mp hb
      obtain ⟨v3, h3, hb⟩ := Option.bind_eq_some_iff.mp hb
      cases r with
      | tup hh rr nn =>
        cases rr with
        | cons r1 rr => cases rr with
          | cons r2 rr => cases rr with
            | cons r3 rr => cases rr with
              | cons r4 rr =>
                cases rr
                refine ⟨_, _, rfl, Same.sqt sub hh, rfl, _, _, rfl, iha _ _ _ _ (b.slots ++ (c.slots ++ (f.slots ++ vs))) _ _ (by simpa [Tg.slots, List.append_assoc] using e) h1 r1 fun σ1 e1 w1 => ⟨_, _, rfl, ihb _ _ _ _ (c.slots ++ (f.slots ++ vs)) _ _ e1 h2 r2 fun σ2 e2 w2 =>
                  ⟨_, _, rfl, ihc _ _ _ _ (f.slots ++ vs) _ _ e2 h3 r3 fun σ3 e3 w3 => ⟨_, _, rfl, ihf _ _ _ _ vs _ _ e3 hb r4 fun σ4 e4 w4 => ⟨rfl, k σ4 e4 fun ws hw => ?_⟩⟩⟩⟩⟩
                simp only [Tg.slots, List.mem_append] at hw
                rw [w4 ws fun i hi => hw i (.inr (.inr (.inr hi))), w3 ws fun i hi => hw i (.inr (.inr (.inl hi))), w2 ws fun i hi => hw i (.inr (.inl hi)), w1 ws fun i hi => hw i (.inl hi)]
    · cases hb
  | t5 a b c f g iha ihb ihc ihf ihg =>
    intro d env env' σ vs v Q e hb r k
    unfold Tg.bind at hb
    split at hb
    · obtain ⟨v1, h1, hb⟩ := Option.bind_eq_some_iff.mp hb
      obtain ⟨v2, h2, hb⟩ := Option.bind_eq_some_iff.mp hb
      obtain ⟨v3, h3, hb⟩ := Option.bind_eq_some_iff.mp hb
      obtain ⟨v4, h4, hb⟩ := Option.bind_eq_some_iff.mp hb
      cases r with
      | tup hh rr nn =>
        cases rr with
        | cons r1 rr => cases rr with
          | cons r2 rr => cases rr with
            | cons r3 rr => cases rr with
              | cons r4 rr => cases rr with
                | cons r5 rr =>
                  cases rr
                  refine ⟨_, _, rfl, Same.sqt sub hh, rfl, _, _, rfl, iha _ _ _ _ (b.slots ++ (c.slots ++ (f.slots ++ (g.slots ++ vs)))) _ _ (by simpa [Tg.slots, List.append_assoc] using e) h1 r1 fun σ1 e1 w1 => ⟨_, _, rfl, ihb _ _ _ _ (c.slots ++ (f.slots ++ (g.slots ++ vs))) _ _ e1 h2 r2 fun σ2 e2 w2 =>
                    ⟨_, _, rfl, ihc _ _ _ _ (f.slots ++ (g.slots ++ vs)) _ _ e2 h3 r3 fun σ3 e3 w3 => ⟨_, _, rfl, ihf _ _ _ _ (g.slots ++ vs) _ _ e3 h4 r4 fun σ4 e4 w4 => ⟨_, _, rfl, ihg _ _ _ _ vs _ _ e4 hb r5 fun σ5 e5 w5 => ⟨rfl, k σ5 e5 fun ws hw => ?_⟩⟩⟩⟩⟩⟩
                  simp only [Tg.slots, List.mem_append] at hw
                  rw [w5 ws fun i hi => hw i (.inr (.inr (.inr (.inr hi)))), w4 ws fun i hi => hw i (.inr (.inr (.inr (.inl hi)))), w3 ws fun i hi => hw i (.inr (.inr (.inl hi))), w2 ws fun i hi => hw i (.inr (.inl hi)), w1 ws fun i hi => hw i (.inl hi)]
    · cases hb
end
end Py

set_option Elab.async false
set_option linter.all false
set_option maxRecDepth 100000
set_option maxHeartbeats 2000000
/-! C11: what is walked; list comprehensions. -/
namespace Py
open PySem PySem.Spec L2
/-- J walks l wherever S holds -/
structure Wk (K : PySem.W.Frag) (O : Orc) (J : It) (S : Hp → Hp → Prop) (l : List D) : Prop where
  go : ∀ i F H, S F H → i < l.length → J.go i H
  stop : ∀ i F H, S F H → l.length ≤ i → J.stop i H
  yld : ∀ i F H n v H', St0 K O F H n → S F H → J.yld i H v H' → ∀ d, l[i]? = some d → ∃ F', Ext O F H n F' H' n ∧ Rp K O F' v d
/-- S stays -/
def Stays (O : Orc) (S : Hp → Hp → Prop) : Prop := ∀ F H F' H', S F H → Same F F' → Same F' H' → (∀ b o, b ≠ O.aA → H b = some o → H' b = some o) → S F' H'
/-- .. whatever changes that is not frozen -/
def StaysF (S : Hp → Hp → Prop) : Prop := ∀ F H F' H', S F H → Same F F' → Same F' H' → S F' H'
section
variable (B : Gb) (T : Tab) (W : WX)
def tI (fz : Bool) (it : E) : TI := fun σ H Rk => At B σ H fun F env n => R B W σ F H n (evi T it env n) fun l _ F' H' => ∀ J S, Wk B.K B.O J S l → S F' H' → Stays B.O S → (fz = true → StaysF S) → l.length ≤ LIM → Rk J H'
end
theorem PIw {X : Cx} {tg e : Expr} {t t' : TI} (h : PI X tg e t) (k : ∀ σ H Q, t' σ H Q → t σ H Q) : PI X tg e t' := ⟨fun pins s σ H Q I q => h.run pins s σ H Q I (k _ _ _ q)⟩
/-- a list or a tuple, walked -/
def iSq (K : PySem.W.Frag) (t : TE) : TI := fun σ H Rk => t σ H fun v Hm => (∃ a l, v = .ref a ∧ SqL K Hm a l ∧ Rk (Itl K a) Hm) ∨ (∃ a l, v = .ref a ∧ SqT K Hm a l ∧ Rk (Itt K a) Hm) ∨ ∃ x, v = .str x ∧ Rk (Its x) Hm
section
variable {X : Cx} {tg : Expr}
theorem pi_sq {e : Expr} {t : TE} (he : PE X e t) : PI X tg e (iSq X.K t) := ⟨fun pins s σ H Rk I h => by
  refine thn (he.run pins s σ H _ I h) fun u s' ⟨v, Hm, I', ru, q⟩ => ?_
  rcases q with ⟨a, l, ev, hl, q⟩ | ⟨a, l, ev, hl, q⟩ | ⟨x, ev, q⟩
  all_goals subst ev
  · obtain rfl : u = Value.ref a := ru
    obtain ⟨us, -, pl, -⟩ := I'.list hl
    exact wpAny_pyIter_list pl.isList (pi_one (tk := s'.toks) I' _ (turn_list a _) ⟨_, Heap.get?_push_size _ rfl, rfl, rfl⟩ q)
  · obtain rfl : u = Value.ref a := ru
    obtain ⟨us, -, pl, -⟩ := I'.tuple hl
    exact wpAny_pyIter_tuple (show s'.heap.IsTuple a us.toArray from pl) (pi_one (tk := s'.toks) I' _ (turn_tuple a _) ⟨_, Heap.get?_push_size _ rfl, rfl, rfl⟩ q)
  · obtain ⟨t, rfl⟩ := ru
    cases ha : x.cps.all (· < 128)
    · exact wpAny_pyIter_wide ha (pi_one (tk := s'.toks) I' _ (turn_str _ x t "str_iterator" (.inr rfl)) ⟨_, Heap.get?_push_size _ rfl, rfl, rfl⟩ q)
    · exact wpAny_pyIter_ascii ha (pi_one (tk := s'.toks) I' _ (turn_str _ x t "str_ascii_iterator" (.inl rfl)) ⟨_, Heap.get?_push_size _ rfl, rfl, rfl⟩ q)⟩
end
section
variable {K : PySem.W.Frag} {O : Orc} {F0 : Hp} {a : Addr} {xs : List V} {l : List D}
theorem RpA.at {i : Nat} {d : D} (r : RpA K O F0 xs l) (h : l[i]? = some d) : ∃ v, xs[i]? = some v ∧ Rp K O F0 v d := r.get h
/-- a frozen list, walked -/
theorem wk_lst (h : F0 a = some (.lst xs)) (r : RpA K O F0 xs l) : Wk K O (Itl K a) (fun F H => Same F0 F ∧ Same F H) l where
  go := fun i F H s hi => by
    have hx : i < xs.length := by rw [r.length]; exact hi
    exact ⟨xs, xs[i], SqL.of (s.2 _ _ (s.1 _ _ h)), List.getElem?_eq_getElem hx⟩
  stop := fun i F H s hi => ⟨xs, SqL.of (s.2 _ _ (s.1 _ _ h)), by rw [r.length]; exact hi⟩
  yld := fun i F H n v H' st s y d hd => by
    obtain ⟨eH, y⟩ := y
    subst eH
    obtain ⟨w, hw, rw⟩ := r.get hd
    have q := y xs (SqL.of (s.2 _ _ (s.1 _ _ h)))
    rw [hw] at q
    cases q
    exact ⟨F, Ext.refl st, rw.mono s.1⟩
theorem wk_tup (h : SqT K F0 a xs) (r : RpA K O F0 xs l) : Wk K O (Itt K a) (fun F H => Same F0 F ∧ Same F H) l where
  go := fun i F H s hi => by
    have hx : i < xs.length := by rw [r.length]; exact hi
    exact ⟨xs, xs[i], (Same.sqt s.2 (Same.sqt s.1 h)), List.getElem?_eq_getElem hx⟩
  stop := fun i F H s hi => ⟨xs, (Same.sqt s.2 (Same.sqt s.1 h)), by rw [r.length]; exact hi⟩
  yld := fun i F H n v H' st s y d hd => by
    obtain ⟨eH, y⟩ := y
    subst eH
    obtain ⟨w, hw, rw⟩ := r.get hd
    have q := y xs (Same.sqt s.2 (Same.sqt s.1 h))
    rw [hw] at q
    cases q
    exact ⟨F, Ext.refl st, rw.mono s.1⟩
/-- a list of one's own -/
theorem wk_own (r : RpA K O F0 xs l) : Wk K O (Itl K a) (fun F H => Same F0 F ∧ H a = some (.lst xs)) l where
  go := fun i F H s hi => by
    have hx : i < xs.length := by rw [r.length]; exact hi
    exact ⟨xs, xs[i], SqL.of s.2, List.getElem?_eq_getElem hx⟩
  stop := fun i F H s hi => ⟨xs, SqL.of s.2, by rw [r.length]; exact hi⟩
  yld := fun i F H n v H' st s y d hd => by
    obtain ⟨eH, y⟩ := y
    subst eH
    obtain ⟨w, hw, rw⟩ := r.get hd
    have q := y xs (SqL.of s.2)
    rw [hw] at q
    cases q
    exact ⟨F, Ext.refl st, rw.mono s.1⟩
theorem wk_str {x : Str} (hx : PyData.strOk x = true) : Wk K O (Its x) (fun _ _ => True) (x.cps.toList.map fun c => .str ⟨#[c]⟩) where
  go := fun i F H _ hi => by
    show i < x.cps.size
    simpa using hi
  stop := fun i F H _ hi => by
    show x.cps.size ≤ i
    simpa using hi
  yld := fun i F H m v H' st _ y d hd => by
    obtain ⟨eH, c, hc, rfl⟩ := y
    subst eH
    rw [List.getElem?_map] at hd
    obtain ⟨c', h1, rfl⟩ := Option.map_eq_some_iff.mp hd
    have e : c = c' := by
      rw [Array.getElem?_toList] at h1
      rw [hc] at h1
      exact Option.some.inj h1
    subst e
    refine ⟨F, Ext.refl st, .str _ ?_⟩
    unfold PyData.strOk at hx ⊢
    rw [Array.all_eq_true'] at hx
    have hm : c < 0x110000 := of_decide_eq_true (hx c (Array.mem_of_getElem? hc))
    simp only [List.all_toArray', List.all_cons, List.all_nil, Bool.and_true]
    first | exact decide_eq_true hm | (simp; exact hm)
theorem wk_rng {lo : Int} {n : Nat} : Wk K O (Itr lo n) (fun _ _ => True) ((List.range n).map fun k => .int (lo + (k : Nat))) where
  go := fun i F H _ hi => by
    show i < n
    simpa using hi
  stop := fun i F H _ hi => by
    show n ≤ i
    simpa using hi
  yld := fun i F H m v H' st _ y d hd => by
    obtain ⟨eH, y⟩ := y
    subst eH
    rw [List.getElem?_map] at hd
    by_cases hi : i < n
    · rw [List.getElem?_range hi] at hd
      cases hd
      subst y
      exact ⟨F, Ext.refl st, .int _⟩
    · rw [List.getElem?_eq_none (by simpa using hi)] at hd
      cases hd
end
section
variable {X : Cx} {B : Gb} {T : Tab} {W : WX} {a b c e : Expr} {p pos : Pos} {tg : Expr} {o fz : Bool} {ia ib ic : E}
theorem i_seq (hK : B.K = X.K) (ha : PE X a (tE B T W (!fz) ia)) : PI X tg a (tI B T W fz (.seq ia)) :=
  PIw (pi_sq ha) fun σ H Rk ⟨F, env, ad, n, s, en, h⟩ => tE_of s en h fun d n1 F1 H1 s1 en1 e1 h1 v rv => by
    cases d with
    | tup l =>
      have h2 := h1 F1 H1 (Ext.refl s1)
      cases rv.opd with
      | of r => cases r with
        | tup hs rr hm =>
          refine .inr (.inl ⟨_, _, rfl, by rw [← hK]; exact Same.sqt s1.sub hs, ?_⟩)
          rw [← hK]
          exact h2 _ _ (wk_tup hs rr) ⟨Same.refl _, s1.sub⟩ (fun G H G' H' q f sb _ => ⟨q.1.trans f, sb⟩) (fun _ G H G' H' q f sb => ⟨q.1.trans f, sb⟩) hm
      | own _ _ _ r => cases r.isC
    | str x =>
      obtain ⟨rfl, hx⟩ := rv.opd.str
      dsimp only [itV] at h1
      split at h1
      · rename_i hl
        exact .inr (.inr ⟨x, rfl, (h1 F1 H1 (Ext.refl s1)) _ (fun _ _ => True) (wk_str hx) trivial (fun _ _ _ _ _ _ _ _ => trivial) (fun _ _ _ _ _ _ _ _ => trivial) (by rw [List.length_map, Array.length_toList]; exact hl)⟩)
      · exact h1.elim
    | lst l =>
      have h2 := h1 F1 H1 (Ext.refl s1)
      have frz : ∀ {w : V}, Rp B.K B.O F1 w (.lst l) → (∃ a l, w = .ref a ∧ SqL X.K H1 a l ∧ Rk (Itl X.K a) H1) := fun r => by
        cases r with
        | lst hs rr hm =>
          refine ⟨_, _, rfl, SqL.of (s1.sub _ _ hs), ?_⟩
          rw [← hK]
          exact h2 _ _ (wk_lst hs rr) ⟨Same.refl _, s1.sub⟩ (fun G H G' H' q f sb _ => ⟨q.1.trans f, sb⟩) (fun _ G H G' H' q f sb => ⟨q.1.trans f, sb⟩) hm
      cases fz with
      | true => exact .inl (frz rv)
      | false =>
        cases rv.opd with
        | of r => exact .inl (frz r)
        | own ha hf hs r0 =>
          obtain ⟨xs, rfl, rr, hm⟩ := r0.lst
          refine .inl ⟨_, _, rfl, SqL.of hs, ?_⟩
          rw [← hK]
          exact h2 _ _ (wk_own rr) ⟨Same.refl _, hs⟩ (fun G H G' H' q f sb k => ⟨q.1.trans f, k _ _ ha q.2⟩) (fun z => nomatch z) hm
    | _ => exact h1.elim
theorem rngV_some {lo hi : Int} {l : List D} (h : rngV lo hi = some l) : (-(2 ^ 62) ≤ lo ∧ lo < 2 ^ 62 ∧ -(2 ^ 62) ≤ hi ∧ hi < 2 ^ 62) ∧ l = ((List.range (hi - lo).toNat).map fun k => .int (lo + (k : Nat))) ∧ l.length ≤ LIM := by
  unfold rngV at h
  split at h
  · rename_i q
    have e := (Option.some.inj h).symm
    exact ⟨⟨q.1, q.2.1, q.2.2.1, q.2.2.2.1⟩, e, by rw [e, List.length_map, List.length_range]; exact Nat.le_of_lt q.2.2.2.2⟩
  · cases h
theorem i_rng1 {x : Str} (hx : x = "range") (hg : Gl X x) (hmg : X.mg x = none) (hp : plainX a = true) (ha : PE X a (tE B T W true ia)) : PI X tg (.Call (.Name x p) [a] [] pos) (tI B T W fz (.rng1 ia)) := by
  subst hx
  refine PIw (pi_range1 hg hmg (pa_cons ha pa_nil (star1 hp)) (star1 hp)) fun σ H Rk ⟨F, env, ad, n, s, en, h⟩ => tE_of s en h fun d n1 F1 H1 s1 en1 e1 h1 v rv => ?_
  cases d with
  | int j =>
    obtain rfl := rv.opd.int
    dsimp only at h1
    cases er : rngV 0 j with
    | none => rw [er] at h1; exact h1.elim
    | some l =>
      rw [er] at h1
      obtain ⟨q, rfl, hm⟩ := rngV_some er
      refine ⟨j, rfl, q.2.2.1, q.2.2.2, h1 F1 H1 (Ext.refl s1) _ (fun _ _ => True) ?_ trivial (fun _ _ _ _ _ _ _ _ => trivial) (fun _ _ _ _ _ _ _ _ => trivial) hm⟩
      have z := wk_rng (K := B.K) (O := B.O) (lo := 0) (n := (j - 0).toNat)
      rw [Int.sub_zero] at z
      rw [Int.sub_zero]
      exact z
  | _ => exact h1.elim
theorem i_rng2 {x : Str} (hx : x = "range") (hg : Gl X x) (hmg : X.mg x = none) (hp : plainX a = true) (hp2 : plainX b = true) (ha : PE X a (tE B T W true ia)) (hb : PE X b (tE B T W true ib)) :
    PI X tg (.Call (.Name x p) [a, b] [] pos) (tI B T W fz (.rng2 ia ib)) := by
  subst hx
  refine PIw (pi_range2 hg hmg (pa_cons ha (pa_cons hb pa_nil (star1 hp2)) (star1 hp)) (by rw [star1 hp, star1 hp2]; rfl) (star1 hp2)) fun σ H Rk ⟨F, env, ad, n, s, en, h⟩ =>
    tE_of s en h fun d n1 F1 H1 s1 en1 e1 h1 v rv => tE_of s1 en1 h1 fun d2 n2 F2 H2 s2 en2 e2 h2 v2 rv2 => ?_
  cases d with
  | int i =>
    obtain rfl := rv.opd.int
    cases d2 with
    | int j =>
      obtain rfl := rv2.opd.int
      dsimp only at h2
      cases er : rngV i j with
      | none => rw [er] at h2; exact h2.elim
      | some l =>
        rw [er] at h2
        obtain ⟨q, rfl, hm⟩ := rngV_some er
        exact ⟨i, j, rfl, q, h2 F2 H2 (Ext.refl s2) _ (fun _ _ => True) wk_rng trivial (fun _ _ _ _ _ _ _ _ => trivial) (fun _ _ _ _ _ _ _ _ => trivial) hm⟩
    | _ => exact h2.elim
  | _ => cases d2 <;> exact h2.elim
/-! ### list comprehensions -/
section
variable (B : Gb) (T : Tab) (W : WX)
/-- a new list, nobody else's -/
def tN (i : E) : TE := fun σ H Q => At B σ H fun F env n => R B W σ F H n (ev T i env n) fun d _ F' H' => ∀ a u, H a = none → F' a = none → H' a = some u → RpC B.K B.O F' u d → Q (.ref a) H'
end
/-- a new list or dict, frozen at once -/
theorem Ext.frz {O : Orc} {F H F' H' : Hp} {n n' : Nat} {a : Addr} {u : HO} (e : Ext O F H n F' H' n') (h0 : H a = none) (hA : H O.aA ≠ none) (h1 : F' a = none) (h2 : H' a = some u) : Ext O F H n (upd F' a u) H' n' := by
  have neA : a ≠ O.aA := fun z => by subst z; exact hA h0
  refine ⟨fun b o z => ?_, fun b o z => ?_, ?_, e.hA, e.keep, fun b o z => ?_⟩
  · rw [upd_ne (ne_of_none (e.same _ _ z) h1)]; exact e.same _ _ z
  · by_cases hb : b = a
    · subst hb; rw [upd_same] at z; rw [← z]; exact h2
    · rw [upd_ne hb] at z; exact e.sub _ _ z
  · rw [upd_ne neA.symm]; exact e.fA
  · by_cases hb : b = a
    · subst hb; exact .inr h0
    · rw [upd_ne hb] at z; exact e.new _ _ z
theorem RpC.newR {K : PySem.W.Frag} {O : Orc} {F : Hp} {p : Addr} {u : HO} {d : D} (hp : F p = none) (r : RpC K O F u d) : Rp K O (upd F p u) (.ref p) d :=
  RpC.rp upd_same (r.mono fun b o e => by rw [upd_ne (ne_of_none e hp)]; exact e)
theorem tN_E {B : Gb} {T : Tab} {W : WX} {o : Bool} {i : E} : ∀ σ H Q, tE B T W o i σ H Q → tN B T W i σ H Q := fun σ H Q ⟨F, env, ad, n, s, en, h⟩ => by
  refine ⟨F, env, ad, n, s, en, ?_⟩
  dsimp only at h ⊢
  cases er : ev T i env n with
  | bad => rw [er] at h; exact h.elim
  | exc e m => rw [er] at h; exact h
  | ok d m =>
    rw [er] at h
    intro F' H' e a u h0 h1 h2 r
    have q := h (upd F' a u) H' (e.frz h0 (by rw [s.hA]; exact nofun) h1 h2)
    exact q _ (Rq.of (RpC.newR h1 r))
theorem mapR_cons {f : D → Nat → Res (Option D)} {x : D} {xs : List D} {n m : Nat} {l : List D} (h : mapR f (x :: xs) n = .ok l m) : ∃ o k r, f x n = .ok o k ∧ mapR f xs k = .ok r m ∧ l = o.toList ++ r := by
  rw [mapR] at h
  cases e1 : f x n with
  | bad => rw [e1] at h; cases h
  | exc e m => rw [e1] at h; cases h
  | ok o k =>
    rw [e1, Res.bind_ok] at h
    cases e2 : mapR f xs k with
    | bad => rw [e2] at h; cases h
    | exc e m => rw [e2] at h; cases h
    | ok r j =>
      rw [e2, Res.bind_ok] at h
      cases h
      refine ⟨o, k, r, rfl, e2, ?_⟩
      cases o <;> rfl
theorem mapR_len {f : D → Nat → Res (Option D)} : ∀ {xs : List D} {n m : Nat} {l : List D}, mapR f xs n = .ok l m → l.length ≤ xs.length
  | [], _, _, _, h => by cases h; exact Nat.le_refl _
  | x :: xs, n, m, l, h => by
    obtain ⟨o, k, r, -, h2, rfl⟩ := mapR_cons h
    have := mapR_len h2
    cases o <;> simp <;> omega
/-- no error may come -/
def W0 : WX := fun _ _ _ _ => False
def compF (T : Tab) (elt : E) (tg : Tg) (cond : E) (env : Env) : D → Nat → Res (Option D) := fun x n => match tg.bind x env with
  | some env' => (tv T cond env' n).bind fun c n => if c then (ev T elt env' n).bind fun y n => .ok (some y) n else .ok none n
  | none => .bad
theorem ev_comp {T : Tab} {elt it cond : E} {tg : Tg} {env : Env} {n : Nat} : ev T (.comp elt tg it cond) env n = (evi T it env n).bind fun xs n => (mapR (compF T elt tg cond env) xs n).quiet.bind fun l n => .ok (.lst l) n := by
  rw [ev]; rfl
section
variable {K : PySem.W.Frag} {O : Orc} {F H : Hp} {ad : Nat → Addr} {σ : St} {env : Env}
theorem wipe_out {i : Nat} : ∀ {vs : List Nat} {σ : St}, i ∉ vs → (wipe σ vs)[i]? = σ[i]?
  | [], _, _ => rfl
  | v :: vs, σ, h => by
    simp only [List.mem_cons, not_or] at h
    show ((wipe σ vs).set v none)[i]? = _
    rw [List.getElem?_set_ne (Ne.symm h.1), wipe_out h.2]
theorem EnOk.wipe (e : EnOk K O F H σ env ad) (vs : List Nat) : EnX K O vs F H (wipe σ vs) env ad := ⟨by rw [wipe_length]; exact e.len, fun i hi => by rw [wipe_out hi]; exact e.ok i, fun i j _ _ => e.inj i j⟩
end
section
variable {X : Cx} {B : Gb} {T : Tab} {W : WX} {elt it cond : E} {tg : Tg}
theorem lc_read {vs : List Nat} (hvs : vs = tg.slots) : ∀ σ H Q, tN B T W (.comp elt tg it cond) σ H Q → tLc (tI B T W false it) (gT B.K tg) (tT B T W0 cond) (tE B T W0 false elt) vs σ H Q := by
  subst hvs
  rintro σ H Q ⟨F, env, ad, n, s, en, h⟩
  rw [ev_comp] at h
  refine ⟨F, env, ad, n, s, en, h.seq.imp fun xs n1 F1 H1 _ e1 h1 J S wk s1 stay _ hlen D hD => ?_⟩
  cases em : mapR (compF T elt tg cond env) xs n1 with
  | bad => rw [em] at h1; exact h1.elim
  | exc e m => rw [em] at h1; exact h1.elim
  | ok l n2 =>
    rw [em, Res.quiet_ok, Res.bind_ok] at h1
    have st1 := s.ext e1
    have neA : D ≠ B.O.aA := fun z => by subst z; rw [st1.hA] at hD; cases hD
    have hDH : H D = none := by
      cases z : H D with
      | none => rfl
      | some o => rw [e1.keep _ _ neA z] at hD; cases hD
    have ll := mapR_len em
    refine ⟨fun i m Hc => m = xs.length - i ∧ i ≤ xs.length ∧ ∃ Fc nc acc pre post, Ext B.O F1 H1 n1 Fc Hc nc ∧ Fc D = none ∧ Hc D = some (.lst acc) ∧ RpA B.K B.O Fc acc pre ∧ l = pre ++ post ∧ mapR (compF T elt tg cond env) (xs.drop i) nc = .ok post n2,
      ⟨xs.length, rfl, Nat.zero_le _, F1, n1, [], [], l, Ext.layO st1 hD _, st1.lt hD, upd_same .., .nil, rfl, em⟩, ?_⟩
    rintro i m Hc ⟨rfl, hi, Fc, nc, acc, pre, post, ec, fD, hc, ra, el, ep⟩
    have stc := st1.ext ec
    have sc : S Fc Hc := stay _ _ _ _ s1 ec.same ec.sub ec.keep
    by_cases hlt : i < xs.length
    · refine .inr ⟨wk.go i Fc Hc sc hlt, fun H' => ∃ F' n' acc' pre' post', Ext B.O F1 H1 n1 F' H' n' ∧ F' D = none ∧ H' D = some (.lst acc') ∧ RpA B.K B.O F' acc' pre' ∧ l = pre' ++ post' ∧ mapR (compF T elt tg cond env) (xs.drop (i + 1)) n' = .ok post' n2,
        fun H' q => ⟨xs.length - (i + 1), by omega, rfl, hlt, q⟩, fun x H' y => ?_⟩
      rw [List.drop_eq_getElem_cons hlt] at ep
      obtain ⟨ox, k, r, hf, hr, hp⟩ := mapR_cons ep
      obtain ⟨F5, e5, r5⟩ := wk.yld i Fc Hc nc x H' stc sc y _ (List.getElem?_eq_getElem hlt)
      have st5 := stc.ext e5
      unfold compF at hf
      cases eb : tg.bind xs[i] env with
      | none => rw [eb] at hf; cases hf
      | some env' =>
        rw [eb] at hf
        dsimp only at hf
        have en5 := ((en.ext e1).ext ec).ext e5
        refine g_bind st5.sub tg _ env env' _ [] x _ (by rw [List.append_nil]; exact en5.wipe _) eb r5 fun σ' ex wp => ⟨?_, ?_⟩
        · rw [wp tg.slots fun _ q => q]
          clear wp
          have idem : ∀ (vs : List Nat) (σ : St), L2.wipe (L2.wipe σ vs) vs = L2.wipe σ vs := by
            intro vs
            intro σ
            apply List.ext_getElem?
            intro j
            by_cases hj : j ∈ vs
            · have nn : ∀ (σ : St) (ws : List Nat), j ∈ ws → (L2.wipe σ ws)[j]? = if j < σ.length then some none else none := by
                intro σ ws
                induction ws with
                | nil => intro q; cases q
                | cons v ws ih =>
                  intro q
                  show ((L2.wipe σ ws).set v none)[j]? = _
                  rw [List.getElem?_set]
                  by_cases hv : v = j
                  · rw [if_pos hv, wipe_length]
                    subst hv; rfl
                  · rw [if_neg hv]
                    rcases List.mem_cons.mp q with q | q
                    · exact absurd q.symm hv
                    · exact ih q
              rw [nn _ _ hj, nn _ _ hj, wipe_length]
            · rw [wipe_out hj]
          exact idem _ _
        · refine ⟨F5, env', ad, nc, st5, ex.all, ?_⟩
          cases et : tv T cond env' nc with
          | bad => rw [et] at hf; cases hf
          | exc e m => rw [et] at hf; cases hf
          | ok c n6 =>
            rw [et, Res.bind_ok] at hf
            rw [et]
            intro F6 H6 e6
            have st6 := st5.ext e6
            have en6 := ex.all.ext e6
            have e16 : Ext B.O F1 H1 n1 F6 H6 n6 := (ec.trans e5).trans e6
            have kD : ∀ {Fz Hz : Hp} {nz : Nat}, Ext B.O Fc Hc nc Fz Hz nz → Fz D = none ∧ Hz D = some (.lst acc) := fun {Fz Hz nz} ez => by
              refine ⟨?_, ez.keep _ _ neA hc⟩
              cases z : Fz D with
              | none => rfl
              | some u =>
                rcases ez.new _ _ z with q | q
                · rw [fD] at q; cases q
                · rw [hc] at q; cases q
            cases c with
            | false =>
              simp only [Bool.false_eq_true, if_false] at hf ⊢
              cases hf
              obtain ⟨k1, k2⟩ := kD (e5.trans e6)
              exact ⟨F6, _, acc, pre, r, e16, k1, k2, ra.mono (e5.same.trans e6.same), by rw [el, hp]; rfl, hr⟩
            | true =>
              simp only [if_true] at hf ⊢
              cases ee : ev T elt env' n6 with
              | bad => rw [ee] at hf; cases hf
              | exc e m => rw [ee] at hf; cases hf
              | ok d n7 =>
                rw [ee, Res.bind_ok] at hf
                cases hf
                refine ⟨F6, env', ad, n6, st6, en6, ?_⟩
                dsimp only
                rw [ee]
                intro F7 H7 e7 v rv
                obtain ⟨k1, k2⟩ := kD ((e5.trans e6).trans e7)
                have e17 := e16.trans e7
                have rv : Rp B.K B.O F7 v d := rv
                have hpl : pre.length + (r.length + 1) ≤ LIM := by
                  have q : l.length = pre.length + (r.length + 1) := by rw [el, hp]; simp
                  omega
                refine ⟨acc, k2, by rw [ra.length, ← lim_eq]; omega, F7, _, acc ++ [v], pre ++ [d], r, ⟨e17.same, fun b o z => ?_, e17.fA, ?_, fun b o hb z => ?_, e17.new⟩, k1, upd_same .., (ra.mono ((e5.same.trans e6.same).trans e7.same)).app (.one rv), by rw [el, hp]; simp, hr⟩
                · rw [upd_ne (ne_of_none z k1)]; exact e17.sub _ _ z
                · rw [upd_ne neA.symm]; exact e17.hA
                · rw [upd_ne (ne_of_none z hD)]; exact e17.keep _ _ hb z
    · have ei : i = xs.length := by omega
      subst ei
      rw [List.drop_length] at ep
      cases ep
      rw [List.append_nil] at el
      subst el
      exact .inl ⟨wk.stop _ Fc Hc sc (Nat.le_refl _), h1 Fc Hc ec D _ hDH fD hc (show RpA _ _ _ acc l ∧ _ from ⟨ra, Nat.le_trans ll hlen⟩)⟩
end
end
end Py

set_option Elab.async false
set_option linter.all false
set_option maxRecDepth 100000
set_option maxHeartbeats 2000000
/-! C11z: zip and enumerate of lists and tuples. -/
namespace Py
open PySem PySem.Spec L2
inductive SK where
  | L | T
def SqX (k : SK) (K : PySem.W.Frag) (H : Hp) (a : Addr) (xs : List V) : Prop := match k with
  | .L => SqL K H a xs
  | .T => SqT K H a xs
def ItX (k : SK) (h : Heap) (it a : Addr) (i : Nat) : Prop := match k with
  | .L => h.IsListIter it a i
  | .T => h.IsTupleIter it a i
def SeqX (k : SK) (h : Heap) (a : Addr) (us : Array Value) : Prop := match k with
  | .L => h.IsList a us
  | .T => h.IsTuple a us
theorem drawsX {prog : Program} {w : World} {A : Around} (k : SK) (hh : A.handled = none) (it a : Addr) (hne : a ≠ it) (items : Array Value) :
    PySem.Draws prog w A it [it, a] items.size (fun i v => items[i]? = some v) (fun i h => ItX k h it a i ∧ SeqX k h a items) := by
  cases k
  · exact PySem.Draws.list hh it a hne items
  · exact PySem.Draws.tuple hh it a hne items
theorem ItX.obj {k : SK} {h : Heap} {it a : Addr} {i : Nat} (q : ItX k h it a i) : ∃ o, h.get? it = some o ∧ ∀ v, o.data ≠ .cell v := by
  cases k
  · obtain ⟨o, e, _, d⟩ := q
    exact ⟨o, e, fun v z => by rw [d] at z; cases z⟩
  · obtain ⟨o, e, _, d⟩ := q
    exact ⟨o, e, fun v z => by rw [d] at z; cases z⟩
theorem ItX.keep {k : SK} {h h' : Heap} {it a : Addr} {i : Nat} (q : ItX k h it a i) (z : ∀ o, h.get? it = some o → h'.get? it = some o) : ItX k h' it a i := by
  cases k
  · exact Heap.IsListIter.at q z
  · exact Heap.IsTupleIter.at q z
theorem inv_X {X : Cx} {k : SK} {pins : List (Addr × Obj)} {σ : St} {H : Hp} {s : Shared} {a : Addr} {xs : List V} (I : Inv X pins σ H s) (hq : SqX k X.K H a xs) : ∃ its : List Value, Vals xs its ∧ SeqX k s.heap a its.toArray ∧ a < s.heap.objs.size := by
  cases k
  · obtain ⟨its, rv, p, _⟩ := I.list hq
    exact ⟨its, rv, p.isList, p.lt⟩
  · obtain ⟨its, rv, p, _⟩ := I.tuple hq
    obtain ⟨o, ho, _⟩ := id p
    exact ⟨its, rv, p, Heap.lt_size ho⟩
theorem noSq {k : SK} {h : Heap} {it a : Addr} {i : Nat} {us : Array Value} (hq : SeqX k h a us) (hi : ItX k h it a i) : a ≠ it := by
  rintro rfl
  cases k
  · obtain ⟨o, e, c, d⟩ := hi
    obtain ⟨o2, e2, c2, d2⟩ := hq
    rw [e] at e2
    cases e2
    rw [c] at c2
    exact absurd c2 (by decide)
  · obtain ⟨o, e, c, d⟩ := hi
    obtain ⟨o2, e2, c2, d2⟩ := hq
    rw [e] at e2
    cases e2
    rw [c] at c2
    exact absurd c2 (by decide)
/-- the sequences at a and b, which stay as they are, the items in new pairs -/
def ItzX (k1 k2 : SK) (K : PySem.W.Frag) (a b : Addr) (xs ys : List V) : It :=
  ⟨fun i H => SqX k1 K H a xs ∧ SqX k2 K H b ys ∧ i < min xs.length ys.length,
    fun i H v H' => ∃ T x y, v = .ref T ∧ H T = none ∧ H' = upd H T (.tup [x, y]) ∧ xs[i]? = some x ∧ ys[i]? = some y,
    fun i H => SqX k1 K H a xs ∧ SqX k2 K H b ys ∧ min xs.length ys.length ≤ i⟩
theorem turn_zipX {P : Program} {w : World} {K : PySem.W.Frag} {elts : List Expr} {kk : Nat} {tpos : Pos} {k1 k2 : SK} {a b z TI TO i1 i2 : Addr} {xs ys : List V} (D : ZipSep2 z TI TO i1 i2 [i1, a] [i2, b]) :
    Turn P w K (.Tuple elts kk tpos) (ItzX k1 k2 K a b xs ys) [z, TI, TO, i1, i2] z (fun i h => IsZip h z TI TO .none ∧ IsTupOf2 h TI (.ref i1) (.ref i2) ∧ (∃ x y, IsTupOf2 h TO x y) ∧ ItX k1 h i1 a i ∧ ItX k2 h i2 b i ∧ i ≤ min xs.length ys.length) where
  mem := by simp
  obj := fun i h st c hc => by
    obtain ⟨hz, hTI, ⟨x, y, hTO⟩, h1, h2, _⟩ := st
    have e' : c = z ∨ c = TI ∨ c = TO ∨ c = i1 ∨ c = i2 := by simpa using hc
    rcases e' with q | q | q | q | q
    · rw [q]; exact ⟨_, hz, fun v q => nomatch q⟩
    · rw [q]; exact ⟨_, hTI, fun v q => nomatch q⟩
    · rw [q]; exact ⟨_, hTO, fun v q => nomatch q⟩
    · rw [q]; exact h1.obj
    · rw [q]; exact h2.obj
  keep := fun i h h' st k => by
    obtain ⟨hz, hTI, ⟨x, y, hTO⟩, h1, h2, hle⟩ := st
    exact ⟨k z (by simp) _ hz, k TI (by simp) _ hTI, ⟨x, y, k TO (by simp) _ hTO⟩, h1.keep fun o q => k i1 (by simp) o q, h2.keep fun o q => k i2 (by simp) o q, hle⟩
  item := by
    intro X hP hw hK hc i pins s σ H E I hf st hg
    subst hP hw hK
    obtain ⟨hz, hTI, ⟨x0, y0, hTO⟩, h1, h2, hle⟩ := st
    obtain ⟨hqx, hqy, hlt⟩ := hg
    obtain ⟨its, rv, p, la⟩ := inv_X I hqx
    obtain ⟨its2, rv2, p2, lb⟩ := inv_X I hqy
    have l1 := rv.length
    have l2 := rv2.length
    have hh : X.A.in1.handled = none := I.ok.hd hc
    have ni1 : a ≠ i1 := noSq p h1
    have ni2 : b ≠ i2 := noSq p2 h2
    have hx : i < xs.length := by omega
    have hy : i < ys.length := by omega
    have hzl : z < s.heap.objs.size := Heap.lt_size hz
    refine wpAny_pyNext_zipD2_item D (drawsX k1 hh i1 a ni1 its.toArray) (drawsX k2 hh i2 b ni2 its2.toArray) hz hTI hTO ⟨h1, p⟩ ⟨h2, p2⟩ (by simp; omega) (by simp; omega) fun u u2 h' tk hu hu2 z' TO' st1 st2 hT hsz hk => ?_
    have hu : its[i]? = some u := by simpa using hu
    have hu2 : its2[i]? = some u2 := by simpa using hu2
    obtain ⟨x, ex, ru⟩ : ∃ x, xs[i]? = some x ∧ RelV x u := by
      obtain ⟨u', h', r⟩ := rv.get (List.getElem?_eq_getElem hx)
      rw [hu] at h'
      cases h'
      exact ⟨_, List.getElem?_eq_getElem hx, r⟩
    obtain ⟨y, ey, ru2⟩ : ∃ y, ys[i]? = some y ∧ RelV y u2 := by
      obtain ⟨u', h', r⟩ := rv2.get (List.getElem?_eq_getElem hy)
      rw [hu2] at h'
      cases h'
      exact ⟨_, List.getElem?_eq_getElem hy, r⟩
    refine ⟨_, rfl, wpAny_letOwnedTupleGo_zip (s := { s with heap := h', toks := tk }) z' fun h'' z'' sb => ?_⟩
    have hT2 : h''.get? s.heap.objs.size = some { cls := .type "tuple", data := .seq #[u, u2] } := (sb.2 _ (Nat.ne_of_gt hzl)).trans hT
    have new : ObjOk X.prog X.w (upd H s.heap.objs.size (.tup [x, y])) h'' s.heap.objs.size (.tup [x, y]) :=
      ⟨by show 2 ≤ sizeLine; decide, [u, u2], .cons ru (.cons ru2 .nil), ⟨_, hT2, rfl, _, rfl⟩⟩
    have I1 : Inv X pins σ (upd H s.heap.objs.size (.tup [x, y])) { s with heap := h'', toks := tk } :=
      I.turnedNew (t' := tk) (ch := [z, TI, TO, i1, i2]) (fun c o hb q => (sb.2 c (fun q' => hb (by simp [q']))).trans (hk c o (fun q' => hb (by simp [q'])) (fun q' => hb (by simp [q'])) (fun q' => hb (by simp [q'])) (fun q' => hb (by simp [q'])) q)) hf (Nat.le_refl _) new
    refine ⟨.ref s.heap.objs.size, _, I1, rfl, ⟨_, x, y, rfl, I.hok.fresh (Nat.le_refl _), rfl, ex, ey⟩, ⟨z'', ?_, ⟨u, u2, ?_⟩, ?_, ?_, by omega⟩, fun c hcm => ?_⟩
    · exact (sb.2 _ D.TIz).trans (hk _ _ D.TIz D.TITO D.TIi1 D.TIi2 hTI)
    · exact (sb.2 _ D.TOz).trans TO'
    · exact st1.1.keep fun o q => (sb.2 _ (Ne.symm D.zi1)).trans q
    · exact st2.1.keep fun o q => (sb.2 _ (Ne.symm D.zi2)).trans q
    · have hlt : c < s.heap.objs.size := by
        have e' : c = z ∨ c = TI ∨ c = TO ∨ c = i1 ∨ c = i2 := by simpa using hcm
        rcases e' with q | q | q | q | q
        · rw [q]; exact hzl
        · rw [q]; exact Heap.lt_size hTI
        · rw [q]; exact Heap.lt_size hTO
        · rw [q]; obtain ⟨_, e1, _⟩ := h1.obj; exact Heap.lt_size e1
        · rw [q]; obtain ⟨_, e2, _⟩ := h2.obj; exact Heap.lt_size e2
      rw [upd_ne (Nat.ne_of_lt hlt)]
      exact (hf c hcm).1
  done := by
    intro X hP hw hK hc i pins s σ H E I hf st hg
    subst hP hw hK
    obtain ⟨hz, hTI, ⟨x0, y0, hTO⟩, h1, h2, hle⟩ := st
    obtain ⟨hqx, hqy, hend⟩ := hg
    obtain ⟨its, rv, p, la⟩ := inv_X I hqx
    obtain ⟨its2, rv2, p2, lb⟩ := inv_X I hqy
    have l1 := rv.length
    have l2 := rv2.length
    have hh : X.A.in1.handled = none := I.ok.hd hc
    have ni1 : a ≠ i1 := noSq p h1
    have ni2 : b ≠ i2 := noSq p2 h2
    exact wpAny_pyNext_zipD2_end D (drawsX k1 hh i1 a ni1 its.toArray) (drawsX k2 hh i2 b ni2 its2.toArray) hz hTI hTO ⟨h1, p⟩ ⟨h2, p2⟩ (by simp; omega) (by simp; omega) (by simp; omega) fun h' tk hk => ⟨rfl, I.turnedL (t' := tk) (ch := [z, TI, TO, i1, i2]) (fun c o hb q =>
      hk c o (fun q' => hb (by simp [q'])) (fun q' => hb (by simp [q'])) (fun q' => hb (by simp [q'])) (fun q' => hb (by simp [q'])) q) hf⟩
  self := fun A i s Q E st h => wpAny_pyIter_zip st.1 h
/-! ### enumerate -/
def IteX (k : SK) (K : PySem.W.Frag) (a : Addr) (xs : List V) : It :=
  ⟨fun i H => SqX k K H a xs ∧ i < xs.length,
    fun i H v H' => ∃ T x, v = .ref T ∧ H T = none ∧ H' = upd H T (.tup [.int (i : Nat), x]) ∧ xs[i]? = some x,
    fun i H => SqX k K H a xs ∧ xs.length ≤ i⟩
theorem turn_enumX {P : Program} {w : World} {K : PySem.W.Frag} {elts : List Expr} {kk : Nat} {tpos : Pos} {k : SK} {a e it : Addr} {xs : List V} (hne : e ≠ it) (hae : a ≠ e) :
    Turn P w K (.Tuple elts kk tpos) (IteX k K a xs) [e, it] e (fun i h => (∃ old, IsEnum h e it ((i : Nat) : Int) old) ∧ ItX k h it a i ∧ i ≤ xs.length) where
  mem := by simp
  obj := fun i h st b hb => by
    obtain ⟨⟨old, he⟩, h1, _⟩ := st
    have e' : b = e ∨ b = it := by simpa using hb
    rcases e' with z | z
    · rw [z]; exact ⟨_, he, fun v q => nomatch q⟩
    · rw [z]; exact h1.obj
  keep := fun i h h' st k => let ⟨⟨old, he⟩, hi, hl⟩ := st; ⟨⟨old, k e (by simp) _ he⟩, hi.keep fun o q => k it (by simp) o q, hl⟩
  item := by
    intro X hP hw hK hc i pins s σ H E I hf st hg
    subst hP hw hK
    obtain ⟨⟨old, he⟩, h1, _⟩ := st
    obtain ⟨hq, hx⟩ := hg
    obtain ⟨its, rv, p, la⟩ := inv_X I hq
    have l1 := rv.length
    have hel : e < s.heap.objs.size := Heap.lt_size he
    have hil : it < s.heap.objs.size := by obtain ⟨_, q, _⟩ := h1.obj; exact Heap.lt_size q
    have hh : X.A.in1.handled = none := I.ok.hd hc
    refine wpAny_pyNext_enum_itemC (c := ((i : Nat) : Int)) (drawsX k hh it a (noSq p h1) its.toArray) he ⟨h1, p⟩ (by simp; omega) hne (by simp; exact ⟨hne, fun q => hae q.symm⟩) fun u h' tk hu ho st1 hT hsz hk => ?_
    have hu : its[i]? = some u := by simpa using hu
    obtain ⟨x, ex, ru⟩ : ∃ x, xs[i]? = some x ∧ RelV x u := by
      obtain ⟨u', h', r⟩ := rv.get (List.getElem?_eq_getElem hx)
      rw [hu] at h'
      cases h'
      exact ⟨_, List.getElem?_eq_getElem hx, r⟩
    refine ⟨_, rfl, wpAny_letOwnedTupleGo_enum (s := { s with heap := h', toks := tk + 1 }) ho fun h'' he' sb => ?_⟩
    have hT2 : h''.get? s.heap.objs.size = some { cls := .type "tuple", data := .seq #[.int i tk, u] } := (sb.2 _ (Nat.ne_of_gt hel)).trans hT
    have new : ObjOk X.prog X.w (upd H s.heap.objs.size (.tup [.int (i : Nat), x])) h'' s.heap.objs.size (.tup [.int (i : Nat), x]) :=
      ⟨by show 2 ≤ sizeLine; decide, [.int i tk, u], .cons ⟨_, rfl⟩ (.cons ru .nil), ⟨_, hT2, rfl, _, rfl⟩⟩
    have I1 : Inv X pins σ (upd H s.heap.objs.size (.tup [.int (i : Nat), x])) { s with heap := h'', toks := tk + 1 } :=
      I.turnedNew (t' := tk + 1) (ch := [e, it]) (fun b ob hb q => (sb.2 b (fun z => hb (by simp [z]))).trans (hk b ob (fun z => hb (by simp [z])) (fun z => hb (by simp [z])) q)) hf (Nat.le_refl _) new
    refine ⟨.ref s.heap.objs.size, _, I1, rfl, ⟨_, x, rfl, I.hok.fresh (Nat.le_refl _), rfl, ex⟩, ⟨⟨u, ?_⟩, st1.1.keep fun o q => (sb.2 it (Ne.symm hne)).trans q, by omega⟩, fun b hb => ?_⟩
    · have e1 : ((i + 1 : Nat) : Int) = (i : Int) + 1 := by omega
      rw [e1]; exact he'
    · have hb' : b < s.heap.objs.size := by
        have e' : b = e ∨ b = it := by simpa using hb
        rcases e' with z | z
        · rw [z]; exact hel
        · rw [z]; exact hil
      rw [upd_ne (Nat.ne_of_lt hb')]
      exact (hf b hb).1
  done := by
    intro X hP hw hK hc i pins s σ H E I hf st hg
    subst hP hw hK
    obtain ⟨⟨old, he⟩, h1, hle⟩ := st
    obtain ⟨hq, hx⟩ := hg
    obtain ⟨its, rv, p, la⟩ := inv_X I hq
    have l1 := rv.length
    have hh : X.A.in1.handled = none := I.ok.hd hc
    have ei : i = its.toArray.size := by simp; omega
    obtain ⟨f0, f1, f2, f3, f4, f5⟩ := hf it (by simp)
    exact wpAny_pyNext_enum_endD (drawsX k hh it a (noSq p h1) its.toArray) he ⟨ei ▸ h1, p⟩ fun h' eb => ⟨rfl, I.turned (t' := s.toks) (fun b o hb q => eb b o hb q) f0 f1 f3 f4 f5⟩
  self := fun A i s Q E st h => let ⟨⟨_, he⟩, _⟩ := st; wpAny_pyIter_enum he h
def SeqO (k : SK) (a : Addr) : Obj := match k with
  | .L => { cls := .type "list_iterator", data := .fields #[.ref a, .int 0 0] }
  | .T => { cls := .type "tuple_iterator", data := .fields #[.ref a, .int 0 0] }
theorem beginsX (k : SK) (a : Addr) (us : Array Value) : Begins (.ref a) (SeqO k a) fun h => SeqX k h a us := by
  cases k
  · exact begins_list a us
  · exact begins_tuple a us
theorem itX0 {k : SK} {h : Heap} {it a : Addr} (q : h.get? it = some (SeqO k a)) : ItX k h it a 0 := by
  cases k
  · exact ⟨_, q, rfl, rfl⟩
  · exact ⟨_, q, rfl, rfl⟩
def iZipX (K : PySem.W.Frag) (ta : TA) : TI := fun σ H R => ta σ H fun vs H1 => ∃ a b k1 k2 xs ys, vs = [.ref a, .ref b] ∧ SqX k1 K H1 a xs ∧ SqX k2 K H1 b ys ∧ R (ItzX k1 k2 K a b xs ys) H1
theorem pi_zipX {X : Cx} {e e2 : Expr} {ta : TA} {p pos tpos : Pos} {elts : List Expr} {kk : Nat} (hg : Gl X "zip") (hm : X.mg "zip" = none) (ha : PA X [e, e2] ta)
    (hs : starEach [e, e2] X.env = (false, eval e X.env) :: starEach [e2] X.env := by rfl) (hpl : (backTo pos (starEach [e2] X.env)).any (·.1) = false := by rfl) :
    PI X (.Tuple elts kk tpos) (.Call (.Name "zip" p) [e, e2] [] pos) (iZipX X.K ta) := by
  refine ⟨fun pins s σ H R I h => ?_⟩
  refine PyProof.Rows.Call_ (ld_blt I hg hm PyProof.Rows.boot_zip (PyProof.Rows.callWith_type1 (thn (ha.run pos pins s σ H _ I h) fun us s1 ⟨vs, H1, I1, r1, q1⟩ => ?_) hs hpl))
  obtain ⟨a, b, k1, k2, xs, ys, ex, hqx, hqy, q⟩ := q1
  subst ex
  cases r1 with
  | cons r rr =>
    cases rr with
    | cons r' rr =>
      cases rr
      cases r
      cases r'
      obtain ⟨its, rv, p1, la⟩ := inv_X I1 hqx
      obtain ⟨its2, rv2, p2, lb⟩ := inv_X I1 hqy
      refine zip_begins2 (beginsX k1 a its.toArray) (beginsX k2 b its2.toArray) p1 p2 fun h' hz hTI hTO h1 h2 hsz hk => wpAny_pyIter_zip hz ?_
      have I2 : Inv X pins σ H1 { s1 with heap := h' } := I1.kept (t' := s1.toks) hk
      have D : ZipSep2 (s1.heap.objs.size + 4) (s1.heap.objs.size + 2) (s1.heap.objs.size + 3) s1.heap.objs.size (s1.heap.objs.size + 1) [s1.heap.objs.size, a] [s1.heap.objs.size + 1, b] :=
        zip_sep2 (fp1 := [a]) (fp2 := [b]) (fun c hc => by rw [List.mem_singleton] at hc; rw [hc]; exact la) (fun c hc => by rw [List.mem_singleton] at hc; rw [hc]; exact lb)
      refine ⟨s1.heap.objs.size + 4, [s1.heap.objs.size + 4, s1.heap.objs.size + 2, s1.heap.objs.size + 3, s1.heap.objs.size, s1.heap.objs.size + 1], _, _, H1, rfl, I2, turn_zipX D, ⟨hz, hTI, ⟨_, _, hTO⟩, itX0 h1, itX0 h2, Nat.zero_le _⟩, fun c hcm => ?_, q⟩
      have e' : c = s1.heap.objs.size + 4 ∨ c = s1.heap.objs.size + 2 ∨ c = s1.heap.objs.size + 3 ∨ c = s1.heap.objs.size ∨ c = s1.heap.objs.size + 1 := by simpa using hcm
      have hle : s1.heap.objs.size ≤ c := by
        rcases e' with z | z | z | z | z
        · rw [z]; exact Nat.le_add_right _ _
        · rw [z]; exact Nat.le_add_right _ _
        · rw [z]; exact Nat.le_add_right _ _
        · rw [z]; exact Nat.le_refl _
        · rw [z]; exact Nat.le_add_right _ _
      exact I1.fpOk hle (I1.hok.fresh hle)
end Py

set_option Elab.async false
set_option linter.all false
set_option maxRecDepth 100000
set_option maxHeartbeats 2000000
/-! C11y: enumerate(v) begins; its PI. -/
namespace PySem
open Sem (wp)
theorem meets_enumerate_newB1 {v : Value} {o : Obj} {H : Heap → Prop} (B : Begins v o H) :
    Meets (Builtin.«enumerate.__new__» ⟨[.type "enumerate", v], []⟩) (fun _ R s => H s.heap ∧
      R (.ok (.ret (.ref (s.heap.push o).objs.size))) { s with heap := (s.heap.push o).push { cls := .type "enumerate", data := .fields #[.none, .bool false, .ref s.heap.objs.size, rawInt 0, .none, .none] } }) :=
  .of_wp fun prog w A R s h => by
    obtain ⟨hp, g, d, tk, os⟩ := s; obtain ⟨h1, h⟩ := h
    have hsub := sub_enumerate
    have q1 : ∀ {A' : Around} {E : Value → Shared → Prop} {Q : Value → Shared → Prop}, Q (.ref hp.objs.size) ⟨hp.push o, g, d, tk, os⟩ → wpAny (model prog w) A' (pyIter v) Q E ⟨hp, g, d, tk, os⟩ :=
      fun q => B.iter prog w _ _ ⟨hp, g, d, tk, os⟩ _ h1 q
    wp_walk using q1
    refine wpAny_stack_any fun st => wpAny_pure ?_
    split
    · rename_i c _ _ _ _ _
      cases (c == Value.type "enumerate")
      · wp_walk using q1
        exact ⟨_, rfl, h⟩
      · wp_walk using q1
        exact ⟨_, rfl, h⟩
    · wp_walk using q1
      exact ⟨_, rfl, h⟩
end PySem
namespace PySem
open Sem (wp)
section
variable {prog : Program} {w : World} {A : Around} {E : Value → Shared → Prop} {s : Shared}
theorem enum_begins1 {v : Value} {o : Obj} {H : Heap → Prop} {Q : Value → Shared → Prop} (B : Begins v o H) (h1 : H s.heap)
    (h : ∀ h', IsEnum h' (s.heap.objs.size + 1) s.heap.objs.size 0 .none → h'.get? s.heap.objs.size = some o → h'.objs.size = s.heap.objs.size + 2 →
      (∀ b o, s.heap.get? b = some o → h'.get? b = some o) → Q (.ref (s.heap.objs.size + 1)) { s with heap := h' }) :
    wpAny (model prog w) A (call (.type "enumerate") [v]) Q E s := by
  refine callType_new F.called_enumerate (by decide) (F.typeCall_enumerate_1 _) (F.newCall_enumerate_1 _) (fun obj => F.args_object_init_2 obj _) F.entry_enumerate_new
    (meets_enumerate_newB1 B) ⟨h1, ?_⟩
  have hz : (s.heap.push o).objs.size = s.heap.objs.size + 1 := Heap.size_push ..
  show _ ∧ _
  rw [hz]
  have he : IsEnum ((s.heap.push o).push { cls := .type "enumerate", data := .fields #[.none, .bool false, .ref s.heap.objs.size, rawInt 0, .none, .none] }) (s.heap.objs.size + 1) s.heap.objs.size 0 .none := by
    have := Heap.get?_push_size (s.heap.push o) (o := { cls := .type "enumerate", data := .fields #[.none, .bool false, .ref s.heap.objs.size, rawInt 0, .none, .none] }) rfl
    rw [hz] at this; exact this
  refine ⟨⟨_, he, rfl⟩, h _ he (Heap.get?_push_of_some _ (Heap.get?_push_size _ B.free)) (by rw [Heap.size_push, hz]) fun b o x => Heap.get?_push_of_some _ (Heap.get?_push_of_some _ x)⟩
end
end PySem
namespace Py
open PySem PySem.Spec L2
def iEnumX (K : PySem.W.Frag) (ta : TA) : TI := fun σ H R => ta σ H fun vs H1 => ∃ a k xs, vs = [.ref a] ∧ SqX k K H1 a xs ∧ R (IteX k K a xs) H1
theorem pi_enumX {X : Cx} {e : Expr} {ta : TA} {p pos tpos : Pos} {elts : List Expr} {kk : Nat} (hg : Gl X "enumerate") (hm : X.mg "enumerate" = none) (ha : PA X [e] ta) (hs : starEach [e] X.env = [(false, eval e X.env)] := by rfl) :
    PI X (.Tuple elts kk tpos) (.Call (.Name "enumerate" p) [e] [] pos) (iEnumX X.K ta) := by
  refine ⟨fun pins s σ H R I h => ?_⟩
  refine PyProof.Rows.Call_ (ld_blt I hg hm PyProof.Rows.boot_enumerate (PyProof.Rows.callWith_type1 (thn (ha.run pos pins s σ H _ I h) fun us s1 ⟨vs, H1, I1, r1, q1⟩ => ?_) hs rfl))
  obtain ⟨a, k, xs, ex, hq, q⟩ := q1
  subst ex
  cases r1 with
  | cons r rr =>
    cases rr
    cases r
    obtain ⟨its, rv, p', la⟩ := inv_X I1 hq
    refine enum_begins1 (beginsX k a its.toArray) p' fun h' he hit hsz hk => wpAny_pyIter_enum he ?_
    have I2 : Inv X pins σ H1 { s1 with heap := h' } := I1.kept (t' := s1.toks) hk
    refine ⟨s1.heap.objs.size + 1, [s1.heap.objs.size + 1, s1.heap.objs.size], _, _, H1, rfl, I2, turn_enumX (Nat.succ_ne_self _) (Nat.ne_of_lt (Nat.lt_succ_of_lt la)), ⟨⟨.none, he⟩, itX0 hit, Nat.zero_le _⟩, fun b hb => ?_, q⟩
    have e' : b = s1.heap.objs.size + 1 ∨ b = s1.heap.objs.size := by simpa using hb
    have hle : s1.heap.objs.size ≤ b := by
      rcases e' with z | z
      · rw [z]; exact Nat.le_add_right _ _
      · rw [z]; exact Nat.le_refl _
    exact I1.fpOk hle (I1.hok.fresh hle)
end Py

set_option Elab.async false
set_option linter.all false
set_option maxRecDepth 100000
set_option maxHeartbeats 2000000
/-! C11x: zip and enumerate, by data. -/
namespace Py
open PySem PySem.Spec L2
section
variable {B : Gb} {F H F1 H1 : Hp} {K : PySem.W.Frag} {O : Orc}
/-- a sequence that is walked, and what is to stay of it -/
structure Sd (B : Gb) (F1 : Hp) (fz : Bool) (v : V) (l : List D) (k : SK) (a : Addr) (xs : List V) (S : Hp → Hp → Prop) : Prop where
  ev : v = .ref a
  r : RpA B.K B.O F1 xs l
  st : ∀ F H, S F H → SqX k B.K H a xs ∧ Same F1 F
  s : Stays B.O S
  f : fz = true → StaysF S
  n : l.length ≤ LIM
theorem side {fz : Bool} {v : V} {x : D} {l : List D} {n : Nat} (s : St0 B.K B.O F1 H1 n) (rv : Rq B (!fz) F1 H1 v x) (h : seqV x = some l) : ∃ k a xs S, Sd B F1 fz v l k a xs S ∧ S F1 H1 := by
  cases x with
  | tup m =>
    cases h
    cases rv.opd with
    | of r => cases r with
      | tup hs rr hm => exact ⟨.T, _, _, fun F H => Same F1 F ∧ Same F H, ⟨rfl, rr, fun F H q => ⟨Same.sqt (q.1.trans q.2) hs, q.1⟩, fun G H G' H' q f sb _ => ⟨q.1.trans f, sb⟩, fun _ G H G' H' q f sb => ⟨q.1.trans f, sb⟩, hm⟩, ⟨Same.refl _, s.sub⟩⟩
    | own _ _ _ r => cases r.isC
  | lst m =>
    cases h
    have frz : ∀ {w : V}, Rp B.K B.O F1 w (.lst l) → ∃ k a xs S, Sd B F1 fz w l k a xs S ∧ S F1 H1 := fun r => by
      cases r with
      | lst hs rr hm => exact ⟨.L, _, _, fun F H => Same F1 F ∧ Same F H, ⟨rfl, rr, fun F H q => ⟨SqL.of (q.2 _ _ (q.1 _ _ hs)), q.1⟩, fun G H G' H' q f sb _ => ⟨q.1.trans f, sb⟩, fun _ G H G' H' q f sb => ⟨q.1.trans f, sb⟩, hm⟩, ⟨Same.refl _, s.sub⟩⟩
    cases fz with
    | true => exact frz rv
    | false =>
      cases rv.opd with
      | of r => exact frz r
      | own ha hf hs r0 =>
        obtain ⟨xs, rfl, rr, hm⟩ := r0.lst
        exact ⟨.L, _, _, fun F H => Same F1 F ∧ H _ = some (.lst xs), ⟨rfl, rr, fun F H q => ⟨SqL.of q.2, q.1⟩, fun G H G' H' q f sb k => ⟨q.1.trans f, k _ _ ha q.2⟩, (fun z => nomatch z), hm⟩, ⟨Same.refl _, hs⟩⟩
  | _ => cases h
theorem wk_zip {fz : Bool} {v w : V} {l m : List D} {k1 k2 : SK} {a b : Addr} {xs ys : List V} {S1 S2 : Hp → Hp → Prop} (d1 : Sd B F1 fz v l k1 a xs S1) (d2 : Sd B F1 fz w m k2 b ys S2) :
    Wk B.K B.O (ItzX k1 k2 B.K a b xs ys) (fun F H => S1 F H ∧ S2 F H) ((l.zip m).map fun p => .tup [p.1, p.2]) where
  go := fun i F H s hi => by
    rw [List.length_map, List.length_zip] at hi
    exact ⟨(d1.st _ _ s.1).1, (d2.st _ _ s.2).1, by rw [d1.r.length, d2.r.length]; exact hi⟩
  stop := fun i F H s hi => by
    rw [List.length_map, List.length_zip] at hi
    exact ⟨(d1.st _ _ s.1).1, (d2.st _ _ s.2).1, by rw [d1.r.length, d2.r.length]; exact hi⟩
  yld := fun i F H n v' H' st s y d hd => by
    obtain ⟨T, x, y, rfl, hT, rfl, hx, hy⟩ := y
    rw [List.getElem?_map] at hd
    obtain ⟨p, hp, rfl⟩ := Option.map_eq_some_iff.mp hd
    obtain ⟨h1, h2⟩ := List.getElem?_zip_eq_some.mp hp
    obtain ⟨w1, e1, r1⟩ := d1.r.get h1
    obtain ⟨w2, e2, r2⟩ := d2.r.get h2
    rw [hx] at e1
    rw [hy] at e2
    cases e1
    cases e2
    have sm : Same F1 F := (d1.st _ _ s.1).2
    have e := Ext.lay (O := B.O) st hT (.tup [x, y])
    exact ⟨upd F T (.tup [x, y]), e, .tup (.inl (.inl (upd_same ..))) (.cons (r1.mono (sm.trans e.same)) (.cons (r2.mono (sm.trans e.same)) .nil)) (by show 2 ≤ LIM; decide)⟩
theorem enu_get : ∀ (l : List D) (k i : Nat) (d : D), (enuFrom k l)[i]? = some d → ∃ x, l[i]? = some x ∧ d = .tup [.int ((k + i : Nat) : Int), x]
  | [], k, i, d, h => by simp [enuFrom] at h
  | x :: l, k, 0, d, h => by
    simp only [enuFrom, List.getElem?_cons_zero, Option.some.injEq] at h
    exact ⟨x, rfl, h.symm⟩
  | x :: l, k, i + 1, d, h => by
    simp only [enuFrom, List.getElem?_cons_succ] at h
    obtain ⟨y, h1, h2⟩ := enu_get l (k + 1) i d h
    exact ⟨y, by simpa using h1, by rw [h2, show k + 1 + i = k + (i + 1) from by omega]⟩
theorem enu_len : ∀ (l : List D) (k : Nat), (enuFrom k l).length = l.length
  | [], _ => rfl
  | x :: l, k => by rw [enuFrom, List.length_cons, List.length_cons, enu_len]
theorem wk_enu {fz : Bool} {v : V} {l : List D} {k : SK} {a : Addr} {xs : List V} {S : Hp → Hp → Prop} (d1 : Sd B F1 fz v l k a xs S) :
    Wk B.K B.O (IteX k B.K a xs) S (enuFrom 0 l) where
  go := fun i F H s hi => by
    rw [enu_len] at hi
    exact ⟨(d1.st _ _ s).1, by rw [d1.r.length]; exact hi⟩
  stop := fun i F H s hi => by
    rw [enu_len] at hi
    exact ⟨(d1.st _ _ s).1, by rw [d1.r.length]; exact hi⟩
  yld := fun i F H n v' H' st s y d hd => by
    obtain ⟨T, x, rfl, hT, rfl, hx⟩ := y
    obtain ⟨dx, h1, rfl⟩ := enu_get l 0 i d hd
    obtain ⟨w1, e1, r1⟩ := d1.r.get h1
    rw [hx] at e1
    cases e1
    have sm : Same F1 F := (d1.st _ _ s).2
    have e := Ext.lay (O := B.O) st hT (.tup [.int (i : Nat), x])
    rw [Nat.zero_add]
    exact ⟨upd F T (.tup [.int (i : Nat), x]), e, .tup (.inl (.inl (upd_same ..))) (.cons (.int _) (.cons (r1.mono (sm.trans e.same)) .nil)) (by show 2 ≤ LIM; decide)⟩
end
section
variable {X : Cx} {B : Gb} {T : Tab} {W : WX} {a b : Expr} {p pos : Pos} {tg : Expr} {fz : Bool} {ia ies : E}
theorem zip_inv {l r : List D} (h : zipV l = some r) (hl : l.length = 2) : ∃ x y m k, l = [x, y] ∧ seqV x = some m ∧ seqV y = some k ∧ r = (m.zip k).map fun p => .tup [p.1, p.2] := by
  match l, hl with
  | [x, y], _ =>
    unfold zipV at h
    obtain ⟨m, h1, h2⟩ := Option.bind_eq_some_iff.mp h
    obtain ⟨k, h3, h4⟩ := Option.map_eq_some_iff.mp h2
    exact ⟨x, y, m, k, rfl, h1, h3, h4.symm⟩
theorem i_zip {x : Str} (hz : zOk (.zip ies) tg = true) (hK : B.K = X.K) (hx : x = "zip") (hg : Gl X x) (hmg : X.mg x = none) (hp : plainX a = true) (hp2 : plainX b = true) (ha : PA X [a, b] (tA B T W (!fz) ies)) (hl : ∀ {env : Env} {n m : Nat} {l : List D}, evs T ies env n = .ok l m → l.length = 2) :
    PI X tg (.Call (.Name x p) [a, b] [] pos) (tI B T W fz (.zip ies)) := by
  subst hx
  cases tg <;> first | (cases hz; done) | skip
  refine PIw (pi_zipX hg hmg ha (star1 hp) (starN (by simp [hp2]))) fun σ H Rk ⟨F, env, ad, n, s, en, h⟩ => ?_
  dsimp only [evi] at h
  refine ⟨F, env, ad, n, s, en, h.seq.imp fun l n1 F1 H1 er e1 h1 vs rvs => ?_⟩
  have s1 := s.ext e1
  cases eb : zipV l with
  | none => rw [eb] at h1; exact h1.elim
  | some r =>
    rw [eb] at h1
    obtain ⟨dx, dy, m, k, rfl, q1, q2, rfl⟩ := zip_inv eb (hl er)
    cases rvs with
    | cons r1 rr =>
      cases rr with
      | cons r2 rr =>
        cases rr
        obtain ⟨k1, a1, xs, S1, d1, z1⟩ := side s1 r1 q1
        obtain ⟨k2, a2, ys, S2, d2, z2⟩ := side s1 r2 q2
        have t1 := d1.st _ _ z1
        have t2 := d2.st _ _ z2
        have ww := wk_zip d1 d2
        rw [hK] at t1 t2 ww
        refine ⟨a1, a2, k1, k2, xs, ys, by rw [d1.ev, d2.ev], t1.1, t2.1, (h1 F1 H1 (Ext.refl s1)) _ (fun F H => S1 F H ∧ S2 F H) (by rw [hK]; exact ww) ⟨z1, z2⟩ (fun G H G' H' q f sb k => ⟨d1.s _ _ _ _ q.1 f sb k, d2.s _ _ _ _ q.2 f sb k⟩) (fun hf G H G' H' q f sb => ⟨d1.f hf _ _ _ _ q.1 f sb, d2.f hf _ _ _ _ q.2 f sb⟩) ?_⟩
        rw [List.length_map, List.length_zip]
        have := d1.n
        omega
theorem i_enu {x : Str} (hz : zOk (.enu ia) tg = true) (hK : B.K = X.K) (hx : x = "enumerate") (hg : Gl X x) (hmg : X.mg x = none) (hp : plainX a = true) (ha : PE X a (tE B T W (!fz) ia)) :
    PI X tg (.Call (.Name x p) [a] [] pos) (tI B T W fz (.enu ia)) := by
  subst hx
  cases tg <;> first | (cases hz; done) | skip
  refine PIw (pi_enumX hg hmg (pa_cons ha pa_nil (star1 hp)) (star1 hp)) fun σ H Rk ⟨F, env, ad, n, s, en, h⟩ => ?_
  dsimp only [evi] at h
  refine tE_of s en h fun d n1 F1 H1 s1 en1 e1 h1 v rv => ?_
  cases eb : seqV d with
  | none => rw [eb] at h1; exact h1.elim
  | some l =>
    rw [eb] at h1
    obtain ⟨k1, a1, xs, S1, d1, z1⟩ := side s1 rv eb
    have t1 := d1.st _ _ z1
    have ww := wk_enu d1
    rw [hK] at t1 ww
    exact ⟨a1, k1, xs, by rw [d1.ev], t1.1, (h1 F1 H1 (Ext.refl s1)) _ S1 (by rw [hK]; exact ww) z1 d1.s d1.f (by rw [enu_len]; exact d1.n)⟩
end
end Py

set_option Elab.async false
set_option linter.all false
set_option maxRecDepth 100000
set_option maxHeartbeats 4000000
/-! C7s: displays of dicts; a.get(k, d). -/
namespace Py
open PySem PySem.Spec L2
theorem dset_v {K : PySem.W.Frag} {O : Orc} {F : Hp} {k : Key} {v : V} {d : D} (rv : Rp K O F v d) : ∀ {kvs : List (Key × V)} {ds : List D}, RpA K O F (kvs.map (·.2)) ds → RpA K O F ((kvs.map fun kv => if kv.1 = k then (kv.1, v) else kv).map (·.2)) (dset (kvs.map (·.1)) ds k d)
  | [], _, r => by cases r; exact .nil
  | (k', v') :: kvs, _, r => by
    simp only [List.map_cons] at r ⊢
    cases r with
    | cons r1 r2 =>
      rw [dset]
      refine .cons ?_ (dset_v rv r2)
      by_cases q : k' = k
      · rw [if_pos q, if_pos q]; exact rv
      · rw [if_neg q, if_neg q]; exact r1
theorem dput_v {K : PySem.W.Frag} {O : Orc} {F : Hp} {k : Key} {v : V} {d : D} {kvs : List (Key × V)} {ks : List Key} {ds : List D} (h : kvs.map (·.1) = ks) (r : RpA K O F (kvs.map (·.2)) ds) (hl : kvs.length < LIM) (rv : Rp K O F v d) : RpC K O F (.dK (putK kvs k v)) (dput ks ds k d) := by
  have e := hasK_v (k := k) h
  have hlen := length_putK kvs k v
  unfold dput
  subst h
  rw [e, ← valV_any]
  unfold putK at hlen ⊢
  by_cases q : (kvs.any fun kv => decide (kv.1 = k)) = true
  · rw [if_pos q] at hlen ⊢
    rw [if_pos q]
    refine ⟨?_, dset_v rv r, by omega⟩
    rw [List.map_map]
    refine List.map_congr_left fun kv _ => ?_
    show (if kv.1 = k then (kv.1, v) else kv).1 = kv.1
    split <;> rfl
  · rw [if_neg q] at hlen ⊢
    rw [if_neg q]
    exact ⟨by simp, by rw [List.map_append]; exact r.app (.one rv), by omega⟩
theorem keyD_rp {K : PySem.W.Frag} {O : Orc} {F H : Hp} {v : V} {d : D} {k : L2.Key} (h : RpO K O F H v d) (e : keyD d = some k) : v = kV k := by
  cases d with
  | int i => cases e; rw [h.int]; rfl
  | str x => cases e; rw [h.str.1]; rfl
  | _ => cases e
theorem valV_look {K : PySem.W.Frag} {O : Orc} {F : Hp} : ∀ {kvs : List (L2.Key × V)} {ds : List D} {k : L2.Key}, RpA K O F (kvs.map (·.2)) ds → (dlook (kvs.map (·.1)) ds k = none ∧ valV kvs k = none) ∨ ∃ d v, dlook (kvs.map (·.1)) ds k = some d ∧ valV kvs k = some v ∧ Rp K O F v d
  | [], ds, k, r => by cases r; exact .inl ⟨rfl, rfl⟩
  | p :: kvs, ds, k, r => by
    rw [List.map_cons] at r
    cases r with
    | cons h t =>
      rw [List.map_cons, dlook]
      by_cases c : p.1 = k
      · rw [if_pos c, valV_pos c]; exact .inr ⟨_, _, rfl, rfl, h⟩
      · rw [if_neg c]
        have e : valV (p :: kvs) k = valV kvs k := by simp [valV, List.find?_cons, c]
        rw [e]
        exact valV_look t
section
variable {X : Cx} {B : Gb} {T : Tab} {W : WX} {a b c : Expr} {p q : Pos} {o : Bool} {ia ib ic : E}
theorem base_any {e : Expr} {m : Str} {env : PySem.Env} {w : Sem Value} (h : noCall e = true) : attributeBase e m env w = w := by
  cases e <;> first | rfl | cases h
theorem m2_any {m : Str} (h : noCall a = true) (hb : plainX b = true) (hc : plainX c = true) (hl : (p.endLine == q.line) = true) : M2 X a m p b c q where
  base := base_any h
  few := by
    have e1 : starEach [b, c] X.env = [(false, eval b X.env), (false, eval c X.env)] := by cases b <;> first | (cases hb; done) | (cases c <;> first | rfl | cases hc)
    rw [e1]; rfl
  line := hl
  trees := by
    have e1 : starEach [b, c] X.env = [(false, eval b X.env), (false, eval c X.env)] := by cases b <;> first | (cases hb; done) | (cases c <;> first | rfl | cases hc)
    rw [e1]; rfl
theorem o_dget (hu : X.A.units + 190 < cLine) (h : noCall a = true) (hb : plainX b = true) (hc : plainX c = true) (hl : (p.endLine == q.line) = true) (ha : PE X a (tE B T W true ia)) (hb' : PE X b (tE B T W true ib)) (hc' : PE X c (tE B T W false ic)) :
    PE X (.Call (.Attribute a "get" p) [b, c] [] q) (tE B T W o (.dget ia ib ic)) := by
  refine PEw (pe_dget2 (by omega) ha hb' hc' (m2_any h hb hc hl)) fun σ H Q ⟨F, env, ad, n, s, en, h⟩ => ?_
  dsimp only [ev] at h
  refine tE_of s en h fun x n1 F1 H1 s1 en1 e1 h1 v rv => ?_
  cases x with
  | dic ks ds =>
    obtain ⟨ad, kvs, rfl, g1, g2, g3, g4⟩ := rv.opd.dic s1.sub
    refine ⟨ad, rfl, .inl ⟨kvs, .inl g1⟩, tE_of s1 en1 h1 fun y n2 F2 H2 s2 en2 e2 h2 w rw' => tE_of s2 en2 h2 fun z n3 F3 H3 s3 en3 e3 h3 u ru => ?_⟩
    obtain ⟨ad', kvs', q1, g1', g2', g3', g4'⟩ := ((rv.ext e2).ext e3).opd.dic s3.sub
    cases q1
    unfold dgetV at h3
    dsimp only at h3
    cases ek : keyD y with
    | none => rw [ek] at h3; exact h3.elim
    | some k =>
      rw [ek] at h3
      have hv := keyD_rp (rw'.ext e3).opd ek
      subst hv
      subst g2'
      rcases valV_look (k := k) g3' with ⟨l1, l2⟩ | ⟨d, v, l1, l2, l3⟩
      · rw [Option.map_some, l1] at h3
        refine ⟨none, .inl ⟨kvs', k, .inl g1', rfl, l2.symm⟩, ?_⟩
        exact h3 F3 H3 (Ext.refl s3) _ (Rq.of ru)
      · rw [Option.map_some, l1] at h3
        refine ⟨some v, .inl ⟨kvs', k, .inl g1', rfl, l2.symm⟩, ?_⟩
        exact h3 F3 H3 (Ext.refl s3) _ (Rq.of l3)
  | _ => exact h1.elim
/-! a display: the dict stands empty while its pairs are made -/
def trsOf (B : Gb) (T : Tab) (W : WX) : E → List (TE × TE)
  | .kv k v r => (tE B T W false k, tE B T W false v) :: trsOf B T W r
  | _ => []
/-- the pairs' values -/
inductive RpP (K : PySem.W.Frag) (O : Orc) (F : Hp) : List (V × V) → List (D × D) → Prop where
  | nil : RpP K O F [] []
  | cons {x y : V} {d e : D} {ps : List (V × V)} {l : List (D × D)} (h : Rp K O F x d) (h2 : Rp K O F y e) (t : RpP K O F ps l) : RpP K O F ((x, y) :: ps) ((d, e) :: l)
theorem RpP.mono {K : PySem.W.Frag} {O : Orc} {F F' : Hp} (s : Same F F') : ∀ {ps : List (V × V)} {l : List (D × D)}, RpP K O F ps l → RpP K O F' ps l
  | _, _, .nil => .nil
  | _, _, .cons h h2 t => .cons (h.mono s) (h2.mono s) (RpP.mono s t)
theorem Rq.fz {F H : Hp} {v : V} {d : D} (h : Rq B false F H v d) : Rp B.K B.O F v d := by unfold Rq at h; simpa using h
theorem pairs_rd {σ : St} {env : Env} {ad : Nat → Addr} : ∀ (es : E) {β : Type} {f : List (D × D) → Nat → Res β} {post : β → Nat → Hp → Hp → Prop} {Fb Hb F H : Hp} {nb n : Nat} {Q : List (V × V) → Hp → Prop}, St0 B.K B.O F H n → EnOk B.K B.O F H σ env ad → Ext B.O Fb Hb nb F H n → R B W σ Fb Hb nb ((evk T es env n).bind f) post →
    (∀ l n1 F1 H1, St0 B.K B.O F1 H1 n1 → EnOk B.K B.O F1 H1 σ env ad → Ext B.O Fb Hb nb F1 H1 n1 → Ext B.O F H n F1 H1 n1 → R B W σ Fb Hb nb (f l n1) post → ∀ ps, RpP B.K B.O F1 ps l → Q ps H1) → tPairs (trsOf B T W es) σ H Q := by
  intro es
  induction es with
  | nil =>
    intro β f post Fb Hb F H nb n Q s en eb h k
    exact k [] n F H s en eb (Ext.refl s) h _ .nil
  | kv a b r iha ihb ihr =>
    intro β f post Fb Hb F H nb n Q s en eb h k
    show tE B T W false a σ H _
    rw [evk] at h
    refine ⟨F, env, ad, n, s, en, ?_⟩
    cases ea : ev T a env n with
    | bad => rw [ea] at h; exact h.elim
    | exc e m => rw [ea] at h; show R B W σ F H n (ev T a env n) _; rw [ea]; exact fun F' H' c dx e' => h F' H' c dx (eb.trans e')
    | ok x n1 =>
      rw [ea, Res.bind_ok] at h
      show R B W σ F H n (ev T a env n) _
      rw [ea]
      intro F1 H1 e1 v rv
      have s1 := s.ext e1
      have en1 := en.ext e1
      have eb1 := eb.trans e1
      show tE B T W false b σ H1 _
      refine ⟨F1, env, ad, n1, s1, en1, ?_⟩
      cases e2 : ev T b env n1 with
      | bad => rw [e2] at h; exact h.elim
      | exc e m => rw [e2] at h; show R B W σ F1 H1 n1 (ev T b env n1) _; rw [e2]; exact fun F' H' c dx e' => h F' H' c dx (eb1.trans e')
      | ok y n2 =>
        rw [e2, Res.bind_ok] at h
        show R B W σ F1 H1 n1 (ev T b env n1) _
        rw [e2]
        intro F2 H2 e3 w rw'
        have s2 := s1.ext e3
        have en2 := en1.ext e3
        have eb2 := eb1.trans e3
        have h : R B W σ Fb Hb nb ((evk T r env n2).bind fun l n => f ((x, y) :: l) n) post := by
          cases ec : evk T r env n2 with
          | bad => rw [ec] at h; exact h
          | exc e m => rw [ec] at h; exact h
          | ok l m3 => rw [ec] at h; exact h
        exact ihr s2 en2 eb2 h fun l n3 F3 H3 s3 en3 eb3 e4 h3 ps rp => k _ n3 F3 H3 s3 en3 eb3 ((e1.trans e3).trans e4) h3 _ (.cons ((rv.fz.mono e3.same).mono e4.same) (rw'.fz.mono e4.same) rp)
  | _ => intro β f post Fb Hb F H nb n Q s en eb h k; exact h.elim
theorem Ext.chgN {O : Orc} {F H F' H' : Hp} {n n' : Nat} {a : Addr} {u : HO} (e : Ext O F H n F' H' n') (h0 : H a = none) (hA : H O.aA ≠ none) (h1 : F' a = none) : Ext O F H n F' (upd H' a u) n' := by
  have neA : a ≠ O.aA := fun z => by subst z; exact hA h0
  refine ⟨e.same, fun b o z => ?_, e.fA, ?_, fun b o hb z => ?_, e.new⟩
  · rw [upd_ne (ne_of_none z h1)]; exact e.sub _ _ z
  · rw [upd_ne neA.symm]; exact e.hA
  · rw [upd_ne (ne_of_none z h0)]; exact e.keep _ _ hb z
theorem pairsK_rp {K : PySem.W.Frag} {O : Orc} {F : Hp} : ∀ {ps : List (V × V)} {l : List (D × D)} {kds : List (L2.Key × D)}, RpP K O F ps l → pairsK l = some kds → ∃ kvs : List (L2.Key × V), ps = kvs.map (fun kv => (kV kv.1, kv.2)) ∧ kvs.map (·.1) = kds.map (·.1) ∧ RpA K O F (kvs.map (·.2)) (kds.map (·.2))
  | _, _, kds, .nil, h => by cases h; exact ⟨[], rfl, rfl, .nil⟩
  | _, _, kds, .cons (d := d) h h2 t, e => by
    rw [pairsK] at e
    obtain ⟨j, hj, e⟩ := Option.bind_eq_some_iff.mp e
    obtain ⟨r, hr, rfl⟩ := Option.map_eq_some_iff.mp e
    obtain ⟨kvs, q1, q2, q3⟩ := pairsK_rp t hr
    refine ⟨(j, _) :: kvs, ?_, ?_, .cons h2 q3⟩
    · rw [List.map_cons, ← q1, keyD_rp (.of h) hj (H := F)]
    · rw [List.map_cons, List.map_cons, q2]
theorem merge_rp {K : PySem.W.Frag} {O : Orc} {F : Hp} : ∀ {kds : List (L2.Key × D)} {kvs : List (L2.Key × V)} {acc : List (L2.Key × V)} {d : D}, kvs.map (·.1) = kds.map (·.1) → RpA K O F (kvs.map (·.2)) (kds.map (·.2)) → RpC K O F (.dK acc) d → acc.length + kvs.length < LIM → RpC K O F (.dK (mergeK acc kvs)) (kds.foldl (fun d kv => putD d kv.1 kv.2) d)
  | [], kvs, acc, d, h1, h2, h3, _ => by
    have : kvs = [] := by simpa using h1
    subst this; exact h3
  | p :: kds, [], acc, d, h1, _, _, _ => by cases h1
  | p :: kds, q :: kvs, acc, d, h1, h2, h3, hl => by
    rw [List.map_cons, List.map_cons] at h1
    injection h1 with k1 k2
    rw [List.map_cons, List.map_cons] at h2
    cases h2 with
    | cons r1 r2 =>
      have hd : ∃ ks ds, d = .dic ks ds := by
        cases d with
        | dic ks ds => exact ⟨ks, ds, rfl⟩
        | _ => exact h3.elim
      obtain ⟨ks, ds, rfl⟩ := hd
      obtain ⟨kvs', e1, e2, e3, e4⟩ := h3.dic
      cases e1
      rw [List.length_cons] at hl
      have st : RpC K O F (.dK (putK acc q.1 q.2)) (dput ks ds p.1 p.2) := by
        rw [← k1]
        exact dput_v e2 e3 (by omega) r1
      have hlen := length_putK acc q.1 q.2
      show RpC K O F (.dK (mergeK (putK acc q.1 q.2) kvs)) (kds.foldl (fun d kv => putD d kv.1 kv.2) (dput ks ds p.1 p.2))
      exact merge_rp k2 r2 st (by omega)
theorem o_dspN {keys : List (Option Expr)} {values : List Expr} {pos : Pos} {es : E} (h : PPs X pos keys values (trsOf B T W es)) (hall : keys.all (·.isSome) = true) (hl : keys.length = values.length) (h0 : keys ≠ []) (h15 : keys.length ≤ 15) :
    PE X (.Dict keys values pos) (tN B T W (.dsp es)) := by
  refine PEw (pe_disp h hall hl h0 h15) fun σ H Q ⟨F, env, ad, n, s, en, h⟩ p hp => ?_
  dsimp only [ev] at h
  have e0 : Ext B.O F H n F (upd H p (.dK [])) n := Ext.layO s hp _
  have s0 := s.ext e0
  have en0 := en.ext e0
  have hA : H B.O.aA ≠ none := by rw [s.hA]; exact nofun
  have pA : p ≠ B.O.aA := fun z => by subst z; exact hA hp
  refine pairs_rd es s0 en0 e0 h fun l n1 F1 H1 s1 en1 e2 e1 h1 ps rp => ?_
  have fp : F1 p = none := by
    cases z : F1 p with
    | none => rfl
    | some u =>
      rcases e1.new p u z with q | q
      · have := s.sub _ _ q; rw [hp] at this; cases this
      · rw [upd_same] at q; cases q
  have hH : H1 p = some (.dK []) := e1.keep _ _ pA upd_same
  refine ⟨hH, ?_⟩
  cases em : mkD l with
  | none => rw [em] at h1; exact h1.elim
  | some d =>
    rw [em] at h1
    unfold mkD at em
    split at em
    · rename_i c
      obtain ⟨kds, hk, rfl⟩ := Option.map_eq_some_iff.mp em
      obtain ⟨kvs, q1, q2, q3⟩ := pairsK_rp rp hk
      have hlen : kvs.length ≤ 15 := by
        have : ∀ (ps : List (V × V)) (l : List (D × D)), RpP B.K B.O F1 ps l → ps.length = l.length := by
          intro ps l r
          induction r with
          | nil => rfl
          | cons _ _ _ ih => rw [List.length_cons, List.length_cons, ih]
        have := this _ _ rp
        rw [q1, List.length_map] at this
        omega
      refine ⟨kvs, q1, hlen, ?_⟩
      have rc : RpC B.K B.O F1 (.dK (mergeK [] kvs)) (kds.foldl (fun d kv => putD d kv.1 kv.2) (.dic [] [])) := merge_rp q2 q3 ⟨rfl, .nil, by decide⟩ (by rw [List.length_nil]; exact Nat.lt_of_le_of_lt (by omega : 0 + kvs.length ≤ 15) (by decide))
      exact h1 _ _ (e2.chgN (u := .dK (mergeK [] kvs)) hp hA fp) p _ hp fp upd_same rc
    · cases em
theorem o_dsp {keys : List (Option Expr)} {values : List Expr} {pos : Pos} {es : E} (h : PPs X pos keys values (trsOf B T W es)) (hall : keys.all (·.isSome) = true) (hl : keys.length = values.length) (h0 : keys ≠ []) (h15 : keys.length ≤ 15) :
    PE X (.Dict keys values pos) (tE B T W o (.dsp es)) := PEw (o_dspN h hall hl h0 h15) tN_E
theorem chkK_all {g : Sg} {N : List Str} {sc : Scope} : ∀ {es : E} {ks : List (Option Expr)} {vs : List Expr}, chkK g N sc es ks vs = true → ks.all (·.isSome) = true ∧ ks.length = vs.length := by
  intro es
  induction es with
  | nil =>
    intro ks vs h
    simp only [chkK, Bool.and_eq_true, List.isEmpty_iff] at h
    obtain ⟨rfl, rfl⟩ := h
    exact ⟨rfl, rfl⟩
  | kv a b r _ _ ihr =>
    intro ks vs h
    unfold chkK at h
    split at h
    · rw [Bool.and_eq_true] at h
      obtain ⟨q1, q2⟩ := ihr h.2
      exact ⟨by rw [List.all_cons, q1]; rfl, by rw [List.length_cons, List.length_cons, q2]⟩
    · cases h
  | _ => intro ks vs h; simp [chkK] at h
end
/-! ### dict comprehensions -/
theorem pairsD_app {a b : List D} {k : List (L2.Key × D)} (h : pairsD (a ++ b) = some k) : ∃ k1 k2, pairsD a = some k1 ∧ pairsD b = some k2 ∧ k = k1 ++ k2 := by
  induction a generalizing k with
  | nil => exact ⟨[], k, rfl, h, rfl⟩
  | cons x a ih =>
    rw [List.cons_append, pairsD] at h
    obtain ⟨p, hp, h⟩ := Option.bind_eq_some_iff.mp h
    obtain ⟨l, hl, rfl⟩ := Option.map_eq_some_iff.mp h
    obtain ⟨k1, k2, h1, h2, rfl⟩ := ih hl
    exact ⟨p :: k1, k2, by rw [pairsD, hp, h1]; rfl, h2, rfl⟩
def dcompF (T : Tab) (kx vx : E) (tg : Tg) (cond : E) (env : Env) : D → Nat → Res (Option D) := fun x n => match tg.bind x env with
  | some env' => (tv T cond env' n).bind fun c n => if c then (ev T kx env' n).bind fun y n => (ev T vx env' n).bind fun z n => .ok (some (.tup [y, z])) n else .ok none n
  | none => .bad
theorem ev_dcomp {T : Tab} {kx vx it cond : E} {tg : Tg} {env : Env} {n : Nat} : ev T (.dcomp kx vx tg it cond) env n = (evi T it env n).bind fun xs n => (mapR (dcompF T kx vx tg cond env) xs n).quiet.bind fun l n => .of (mkDs l) n := by
  rw [ev]; rfl
def putAll (l : List (L2.Key × D)) : D := l.foldl (fun d kv => putD d kv.1 kv.2) (.dic [] [])
theorem idemW : ∀ (vs : List Nat) (σ : St), L2.wipe (L2.wipe σ vs) vs = L2.wipe σ vs := by
  intro vs σ
  apply List.ext_getElem?
  intro j
  by_cases hj : j ∈ vs
  · have nn : ∀ (σ : St) (ws : List Nat), j ∈ ws → (L2.wipe σ ws)[j]? = if j < σ.length then some none else none := by
      intro σ ws
      induction ws with
      | nil => intro q; cases q
      | cons v ws ih =>
        intro q
        show ((L2.wipe σ ws).set v none)[j]? = _
        rw [List.getElem?_set]
        by_cases hv : v = j
        · rw [if_pos hv, wipe_length]
          subst hv; rfl
        · rw [if_neg hv]
          rcases List.mem_cons.mp q with q | q
          · exact absurd q.symm hv
          · exact ih q
    rw [nn _ _ hj, nn _ _ hj, wipe_length]
  · rw [wipe_out hj]
section
variable {X : Cx} {B : Gb} {T : Tab} {W : WX} {kx vx it cond : E} {tg : Tg}
theorem dc_read {vs : List Nat} (hvs : vs = tg.slots) : ∀ σ H Q, tN B T W (.dcomp kx vx tg it cond) σ H Q → tDc (tI B T W false it) (gT B.K tg) (tT B T W0 cond) (tE B T W0 false kx) (tE B T W0 false vx) vs σ H Q := by
  subst hvs
  rintro σ H Q ⟨F, env, ad, n, s, en, h⟩
  rw [ev_dcomp] at h
  refine ⟨F, env, ad, n, s, en, h.seq.imp fun xs n1 F1 H1 _ e1 h1 J S wk s1 stay _ hlen D hD => ?_⟩
  cases em : mapR (dcompF T kx vx tg cond env) xs n1 with
  | bad => rw [em] at h1; exact h1.elim
  | exc e m => rw [em] at h1; exact h1.elim
  | ok l n2 =>
    rw [em, Res.quiet_ok, Res.bind_ok] at h1
    cases ek : mkDs l with
    | none => rw [ek] at h1; exact h1.elim
    | some dd =>
    rw [ek] at h1
    unfold mkDs at ek
    split at ek
    rotate_left
    · cases ek
    rename_i hlim
    obtain ⟨kds, hk, hdd⟩ := Option.map_eq_some_iff.mp ek
    have hdd : putAll kds = dd := hdd
    have st1 := s.ext e1
    have neA : D ≠ B.O.aA := fun z => by subst z; rw [st1.hA] at hD; cases hD
    have hDH : H D = none := by
      cases z : H D with
      | none => rfl
      | some o => rw [e1.keep _ _ neA z] at hD; cases hD
    refine ⟨fun i m Hc => m = xs.length - i ∧ i ≤ xs.length ∧ ∃ Fc nc kvs pre post kp, Ext B.O F1 H1 n1 Fc Hc nc ∧ Fc D = none ∧ Hc D = some (.dK kvs) ∧ kvs.length ≤ pre.length ∧ pairsD pre = some kp ∧ RpC B.K B.O Fc (.dK kvs) (putAll kp) ∧ l = pre ++ post ∧ mapR (dcompF T kx vx tg cond env) (xs.drop i) nc = .ok post n2,
      ⟨xs.length, rfl, Nat.zero_le _, F1, n1, [], [], l, [], Ext.layO st1 hD _, st1.lt hD, upd_same .., Nat.le_refl _, rfl, ⟨rfl, .nil, by decide⟩, rfl, em⟩, ?_⟩
    rintro i m Hc ⟨rfl, hi, Fc, nc, kvs, pre, post, kp, ec, fD, hc, hkl, hkp, ra, el, ep⟩
    have stc := st1.ext ec
    have sc : S Fc Hc := stay _ _ _ _ s1 ec.same ec.sub ec.keep
    by_cases hlt : i < xs.length
    · refine .inr ⟨wk.go i Fc Hc sc hlt, fun H' => ∃ F' n' kvs' pre' post' kp', Ext B.O F1 H1 n1 F' H' n' ∧ F' D = none ∧ H' D = some (.dK kvs') ∧ kvs'.length ≤ pre'.length ∧ pairsD pre' = some kp' ∧ RpC B.K B.O F' (.dK kvs') (putAll kp') ∧ l = pre' ++ post' ∧ mapR (dcompF T kx vx tg cond env) (xs.drop (i + 1)) n' = .ok post' n2,
        fun H' q => ⟨xs.length - (i + 1), by omega, rfl, hlt, q⟩, fun x H' y => ?_⟩
      rw [List.drop_eq_getElem_cons hlt] at ep
      obtain ⟨ox, k, r, hf, hr, hp⟩ := mapR_cons ep
      obtain ⟨F5, e5, r5⟩ := wk.yld i Fc Hc nc x H' stc sc y _ (List.getElem?_eq_getElem hlt)
      have st5 := stc.ext e5
      unfold dcompF at hf
      cases eb : tg.bind xs[i] env with
      | none => rw [eb] at hf; cases hf
      | some env' =>
        rw [eb] at hf
        dsimp only at hf
        have en5 := ((en.ext e1).ext ec).ext e5
        refine g_bind st5.sub tg _ env env' _ [] x _ (by rw [List.append_nil]; exact en5.wipe _) eb r5 fun σ' ex wp => ⟨?_, ?_⟩
        · rw [wp tg.slots fun _ q => q]
          exact idemW _ _
        · refine ⟨F5, env', ad, nc, st5, ex.all, ?_⟩
          cases et : tv T cond env' nc with
          | bad => rw [et] at hf; cases hf
          | exc e m => rw [et] at hf; cases hf
          | ok c n6 =>
            rw [et, Res.bind_ok] at hf
            rw [et]
            intro F6 H6 e6
            have st6 := st5.ext e6
            have en6 := ex.all.ext e6
            have e16 : Ext B.O F1 H1 n1 F6 H6 n6 := (ec.trans e5).trans e6
            have kD : ∀ {Fz Hz : Hp} {nz : Nat}, Ext B.O Fc Hc nc Fz Hz nz → Fz D = none ∧ Hz D = some (.dK kvs) := fun {Fz Hz nz} ez => by
              refine ⟨?_, ez.keep _ _ neA hc⟩
              cases z : Fz D with
              | none => rfl
              | some u =>
                rcases ez.new _ _ z with q | q
                · rw [fD] at q; cases q
                · rw [hc] at q; cases q
            cases c with
            | false =>
              simp only [Bool.false_eq_true, if_false] at hf ⊢
              cases hf
              obtain ⟨k1, k2⟩ := kD (e5.trans e6)
              exact ⟨F6, _, kvs, pre, r, kp, e16, k1, k2, hkl, hkp, ra.mono (e5.same.trans e6.same), by rw [el, hp]; rfl, hr⟩
            | true =>
              simp only [if_true] at hf ⊢
              cases ee : ev T kx env' n6 with
              | bad => rw [ee] at hf; cases hf
              | exc e m => rw [ee] at hf; cases hf
              | ok d n7 =>
                rw [ee, Res.bind_ok] at hf
                refine ⟨F6, env', ad, n6, st6, en6, ?_⟩
                dsimp only
                rw [ee]
                intro F7 H7 e7 v rv
                have st7 := st6.ext e7
                have en7 := en6.ext e7
                cases e8 : ev T vx env' n7 with
                | bad => rw [e8] at hf; cases hf
                | exc e m => rw [e8] at hf; cases hf
                | ok z n8 =>
                  rw [e8, Res.bind_ok] at hf
                  cases hf
                  refine ⟨F7, env', ad, n7, st7, en7, ?_⟩
                  dsimp only
                  rw [e8]
                  intro F8 H8 e9 u ru
                  obtain ⟨k1, k2⟩ := kD (((e5.trans e6).trans e7).trans e9)
                  have e18 := (e16.trans e7).trans e9
                  have rv : Rp B.K B.O F7 v d := rv
                  have ru : Rp B.K B.O F8 u z := ru
                  have el' : l = (pre ++ [.tup [d, z]]) ++ r := by rw [el, hp]; simp
                  have hk' := hk
                  rw [el'] at hk'
                  obtain ⟨kq, kr, q1, q2, q3⟩ := pairsD_app hk'
                  obtain ⟨ka, kb, p1, p2, p3⟩ := pairsD_app q1
                  rw [hkp] at p1
                  cases p1
                  have p2 : ((keyD d).map fun j => (j, z)).bind (fun p => (some []).map fun l => p :: l) = some kb := p2
                  obtain ⟨jz, hjz, p2⟩ := Option.bind_eq_some_iff.mp p2
                  obtain ⟨j, hj, hjq⟩ := Option.map_eq_some_iff.mp hjz
                  subst hjq
                  cases p2
                  have hv := keyD_rp (F := F8) (H := H8) (.of (rv.mono e9.same)) hj
                  have hll : pre.length + 1 ≤ l.length := by rw [el']; simp
                  have ra8 := ra.mono (((e5.same.trans e6.same).trans e7.same).trans e9.same)
                  have hd : ∃ ks ds, putAll kp = .dic ks ds := by
                    cases hq : putAll kp with
                    | dic ks ds => exact ⟨ks, ds, rfl⟩
                    | _ => rw [hq] at ra8; exact ra8.elim
                  obtain ⟨ks, ds, hq⟩ := hd
                  rw [hq] at ra8
                  obtain ⟨kvs', w1, w2, w3, w4⟩ := ra8.dic
                  cases w1
                  have st : RpC B.K B.O F8 (.dK (putK kvs j u)) (putAll (kp ++ [(j, z)])) := by
                    have : putAll (kp ++ [(j, z)]) = dput ks ds j z := by
                      unfold putAll
                      rw [List.foldl_append]
                      show putD (putAll kp) j z = _
                      rw [hq]; rfl
                    rw [this]
                    exact dput_v w2 w3 (by omega) ru
                  have hlen := length_putK kvs j u
                  refine ⟨kvs, j, hv, k2, by rw [← lim_eq]; omega, F8, _, putK kvs j u, pre ++ [.tup [d, z]], r, kp ++ [(j, z)], ⟨e18.same, fun b o zz => ?_, e18.fA, ?_, fun b o hb zz => ?_, e18.new⟩, k1, upd_same .., by rw [List.length_append]; simp only [List.length_cons, List.length_nil]; omega, by rw [← p3]; exact q1, st, el', hr⟩
                  · rw [upd_ne (ne_of_none zz k1)]; exact e18.sub _ _ zz
                  · rw [upd_ne neA.symm]; exact e18.hA
                  · rw [upd_ne (ne_of_none zz hD)]; exact e18.keep _ _ hb zz
    · have ei : i = xs.length := by omega
      subst ei
      rw [List.drop_length] at ep
      cases ep
      rw [List.append_nil] at el
      subst el
      rw [hkp] at hk
      cases hk
      exact .inl ⟨wk.stop _ Fc Hc sc (Nat.le_refl _), h1 Fc Hc ec D _ hDH fD hc (by rw [← hdd]; exact ra)⟩
end
section
variable {X : Cx} {pos : Pos}
/-- name = {..} on one line, the name a local -/
theorem ps_setDc {i : Nat} {y : Str} {py : Pos} {kx vx tg iter : Expr} {ifs : List Expr} {scope : Scope} {own : List (Str × Nat)} {pos spos : Pos} {wi : TI} {g : TG} {tt : TT} {tk tv : TE} (hc : X.calm = true) (hN : X.N.Nodup) (hy : X.N[i]? = some y) (hyl : X.env.scope.names.lookup y = some .local)
    (hsw : swapsWith (.DictComp kx vx [⟨tg, iter, ifs, 0⟩] scope pos) (some (.Name y py)) spos.line X.env = pure true) (hi : PI X tg iter wi) (ok : BlkOk X.N X.env.scope scope own)
    (hg : ∀ (s : Shared) (H : Hp) (C : Addr) (cl : List (Str × Addr)) (fp : List Addr), PG (X.blk s H scope (compEnvC scope cl C X.env) fp) tg g) (ht : ∀ (s : Shared) (H : Hp) (C : Addr) (cl : List (Str × Addr)) (fp : List Addr), PTs (X.blk s H scope (compEnvC scope cl C X.env) fp) ifs tt)
    (hk : ∀ (s : Shared) (H : Hp) (C : Addr) (cl : List (Str × Addr)) (fp : List Addr), PE (X.blk s H scope (compEnvC scope cl C X.env) fp) kx tk)
    (he : ∀ (s : Shared) (H : Hp) (C : Addr) (cl : List (Str × Addr)) (fp : List Addr), PE (X.blk s H scope (compEnvC scope cl C X.env) fp) vx tv) (hs : ∀ x, foldedSetIterable iter X.env x = pure x := by intro _; rfl) :
    PS X (.Assign [.Name y py] (.DictComp kx vx [⟨tg, iter, ifs, 0⟩] scope pos) spos) (tAsg (tDc wi g tt tk tv (own.map (·.2))) (gName i)) := by
  refine ⟨fun pins s σ H D I h => ?_⟩
  rw [exec_Assign_Name_used _ _ _ _ hsw]
  refine wpAny_bind (wpAny_standAt (wpAny_bind ?_))
  show wpAny _ X.A (do let _ ← comprehension (.DictComp kx vx [⟨tg, iter, ifs, 0⟩] scope pos) scope X.env (firstIterPos [⟨tg, iter, ifs, 0⟩] pos) newDict false (eval iter X.env) (some (assign (.Name y py) X.env))) _ _ s
  have h : tDc wi g tt tk tv (own.map (·.2)) σ H (fun x H1 => gName i x σ H1 D.nx) := h
  refine wpAny_bind (thn (dc_core (Qf := fun _ s' => SP X pins D .next s') hc hN I hi ok hg ht hk he hs h fun L C s' m H' I' q hn f => ?_) fun _ s' hq => wpAny_pure (wpAny_pure hq))
  show wpAny _ _ (assign (.Name y py) X.env (.ref L)) _ _ _
  refine wpAny_assign_Name (store_ok2 (v := V.ref L) I' hN hy (.inl hyl) rfl (fun s2 I2 ⟨a, sb, ha⟩ => ?_) (.inr hyl))
  obtain ⟨f0, f1, f2, f3, f4, f5⟩ := f
  have haC : C ≠ a := by
    rcases ha with z | z
    · rw [z]; exact f1
    · exact fun e => f4 y a z e.symm
  refine ⟨m, hn.sameBut sb haC, fun h3 sb3 => ?_⟩
  exact ⟨_, H', I2.turned (t' := s2.toks) (fun b o hb e => (sb3.2 b hb).trans e) f0 f1 f3 f4 f5, q⟩
theorem swD_true {kx vx : Expr} {gs : List Comprehension} {scope : Scope} {pos py : Pos} {y : Str} {l : Nat} {env : PySem.Env} (hk : env.scope.kind = .function) (hy : env.scope.names.lookup y = some .local) (hl : (py.line == pos.line) = true)
    (ha : (scope.names.any fun (n, k) => n == y && (k == .local || k == .cell)) = false) : swapsWith (.DictComp kx vx gs scope pos) (some (.Name y py)) l env = pure true := by
  have ky : env.kindOf y = some .local := hy
  have hb : env.blockKind = .function := by unfold Env.blockKind; rw [hk]; rfl
  unfold swapsWith
  simp only [hb, ky, ha, Expr.pos, hl]
  rfl
end
end Py

set_option Elab.async false
set_option linter.all false
set_option maxRecDepth 100000
set_option maxHeartbeats 2000000
/-! X1: an own error whose __init__ says super().__init__(x), self.x = x; its base is over ValueError. -/
namespace PyX
open PySem PySem.W PySem.Calls PyProof.Rows PySem.HandSPX
/-- what the written part says of the class C, its __init__ fI, that stands in the class D -/
structure ErrTxt (K : Frag) (prog : Program) (mg : Str → Option Value) (qual f : Str) (C D fI cc cda : Addr) : Prop where
  cls : ∃ nm q N bs bm sn sub ab col dd k0 k1 k2 k3 k5, K.lookup C = some (excClassObj nm q C N bs bm true sn sub ab col dd k0 k1 k2 k3 k5 "ValueError.__new__") ∧ refsVE bm = true
  sa : findIn K (.ref C) "__setattr__" = some (some (.builtin "object.__setattr__"))
  noN : findIn K (.ref C) f = some none
  iC : findIn K (.ref C) "__init__" = some (some (.ref fI))
  tC : typeIn K (.ref fI) = some (.type "function")
  fn : ∃ (oc : Value) (od : Option Addr) (doc pm : Value) (an : Option Addr) (ct : Value) (osl : Array (Option Value)) (p : Ps),
    K.lookup fI = some ⟨oc, od, .func (ksFn "__init__" qual (eArgs f p.a p.b) (eBody f p) (eScope f) .none .none doc pm an (.ref cda) ct cc), osl⟩ ∧ codeIn K (.ref cda) qual = true ∧ (p.e.endLine == p.h.line) = true
  code : ∃ ccl cdd vs ccs file tf, K.lookup cda = some ⟨ccl, cdd, .fields vs, ccs⟩ ∧ vs[2]? = some (.str file tf) ∧ ((prog.main.file : Str) == file) = true
  cell : ∃ cl cld csl, K.lookup cc = some ⟨cl, cld, .cell (some (.ref D)), csl⟩
  hD : ∃ c, clsIn K D = some c
  sub : mroIn K C (.ref D) = some true
  nsup : mg "super" = none
  htop : (prog.main.scope.names.lookup ("super" : Str)).isSome = false
  any : nsIn K cStatics "thirdparty.any" = some none
  sin : ks_superIn K C D "__init__" = some (some (.builtin "ValueError.__init__"))
  sve : subIn K (.ref C) (.type "ValueError") = some true
  fld : f = "reason" ∨ f = "at" ∨ f = "line"
theorem ErrTxt.fne {K : Frag} {prog : Program} {mg : Str → Option Value} {qual f : Str} {C D fI cc cda : Addr} (T : ErrTxt K prog mg qual f C D fI cc cda) : (f ≠ "self" ∧ (f == ("__debug__" : Str)) = false) ∧ (f == ("super" : Str)) = false ∧ (f == ("__class__" : Str)) = false := by
  rcases T.fld with rfl | rfl | rfl <;> exact ⟨⟨by decide, by decide⟩, by decide, by decide⟩
/-- what __init__ leaves of a fresh exception at x -/
structure InitEnd (h h' : Heap) (x C dx t1 : Addr) (f : Str) (v : Value) : Prop where
  keep : ∀ b o, b ≠ x → h.get? b = some o → h'.get? b = some o
  obj : h'.get? x = some { cls := .ref C, dict := some dx, data := .fields #[.ref t1, .none, .none, .none, .bool false, .none] }
  dbig : h.objs.size ≤ dx
  dne : dx ≠ x
  ns : h'.Ns1 dx (fun y => if y = f then some v else none)
section
variable {prog : Program} {w : World} {A : Around} {E : Value → Shared → Prop} {h : Heap} {g : Array GenState} {d : Drawn} {t : Nat} {os : OsState}
variable {nm q : Str} {C N : Addr} {bs bm : List Value} {hdct : Bool} {sn : List Str} {sub : List Value} {ab : Bool} {col : Option Bool} {dd : Option Addr} {k0 k1 k2 k3 k5 : Option Value}
/-- the bound __init__ of ValueError, called -/
theorem call_mw {u e t0 : Addr} {rest : List Value} {Q : Value → Shared → Prop} (hC : h.get? C = some (excClassObj nm q C N bs bm hdct sn sub ab col dd k0 k1 k2 k3 k5 "ValueError.__new__")) (he : h.get? e = some (excO C t0)) (hu : h.get? u = some (kxs_mw "ValueError.__init__" e)) (hz : rest.length ≤ sizeLine)
    (hq : ∀ h' t1, (∀ b o, b ≠ e → h.get? b = some o → h'.get? b = some o) → h'.get? e = some (excO C t1) → Q .none ⟨h', g, d, t, os⟩) : wpAny (model prog w) A (call (.ref u) rest) Q E ⟨h, g, d, t, os⟩ := by
  have kind : (Value.type "method-wrapper" == Value.type "method" || Value.type "method-wrapper" == Value.type "builtin_function_or_method" || Value.type "method-wrapper" == Value.type "method-wrapper") = true := by decide
  refine wpAny_call (codeAny_of_tree ?_)
  show wpAny _ A.in1 (callAny (.ref u) ⟨rest, []⟩) _ _ _
  simp only [callAny]
  refine wpAny_bind (wpAny_load hu ?_)
  simp only [kxs_mw, kind, if_true]
  refine KFB.if_so (by decide) (wpAny_bind (ESX.check_bound F.excBase_ValueError hC he rfl (wpAny_bind (wpAny_pure (wpAny_pure ?_)))))
  refine ⟨Code.quiet_builtin _ (by decide +kernel), codeAny_builtin F.excBase_ValueError.initEntry ?_⟩
  rw [Around.under_plainId F.excBase_ValueError.init.plain _]
  wp_walk
  refine hq _ h.objs.size (fun b o hb ho => ?_) ?_
  · exact (Heap.get?_update_other _ _ (Ne.symm hb)).trans (Heap.get?_push_of_some _ ho)
  · exact Heap.get?_update_self _ (Heap.get?_push_of_some _ he) rfl
end
end PyX

set_option Elab.async false
set_option linter.all false
set_option maxRecDepth 100000
set_option maxHeartbeats 2000000
/-! X2: the own __init__ runs. -/
namespace PyX
open PySem PySem.W PySem.Calls PyProof.Rows PySem.HandSPX
section
variable {prog : Program} {w : World} {A : Around} {E : Value → Shared → Prop} {R : Result → Shared → Prop} {s : Shared} {K : Frag} {mg mb : Str → Option Value} {qual f : Str} {C D fI cc cda : Addr}
theorem err_init (T : ErrTxt K prog mg qual f C D fI cc cda) {x t0 : Addr} {v : Value} (X : K.In s.heap) (hg : s.heap.Ns mainGlobals mg) (hb : s.heap.Ns builtinsNs mb) (hsup : mb "super" = some (.type "super")) (hlim : s.heap.NoLimit) (hx : s.heap.get? x = some (excO C t0)) (hnx : K.lookup x = none) (hroom : A.depth < recursionLimit)
    (hq : ∀ h' tk dx t1, InitEnd s.heap h' x C dx t1 f v → R (.ok (.ret .none)) { s with heap := h', toks := tk }) :
    codeAny (model prog w) A (.call (.ref fI) ⟨[.ref x, v], []⟩) R s := by
  obtain ⟨oc, od, doc, pm, an, ct, osl, p, ho, hcd, hline⟩ := T.fn
  obtain ⟨nm, q, N, bs, bm, sn, sub, ab, col, dd, k0, k1, k2, k3, k5, hC, hbm⟩ := T.cls
  have hcl : clsIn K C = some { name := nm, bases := bs, mro := .ref C :: bm, ns := N, qualname := q, hasDict := true, slotNames := sn, subclasses := sub, abstract := ab, collection := col, hasDel := false } := by unfold clsIn; rw [hC] <;> rfl
  have fs : (f == ("self" : Str)) = false := by simpa using T.fne.1.1
  refine ks_codeAny_call_defAt (fd := ksFn "__init__" qual (eArgs f p.a p.b) (eBody f p) (eScope f) .none .none doc pm an (.ref cda) ct cc) (body := eBody f p) (binds := [("self", .ref x), (f, v)]) hroom (X _ _ ho) rfl hlim (codeRec_of X hcd) rfl ?_ ?_ ?_ (fun h₁ hns hk => ?_)
  · rcases T.fld with rfl | rfl | rfl <;> exact BindsTo.of_eq (by first | rfl | with_unfolding_all rfl)
  · intro y hy
    have hy : y = ((("self" : Str), NameKind.local) : Str × NameKind) ∨ y = ((f, NameKind.local) : Str × NameKind) ∨ y = ((("__class__" : Str), NameKind.free) : Str × NameKind) ∨ y = ((("super" : Str), NameKind.globalImplicit) : Str × NameKind) := by
      have q : y ∈ ([(("self" : Str), NameKind.local), (f, NameKind.local), (("__class__" : Str), NameKind.free), (("super" : Str), NameKind.globalImplicit)] : List (Str × NameKind)) := hy
      simpa using q
    rcases hy with rfl | rfl | rfl | rfl <;> exact nofun
  · intro y hy
    have hy : y = ((("self" : Str), Value.ref x) : Str × Value) ∨ y = ((f, v) : Str × Value) := by simpa using hy
    rcases hy with rfl | rfl
    · rfl
    · show List.lookup f [(("self" : Str), NameKind.local), (f, NameKind.local), (("__class__" : Str), NameKind.free), (("super" : Str), NameKind.globalImplicit)] = _
      rw [List.lookup_cons, fs, List.lookup_cons, beq_self_eq_true]
  have hxl : x < s.heap.objs.size := Heap.lt_size hx
  have X₁ : K.In h₁ := X.keeps hk
  have hx₁ := hk _ _ hx
  have mv : ([(("self" : Str), Value.ref x), (f, v)].reverse.lookup ("self" : Str)) = some (Value.ref x) := by
    show List.lookup ("self" : Str) [(f, v), (("self" : Str), Value.ref x)] = _
    have sf : (("self" : Str) == f) = false := by simpa using Ne.symm T.fne.1.1
    rw [List.lookup_cons, sf]; rfl
  have mf : ([(("self" : Str), Value.ref x), (f, v)].reverse.lookup f) = some v := by
    show List.lookup f [(f, v), (("self" : Str), Value.ref x)] = _
    rw [List.lookup_cons, beq_self_eq_true]
  have kf : (callEnv (ksFn "__init__" qual (eArgs f p.a p.b) (eBody f p) (eScope f) .none .none doc pm an (.ref cda) ct cc) s.heap.objs.size fI).kindOf f = some .local := by
    show List.lookup f [(("self" : Str), NameKind.local), (f, NameKind.local), (("__class__" : Str), NameKind.free), (("super" : Str), NameKind.globalImplicit)] = _
    rw [List.lookup_cons, fs, List.lookup_cons, beq_self_eq_true]
  obtain ⟨ccl, cdd, vs, ccs, file, tf, hcode, hvs, hfile⟩ := T.code
  obtain ⟨cl, cld, csl, hcell⟩ := T.cell
  obtain ⟨cD, hD⟩ := T.hD
  generalize henv : callEnv (ksFn "__init__" qual (eArgs f p.a p.b) (eBody f p) (eScope f) .none .none doc pm an (.ref cda) ct cc) s.heap.objs.size fI = env at kf ⊢
  have e1 : env.scope = eScope f := by rw [← henv]; rfl
  have e2 : env.locals = s.heap.objs.size := by rw [← henv]; rfl
  have e3 : env.globals = mainGlobals := by rw [← henv]; rfl
  have e4 : env.builtins = builtinsNs := by rw [← henv]; rfl
  have e5 : env.cells = [(("__class__" : Str), cc)] := by rw [← henv]; rfl
  have e6 : env.func = some fI := by rw [← henv]; rfl
  have e7 : env.code = .ref cda := by rw [← henv]; rfl
  have kfun : env.scope.kind = .function := by rw [e1]; rfl
  have klook : ∀ (y : Str) k, (y == ("self" : Str)) = false → (y == f) = false → List.lookup y [(("__class__" : Str), NameKind.free), (("super" : Str), NameKind.globalImplicit)] = k → env.kindOf y = k := fun y k a b c => by
    show env.scope.names.lookup y = k
    rw [e1]
    show List.lookup y [(("self" : Str), NameKind.local), (f, NameKind.local), (("__class__" : Str), NameKind.free), (("super" : Str), NameKind.globalImplicit)] = k
    rw [List.lookup_cons, a, List.lookup_cons, b]
    exact c
  have ksf : env.kindOf "self" = some .local := by
    show env.scope.names.lookup _ = _
    rw [e1]; rfl
  have kss : env.kindOf "super" = some .globalImplicit := klook "super" _ (by decide) (by have q := T.fne.2.1; rw [beq_eq_false_iff_ne] at q ⊢; exact Ne.symm q) rfl
  have ksc : env.kindOf "__class__" = some .free := klook "__class__" _ (by decide) (by have q := T.fne.2.2; rw [beq_eq_false_iff_ne] at q ⊢; exact Ne.symm q) rfl
  have hnsL : h₁.Ns env.locals (fun y => [(("self" : Str), Value.ref x), (f, v)].reverse.lookup y) := by rw [e2]; exact hns
  obtain ⟨oD, hD1, hD2⟩ : ∃ oD, h₁.get? D = some oD ∧ oD.data = .cls cD := by
    unfold clsIn at hD
    split at hD
    · rename_i ho
      cases hD
      exact ⟨_, X₁ _ _ ho, rfl⟩
    · cases hD
  have I₁ : InstAt h₁ x (excO C t0) C none := ⟨hx₁, rfl, rfl, trivial⟩
  -- super().__init__(f)
  refine ks_wpAt_execs_cons (ks_wpAt_Expr_any ?_ (by unfold interactive; rw [kfun]; rfl) rfl)
  have hpos : ∀ o env, methodCallPos true o env p.e p.h = pure p.h := fun o env => by
    unfold methodCallPos
    rw [if_pos (by rw [hline]; rfl)]
  refine ks_wpAt_MethodCall (pl := do return (← importBound (.Call (.Name "super" p.c) [] [] p.d) env).getD true) ?_ (by
    show (do
      let ov ← attributeBase (.Call (.Name "super" p.c) [] [] p.d) "__init__" env (eval (.Call (.Name "super" p.c) [] [] p.d) env)
      standAt p.e.atName
      methodCall (.Call (.Name "super" p.c) [] [] p.d) "__init__" p.e p.h env ov 1 (backTo p.h (starEach [.Name f p.g] env)) []) = _
    unfold methodCall
    have hf : ∀ l, methodCallForm 1 (backTo p.h (starEach [.Name f p.g] env)) l = methodCallForm 1 [(false, eval (.Name f p.g) env)] l := fun _ => rfl
    have ht : methodCallForm 1 (backTo p.h (starEach [.Name f p.g] env)) [] = true := rfl
    simp only [ht, hpos, pure_bind]
    rfl)
  refine ks_wpAt_super_base kss ksc rfl e6 (X₁ _ _ ho) rfl rfl e7 (X₁ _ _ hcode) rfl hvs hfile T.htop ?_
  refine ks_loadName_global kfun kss (loadGlobal_builtin (mb := mb) (by rw [e3]; exact hg.keeps hk) T.nsup (by rw [e4]; exact hb.keeps hk) hsup ⟨rfl, ?_⟩)
  refine wpAny_loadName_free kfun ksc (by rw [e5]; rfl) ⟨_, X₁ _ _ hcell, rfl⟩ ?_
  refine wpAny_loadName_local kfun ksf hnsL mv ?_
  refine ks_wpAny_isType_cls hD1 hD2 ⟨rfl, ?_⟩
  refine ks_wpAny_call_super hD1 hD2 hx₁ rfl (fun c e => nomatch e) (looks_mroIn X₁ T.sub) (fun h₂ so2 k₂ => ?_)
  have X₂ : K.In h₂ := X₁.keeps k₂
  have hx₂ := k₂ _ _ hx₁
  have I₂ : InstAt h₂ x (excO C t0) C none := ⟨hx₂, rfl, rfl, trivial⟩
  have hm : alongIn K "__init__" (((Value.ref C :: bm).dropWhile (· != .ref D)).drop 1) = some (some (.builtin "ValueError.__init__")) := by
    have q := T.sin
    unfold ks_superIn at q
    rw [hcl] at q
    exact q
  refine kxs_getMethod kxs_ValueError so2 (looks_opaque X₂ T.any) (l₀ := .ref C :: bm) ?_ rfl X₂ hm (I₂.type.andThen (looks_subIn X₂ T.sve)) (ks_ne X₂ I₂ hcl) rfl ?_
  · exact fun A Q E s k q => wpAny_bind ((looks_clsIn X₂ hcl) A _ E s k (wpAny_pure q))
  have k₃ : ∀ b o, h₂.get? b = some o → (h₂.push (kxs_mw "ValueError.__init__" x)).get? b = some o := fun b o e => Heap.get?_push_of_some _ e
  have X₃ : K.In (h₂.push (kxs_mw "ValueError.__init__" x)) := X₂.keeps k₃
  have ns₃ : (h₂.push (kxs_mw "ValueError.__init__" x)).Ns env.locals (fun y => [(("self" : Str), Value.ref x), (f, v)].reverse.lookup y) := (hnsL.keeps k₂).keeps k₃
  refine kxs_callWith (i := "ValueError.__init__") (x := x) rfl (evalArgs_plain (spliced_cons (wpAny_Name (wpAny_loadName_local kfun kf ns₃ mf ?_) T.fne.1.2)))
  refine spliced_nil ⟨Heap.get?_push_size _ rfl, ?_⟩
  show wpAny _ _ (call (.ref h₂.objs.size) [v]) _ _ _
  refine call_mw (X₃ _ _ hC) (k₃ _ _ hx₂) (Heap.get?_push_size _ rfl) (by show 1 ≤ sizeLine; decide) fun h₄ t1 k₄ hx₄ => ?_
  -- self.f = f
  have neL : s.heap.objs.size ≠ x := Nat.ne_of_gt hxl
  have X₄ : K.In h₄ := fun a o e => k₄ a o (fun z => by rw [z, hnx] at e; cases e) (X₃ a o e)
  have ns₄ : h₄.Ns env.locals (fun y => [(("self" : Str), Value.ref x), (f, v)].reverse.lookup y) := by
    obtain ⟨oL, es, ep, hL, r⟩ := ns₃
    exact ⟨oL, es, ep, k₄ _ _ (by rw [e2]; exact neL) hL, r⟩
  refine wpAt_of_wpAny (wpAny_execs_cons (plainObj_wpAny_Assign_Attribute ?_))
  refine wpAny_Name (wpAny_loadName_local kfun kf ns₄ mf (wpAny_Name (wpAny_loadName_local kfun ksf ns₄ mv ?_) (by decide))) T.fne.1.2
  refine set_plain X₄ (ox := excO C t1) (od := none) ⟨hx₄, rfl, rfl, trivial⟩ T.sa ?_
  refine exc_osa X₄ hx₄ hcl (show refsVE (.ref C :: bm) = true from hbm) rfl T.noN (fun h₅ tk₅ dx k₅ dn dne hx₅ hn₅ => ?_)
  have sz : s.heap.objs.size ≤ h₄.objs.size := by
    have q := ns₄.lt
    rw [e2] at q
    exact Nat.le_of_lt q
  exact wpAny_execs_nil (hq h₅ tk₅ dx t1 ⟨fun b o hb e => k₅ b o hb (k₄ b o hb (k₃ b o (k₂ b o (hk b o e)))), hx₅, Nat.le_trans sz dn, dne, hn₅⟩)
/-- a made error -/
structure Made (h h' : Heap) (e C d : Addr) (f : Str) (v : Value) : Prop where
  keep : ∀ b o, h.get? b = some o → h'.get? b = some o
  new : h.objs.size ≤ e
  obj : ∃ oe vs, h'.get? e = some oe ∧ oe.cls = .ref C ∧ oe.dict = some d ∧ oe.data = .fields vs ∧ vs[1]? = some .none
  dbig : h.objs.size ≤ d
  dne : d ≠ e
  ns : h'.Ns1 d (fun y => if y = f then some v else none)
theorem err_made (T : ErrTxt K prog mg qual f C D fI cc cda) {v : Value} (X : K.In s.heap) (hg : s.heap.Ns mainGlobals mg) (hb : s.heap.Ns builtinsNs mb) (hsup : mb "super" = some (.type "super")) (hlim : s.heap.NoLimit) (hroom : A.depth + 1 < recursionLimit)
    (hq : ∀ h' tk e d, Made s.heap h' e C d f v → R (.ok (.ret (.ref e))) { s with heap := h', toks := tk }) : codeAny (model prog w) A (.call (.ref C) ⟨[v], []⟩) R s := by
  obtain ⟨nm, q, N, bs, bm, sn, sub, ab, col, dd, k0, k1, k2, k3, k5, hC, hbm⟩ := T.cls
  obtain ⟨hp, g, dr, tk, os⟩ := s
  have up : ∀ b o, hp.get? b = some o → ((hp.push (kdv_tup [v])).push (excO C hp.objs.size)).get? b = some o := fun b o e => Heap.get?_push_of_some _ (Heap.get?_push_of_some _ e)
  have at1 : ((hp.push (kdv_tup [v])).push (excO C hp.objs.size)).get? (hp.objs.size + 1) = some (excO C hp.objs.size) := by heap_get
  have away : K.lookup (hp.objs.size + 1) = none := by
    cases e : K.lookup (hp.objs.size + 1) with
    | none => rfl
    | some o => exact absurd (Nat.lt_of_succ_lt (Heap.lt_size (show hp.get? (hp.objs.size + 1) = some o from X _ _ e))) (Nat.lt_irrefl _)
  refine call_own F.excBase_ValueError (fun X => refsVE_contains X bm hbm) (X _ _ hC) (looks_findIn X T.iC) (fun self => bind_fn X self T.tC) (by show 1 ≤ sizeLine; decide) ?_
  refine err_init (s := ⟨(hp.push (kdv_tup [v])).push (excO C hp.objs.size), g, dr, tk, os⟩) T (X.keeps up) (hg.keeps up) (hb.keeps up) hsup (hlim.keeps up) at1 away (show A.depth + 1 < recursionLimit from hroom) fun h' tk' dx t1 M => ?_
  have old : ∀ b o, hp.get? b = some o → h'.get? b = some o := fun b o e => M.keep b o (Nat.ne_of_lt (Nat.lt_succ_of_lt (Heap.lt_size e))) (up b o e)
  have big : hp.objs.size + 1 + 1 ≤ dx := by
    have q := M.dbig
    first
      | (simpa only [Heap.size_push] using q)
      | exact q
      | (rw [Heap.size_push, Heap.size_push] at q; exact q)
  exact ⟨rfl, hq h' tk' (hp.objs.size + 1) dx ⟨old, Nat.le_succ _, ⟨_, _, M.obj, rfl, rfl, rfl, rfl⟩, Nat.le_trans (Nat.le_trans (Nat.le_succ _) (Nat.le_succ _)) big, M.dne, M.ns⟩⟩
end
end PyX

set_option Elab.async false
set_option linter.all false
set_option maxRecDepth 100000
set_option maxHeartbeats 2000000
/-! X3: raising own errors. -/
namespace Py
open PySem PySem.Spec L2
theorem relO_f {v : V} {u : Value} (r : RelV v u) (f y : Str) : RelO (List.lookup y [(f, v)]) (if y = f then some u else none) := by
  rw [List.lookup_cons]
  by_cases e : y = f
  · subst e
    rw [if_pos rfl, beq_self_eq_true]
    exact r
  · rw [if_neg e, beq_eq_false_iff_ne.mpr e]
    trivial
section
variable {X : Cx} {B : Gb} {T : Tab} {W : WX} {qual f : Str} {C D fI cc cda : Addr} {x : Str} {a : Expr} {p pos pos2 : Pos} {k : Nat} {ia : E}
/-- x(a), x an own error of one field -/
theorem pmk_err {ta : TA} (T : PyX.ErrTxt X.K X.prog X.mg qual f C D fI cc cda) (hr : Room k X.A) (ha : PA X [a] ta) (hg : Gl X x) (hm : X.mg x = some (.ref C)) (hk : PySem.W.keepIn X.K (.ref C) = true) (hra : Raises X (.ref C)) (hdb : (x == ("__debug__" : Str)) = false) (hp : plainX a = true) :
    PMk X (.Call (.Name x p) [a] [] pos) (fun σ H Q => ta σ H fun vs H1 => ∃ v, vs = [v] ∧ ∀ d, H1 d = none → Q (.ref C) (some d) (upd H1 d (.xd [(f, v)]))) := by
  intro pins s σ H Q I h
  refine wpAny_Call_Name_kw (ld_glob I hg hm ?_ hdb)
  refine PySem.W.callWith_K (h₀ := X.base) I.ok.mod.kin hk (thn (ha.run pos pins s σ H _ I h) fun us s1 ⟨vs, H1, I1, r1, v, ev, q1⟩ => ⟨I1.kIn, ?_⟩) (star1 hp) rfl
  subst ev
  cases r1 with
  | cons rv rn =>
    rename_i u us'
    cases rn
    have lim := I1.nolimit
    obtain ⟨mb, hb, hbs⟩ := I1.mod.blt
    have gg := I1.mod.glob.keeps I1.bk
    have gb := hb.keeps I1.bk
    obtain ⟨hp, g, dr, tk, os⟩ := s1
    refine wpAny_call (PyX.err_made T I1.kIn gg gb ((hbs "super" (by decide)).trans (by decide +kernel)) lim (by have := hr.dp; omega) fun h' tk' e d M => ?_)
    show MkP X pins σ Q (.ref e) ⟨h', g, dr, tk', os⟩
    obtain ⟨oe, fv, hoe, hc, hd, hdat, h1⟩ := M.obj
    obtain ⟨G, g1, g2⟩ := restrict h' fun b => decide (b ≠ e)
    have gk : ∀ b, b ≠ e → G.get? b = h'.get? b := fun b hb => g1 b (decide_eq_true hb)
    have ge : G.get? e = none := g2 e (by simp)
    have old : ∀ b o, hp.get? b = some o → G.get? b = some o := fun b o z => (gk b (Nat.ne_of_lt (Nat.lt_of_lt_of_le (Heap.lt_size z) M.new))).trans (M.keep b o z)
    have ob : ObjOk X.prog X.w (upd H1 d (.xd [(f, v)])) G d (.xd [(f, v)]) := ⟨_, M.ns.at (fun o z => (gk d M.dne).trans z), fun y => relO_f rv f y⟩
    have J : Inv X pins σ (upd H1 d (.xd [(f, v)])) ⟨G, g, dr, tk', os⟩ := I1.laid (t' := tk') old M.dbig ob
    refine ⟨e, oe, fv, ⟨G, g, dr, tk', os⟩, _, .ref C, some d, rfl, J, fun b o z => ?_, ge, hoe, ⟨hc, hd⟩, hdat, h1, ?_, rfl, I1.bare, hra, q1 d (I1.hok.fresh M.dbig)⟩
    · by_cases hb : b = e
      · rw [hb] at z
        exact absurd (ge.symm.trans z) nofun
      · exact (gk b hb).symm.trans z
    · rw [upd_ne (Ne.symm M.dne)]
      exact I1.hok.fresh M.new
end
end Py

set_option Elab.async false
set_option linter.all false
set_option maxRecDepth 100000
set_option maxHeartbeats 2000000
/-! X4: several except clauses, each with its name. -/
namespace Py
open PySem PySem.Spec L2
/-- one clause: the class, the name's place, its suite's reading -/
structure Cl where
  cls : Value
  pl : Option Nat
  ts : Addr → Value → Option Addr → TS
def Ends.off (D : Ends) (i : Nat) : Ends := ⟨fun q Z => D.nx (q.set i none) Z, D.rt, fun q Z => D.bk (q.set i none) Z, fun q Z => D.ct (q.set i none) Z⟩
/-- what the clauses want of an error of the body -/
def wCls (K : PySem.W.Frag) (W : WX) (D : Ends) : List Cl → WX
  | [] => W
  | cl :: r => fun ec ed q Z => ∃ hit, PySem.W.exmOne K ec cl.cls = some hit ∧ (hit = true → ∀ e, Z e = none → match cl.pl with
    | some i => cl.ts e ec ed (Ends.off D i) (q.set i (some (.ref e))) Z
    | none => cl.ts e ec ed D q Z) ∧ (hit = false → wCls K W D r ec ed q Z)
/-- the clauses' texts keep to it -/
inductive ClsOk (X : Cx) : List ExceptHandler → List Cl → Prop
  | nil : ClsOk X [] []
  | anon {x : Str} {cl : Cl} {st : Stmt} {sts : List Stmt} {xp hp : Pos} {hds : List ExceptHandler} {cls : List Cl} (nm : Names X x cl.cls) (pl : cl.pl = none)
      (su : ∀ (e : Addr) (eo : Obj) (ec : Value) (ed : Option Addr) (pn : List (Addr × Obj)), Zc ec ed eo → (∃ fs, eo.data = .fields fs) → PSs (X.suite e ((e, eo) :: pn)) (st :: sts) (cl.ts e ec ed)) (rest : ClsOk X hds cls) :
      ClsOk X (.ExceptHandler (some (.Name x xp)) none (st :: sts) hp :: hds) (cl :: cls)
  | cons {x y : Str} {i : Nat} {cl : Cl} {st : Stmt} {sts : List Stmt} {xp hp : Pos} {hds : List ExceptHandler} {cls : List Cl} (nm : Names X x cl.cls) (hpl : cl.pl = some i) (pl : X.N[i]? = some y) (lc : X.env.kindOf y = some .local)
      (su : ∀ (e : Addr) (eo : Obj) (ec : Value) (ed : Option Addr) (pn : List (Addr × Obj)), Zc ec ed eo → (∃ fs, eo.data = .fields fs) → PSs (X.suite e ((e, eo) :: pn)) (st :: sts) (cl.ts e ec ed)) (rest : ClsOk X hds cls) :
      ClsOk X (.ExceptHandler (some (.Name x xp)) (some y) (st :: sts) hp :: hds) (cl :: cls)
section
variable {X : Cx} {body : List Stmt} {hd1 : ExceptHandler} {hds : List ExceptHandler} {cls : List Cl} {pos : Pos} {tb : WX → TS} {W : WX}
theorem ps_tryN (stk : X.stack = X.env :: X.outer) (fra : X.env.frame = some X.env.locals) (nd : X.N.Nodup) (tk : Takes X W)
    (hb : ∀ (W : WX) (pn : List (Addr × Obj)) (xe : Value → Shared → Prop), Takes (X.tr pn xe) W → PassesOwn (model X.prog X.w) X.A X.env xe → PSs (X.tr pn xe) body (tb W)) (ho : ClsOk X (hd1 :: hds) cls) :
    PS X (.Try body (hd1 :: hds) [] [] pos) (fun D q Z => tb (wCls X.K W D cls) D q Z) := by
  refine ⟨fun pins sh q Z D I h => ?_⟩
  have okX := I.ok
  have frm : X.A.frames = some (X.env :: X.outer) := by rw [okX.frames, stk]
  refine wpAny_Try_except ?_
  refine wpAny_mono ((hb (wCls X.K W D cls) (X.pn ++ pins) (fun er s1 => wpAny (model X.prog X.w) X.A (noteFrame er X.env) (fun _ s2 => wpAny (model X.prog X.w) X.A (setFlight er none) (fun _ s3 => wpAny (model X.prog X.w) X.A (handleBy er X.env (hd1 :: hds)) (SP X pins D) X.xe s3) X.xe s2) X.xe s1)
    (fun u sx air => ?_) PassesOwn.looking).run [] sh q Z D (I.toTry _) h) (fun fl s1 sp => ?_) (fun _ _ z => z)
  · skip
    obtain ⟨e, G, sI, pins1, q1, Z1, ec, ed, rfl, I1, nb, up, sky, fre, oss, bare, wish⟩ := air
    have J : Inv X pins q1 Z1 sI := I1.ofTry okX
    have skyE : Sky G (X.env :: X.outer) e (Zc ec ed) X.env.locals sx.heap := by rw [← stk]; exact sky
    show wpAny (model X.prog X.w) X.A (noteFrame (.ref e) X.env) _ _ _
    refine Sky.land Zc.steady frm fra skyE fun g3 fly3 up3 => ?_
    have J3 : Inv X pins q1 Z1 { sx with heap := g3 } := J.landed nb fly3.1 (up.trans up3) oss bare
    obtain ⟨eo3, fs3, at3, zc3, dat3⟩ := fly3.there
    have noFrame : e ∉ frs (X.env :: X.outer) := fun mem => by
      obtain ⟨_, o, eqo, nofs⟩ := fly3.2.2.1.mem mem
      rw [at3] at eqo
      cases eqo
      exact nofs _ dat3
    have noLoc : e ≠ X.env.locals := fun z => noFrame (List.mem_filterMap.mpr ⟨X.env, List.mem_cons_self, by rw [fra, z]⟩)
    have noOut : e ∉ X.fs := fun mem => by
      obtain ⟨v, hv, eq⟩ := List.mem_filterMap.mp mem
      exact noFrame (List.mem_filterMap.mpr ⟨v, List.mem_cons_of_mem _ hv, eq⟩)
    have S3 := J3.suite at3 dat3 fre noLoc noOut
    have walk : ∀ {hs' : List ExceptHandler} {cs' : List Cl}, ClsOk X hs' cs' → wCls X.K W D cs' ec ed q1 Z1 → wpAny (model X.prog X.w) X.A (handleBy (.ref e) X.env hs') (SP X pins D) X.xe { sx with heap := g3 } := by
      intro hs' cs' hk
      induction hk with
      | nil =>
        intro wish
        refine wpAny_handleBy_nil ?_
        obtain ⟨y1, y2, y3, o, fs, T, oT, ts', atE, zcE, datE, tr1, trs⟩ := id fly3
        unfold PySem.passOn
        refine wpAny_bind (wpAny_field atE datE tr1 ?_)
        rw [if_neg (by simp)]
        have fin : wpAny (model X.prog X.w) X.A (setFlight (.ref e) X.env.frame) (fun _ s4 => wpAny (model X.prog X.w) X.A (throw (.ref e) : Sem PySem.Flow) (SP X pins D) X.xe s4) X.xe { sx with heap := g3 } := by
          rw [fra]
          refine HandSPX.setFlight_upZ fly3 fun g4 hld up4 => wpAny_throw (tk _ _ ⟨e, G, sI, pins, q1, Z1, ec, ed, rfl, J, nb, (up.trans up3).trans up4, .inr (.inr (by rw [stk]; exact hld)), fre, oss, bare, wish⟩)
        first
          | exact wpAny_bind fin
          | exact wpAny_bind (wpAny_pure (wpAny_bind fin))
      | @anon x cl st sts xp hp hds2 cls2 nm pl su rest ih =>
        intro wish
        obtain ⟨hit, ex1, yes, no⟩ := wish
        refine wpAny_handleBy_cons (codeAny_handlers_test ?_) (by intro z; cases z)
        have kindE : PySem.W.Looks (model X.prog X.w) g3 (typeOf (.ref e)) ec := fun A Q E s k z => wpAny_typeOf_ref (k _ _ at3) (by rw [zc3.1]; exact z)
        have tests := PySem.W.exm_one (M := model X.prog X.w) (J3.kIn) kindE ex1
        have named : ∀ {Q E : Value → Shared → Prop}, Q cl.cls { sx with heap := g3 } → wpAny (model X.prog X.w) (X.A.mark (some (.ref e))) (eval (.Name x xp) X.env) Q E { sx with heap := g3 } := fun {Q E} z => by
          obtain ⟨gl, ndb, m1 | ⟨m1, m2, m3⟩⟩ := nm
          · exact ld_glob (X := X.suite e ((e, eo3) :: (X.pn ++ pins))) S3 gl m1 z ndb
          · exact ld_blt (X := X.suite e ((e, eo3) :: (X.pn ++ pins))) S3 gl m1 m2 z m3 ndb
        refine named (tests.here ?_)
        cases hit with
        | false => exact ih (no rfl)
        | true =>
          refine codeAny_handlers_suite ?_
          refine HandSPX.lands_againZ fly3 fun g4 fly4 up4 => ?_
          have J4 : Inv X pins q1 Z1 { sx with heap := g4 } := J.landed nb fly4.1 ((up.trans up3).trans up4) oss bare
          obtain ⟨eo4, fs4, at4, zc4, dat4⟩ := fly4.there
          have S4 := J4.suite at4 dat4 fre noLoc noOut
          have yes := yes rfl e fre
          rw [pl] at yes
          refine wpAny_mono ((su e eo4 ec ed (X.pn ++ pins) zc4 ⟨_, dat4⟩).run [] _ _ Z1 _ S4 yes) (fun fl s6 sp => ?_) (fun _ _ z => False.elim z)
          cases fl with
          | next => obtain ⟨q6, Z6, S6, d6⟩ := sp; exact ⟨_, _, S6.unsuite okX, d6⟩
          | brk => obtain ⟨q6, Z6, S6, d6⟩ := sp; exact ⟨_, _, S6.unsuite okX, d6⟩
          | cont => obtain ⟨q6, Z6, S6, d6⟩ := sp; exact ⟨_, _, S6.unsuite okX, d6⟩
          | ret u => obtain ⟨v6, q6, Z6, S6, r6, d6⟩ := sp; exact ⟨_, _, _, S6.unsuite okX, r6, d6⟩
      | @cons x y i cl st sts xp hp hds2 cls2 nm hpl pl lc su rest ih =>
        intro wish
        obtain ⟨hit, ex1, yes, no⟩ := wish
        have lc2 : L2.Loc X.env.scope y := .inl lc
        refine wpAny_handleBy_cons (codeAny_handlers_test ?_) (by intro z; cases z)
        have kindE : PySem.W.Looks (model X.prog X.w) g3 (typeOf (.ref e)) ec := fun A Q E s k z => wpAny_typeOf_ref (k _ _ at3) (by rw [zc3.1]; exact z)
        have tests := PySem.W.exm_one (M := model X.prog X.w) (J3.kIn) kindE ex1
        have named : ∀ {Q E : Value → Shared → Prop}, Q cl.cls { sx with heap := g3 } → wpAny (model X.prog X.w) (X.A.mark (some (.ref e))) (eval (.Name x xp) X.env) Q E { sx with heap := g3 } := fun {Q E} z => by
          obtain ⟨gl, ndb, m1 | ⟨m1, m2, m3⟩⟩ := nm
          · exact ld_glob (X := X.suite e ((e, eo3) :: (X.pn ++ pins))) S3 gl m1 z ndb
          · exact ld_blt (X := X.suite e ((e, eo3) :: (X.pn ++ pins))) S3 gl m1 m2 z m3 ndb
        refine named (tests.here ?_)
        cases hit with
        | false => exact ih (no rfl)
        | true =>
          refine codeAny_handlers_suite_as ?_
          refine HandSPX.lands_againZ fly3 fun g4 fly4 up4 => ?_
          have J4 : Inv X pins q1 Z1 { sx with heap := g4 } := J.landed nb fly4.1 ((up.trans up3).trans up4) oss bare
          obtain ⟨eo4, fs4, at4, zc4, dat4⟩ := fly4.there
          have yes := yes rfl e fre
          rw [hpl] at yes
          refine store_ok (X := X.suite e ((e, eo4) :: (X.pn ++ pins))) (v := .ref e) (J4.suite at4 dat4 fre noLoc noOut) nd pl lc2 rfl (fun s5 S5 => ?_) (.inr lc)
          refine wpAny_mono ((su e eo4 ec ed (X.pn ++ pins) zc4 ⟨_, dat4⟩).run [] s5 _ Z1 _ S5 yes) (fun fl s6 sp => ?_) (fun _ _ z => False.elim z)
          have drop : ∀ {q6 : L2.St} {Z6 : Hp} {Q : Shared → Prop}, Inv (X.suite e ((e, eo4) :: (X.pn ++ pins))) [] q6 Z6 s6 → (∀ s7, Inv X pins (q6.set i none) Z6 s7 → Q s7) →
              wpAny (model X.prog X.w) X.A (do bindName X.env y .none; unbindBehindTheSuite X.env y hp) (fun _ s7 => Q s7) X.xe s6 := fun {q6 Z6 Q} S6 k => gone_ok (S6.unsuite okX) nd pl lc k
          cases fl with
          | next => obtain ⟨q6, Z6, S6, d6⟩ := sp; exact drop S6 fun s7 J7 => ⟨_, _, J7, d6⟩
          | brk => obtain ⟨q6, Z6, S6, d6⟩ := sp; exact drop S6 fun s7 J7 => ⟨_, _, J7, d6⟩
          | cont => obtain ⟨q6, Z6, S6, d6⟩ := sp; exact drop S6 fun s7 J7 => ⟨_, _, J7, d6⟩
          | ret u => obtain ⟨v6, q6, Z6, S6, r6, d6⟩ := sp; exact drop S6 fun s7 J7 => ⟨_, _, _, J7, r6, d6⟩
    exact walk ho wish
  · skip
    cases fl with
    | next => obtain ⟨q6, Z6, S6, d6⟩ := sp; exact wpAny_execs_nil ⟨q6, Z6, S6.ofTry okX, d6⟩
    | brk => obtain ⟨q6, Z6, S6, d6⟩ := sp; exact ⟨q6, Z6, S6.ofTry okX, d6⟩
    | cont => obtain ⟨q6, Z6, S6, d6⟩ := sp; exact ⟨q6, Z6, S6.ofTry okX, d6⟩
    | ret u => obtain ⟨v6, q6, Z6, S6, r6, d6⟩ := sp; exact ⟨v6, q6, Z6, S6.ofTry okX, r6, d6⟩
end
end Py

set_option Elab.async false
set_option linter.all false
set_option maxRecDepth 100000
set_option maxHeartbeats 4000000
/-! C12: the surroundings of a body; expressions that are looked at keep to their reading. -/
namespace Py
open PySem PySem.Spec L2
section
variable {X : Cx} {B : Gb} {T : Tab} {W : WX} {a b : Expr} {pos p1 p2 q1 q2 : Pos} {o o1 o2 : Bool} {ia ib : E}
theorem o_rep {x : Str} (hK : B.K = X.K) (hu : X.A.units + 190 < cLine) (hgd : X.A.guards = some []) (hx : x = "repr") (hg : Gl X x) (hm : X.mg x = none) (hp : plainX a = true) (ha : PE X a (tE B T W true ia)) :
    PE X (.Call (.Name x p1) [a] [] p2) (tCB (rRep1 B) (tA B T W true (.cons ia .nil))) := by
  subst hx
  exact pe_callB (call_rep hK hu hgd) hg hm PyProof.Rows.boot_repr (o_cons ha o_nil (star1 hp)) (by decide) (by decide) (star1 hp) rfl
theorem req_rd {ng : Bool} : ∀ σ H Q, tE B T W o (.req ng ia ib) σ H Q → tOp (if ng then rNe else rEq) (tCB (rRep1 B) (tA B T W true (.cons ia .nil))) (tCB (rRep1 B) (tA B T W true (.cons ib .nil))) σ H fun v H' => ∃ k, v = .bl k ∧ ∀ F, Rq B o F H' v (.bl k) → Q v H' := by
  rintro σ H Q ⟨F, env, ad, n, s, en, h⟩
  dsimp only [ev] at h
  have one : ∀ {i : E} {f : D → Nat → Res D} {post : D → Nat → Hp → Hp → Prop} {F H : Hp} {n : Nat} {Q : List V → Hp → Prop}, St0 B.K B.O F H n → EnOk B.K B.O F H σ env ad → R B W σ F H n ((ev T i env n).bind f) post →
      (∀ d n1 F1 H1, St0 B.K B.O F1 H1 n1 → EnOk B.K B.O F1 H1 σ env ad → R B W σ F1 H1 n1 (f d n1) post → ∀ v, RpO B.K B.O F1 H1 v d → Q [v] H1) → tA B T W true (.cons i .nil) σ H Q := by
    intro i f post F H n Q s en h k
    refine ⟨F, env, ad, n, s, en, ?_⟩
    dsimp only [evs]
    cases ea : ev T i env n with
    | bad => rw [ea] at h; exact h.elim
    | exc e m => rw [ea] at h; exact h
    | ok d n1 =>
      rw [ea] at h
      simp only [Res.bind_ok] at h ⊢
      intro F1 H1 e1 vs rvs
      obtain ⟨v, rfl, rv⟩ := RqA.one rvs
      exact k d n1 F1 H1 (s.ext e1) (en.ext e1) (R.shift h e1) v rv
  refine one (Q := fun vs H1 => rRep1 B vs H1 _) s en h fun d n1 F1 H1 s1 en1 h1 v rv => ?_
  split at h1
  · rename_i c1
    refine ⟨F1, n1, d, v, s1, rfl, rv, c1, one s1 en1 h1 fun d2 n2 F2 H2 s2 en2 h2 w rw' => ?_⟩
    split at h2
    · rename_i c2
      refine ⟨F2, n2, d2, w, s2, rfl, rw', c2, ?_⟩
      have q := h2 F2 H2 (Ext.refl s2) _ (Rq.of (.bl _))
      cases ng with
      | true =>
        refine ⟨rfl, _, rfl, fun _ _ => ?_⟩
        rw [dec_str]
        simpa using q
      | false =>
        refine ⟨rfl, _, rfl, fun _ _ => ?_⟩
        rw [dec_str]
        simpa using q
    · exact h2.elim
  · exact h1.elim
theorem tOp_mono {r : R2} (hr : ∀ x y H Q Q', (∀ v H', Q v H' → Q' v H') → r x y H Q → r x y H Q') {i j : E} : ∀ σ H Q Q', (∀ v H', Q v H' → Q' v H') → tOp r (tCB (rRep1 B) (tA B T W true i)) (tCB (rRep1 B) (tA B T W true j)) σ H Q → tOp r (tCB (rRep1 B) (tA B T W true i)) (tCB (rRep1 B) (tA B T W true j)) σ H Q' := by
  rintro σ H Q Q' k ⟨F, env, ad, n, s, en, h⟩
  refine ⟨F, env, ad, n, s, en, h.imp fun l n' F' H' _ _ q vs rvs => ?_⟩
  obtain ⟨F2, n2, d, v, e1, e2, e3, e4, F3, env3, ad3, n3, s3, en3, h3⟩ := q vs rvs
  refine ⟨F2, n2, d, v, e1, e2, e3, e4, F3, env3, ad3, n3, s3, en3, h3.imp fun l n' F' H' _ _ q vs rvs => ?_⟩
  obtain ⟨F4, n4, d4, v4, e5, e6, e7, e8, q⟩ := q vs rvs
  exact ⟨F4, n4, d4, v4, e5, e6, e7, e8, hr _ _ _ _ _ k q⟩
theorem req_mono (ng : Bool) : ∀ x y H Q Q', (∀ v H', Q v H' → Q' v H') → (if ng then rNe else rEq) x y H Q → (if ng then rNe else rEq) x y H Q' := by
  intro x y H Q Q' k h
  cases ng <;> exact ⟨h.1, k _ _ h.2⟩
theorem op_req (ng : Bool) : OpR X (compareOp (if ng then .NotEq else .Eq)) (if ng then rNe else rEq) := by
  cases ng
  · exact op_eq
  · exact op_ne
theorem o_req {x z : Str} {ng : Bool} (hK : B.K = X.K) (hu : X.A.units + 190 < cLine) (hgd : X.A.guards = some []) (hx : x = "repr") (hg : Gl X x) (hm : X.mg x = none) (hz : z = "repr") (hp : plainX a = true) (hp2 : plainX b = true)
    (ha : PE X a (tE B T W true ia)) (hb : PE X b (tE B T W true ib)) :
    PE X (.Compare (.Call (.Name x p1) [a] [] p2) [if ng then .NotEq else .Eq] [.Call (.Name z q1) [b] [] q2] pos) (tE B T W o (.req ng ia ib)) := by
  subst hz
  refine PEw (pe_cmpR (op_req ng) (o_rep hK hu hgd hx hg hm hp ha) (o_rep hK hu hgd rfl (by rw [hx] at hg; exact hg) (by rw [hx] at hm; exact hm) hp2 hb) (by cases ng <;> rfl)) fun σ H Q h => ?_
  refine tOp_mono (req_mono ng) σ H _ _ (fun v H' q => ?_) (req_rd σ H Q h)
  obtain ⟨k, rfl, q⟩ := q
  exact q (fun _ => none) (Rq.of (.bl k))
theorem o_treq {x z : Str} {ng : Bool} (hK : B.K = X.K) (hu : X.A.units + 190 < cLine) (hgd : X.A.guards = some []) (hx : x = "repr") (hg : Gl X x) (hm : X.mg x = none) (hz : z = "repr") (hp : plainX a = true) (hp2 : plainX b = true)
    (ha : PE X a (tE B T W true ia)) (hb : PE X b (tE B T W true ib)) :
    PT X (.Compare (.Call (.Name x p1) [a] [] p2) [if ng then .NotEq else .Eq] [.Call (.Name z q1) [b] [] q2] pos) (tT B T W (.tru (.req ng ia ib))) := by
  subst hz
  refine PTw (pt_cmpR (op_req ng) (o_rep hK hu hgd hx hg hm hp ha) (o_rep hK hu hgd rfl (by rw [hx] at hg; exact hg) (by rw [hx] at hm; exact hm) hp2 hb) (by cases ng <;> rfl)) fun σ H Q ⟨F, env, ad, n, s, en, h⟩ => ?_
  have h' : tE B T W true (.req ng ia ib) σ H fun v H' => ∃ k, v = .bl k ∧ Q k H' := by
    refine ⟨F, env, ad, n, s, en, ?_⟩
    dsimp only [tv] at h ⊢
    cases er : ev T (.req ng ia ib) env n with
    | bad => rw [er] at h; exact h.elim
    | exc e m => rw [er] at h; exact h
    | ok d m =>
      rw [er] at h
      have hd : ∃ k, d = .bl k := by
        dsimp only [ev] at er
        cases e1 : ev T ia env n with
        | bad => rw [e1] at er; cases er
        | exc e m => rw [e1] at er; cases er
        | ok d1 m1 =>
          rw [e1, Res.bind_ok] at er
          split at er
          · cases e2 : ev T ib env m1 with
            | bad => rw [e2] at er; cases er
            | exc e m => rw [e2] at er; cases er
            | ok d2 m2 =>
              rw [e2, Res.bind_ok] at er
              split at er
              · cases er; exact ⟨_, rfl⟩
              · cases er
          · cases er
      obtain ⟨k, rfl⟩ := hd
      intro F' H' e v rv
      exact ⟨k, rv.opd.bl, h F' H' e⟩
  refine tOp_mono (req_mono ng) σ H _ _ (fun v H' q => ?_) (req_rd σ H _ h')
  obtain ⟨k, rfl, q⟩ := q
  exact q (fun _ => none) (Rq.of (.bl k))
end

/-! ### the surroundings -/
/-- what is wanted of an error's class so that a clause may look at the error -/
structure ErrH (K : PySem.W.Frag) (C : Addr) (f : Str) : Prop where
  xf : XfC K C
  no : PySem.W.findIn K (.ref C) f = some none
  ty : PySem.W.typeIn K (.ref C) = some (.type "type")
  ha : PySem.W.findIn K (.ref C) "__class__" = some (some (.builtin "object.__class__"))
  hn : PySem.W.specialIn K (.builtin "object.__class__") "__get__" = some (some (.builtin "getset_descriptor.__get__"))
  ht : PySem.W.takesIn K (.builtin "object.__class__") = some true
  hm : PySem.W.mroIn K C (.type "object") = some true
  vl : PySem.W.kitOne K (.ref C) (.type "ValueError") = some true
structure TblOk (B : Gb) (g : Sg) (T : Tab) (P : Program) (w : World) (K : PySem.W.Frag) (mg : Str → Option Value) (base : Heap) (k : Nat) : Prop where
  fns : ∀ (f : Nat) (x : Str), g.fns[f]? = some x → ∃ fa fd ps, FnG P w K mg base k fa fd ps (spD B (T.fn f) ps.length) ∧ mg x = some (.ref fa) ∧ PySem.W.keepIn K (.ref fa) = true ∧ Binds K fd ps [] ∧ ∀ l n, (T.fn f l n).good → l.length = ps.length
  take : g.tk = true → ∃ fa fd, FnG P w K mg base k fa fd ["draws", "at", "many"] (spT B T.om) ∧ mg "_law_take" = some (.ref fa) ∧ PySem.W.keepIn K (.ref fa) = true ∧ Binds K fd ["draws", "at", "many"] []
  cons : ∀ (j : Nat) (x : Str), g.cons[j]? = some x → ∃ v u, mg x = some u ∧ RelV v u ∧ ∀ F, Rp B.K B.O F v (T.con j)
  blt : ∀ x ∈ bltNames, mg x = none
  /-- own errors: they can be raised -/
  errs : ∀ (x : Str) (fs : List Str), T.ctor x = some fs → ∃ f, fs = [f] ∧ mg x = some (.ref (B.cad x)) ∧ PySem.W.keepIn K (.ref (B.cad x)) = true ∧ (∃ qual D fI cc cda, PyX.ErrTxt K P mg qual f (B.cad x) D fI cc cda) ∧ ErrH K (B.cad x) f
  /-- .. and be told apart -/
  ecl : ∀ c ∈ g.ecls, mg c = some (.ref (B.cad c)) ∧ ∀ x fs, T.ctor x = some fs → PySem.W.exmOne K (.ref (B.cad x)) (.ref (B.cad c)) = some (T.sub x c) ∧ PySem.W.kitOne K (.ref (B.cad x)) (.ref (B.cad c)) = some (T.sub x c)
structure Good (B : Gb) (g : Sg) (N : List Str) (T : Tab) (k : Nat) (W : WX) (X : Cx) : Prop where
  hK : B.K = X.K
  hu : X.A.units + 190 < cLine
  hc : X.calm = true
  gd : X.A.guards = some []
  hN : X.N = N
  nd : N.Nodup
  room : Room k X.A
  wish : ∀ σ, PassesAt (L2.CX X.prog X.w) X σ (WE W σ)
  tbl : TblOk B g T X.prog X.w X.K X.mg X.base k
theorem isVis_ok {sc : Scope} {x : Str} (h : isVis sc x = true) : Vis sc x := by
  unfold isVis at h
  unfold Vis
  split at h <;> first | (cases h; done) | simp_all
theorem isLoc_ok {sc : Scope} {x : Str} (h : isLoc sc x = true) : L2.Loc sc x := by
  unfold isLoc at h
  unfold L2.Loc
  split at h <;> first | (cases h; done) | simp_all
theorem isGl_ok {X : Cx} {x : Str} (h : isGl X.env.scope x = true) : Gl X x := by
  unfold isGl at h
  unfold Gl PySem.Env.kindOf
  split at h <;> first | (cases h; done) | simp_all
theorem okN_ok {x : Str} (h : okN x = true) : (x == ("__debug__" : Str)) = false ∧ (x == ("__classdict__" : Str)) = false := by
  unfold okN at h
  simp only [Bool.and_eq_true, Bool.not_eq_true'] at h
  exact h.1
section
variable {B : Gb} {g : Sg} {N : List Str} {T : Tab} {k : Nat} {W : WX} {X : Cx}
/-- in a comprehension's block -/
theorem Good.blk (G : Good B g N T k W X) (s : Shared) (H : Hp) (scope : Scope) (C : Addr) (cl : List (Str × Addr)) (fp : List Addr) :
    Good B g N T k W0 (X.blk s H scope (compEnvC scope cl C X.env) fp) where
  hK := G.hK
  hu := G.hu
  hc := G.hc
  gd := G.gd
  hN := G.hN
  nd := G.nd
  room := G.room
  wish := fun σ pins H s e s' I h => by
    obtain ⟨_, _, _, _, _, _, _, _, _, _, _, _, h⟩ := h
    exact h
  tbl := G.tbl
theorem blk_loc {scope sc : Scope} {x : Str} (h : isLoc scope x = true) : L2.Loc (relS scope sc) x ∧ ((scope.names.lookup x == some .cell) = true ∨ (relS scope sc).names.lookup x = some .local) := by
  rcases isLoc_ok h with q | q
  · have z : (relS scope sc).names.lookup x = some .local := lookup_relS_keep (by decide) q
    exact ⟨.inl z, .inr z⟩
  · have z : (relS scope sc).names.lookup x = some .cell := lookup_relS_keep (by decide) q
    exact ⟨.inr z, .inl (by rw [q]; rfl)⟩
theorem tg_slots : ∀ (t : Tg) (sc : Scope) (e : Expr), chkG N sc t e = true → (ownOf t e).map (·.2) = t.slots := by
  intro t
  induction t with
  | nm i =>
    intro sc e h
    cases e <;> first | rfl | (simp [chkG] at h)
  | t2 a b iha ihb =>
    intro sc e h
    unfold chkG at h
    split at h
    · simp only [Bool.and_eq_true] at h
      simp only [ownOf, Tg.slots, List.map_append, iha _ _ h.1, ihb _ _ h.2]
    · cases h
  | t3 a b c iha ihb ihc =>
    intro sc e h
    unfold chkG at h
    split at h
    · simp only [Bool.and_eq_true] at h
      simp only [ownOf, Tg.slots, List.map_append, iha _ _ h.1, ihb _ _ h.2.1, ihc _ _ h.2.2]
    · cases h
  | t4 a b c d iha ihb ihc ihd =>
    intro sc e h
    unfold chkG at h
    split at h
    · simp only [Bool.and_eq_true] at h
      simp only [ownOf, Tg.slots, List.map_append, iha _ _ h.1, ihb _ _ h.2.1, ihc _ _ h.2.2.1, ihd _ _ h.2.2.2]
    · cases h
  | t5 a b c d f iha ihb ihc ihd ihf =>
    intro sc e h
    unfold chkG at h
    split at h
    · simp only [Bool.and_eq_true] at h
      simp only [ownOf, Tg.slots, List.map_append, iha _ _ h.1, ihb _ _ h.2.1, ihc _ _ h.2.2.1, ihd _ _ h.2.2.2.1, ihf _ _ h.2.2.2.2]
    · cases h
end
end Py

set_option Elab.async false
set_option linter.all false
set_option maxRecDepth 100000
set_option maxHeartbeats 4000000
/-! C13: expressions that were looked at keep to their reading. -/
namespace Py
open PySem PySem.Spec L2
def isCmpE : Expr → Bool
  | .Compare .. => true
  | _ => false
def isBoolE : Expr → Bool
  | .BoolOp .. => true
  | _ => false
section
variable (B : Gb) (g : Sg) (N : List Str) (T : Tab) (k : Nat)
structure Snd (i : E) : Prop where
  e : ∀ W X o e, Good B g N T k W X → chkE g N o X.env.scope i e = true → PE X e (tE B T W o i)
  c : ∀ W X e, Good B g N T k W X → chkE g N true X.env.scope i e = true → isCmpE e = true → PT X e (tT B T W (.tru i))
  t : ∀ W X e, Good B g N T k W X → chkT g N X.env.scope i e = true → PT X e (tT B T W i)
  w : ∀ W X e, Good B g N T k W X → chkT g N X.env.scope i e = true → isBoolE e = true → PW X e (tT B T W i)
  s : ∀ W X o es, Good B g N T k W X → chkEs g N o X.env.scope i es = true → PA X es (tA B T W o i)
  p : ∀ W X e, Good B g N T k W X → chkP g N X.env.scope i e = true → PO X e (tP B T W i)
  kk : ∀ W X pos ks vs, Good B g N T k W X → chkK g N X.env.scope i ks vs = true → PPs X pos ks vs (trsOf B T W i)
  i : ∀ W X fz tg e, Good B g N T k W X → chkI g N fz X.env.scope i e = true → zOk i tg = true → PI X tg e (tI B T W fz i)
end
section
variable {B : Gb} {g : Sg} {N : List Str} {T : Tab} {k : Nat}
theorem chkE_plain {o : Bool} {sc : Scope} {i : E} {e : Expr} (h : chkE g N o sc i e = true) : plainX e = true := by
  cases e <;> first | rfl | (exfalso; cases i <;> simp [chkE, plainX] at h)
theorem chkEs_plain {o : Bool} {sc : Scope} : ∀ {i : E} {es : List Expr}, chkEs g N o sc i es = true → es.all plainX = true
  | i, [], _ => rfl
  | .cons a b, e :: es, h => by
    simp only [chkEs, Bool.and_eq_true] at h
    rw [List.all_cons, chkE_plain h.1, chkEs_plain h.2]; rfl
  | .nil, e :: es, h => by simp [chkEs] at h
  | .any, e :: es, h => by simp [chkEs] at h
  | .dnew, e :: es, h => by simp [chkEs] at h
  | .dsp _, e :: es, h => by simp [chkEs] at h
  | .kv .., e :: es, h => by simp [chkEs] at h
  | .dget .., e :: es, h => by simp [chkEs] at h
  | .rev _, e :: es, h => by simp [chkEs] at h
  | .callB .., e :: es, h => by simp [chkEs] at h
  | .var _, e :: es, h => by simp [chkEs] at h
  | .ovar _, e :: es, h => by simp [chkEs] at h
  | .cst _, e :: es, h => by simp [chkEs] at h
  | .glb _, e :: es, h => by simp [chkEs] at h
  | .tup _, e :: es, h => by simp [chkEs] at h
  | .lst _, e :: es, h => by simp [chkEs] at h
  | .bop .., e :: es, h => by simp [chkEs] at h
  | .neg _, e :: es, h => by simp [chkEs] at h
  | .cmp .., e :: es, h => by simp [chkEs] at h
  | .cmp2 .., e :: es, h => by simp [chkEs] at h
  | .andv .., e :: es, h => by simp [chkEs] at h
  | .orv .., e :: es, h => by simp [chkEs] at h
  | .notv _, e :: es, h => by simp [chkEs] at h
  | .and .., e :: es, h => by simp [chkEs] at h
  | .or .., e :: es, h => by simp [chkEs] at h
  | .not _, e :: es, h => by simp [chkEs] at h
  | .tru _, e :: es, h => by simp [chkEs] at h
  | .ite .., e :: es, h => by simp [chkEs] at h
  | .opt _, e :: es, h => by simp [chkEs] at h
  | .seq _, e :: es, h => by simp [chkEs] at h
  | .idx .., e :: es, h => by simp [chkEs] at h
  | .slc .., e :: es, h => by simp [chkEs] at h
  | .call .., e :: es, h => by simp [chkEs] at h
  | .take .., e :: es, h => by simp [chkEs] at h
  | .blt .., e :: es, h => by simp [chkEs] at h
  | .isi .., e :: es, h => by simp [chkEs] at h
  | .comp .., e :: es, h => by simp [chkEs] at h
  | .dcomp .., e :: es, h => by simp [chkEs] at h
  | .rng1 _, e :: es, h => by simp [chkEs] at h
  | .rng2 .., e :: es, h => by simp [chkEs] at h
  | .zip _, e :: es, h => by simp [chkEs] at h
  | .enu _, e :: es, h => by simp [chkEs] at h
  | .req .., e :: es, h => by simp [chkEs] at h
theorem evs_len {o : Bool} {sc : Scope} {env : Env} : ∀ {i : E} {es : List Expr} {n m : Nat} {l : List D}, chkEs g N o sc i es = true → evs T i env n = .ok l m → l.length = es.length
  | .nil, es, n, m, l, h, q => by
    simp only [chkEs] at h
    cases q
    cases es <;> first | rfl | cases h
  | .cons a b, [], n, m, l, h, q => by simp [chkEs] at h
  | .cons a b, e :: es, n, m, l, h, q => by
    simp only [chkEs, Bool.and_eq_true] at h
    rw [evs] at q
    cases e1 : ev T a env n with
    | bad => rw [e1] at q; cases q
    | exc e m => rw [e1] at q; cases q
    | ok x k =>
      rw [e1, Res.bind_ok] at q
      cases e2 : evs T b env k with
      | bad => rw [e2] at q; cases q
      | exc e m => rw [e2] at q; cases q
      | ok r j =>
        rw [e2, Res.bind_ok] at q
        cases q
        rw [List.length_cons, List.length_cons, evs_len h.2 e2]
  | .any, es, n, m, l, h, q => by simp [evs] at q
  | .dnew, es, n, m, l, h, q => by simp [evs] at q
  | .dsp _, es, n, m, l, h, q => by simp [evs] at q
  | .kv .., es, n, m, l, h, q => by simp [evs] at q
  | .dget .., es, n, m, l, h, q => by simp [evs] at q
  | .rev _, es, n, m, l, h, q => by simp [evs] at q
  | .callB .., es, n, m, l, h, q => by simp [evs] at q
  | .var _, es, n, m, l, h, q => by simp [evs] at q
  | .ovar _, es, n, m, l, h, q => by simp [evs] at q
  | .cst _, es, n, m, l, h, q => by simp [evs] at q
  | .glb _, es, n, m, l, h, q => by simp [evs] at q
  | .tup _, es, n, m, l, h, q => by simp [evs] at q
  | .lst _, es, n, m, l, h, q => by simp [evs] at q
  | .bop .., es, n, m, l, h, q => by simp [evs] at q
  | .neg _, es, n, m, l, h, q => by simp [evs] at q
  | .cmp .., es, n, m, l, h, q => by simp [evs] at q
  | .cmp2 .., es, n, m, l, h, q => by simp [evs] at q
  | .andv .., es, n, m, l, h, q => by simp [evs] at q
  | .orv .., es, n, m, l, h, q => by simp [evs] at q
  | .notv _, es, n, m, l, h, q => by simp [evs] at q
  | .and .., es, n, m, l, h, q => by simp [evs] at q
  | .or .., es, n, m, l, h, q => by simp [evs] at q
  | .not _, es, n, m, l, h, q => by simp [evs] at q
  | .tru _, es, n, m, l, h, q => by simp [evs] at q
  | .ite .., es, n, m, l, h, q => by simp [evs] at q
  | .opt _, es, n, m, l, h, q => by simp [evs] at q
  | .seq _, es, n, m, l, h, q => by simp [evs] at q
  | .idx .., es, n, m, l, h, q => by simp [evs] at q
  | .slc .., es, n, m, l, h, q => by simp [evs] at q
  | .call .., es, n, m, l, h, q => by simp [evs] at q
  | .take .., es, n, m, l, h, q => by simp [evs] at q
  | .blt .., es, n, m, l, h, q => by simp [evs] at q
  | .isi .., es, n, m, l, h, q => by simp [evs] at q
  | .comp .., es, n, m, l, h, q => by simp [evs] at q
  | .dcomp .., es, n, m, l, h, q => by simp [evs] at q
  | .rng1 _, es, n, m, l, h, q => by simp [evs] at q
  | .rng2 .., es, n, m, l, h, q => by simp [evs] at q
  | .zip _, es, n, m, l, h, q => by simp [evs] at q
  | .enu _, es, n, m, l, h, q => by simp [evs] at q
  | .req .., es, n, m, l, h, q => by simp [evs] at q
/-- no test, no arguments, nothing walked: an expression alone -/
theorem Snd.ofE {i : E} (he : ∀ W X o e, Good B g N T k W X → chkE g N o X.env.scope i e = true → PE X e (tE B T W o i))
    (hc : ∀ W X e, Good B g N T k W X → chkE g N true X.env.scope i e = true → isCmpE e = true → PT X e (tT B T W (.tru i)))
    (ht : ∀ sc e, chkT g N sc i e = false) (hs : ∀ o sc es, chkEs g N o sc i es = false) (hp : ∀ sc e, chkP g N sc i e = false) (hi : ∀ fz sc e, chkI g N fz sc i e = false) (hk : ∀ sc ks vs, chkK g N sc i ks vs = false := by intro _ ks vs; cases ks <;> cases vs <;> simp [chkK]) : Snd B g N T k i :=
  ⟨he, hc, (fun W X e _ h => by rw [ht] at h; cases h), (fun W X e _ h => by rw [ht] at h; cases h), (fun W X o es _ h => by rw [hs] at h; cases h), (fun W X e _ h => by rw [hp] at h; cases h), (fun W X pos ks vs _ h => by rw [hk] at h; cases h), (fun W X fz tg e _ h _ => by rw [hi] at h; cases h)⟩
theorem Snd.ofT {i : E} (he : ∀ o sc e, chkE g N o sc i e = false) (ht : ∀ W X e, Good B g N T k W X → chkT g N X.env.scope i e = true → PT X e (tT B T W i))
    (hw : ∀ W X e, Good B g N T k W X → chkT g N X.env.scope i e = true → isBoolE e = true → PW X e (tT B T W i))
    (hs : ∀ o sc es, chkEs g N o sc i es = false) (hp : ∀ sc e, chkP g N sc i e = false) (hi : ∀ fz sc e, chkI g N fz sc i e = false) (hk : ∀ sc ks vs, chkK g N sc i ks vs = false := by intro _ ks vs; cases ks <;> cases vs <;> simp [chkK]) : Snd B g N T k i :=
  ⟨(fun W X o e _ h => by rw [he] at h; cases h), (fun W X e _ h => by rw [he] at h; cases h), ht, hw, (fun W X o es _ h => by rw [hs] at h; cases h), (fun W X e _ h => by rw [hp] at h; cases h), (fun W X pos ks vs _ h => by rw [hk] at h; cases h), (fun W X fz tg e _ h _ => by rw [hi] at h; cases h)⟩
theorem Snd.ofI {i : E} (he : ∀ o sc e, chkE g N o sc i e = false) (ht : ∀ sc e, chkT g N sc i e = false) (hs : ∀ o sc es, chkEs g N o sc i es = false) (hp : ∀ sc e, chkP g N sc i e = false)
    (hi : ∀ W X fz tg e, Good B g N T k W X → chkI g N fz X.env.scope i e = true → zOk i tg = true → PI X tg e (tI B T W fz i)) (hk : ∀ sc ks vs, chkK g N sc i ks vs = false := by intro _ ks vs; cases ks <;> cases vs <;> simp [chkK]) : Snd B g N T k i :=
  ⟨(fun W X o e _ h => by rw [he] at h; cases h), (fun W X e _ h => by rw [he] at h; cases h), (fun W X e _ h => by rw [ht] at h; cases h), (fun W X e _ h => by rw [ht] at h; cases h), (fun W X o es _ h => by rw [hs] at h; cases h), (fun W X e _ h => by rw [hp] at h; cases h), (fun W X pos ks vs _ h => by rw [hk] at h; cases h), hi⟩
end
end Py

set_option Elab.async false
set_option linter.all false
set_option maxRecDepth 100000
set_option maxHeartbeats 8000000
/-! C14: expressions that were looked at keep to their reading, all of them. -/
namespace Py
open PySem PySem.Spec L2
section
variable {B : Gb} {g : Sg} {N : List Str} {T : Tab} {k : Nat}
theorem blt_none {W : WX} {X : Cx} (G : Good B g N T k W X) {x : Str} (h : bltNames.contains x = true) : X.mg x = none := G.tbl.blt x (by simpa using h)
theorem snd_nil : Snd B g N T k .nil where
  e := fun W X o e G h => by cases e <;> simp [chkE] at h
  c := fun W X e G h => by cases e <;> simp [chkE] at h
  t := fun W X e G h => by simp [chkT] at h
  w := fun W X e G h => by simp [chkT] at h
  s := fun W X o es G h => by
    cases es with
    | nil => exact o_nil
    | cons _ _ => simp [chkEs] at h
  p := fun W X e G h => by
    cases e with
    | none => exact o_pnone
    | some _ => simp [chkP] at h
  i := fun W X fz tg e G h _ => by simp [chkI] at h
  kk := fun W X pos ks vs G h => by
    simp only [chkK, Bool.and_eq_true, List.isEmpty_iff] at h
    obtain ⟨rfl, rfl⟩ := h
    exact pps_nil
theorem snd_cons {a b : E} (ha : Snd B g N T k a) (hb : Snd B g N T k b) : Snd B g N T k (.cons a b) where
  e := fun W X o e G h => by cases e <;> simp [chkE] at h
  c := fun W X e G h => by cases e <;> simp [chkE] at h
  t := fun W X e G h => by simp [chkT] at h
  w := fun W X e G h => by simp [chkT] at h
  s := fun W X o es G h => by
    cases es with
    | nil => simp [chkEs] at h
    | cons x r =>
      simp only [chkEs, Bool.and_eq_true] at h
      exact o_cons (ha.e W X o x G h.1) (hb.s W X o r G h.2) (star1 (chkE_plain h.1))
  p := fun W X e G h => by simp [chkP] at h
  i := fun W X fz tg e G h _ => by simp [chkI] at h
  kk := fun W X pos ks vs G h => by simp [chkK] at h
def isCmpI : E → Bool
  | .any => true
  | .cmp .. => true
  | .cmp2 .. => true
  | .req .. => true
  | _ => false
theorem noC {o : Bool} {sc : Scope} {i : E} (h : isCmpI i = false) {e : Expr} (q : chkE g N o sc i e = true) : isCmpE e = false := by
  cases e <;> first | rfl | skip
  cases i <;> first | (cases h; done) | (simp [chkE] at q)
theorem snd_any : Snd B g N T k .any where
  e := fun W X o e G h => o_any
  c := fun W X e G h _ => ⟨fun pins s σ H Q I ⟨F, env, ad, n, st, en, h⟩ => h.elim⟩
  t := fun W X e G h => ⟨fun pins s σ H Q I ⟨F, env, ad, n, st, en, h⟩ => h.elim⟩
  w := fun W X e G h _ => ⟨fun w pins s σ H Q I ⟨F, env, ad, n, st, en, h⟩ => h.elim⟩
  s := fun W X o es G h => by simp [chkEs] at h
  p := fun W X e G h => by simp [chkP] at h
  i := fun W X fz tg e G h _ => ⟨fun pins s σ H R I ⟨F, env, ad, n, st, en, h⟩ => h.elim⟩
  kk := fun W X pos ks vs G h => by simp [chkK] at h
theorem snd_kv {a b r : E} (ha : Snd B g N T k a) (hb : Snd B g N T k b) (hr : Snd B g N T k r) : Snd B g N T k (.kv a b r) where
  e := fun W X o e G h => by cases e <;> simp [chkE] at h
  c := fun W X e G h => by cases e <;> simp [chkE] at h
  t := fun W X e G h => by simp [chkT] at h
  w := fun W X e G h => by simp [chkT] at h
  s := fun W X o es G h => by cases es <;> simp [chkEs] at h
  p := fun W X e G h => by simp [chkP] at h
  i := fun W X fz tg e G h _ => by simp [chkI] at h
  kk := fun W X pos ks vs G h => by
    unfold chkK at h
    split at h
    · simp only [Bool.and_eq_true] at h
      exact pps_cons (ha.e W X false _ G h.1.1) (hb.e W X false _ G h.1.2) (hr.kk W X pos _ _ G h.2)
    · cases h
theorem snd_dsp {a : E} (ha : Snd B g N T k a) : Snd B g N T k (.dsp a) := by
  refine Snd.ofE (fun W X o e G h => ?_) (fun W X e G h q => ?_) (fun _ _ => by simp [chkT]) (fun _ _ _ => by simp [chkEs]) (fun _ _ => by simp [chkP]) (fun _ _ _ => by simp [chkI])
  · unfold chkE at h
    split at h
    · rw [Bool.and_eq_true, decide_eq_true_eq] at h
      obtain ⟨q1, q2⟩ := chkK_all h.2
      exact o_dsp (ha.kk W X _ _ _ G h.2) q1 q2 (by simp) h.1
    · cases h
  · rw [noC rfl h] at q; cases q
theorem snd_dget {a b c : E} (ha : Snd B g N T k a) (hb : Snd B g N T k b) (hc : Snd B g N T k c) : Snd B g N T k (.dget a b c) := by
  refine Snd.ofE (fun W X o e G h => ?_) (fun W X e G h q => ?_) (fun _ _ => by simp [chkT]) (fun _ _ _ => by simp [chkEs]) (fun _ _ => by simp [chkP]) (fun _ _ _ => by simp [chkI])
  · unfold chkE at h
    split at h
    · simp only [Bool.and_eq_true, decide_eq_true_eq] at h
      obtain ⟨⟨⟨⟨⟨rfl, h1⟩, h2⟩, h3⟩, h4⟩, h5⟩ := h
      exact o_dget G.hu h2 (chkE_plain h4) (chkE_plain h5) h1 (ha.e W X true _ G h3) (hb.e W X true _ G h4) (hc.e W X false _ G h5)
    · cases h
  · rw [noC rfl h] at q; cases q
theorem snd_dnew : Snd B g N T k .dnew := by
  refine Snd.ofE (fun W X o e G h => ?_) (fun W X e G h q => ?_) (fun _ _ => by simp [chkT]) (fun _ _ _ => by simp [chkEs]) (fun _ _ => by simp [chkP]) (fun _ _ _ => by simp [chkI])
  · unfold chkE at h
    split at h
    · exact o_dnew
    · cases h
  · rw [noC rfl h] at q; cases q
theorem snd_rev {a : E} (ha : Snd B g N T k a) : Snd B g N T k (.rev a) := by
  refine Snd.ofE (fun W X o e G h => ?_) (fun W X e G h q => ?_) (fun _ _ => by simp [chkT]) (fun _ _ _ => by simp [chkEs]) (fun _ _ => by simp [chkP]) (fun _ _ _ => by simp [chkI])
  · unfold chkE at h
    split at h
    · simp only [Bool.and_eq_true, decide_eq_true_eq] at h
      obtain ⟨rfl, h⟩ := h
      exact o_rev G.hK (ha.e W X true _ G h)
    · cases h
  · rw [noC rfl h] at q; cases q
theorem snd_var {i : Nat} : Snd B g N T k (.var i) := by
  refine Snd.ofE (fun W X o e G h => ?_) (fun W X e G h q => ?_) (fun _ _ => by simp [chkT]) (fun _ _ _ => by simp [chkEs]) (fun _ _ => by simp [chkP]) (fun _ _ _ => by simp [chkI])
  · unfold chkE at h
    split at h
    · simp only [Bool.and_eq_true, decide_eq_true_eq] at h
      exact o_var (by rw [G.hN]; exact h.1.1) (isVis_ok h.1.2) (okN_ok h.2).1 (okN_ok h.2).2
    · cases h
  · rw [noC rfl h] at q; cases q
theorem snd_ovar {i : Nat} : Snd B g N T k (.ovar i) := by
  refine Snd.ofE (fun W X o e G h => ?_) (fun W X e G h q => ?_) (fun _ _ => by simp [chkT]) (fun _ _ _ => by simp [chkEs]) (fun _ _ => by simp [chkP]) (fun _ _ _ => by simp [chkI])
  · unfold chkE at h
    split at h
    · simp only [Bool.and_eq_true, decide_eq_true_eq] at h
      obtain ⟨rfl, h⟩ := h
      exact o_ovar (by rw [G.hN]; exact h.1.1) (isVis_ok h.1.2) (okN_ok h.2).1 (okN_ok h.2).2
    · cases h
  · rw [noC rfl h] at q; cases q
theorem snd_cst {d : D} : Snd B g N T k (.cst d) := by
  refine Snd.ofE (fun W X o e G h => ?_) (fun W X e G h q => ?_) (fun _ _ => by simp [chkT]) (fun _ _ _ => by simp [chkEs]) (fun _ _ => by simp [chkP]) (fun _ _ _ => by simp [chkI])
  · unfold chkE at h
    split at h
    · unfold cstOk at h
      split at h
      · obtain rfl := of_decide_eq_true h; exact o_int
      · obtain rfl := eq_of_beq h; exact o_bl
      · rw [Bool.and_eq_true, decide_eq_true_eq] at h
        obtain ⟨rfl, h⟩ := h
        exact o_str h
      · exact o_non
      · cases h
    · cases h
  · rw [noC rfl h] at q; cases q
theorem snd_glb {j : Nat} : Snd B g N T k (.glb j) := by
  refine Snd.ofE (fun W X o e G h => ?_) (fun W X e G h q => ?_) (fun _ _ => by simp [chkT]) (fun _ _ _ => by simp [chkEs]) (fun _ _ => by simp [chkP]) (fun _ _ _ => by simp [chkI])
  · unfold chkE at h
    split at h
    · simp only [Bool.and_eq_true, decide_eq_true_eq] at h
      obtain ⟨v, u, h1, h2, h3⟩ := G.tbl.cons _ _ h.1.1
      exact o_glb (isGl_ok h.1.2) h1 h2 (okN_ok h.2).1 h3
    · cases h
  · rw [noC rfl h] at q; cases q
theorem snd_tup {es : E} (hs : Snd B g N T k es) : Snd B g N T k (.tup es) := by
  refine Snd.ofE (fun W X o e G h => ?_) (fun W X e G h q => ?_) (fun _ _ => by simp [chkT]) (fun _ _ _ => by simp [chkEs]) (fun _ _ => by simp [chkP]) (fun _ _ _ => by simp [chkI])
  · unfold chkE at h
    split at h
    · simp only [Bool.and_eq_true, decide_eq_true_eq] at h
      exact o_tup (hs.s W X false _ G h.2) fun env n l m q => by rw [evs_len h.2 q]; exact Nat.le_trans h.1 (by decide)
    · cases h
  · rw [noC rfl h] at q; cases q
theorem snd_lst {es : E} (hs : Snd B g N T k es) : Snd B g N T k (.lst es) := by
  refine Snd.ofE (fun W X o e G h => ?_) (fun W X e G h q => ?_) (fun _ _ => by simp [chkT]) (fun _ _ _ => by simp [chkEs]) (fun _ _ => by simp [chkP]) (fun _ _ _ => by simp [chkI])
  · unfold chkE at h
    split at h
    · simp only [Bool.and_eq_true, decide_eq_true_eq] at h
      exact o_lst (hs.s W X false _ G h.2) fun env n l m q => by rw [evs_len h.2 q]; exact Nat.le_trans h.1 (by decide)
    · cases h
  · rw [noC rfl h] at q; cases q
theorem snd_bop {op : Operator} {a b : E} (ha : Snd B g N T k a) (hb : Snd B g N T k b) : Snd B g N T k (.bop op a b) := by
  refine Snd.ofE (fun W X o e G h => ?_) (fun W X e G h q => ?_) (fun _ _ => by simp [chkT]) (fun _ _ _ => by simp [chkEs]) (fun _ _ => by simp [chkP]) (fun _ _ _ => by simp [chkI])
  · unfold chkE at h
    split at h
    · simp only [Bool.and_eq_true, decide_eq_true_eq] at h
      obtain ⟨⟨rfl, h1⟩, h2⟩ := h
      exact o_bop G.hK (ha.e W X true _ G h1) (hb.e W X true _ G h2)
    · cases h
  · rw [noC rfl h] at q; cases q
theorem snd_neg {a : E} (ha : Snd B g N T k a) : Snd B g N T k (.neg a) := by
  refine Snd.ofE (fun W X o e G h => ?_) (fun W X e G h q => ?_) (fun _ _ => by simp [chkT]) (fun _ _ _ => by simp [chkEs]) (fun _ _ => by simp [chkP]) (fun _ _ _ => by simp [chkI])
  · unfold chkE at h
    split at h
    · exact o_neg (ha.e W X true _ G h)
    · cases h
  · rw [noC rfl h] at q; cases q
theorem snd_cmp {op : CmpOp} {a b : E} (ha : Snd B g N T k a) (hb : Snd B g N T k b) : Snd B g N T k (.cmp op a b) := by
  refine Snd.ofE (fun W X o e G h => ?_) (fun W X e G h q => ?_) (fun _ _ => by simp [chkT]) (fun _ _ _ => by simp [chkEs]) (fun _ _ => by simp [chkP]) (fun _ _ _ => by simp [chkI])
  all_goals
    unfold chkE at h
    split at h
    · simp only [Bool.and_eq_true, decide_eq_true_eq, Bool.not_eq_true'] at h
      obtain ⟨⟨⟨rfl, h0⟩, h1⟩, h2⟩ := h
      first
        | exact o_cmp G.hK G.hu h0 (ha.e W X true _ G h1) (hb.e W X true _ G h2)
        | exact o_tcmp G.hK G.hu h0 (ha.e W X true _ G h1) (hb.e W X true _ G h2)
    · cases h
theorem snd_cmp2 {op op' : CmpOp} {a b c : E} (ha : Snd B g N T k a) (hb : Snd B g N T k b) (hc : Snd B g N T k c) : Snd B g N T k (.cmp2 op op' a b c) := by
  refine Snd.ofE (fun W X o e G h => ?_) (fun W X e G h q => ?_) (fun _ _ => by simp [chkT]) (fun _ _ _ => by simp [chkEs]) (fun _ _ => by simp [chkP]) (fun _ _ _ => by simp [chkI])
  all_goals
    unfold chkE at h
    split at h
    · simp only [Bool.and_eq_true, decide_eq_true_eq, Bool.not_eq_true'] at h
      obtain ⟨⟨⟨⟨⟨rfl, rfl⟩, h0⟩, h1⟩, h2⟩, h3⟩ := h
      first
        | exact o_cmp2 G.hK G.hu h0 (ha.e W X true _ G h1) (hb.e W X true _ G h2) (hc.e W X true _ G h3)
        | exact o_tcmp2 G.hK G.hu h0 (ha.e W X true _ G h1) (hb.e W X true _ G h2) (hc.e W X true _ G h3)
    · cases h
theorem snd_andv {a b : E} (ha : Snd B g N T k a) (hb : Snd B g N T k b) : Snd B g N T k (.andv a b) := by
  refine Snd.ofE (fun W X o e G h => ?_) (fun W X e G h q => ?_) (fun _ _ => by simp [chkT]) (fun _ _ _ => by simp [chkEs]) (fun _ _ => by simp [chkP]) (fun _ _ _ => by simp [chkI])
  · unfold chkE at h
    split at h
    · simp only [Bool.and_eq_true] at h
      exact o_vand1 (ha.e W X true _ G h.1) (hb.e W X o _ G h.2)
    · simp only [Bool.and_eq_true] at h
      exact o_vand2 (ha.e W X true _ G h.1) (hb.e W X o _ G h.2)
    · cases h
  · rw [noC rfl h] at q; cases q
theorem snd_orv {a b : E} (ha : Snd B g N T k a) (hb : Snd B g N T k b) : Snd B g N T k (.orv a b) := by
  refine Snd.ofE (fun W X o e G h => ?_) (fun W X e G h q => ?_) (fun _ _ => by simp [chkT]) (fun _ _ _ => by simp [chkEs]) (fun _ _ => by simp [chkP]) (fun _ _ _ => by simp [chkI])
  · unfold chkE at h
    split at h
    · simp only [Bool.and_eq_true] at h
      exact o_vor1 (ha.e W X true _ G h.1) (hb.e W X o _ G h.2)
    · simp only [Bool.and_eq_true] at h
      exact o_vor2 (ha.e W X true _ G h.1) (hb.e W X o _ G h.2)
    · cases h
  · rw [noC rfl h] at q; cases q
theorem snd_notv {a : E} (ha : Snd B g N T k a) : Snd B g N T k (.notv a) := by
  refine Snd.ofE (fun W X o e G h => ?_) (fun W X e G h q => ?_) (fun _ _ => by simp [chkT]) (fun _ _ _ => by simp [chkEs]) (fun _ _ => by simp [chkP]) (fun _ _ _ => by simp [chkI])
  · unfold chkE at h
    split at h
    · exact o_notv G.hK (ha.e W X true _ G h)
    · cases h
  · rw [noC rfl h] at q; cases q
theorem snd_and {a b : E} (ha : Snd B g N T k a) (hb : Snd B g N T k b) : Snd B g N T k (.and a b) := by
  have w : ∀ W X e, Good B g N T k W X → chkT g N X.env.scope (.and a b) e = true → PW X e (tT B T W (.and a b)) := fun W X e G h => by
    unfold chkT at h
    split at h
    · simp only [Bool.and_eq_true] at h
      exact o_tand1 (ha.t W X _ G h.1) (hb.t W X _ G h.2)
    · simp only [Bool.and_eq_true] at h
      exact o_tand2 (ha.t W X _ G h.1) (hb.w W X _ G h.2 rfl)
    · cases h
  exact Snd.ofT (fun o _ e => by cases e <;> simp [chkE]) (fun W X e G h => (w W X e G h).pt) (fun W X e G h _ => w W X e G h) (fun _ _ _ => by simp [chkEs]) (fun _ _ => by simp [chkP]) (fun _ _ _ => by simp [chkI])
theorem snd_or {a b : E} (ha : Snd B g N T k a) (hb : Snd B g N T k b) : Snd B g N T k (.or a b) := by
  have w : ∀ W X e, Good B g N T k W X → chkT g N X.env.scope (.or a b) e = true → PW X e (tT B T W (.or a b)) := fun W X e G h => by
    unfold chkT at h
    split at h
    · simp only [Bool.and_eq_true] at h
      exact o_tor1 (ha.t W X _ G h.1) (hb.t W X _ G h.2)
    · simp only [Bool.and_eq_true] at h
      exact o_tor2 (ha.t W X _ G h.1) (hb.w W X _ G h.2 rfl)
    · cases h
  exact Snd.ofT (fun o _ e => by cases e <;> simp [chkE]) (fun W X e G h => (w W X e G h).pt) (fun W X e G h _ => w W X e G h) (fun _ _ _ => by simp [chkEs]) (fun _ _ => by simp [chkP]) (fun _ _ _ => by simp [chkI])
theorem snd_not {a : E} (ha : Snd B g N T k a) : Snd B g N T k (.not a) := by
  refine Snd.ofT (fun o _ e => by cases e <;> simp [chkE]) (fun W X e G h => ?_) (fun W X e G h q => ?_) (fun _ _ _ => by simp [chkEs]) (fun _ _ => by simp [chkP]) (fun _ _ _ => by simp [chkI])
  · unfold chkT at h
    split at h
    · exact o_tnot (ha.t W X _ G h)
    · cases h
  · cases e <;> simp [isBoolE] at q
    simp [chkT] at h
theorem snd_tru {a : E} (ha : Snd B g N T k a) : Snd B g N T k (.tru a) := by
  refine Snd.ofT (fun o _ e => by cases e <;> simp [chkE]) (fun W X e G h => ?_) (fun W X e G h q => ?_) (fun _ _ _ => by simp [chkEs]) (fun _ _ => by simp [chkP]) (fun _ _ _ => by simp [chkI])
  · by_cases hc : isCmpE e = true
    · refine ha.c W X e G ?_ hc
      cases e <;> first | (cases hc; done) | (simp only [chkT] at h; exact h)
    · have h' : chkE g N true X.env.scope a e = true := by
        unfold chkT at h
        split at h <;> first | (cases h; done) | exact h
      refine o_tru G.hK (ha.e W X true _ G h') ?_
      cases e <;> first | (intro _; rfl) | (exact absurd rfl hc) | (simp [chkT] at h; done) | skip
      rename_i op x p
      cases op <;> first | (intro _; rfl) | (simp [chkT] at h)
  · cases e <;> simp [isBoolE] at q
    simp [chkT] at h
end
end Py

set_option Elab.async false
set_option linter.all false
set_option maxRecDepth 100000
set_option maxHeartbeats 8000000
/-! C15: the rest; all expressions. -/
namespace Py
open PySem PySem.Spec L2
theorem o_compN {X : Cx} {B : Gb} {g : Sg} {N : List Str} {T : Tab} {k : Nat} {W : WX} {el it cond : E} {tg : Tg} {z t i : Expr} {ifs : List Expr} {scope : Scope} {pos : Pos} (G : Good B g N T k W X)
    (hi : PI X t i (tI B T W false it)) (hk : blkC N X.env.scope scope (ownOf tg t) = true) (hg : chkG N scope tg t = true) (hs : ∀ x, foldedSetIterable i X.env x = pure x)
    (ht : ∀ X', Good B g N T k W0 X' → X'.env.scope = relS scope X.env.scope → PTs X' ifs (tT B T W0 cond)) (he : ∀ X', Good B g N T k W0 X' → X'.env.scope = relS scope X.env.scope → PE X' z (tE B T W0 false el)) :
    PE X (.ListComp z [⟨t, i, ifs, 0⟩] scope pos) (tN B T W (.comp el tg it cond)) := by
  refine PEw (pe_lc (g := gT X.K tg) G.hc (by rw [G.hN]; exact G.nd) hi (blkOk_by (by rw [G.hN]; exact hk)) (fun s H C cl fp => ?_) (fun s H C cl fp => ht _ (G.blk s H scope C cl fp) rfl) (fun s H C cl fp => he _ (G.blk s H scope C cl fp) rfl) hs) ?_
  · exact g_ok (X := X.blk s H scope (compEnvC scope cl C X.env) fp) (sc := scope) G.hc G.hN (by show X.N.Nodup; rw [G.hN]; exact G.nd) (fun x q => blk_loc q) tg t hg
  · rw [← G.hK]
    exact lc_read (tg_slots tg scope t hg)
section
variable {B : Gb} {g : Sg} {N : List Str} {T : Tab} {k : Nat}
theorem snd_ite {c a b : E} (hc : Snd B g N T k c) (ha : Snd B g N T k a) (hb : Snd B g N T k b) : Snd B g N T k (.ite c a b) := by
  refine Snd.ofE (fun W X o e G h => ?_) (fun W X e G h q => ?_) (fun _ _ => by simp [chkT]) (fun _ _ _ => by simp [chkEs]) (fun _ _ => by simp [chkP]) (fun _ _ _ => by simp [chkI])
  · unfold chkE at h
    split at h
    · simp only [Bool.and_eq_true] at h
      exact o_ite (hc.t W X _ G h.1.1) (ha.e W X false _ G h.1.2) (hb.e W X false _ G h.2)
    · cases h
  · rw [noC rfl h] at q; cases q
theorem snd_opt {a : E} (ha : Snd B g N T k a) : Snd B g N T k (.opt a) where
  e := fun W X o e G h => by cases e <;> simp [chkE] at h
  c := fun W X e G h => by cases e <;> simp [chkE] at h
  t := fun W X e G h => by simp [chkT] at h
  w := fun W X e G h => by simp [chkT] at h
  s := fun W X o es G h => by simp [chkEs] at h
  p := fun W X e G h => by
    cases e with
    | none => simp [chkP] at h
    | some x =>
      simp only [chkP] at h
      exact o_psome (ha.e W X true x G h)
  i := fun W X fz tg e G h _ => by simp [chkI] at h
  kk := fun W X pos ks vs G h => by simp [chkK] at h
theorem snd_seq {a : E} (ha : Snd B g N T k a) : Snd B g N T k (.seq a) := by
  refine Snd.ofI (fun o _ e => by cases e <;> simp [chkE]) (fun _ _ => by simp [chkT]) (fun _ _ _ => by simp [chkEs]) (fun _ _ => by simp [chkP]) fun W X fz tg e G h _ => ?_
  simp only [chkI] at h
  exact i_seq G.hK (ha.e W X (!fz) e G h)
theorem snd_rng1 {a : E} (ha : Snd B g N T k a) : Snd B g N T k (.rng1 a) := by
  refine Snd.ofI (fun o _ e => by cases e <;> simp [chkE]) (fun _ _ => by simp [chkT]) (fun _ _ _ => by simp [chkEs]) (fun _ _ => by simp [chkP]) fun W X fz tg e G h _ => ?_
  unfold chkI at h
  split at h
  · simp only [Bool.and_eq_true, decide_eq_true_eq] at h
    exact i_rng1 h.1.1 (isGl_ok h.1.2) (blt_none G (by rw [h.1.1]; decide)) (chkE_plain h.2) (ha.e W X true _ G h.2)
  · cases h
theorem snd_rng2 {a b : E} (ha : Snd B g N T k a) (hb : Snd B g N T k b) : Snd B g N T k (.rng2 a b) := by
  refine Snd.ofI (fun o _ e => by cases e <;> simp [chkE]) (fun _ _ => by simp [chkT]) (fun _ _ _ => by simp [chkEs]) (fun _ _ => by simp [chkP]) fun W X fz tg e G h _ => ?_
  unfold chkI at h
  split at h
  · simp only [Bool.and_eq_true, decide_eq_true_eq] at h
    exact i_rng2 h.1.1.1 (isGl_ok h.1.1.2) (blt_none G (by rw [h.1.1.1]; decide)) (chkE_plain h.1.2) (chkE_plain h.2) (ha.e W X true _ G h.1.2) (hb.e W X true _ G h.2)
  · cases h
theorem snd_zip {a : E} (ha : Snd B g N T k a) : Snd B g N T k (.zip a) := by
  refine Snd.ofI (fun o _ e => by cases e <;> simp [chkE]) (fun _ _ => by simp [chkT]) (fun _ _ _ => by simp [chkEs]) (fun _ _ => by simp [chkP]) fun W X fz tg e G h hz => ?_
  unfold chkI at h
  split at h
  · simp only [Bool.and_eq_true, decide_eq_true_eq] at h
    obtain ⟨h1, h2, h3, h4, h5⟩ := h
    exact i_zip hz G.hK h1 (isGl_ok h2) (blt_none G (by rw [h1]; decide)) h3 h4 (ha.s W X (!fz) _ G h5) fun q => evs_len h5 q
  · cases h
theorem snd_enu {a : E} (ha : Snd B g N T k a) : Snd B g N T k (.enu a) := by
  refine Snd.ofI (fun o _ e => by cases e <;> simp [chkE]) (fun _ _ => by simp [chkT]) (fun _ _ _ => by simp [chkEs]) (fun _ _ => by simp [chkP]) fun W X fz tg e G h hz => ?_
  unfold chkI at h
  split at h
  · simp only [Bool.and_eq_true, decide_eq_true_eq] at h
    obtain ⟨h1, h2, h3⟩ := h
    exact i_enu hz G.hK h1 (isGl_ok h2) (blt_none G (by rw [h1]; decide)) (chkE_plain h3) (ha.e W X (!fz) _ G h3)
  · cases h
theorem snd_idx {a b : E} (ha : Snd B g N T k a) (hb : Snd B g N T k b) : Snd B g N T k (.idx a b) := by
  refine Snd.ofE (fun W X o e G h => ?_) (fun W X e G h q => ?_) (fun _ _ => by simp [chkT]) (fun _ _ _ => by simp [chkEs]) (fun _ _ => by simp [chkP]) (fun _ _ _ => by simp [chkI])
  · unfold chkE at h
    split at h
    · simp only [Bool.and_eq_true] at h
      exact o_idx G.hK G.hu (plainIx_of (chkE_plain h.2)) (ha.e W X true _ G h.1) (hb.e W X true _ G h.2)
    · cases h
  · rw [noC rfl h] at q; cases q
theorem snd_slc {a b c : E} (ha : Snd B g N T k a) (hb : Snd B g N T k b) (hc : Snd B g N T k c) : Snd B g N T k (.slc a b c) := by
  refine Snd.ofE (fun W X o e G h => ?_) (fun W X e G h q => ?_) (fun _ _ => by simp [chkT]) (fun _ _ _ => by simp [chkEs]) (fun _ _ => by simp [chkP]) (fun _ _ _ => by simp [chkI])
  · unfold chkE at h
    split at h
    · simp only [Bool.and_eq_true] at h
      exact o_slc G.hK (ha.e W X true _ G h.1.1) (hb.p W X _ G h.1.2) (hc.p W X _ G h.2)
    · cases h
  · rw [noC rfl h] at q; cases q
theorem snd_call {f : Nat} {es : E} (hs : Snd B g N T k es) : Snd B g N T k (.call f es) := by
  refine Snd.ofE (fun W X o e G h => ?_) (fun W X e G h q => ?_) (fun _ _ => by simp [chkT]) (fun _ _ _ => by simp [chkEs]) (fun _ _ => by simp [chkP]) (fun _ _ _ => by simp [chkI])
  · unfold chkE at h
    split at h
    · simp only [Bool.and_eq_true, decide_eq_true_eq] at h
      obtain ⟨⟨⟨h1, h2⟩, h3⟩, h4⟩ := h
      obtain ⟨fa, fd, ps, F, q1, q2, q3, q4⟩ := G.tbl.fns _ _ h1
      have pl := chkEs_plain h4
      rw [List.all_cons, Bool.and_eq_true] at pl
      exact o_call F G.room G.gd (isGl_ok h2) q1 q2 q3 G.wish (okN_ok h3).1 pl.1 pl.2 q4 (hs.s W X false _ G h4)
    · cases h
  · rw [noC rfl h] at q; cases q
theorem snd_callB {f : Nat} {es : E} (hs : Snd B g N T k es) : Snd B g N T k (.callB f es) := by
  refine Snd.ofE (fun W X o e G h => ?_) (fun W X e G h q => ?_) (fun _ _ => by simp [chkT]) (fun _ _ _ => by simp [chkEs]) (fun _ _ => by simp [chkP]) (fun _ _ _ => by simp [chkI])
  · unfold chkE at h
    split at h
    · simp only [Bool.and_eq_true, decide_eq_true_eq] at h
      obtain ⟨⟨⟨h1, h2⟩, h3⟩, h4⟩ := h
      obtain ⟨fa, fd, ps, F, q1, q2, q3, q4⟩ := G.tbl.fns _ _ h1
      have pl := chkEs_plain h4
      rw [List.all_cons, Bool.and_eq_true] at pl
      exact o_callB F G.room G.gd (isGl_ok h2) q1 q2 q3 G.wish (okN_ok h3).1 pl.1 pl.2 q4 (hs.s W X true _ G h4)
    · cases h
  · rw [noC rfl h] at q; cases q
theorem snd_take {i j : Nat} {a : E} (ha : Snd B g N T k a) : Snd B g N T k (.take i j a) := by
  refine Snd.ofE (fun W X o e G h => ?_) (fun W X e G h q => ?_) (fun _ _ => by simp [chkT]) (fun _ _ _ => by simp [chkEs]) (fun _ _ => by simp [chkP]) (fun _ _ _ => by simp [chkI])
  · unfold chkE at h
    split at h
    · simp only [Bool.and_eq_true, decide_eq_true_eq] at h
      obtain ⟨⟨⟨⟨⟨h0, h1⟩, h2⟩, ⟨h3, h4⟩, h5⟩, ⟨h6, h7⟩, h8⟩, h9⟩ := h
      obtain ⟨fa, fd, F, q1, q2, q3⟩ := G.tbl.take h0
      subst h1
      exact o_take G.hK F G.room G.gd (isGl_ok h2) q1 q2 q3 G.wish (by decide) (pe_var (by rw [G.hN]; exact h3) (isVis_ok h4) (okN_ok h5).1 (okN_ok h5).2) (pe_var (by rw [G.hN]; exact h6) (isVis_ok h7) (okN_ok h8).1 (okN_ok h8).2) (chkE_plain h9) (ha.e W X true _ G h9)
    · cases h
  · rw [noC rfl h] at q; cases q
theorem snd_blt {b : Blt} {es : E} (hs : Snd B g N T k es) : Snd B g N T k (.blt b es) := by
  refine Snd.ofE (fun W X o e G h => ?_) (fun W X e G h q => ?_) (fun _ _ => by simp [chkT]) (fun _ _ _ => by simp [chkEs]) (fun _ _ => by simp [chkP]) (fun _ _ _ => by simp [chkI])
  · unfold chkE at h
    split at h
    · simp only [Bool.and_eq_true, decide_eq_true_eq] at h
      obtain ⟨⟨⟨h1, h2⟩, h3⟩, h4⟩ := h
      have pl := chkEs_plain h4
      rw [List.all_cons, Bool.and_eq_true] at pl
      exact o_blt G.hK G.hc h1 (isGl_ok h3) (blt_none G (by rw [h1]; cases b <;> decide)) pl.1 pl.2 (hs.s W X true _ G h4)
    · cases h
  · rw [noC rfl h] at q; cases q
theorem snd_isi {a : E} {ts : List Ty} (ha : Snd B g N T k a) : Snd B g N T k (.isi a ts) := by
  refine Snd.ofE (fun W X o e G h => ?_) (fun W X e G h q => ?_) (fun _ _ => by simp [chkT]) (fun _ _ _ => by simp [chkEs]) (fun _ _ => by simp [chkP]) (fun _ _ _ => by simp [chkI])
  · unfold chkE at h
    split at h
    · simp only [Bool.and_eq_true, decide_eq_true_eq] at h
      obtain ⟨⟨⟨h1, h2⟩, h3⟩, h4⟩ := h
      split at h4
      · rename_i t
        simp only [Bool.and_eq_true, decide_eq_true_eq] at h4
        exact o_isi G.hK h1 (isGl_ok h2) (blt_none G (by rw [h1]; decide)) h4.1 (isGl_ok h4.2) (blt_none G (by rw [h4.1]; cases t <;> decide)) (chkE_plain h3) (ha.e W X true _ G h3)
      · cases h4
    · cases h
  · rw [noC rfl h] at q; cases q
theorem chkI_plain {fz : Bool} {sc : Scope} {i : E} {e : Expr} (h : chkI g N fz sc i e = true) : plainX e = true := by
  unfold chkI at h
  split at h
  · exact h
  · split at h <;> first | rfl | cases h
  · split at h <;> first | rfl | cases h
  · split at h <;> first | rfl | cases h
  · split at h <;> first | rfl | cases h
  · exact chkE_plain h
  · cases h
theorem comp_lst {el it cond : E} {tg : Tg} {env : Env} {n m : Nat} {d : D} (h : ev T (.comp el tg it cond) env n = .ok d m) : ∃ l, d = .lst l := by
  rw [ev_comp] at h
  cases e1 : evi T it env n with
  | bad => rw [e1] at h; cases h
  | exc e m => rw [e1] at h; cases h
  | ok xs n1 =>
    rw [e1, Res.bind_ok] at h
    cases e2 : mapR (compF T el tg cond env) xs n1 with
    | bad => rw [e2] at h; cases h
    | exc e m => rw [e2] at h; cases h
    | ok l n2 =>
      rw [e2, Res.quiet_ok, Res.bind_ok] at h
      cases h
      exact ⟨_, rfl⟩
/-- a comprehension's parts -/
theorem comp_parts {el it cond : E} {tg : Tg} {o : Bool} {sc : Scope} {e : Expr} (h : chkE g N o sc (.comp el tg it cond) e = true) : ∃ z t i ifs scope pos, e = .ListComp z [⟨t, i, ifs, 0⟩] scope pos ∧ (chkI g N false sc it i = true ∧ zOk it t = true) ∧ blkC N sc scope (ownOf tg t) = true ∧ chkG N scope tg t = true ∧
    ((ifs = [] ∧ cond = .nil) ∨ ∃ c, ifs = [c] ∧ chkT g N (relS scope sc) cond c = true) ∧ chkE g N false (relS scope sc) el z = true := by
  unfold chkE at h
  split at h
  · rename_i z t i ifs scope pos
    simp only [Bool.and_eq_true] at h
    obtain ⟨⟨⟨⟨h1, h2⟩, h3⟩, h4⟩, h5⟩ := h
    refine ⟨z, t, i, ifs, scope, pos, rfl, h1, h2, h3, ?_, h5⟩
    split at h4
    · split at h4
      · exact .inl ⟨rfl, rfl⟩
      · cases h4
    · exact .inr ⟨_, rfl, h4⟩
    · cases h4
  · cases h
theorem comp_N {el it cond : E} {tg : Tg} (hel : Snd B g N T k el) (hit : Snd B g N T k it) (hcd : Snd B g N T k cond) {W : WX} {X : Cx} {o : Bool} {e : Expr} (G : Good B g N T k W X) (h : chkE g N o X.env.scope (.comp el tg it cond) e = true) :
    PE X e (tN B T W (.comp el tg it cond)) := by
  obtain ⟨z, t, i, ifs, scope, pos, rfl, h1, h2, h3, h4, h5⟩ := comp_parts h
  refine o_compN G (hit.i W X false t i G h1.1 h1.2) h2 h3 (nofold (chkI_plain h1.1)) (fun X' G' hs => ?_) (fun X' G' hs => hel.e W0 X' false z G' (by rw [hs]; exact h5))
  rcases h4 with ⟨rfl, rfl⟩ | ⟨c, rfl, h4⟩
  · exact o_yes
  · exact o_one (hcd.t W0 X' c G' (by rw [hs]; exact h4))
theorem snd_comp {el it cond : E} {tg : Tg} (hel : Snd B g N T k el) (hit : Snd B g N T k it) (hcd : Snd B g N T k cond) : Snd B g N T k (.comp el tg it cond) := by
  refine Snd.ofE (fun W X o e G h => ?_) (fun W X e G h q => ?_) (fun _ _ => by simp [chkT]) (fun _ _ _ => by simp [chkEs]) (fun _ _ => by simp [chkP]) (fun _ _ _ => by simp [chkI])
  · exact PEw (comp_N hel hit hcd G h) tN_E
  · rw [noC rfl h] at q; cases q
theorem o_dcompN {X : Cx} {g : Sg} {N : List Str} {W : WX} {kx vx it cond : E} {tg : Tg} {z y t i : Expr} {ifs : List Expr} {scope : Scope} {pos : Pos} (G : Good B g N T k W X)
    (hi : PI X t i (tI B T W false it)) (hk : blkC N X.env.scope scope (ownOf tg t) = true) (hg : chkG N scope tg t = true) (hs : ∀ x, foldedSetIterable i X.env x = pure x)
    (ht : ∀ X', Good B g N T k W0 X' → X'.env.scope = relS scope X.env.scope → PTs X' ifs (tT B T W0 cond)) (hz : ∀ X', Good B g N T k W0 X' → X'.env.scope = relS scope X.env.scope → PE X' z (tE B T W0 false kx)) (he : ∀ X', Good B g N T k W0 X' → X'.env.scope = relS scope X.env.scope → PE X' y (tE B T W0 false vx)) :
    PE X (.DictComp z y [⟨t, i, ifs, 0⟩] scope pos) (tN B T W (.dcomp kx vx tg it cond)) := by
  refine PEw (pe_dc (g := gT X.K tg) G.hc (by rw [G.hN]; exact G.nd) hi (blkOk_by (by rw [G.hN]; exact hk)) (fun s H C cl fp => ?_) (fun s H C cl fp => ht _ (G.blk s H scope C cl fp) rfl) (fun s H C cl fp => hz _ (G.blk s H scope C cl fp) rfl) (fun s H C cl fp => he _ (G.blk s H scope C cl fp) rfl) hs) ?_
  · exact g_ok (X := X.blk s H scope (compEnvC scope cl C X.env) fp) (sc := scope) G.hc G.hN (by show X.N.Nodup; rw [G.hN]; exact G.nd) (fun x q => blk_loc q) tg t hg
  · rw [← G.hK]
    exact dc_read (tg_slots tg scope t hg)
/-- a dict comprehension's parts -/
theorem dcomp_parts {kx vx it cond : E} {tg : Tg} {o : Bool} {sc : Scope} {e : Expr} (h : chkE g N o sc (.dcomp kx vx tg it cond) e = true) : ∃ z y t i ifs scope pos, e = .DictComp z y [⟨t, i, ifs, 0⟩] scope pos ∧ (chkI g N false sc it i = true ∧ zOk it t = true) ∧ blkC N sc scope (ownOf tg t) = true ∧ chkG N scope tg t = true ∧
    ((ifs = [] ∧ cond = .nil) ∨ ∃ c, ifs = [c] ∧ chkT g N (relS scope sc) cond c = true) ∧ chkE g N false (relS scope sc) kx z = true ∧ chkE g N false (relS scope sc) vx y = true := by
  unfold chkE at h
  split at h
  · rename_i z y t i ifs scope pos
    simp only [Bool.and_eq_true] at h
    obtain ⟨⟨⟨⟨h1, h2⟩, h3⟩, h4⟩, h5, h6⟩ := h
    refine ⟨z, y, t, i, ifs, scope, pos, rfl, h1, h2, h3, ?_, h5, h6⟩
    split at h4
    · split at h4
      · exact .inl ⟨rfl, rfl⟩
      · cases h4
    · exact .inr ⟨_, rfl, h4⟩
    · cases h4
  · cases h
theorem dcomp_N {kx vx it cond : E} {tg : Tg} (hkx : Snd B g N T k kx) (hvx : Snd B g N T k vx) (hit : Snd B g N T k it) (hcd : Snd B g N T k cond) {W : WX} {X : Cx} {o : Bool} {e : Expr} (G : Good B g N T k W X) (h : chkE g N o X.env.scope (.dcomp kx vx tg it cond) e = true) :
    PE X e (tN B T W (.dcomp kx vx tg it cond)) := by
  obtain ⟨z, y, t, i, ifs, scope, pos, rfl, h1, h2, h3, h4, h5, h6⟩ := dcomp_parts h
  refine o_dcompN G (hit.i W X false t i G h1.1 h1.2) h2 h3 (nofold (chkI_plain h1.1)) (fun X' G' hs => ?_) (fun X' G' hs => hkx.e W0 X' false z G' (by rw [hs]; exact h5)) (fun X' G' hs => hvx.e W0 X' false y G' (by rw [hs]; exact h6))
  rcases h4 with ⟨rfl, rfl⟩ | ⟨c, rfl, h4⟩
  · exact o_yes
  · exact o_one (hcd.t W0 X' c G' (by rw [hs]; exact h4))
theorem snd_dcomp {kx vx it cond : E} {tg : Tg} (hkx : Snd B g N T k kx) (hvx : Snd B g N T k vx) (hit : Snd B g N T k it) (hcd : Snd B g N T k cond) : Snd B g N T k (.dcomp kx vx tg it cond) := by
  refine Snd.ofE (fun W X o e G h => ?_) (fun W X e G h q => ?_) (fun _ _ => by simp [chkT]) (fun _ _ _ => by simp [chkEs]) (fun _ _ => by simp [chkP]) (fun _ _ _ => by simp [chkI])
  · exact PEw (dcomp_N hkx hvx hit hcd G h) tN_E
  · rw [noC rfl h] at q; cases q
theorem snd_req {ng : Bool} {a b : E} (ha : Snd B g N T k a) (hb : Snd B g N T k b) : Snd B g N T k (.req ng a b) := by
  refine Snd.ofE (fun W X o e G h => ?_) (fun W X e G h q => ?_) (fun _ _ => by simp [chkT]) (fun _ _ _ => by simp [chkEs]) (fun _ _ => by simp [chkP]) (fun _ _ _ => by simp [chkI])
  all_goals
    unfold chkE at h
    split at h
    · simp only [Bool.and_eq_true, decide_eq_true_eq] at h
      obtain ⟨⟨⟨⟨⟨⟨h1, h2⟩, h3⟩, h4⟩, rfl⟩, h6⟩, h7⟩ := h
      first
        | exact o_req G.hK G.hu G.gd h1 (isGl_ok h3) (blt_none G (by rw [h1]; decide)) h2 (chkE_plain h6) (chkE_plain h7) (ha.e W X true _ G h6) (hb.e W X true _ G h7)
        | exact o_treq G.hK G.hu G.gd h1 (isGl_ok h3) (blt_none G (by rw [h1]; decide)) h2 (chkE_plain h6) (chkE_plain h7) (ha.e W X true _ G h6) (hb.e W X true _ G h7)
    · cases h
/-- every expression that was looked at keeps to its reading -/
theorem snd : ∀ i : E, Snd B g N T k i := by
  intro i
  induction i with
  | nil => exact snd_nil
  | cons a b ha hb => exact snd_cons ha hb
  | any => exact snd_any
  | dnew => exact snd_dnew
  | dsp a iha => exact snd_dsp iha
  | kv a b r iha ihb ihr => exact snd_kv iha ihb ihr
  | dget a b c iha ihb ihc => exact snd_dget iha ihb ihc
  | rev a h => exact snd_rev h
  | callB f es h => exact snd_callB h
  | var i => exact snd_var
  | ovar i => exact snd_ovar
  | cst d => exact snd_cst
  | glb j => exact snd_glb
  | tup es h => exact snd_tup h
  | lst es h => exact snd_lst h
  | bop op a b ha hb => exact snd_bop ha hb
  | neg a h => exact snd_neg h
  | cmp op a b ha hb => exact snd_cmp ha hb
  | cmp2 op op' a b c ha hb hc => exact snd_cmp2 ha hb hc
  | andv a b ha hb => exact snd_andv ha hb
  | orv a b ha hb => exact snd_orv ha hb
  | notv a h => exact snd_notv h
  | and a b ha hb => exact snd_and ha hb
  | or a b ha hb => exact snd_or ha hb
  | not a h => exact snd_not h
  | tru a h => exact snd_tru h
  | ite c a b hc ha hb => exact snd_ite hc ha hb
  | opt a h => exact snd_opt h
  | seq a h => exact snd_seq h
  | idx a i ha hi => exact snd_idx ha hi
  | slc a lo hi ha hl hh => exact snd_slc ha hl hh
  | call f es h => exact snd_call h
  | take i j m h => exact snd_take h
  | blt b es h => exact snd_blt h
  | isi a ts h => exact snd_isi h
  | comp el tg it cond h1 h2 h3 => exact snd_comp h1 h2 h3
  | dcomp kx vx tg it cond h1 h2 h3 h4 => exact snd_dcomp h1 h2 h3 h4
  | rng1 a h => exact snd_rng1 h
  | rng2 a b ha hb => exact snd_rng2 ha hb
  | zip es h => exact snd_zip h
  | enu e h => exact snd_enu h
  | req ng a b ha hb => exact snd_req ha hb
end
end Py

set_option Elab.async false
set_option linter.all false
set_option maxRecDepth 100000
set_option maxHeartbeats 4000000
/-! C16: states between statements; what a statement is read as. -/
namespace Py
open PySem PySem.Spec L2
/-- a def's entry -/
structure En where
  F0 : Hp
  H0 : Hp
  n0 : Nat
  ln : Nat
/-- a state between statements; Fb: what has long been frozen -/
structure Stt (B : Gb) (z : En) (Fb F H : Hp) (n : Nat) (σ : St) (env : Env) (ad : Nat → Addr) : Prop where
  st : St0 B.K B.O F H n
  en : EnOk B.K B.O F H σ env ad
  ext : Ext B.O z.F0 z.H0 z.n0 F H n
  ow : ∀ i, isOwn (slot env i) = true → z.H0 (ad i) = none
  base : Same Fb F
  len : σ.length = z.ln
  ea : z.H0 B.O.aA ≠ none
  dr0 : z.F0 B.O.aD = some (.lst (B.O.ds.map V.int))
section
variable (B : Gb) (W : WX) (z : En) (Fb : Hp)
def RS (r : Res Flow) (D : Ends) : Prop := match r with
  | .ok (.nx env) n => ∀ F H σ ad, Stt B z Fb F H n σ env ad → D.nx σ H
  | .ok (.brk env) n => ∀ F H σ ad, Stt B z Fb F H n σ env ad → D.bk σ H
  | .ok (.cnt env) n => ∀ F H σ ad, Stt B z Fb F H n σ env ad → D.ct σ H
  | .ok (.ret d) n => ∀ F H v, Ext B.O z.F0 z.H0 z.n0 F H n → Same Fb F → Rp B.K B.O F v d → D.rt v H
  | .exc e n => ∀ F H σ c dx, Ext B.O z.F0 z.H0 z.n0 F H n → Same Fb F → σ.length = z.ln → ExR B e c dx F H → W c dx σ H
  | .bad => False
end
section
variable {B : Gb} {W : WX} {z : En} {Fb F H F' H' : Hp} {n n' : Nat} {σ : St} {env : Env} {ad : Nat → Addr}
theorem Stt.go (s : Stt B z Fb F H n σ env ad) (e : Ext B.O F H n F' H' n') : Stt B z Fb F' H' n' σ env ad := ⟨s.st.ext e, s.en.ext e, s.ext.trans e, s.ow, s.base.trans e.same, s.len, s.ea, s.dr0⟩
theorem Stt.rebase (s : Stt B z Fb F H n σ env ad) {Fc : Hp} (h : Same Fc F) : Stt B z Fc F H n σ env ad := ⟨s.st, s.en, s.ext, s.ow, h, s.len, s.ea, s.dr0⟩
theorem RS.rebase {r : Res Flow} {D : Ends} {Fc : Hp} (h : RS B W z Fb r D) (s : Same Fb Fc) : RS B W z Fc r D := by
  match r, h with
  | .ok (.nx env) n, h => exact fun F H σ ad q => h F H σ ad (q.rebase (s.trans q.base))
  | .ok (.brk env) n, h => exact fun F H σ ad q => h F H σ ad (q.rebase (s.trans q.base))
  | .ok (.cnt env) n, h => exact fun F H σ ad q => h F H σ ad (q.rebase (s.trans q.base))
  | .ok (.ret d) n, h => exact fun F H v e b r => h F H v e (s.trans b) r
  | .exc e n, h => exact fun F H σ c dx x b => h F H σ c dx x (s.trans b)
  | .bad, h => exact h
theorem RS.seq {α : Type} {r : Res α} {f : α → Nat → Res Flow} {D : Ends} (s : Stt B z Fb F H n σ env ad) (h : RS B W z Fb (r.bind f) D) : R B W σ F H n r fun a n1 _ _ => RS B W z Fb (f a n1) D := by
  cases r with
  | ok a n' => exact fun F' H' e => h
  | exc e n' => exact fun F' H' c dx e x => h F' H' σ c dx (s.ext.trans e) (s.base.trans e.same) s.len x
  | bad => exact h
/-- a slot is given plain data -/
theorem Stt.set (s : Stt B z Fb F H n σ env ad) (i : Nat) {v : V} {d : D} (r : Rp B.K B.O F v d) : Stt B z Fb F H n (σ.set i (some v)) (env.set i (.val d)) ad where
  st := s.st
  en := (EnX.set (s.en.x [i]) r).all
  ext := s.ext
  ow := fun j hj => by
    rw [slot_set] at hj
    split at hj
    · cases hj
    · exact s.ow j hj
  base := s.base
  len := by rw [List.length_set]; exact s.len
  ea := s.ea
  dr0 := s.dr0
/-- .. a list of its own, newly made at a -/
theorem Stt.own (s : Stt B z Fb F H n σ env ad) (i : Nat) {Hs : Hp} {a : Addr} {u : HO} {l : D} (k : ∀ b o, b ≠ B.O.aA → Hs b = some o → H b = some o) (ho : ∀ j, isOwn (slot env j) = true → Hs (ad j) ≠ none) (h0 : Hs a = none) (hz : z.H0 a = none) (h1 : F a = none) (h2 : H a = some u) (r : RpC B.K B.O F u l) :
    Stt B z Fb F H n (σ.set i (some (.ref a))) (env.set i (.own l)) (fun j => if j = i then a else ad j) where
  st := s.st
  en := {
    len := by rw [List.length_set, List.length_set]; exact s.en.len
    ok := fun j => by
      show SlOk B.K B.O F H (if j = i then a else ad j) _ _
      rw [slot_set]
      by_cases hij : i = j
      · subst hij
        rw [if_pos (rfl : i = i)]
        by_cases hl' : i < env.length
        · rw [if_pos ⟨rfl, hl'⟩]
          refine ⟨u, List.getElem?_set_self (by rw [s.en.len]; exact hl'), h1, fun e => ?_, h2, r⟩
          subst e
          exact absurd hz s.ea
        · rw [if_neg (fun q => hl' q.2)]
          have : slot env i = .no := by unfold slot; rw [List.getD_eq_getElem?_getD, List.getElem?_eq_none (by omega)]; rfl
          rw [this]; trivial
      · rw [if_neg (Ne.symm hij), if_neg (fun q => hij q.1), List.getElem?_set_ne hij]
        exact s.en.ok j
    inj := fun p q hpq hp hq => by
      show (if p = i then a else ad p) ≠ (if q = i then a else ad q)
      have away : ∀ j, j ≠ i → isOwn (slot (env.set i (.own l)) j) = true → ad j ≠ a := fun j hj hp e => by
        rw [slot_set, if_neg (fun q => hj q.1.symm)] at hp
        rw [← e] at h0
        exact ho j hp h0
      by_cases h1 : p = i
      · rw [if_pos h1, if_neg (fun q2 => hpq (h1.trans q2.symm))]
        exact fun e => away q (fun q2 => hpq (h1.trans q2.symm)) hq e.symm
      · rw [if_neg h1]
        by_cases h2 : q = i
        · rw [if_pos h2]
          exact away p h1 hp
        · rw [if_neg h2]
          rw [slot_set, if_neg (fun q => h1 q.1.symm)] at hp
          rw [slot_set, if_neg (fun q => h2 q.1.symm)] at hq
          exact s.en.inj p q hpq hp hq }
  ext := s.ext
  ow := fun j hj => by
    show z.H0 (if j = i then a else ad j) = none
    by_cases h1 : j = i
    · rw [if_pos h1]; exact hz
    · rw [if_neg h1]
      rw [slot_set, if_neg (fun q => h1 q.1.symm)] at hj
      exact s.ow j hj
  base := s.base
  len := by rw [List.length_set]; exact s.len
  ea := s.ea
  dr0 := s.dr0
/-- a list of one's own is changed -/
theorem Stt.chg (s : Stt B z Fb F H n σ env ad) {i : Nat} {l l' : D} {u' : HO} (hi : slot env i = .own l) (r : RpC B.K B.O F u' l') : Stt B z Fb F (upd H (ad i) u') n σ (env.set i (.own l')) ad := by
  have q := s.en.ok i
  rw [hi] at q
  obtain ⟨xs, q1, q2, q3, q4, q5⟩ := q
  have hoi : isOwn (slot env i) = true := by rw [hi]; rfl
  have hz := s.ow i hoi
  have hlt : i < env.length := by
    by_cases h : i < env.length
    · exact h
    · have : slot env i = .no := by unfold slot; rw [List.getD_eq_getElem?_getD, List.getElem?_eq_none (by omega)]; rfl
      rw [this] at hi; cases hi
  have sub : Same F (upd H (ad i) u') := fun b o e => by
    rw [upd_ne (ne_of_none e q2)]; exact s.st.sub _ _ e
  have hA : upd H (ad i) u' B.O.aA = some (.lst [.int n]) := by rw [upd_ne q3.symm]; exact s.st.hA
  refine ⟨⟨sub, s.st.fA, hA, s.st.dr⟩, ⟨by rw [List.length_set]; exact s.en.len, fun j => ?_, fun p q hpq hp hq => ?_⟩, ⟨s.ext.same, sub, s.ext.fA, hA, fun b o hb e => ?_, s.ext.new⟩, fun j hj => ?_, s.base, s.len, s.ea, s.dr0⟩
  · rw [slot_set]
    by_cases hij : i = j
    · subst hij
      rw [if_pos ⟨rfl, hlt⟩]
      exact ⟨u', q1, q2, q3, upd_same .., r⟩
    · rw [if_neg (fun q => hij q.1)]
      have w := s.en.ok j
      cases e : slot env j with
      | no => trivial
      | val d => rw [e] at w; exact w
      | own m =>
        rw [e] at w
        obtain ⟨ys, w1, w2, w3, w4, w5⟩ := w
        refine ⟨ys, w1, w2, w3, ?_, w5⟩
        rw [upd_ne (fun q => s.en.inj i j hij hoi (by rw [e]; rfl) q.symm)]
        exact w4
  · have hh : ∀ j, isOwn (slot (env.set i (.own l')) j) = true → isOwn (slot env j) = true := fun j hj => by
      rw [slot_set] at hj
      split at hj
      · rename_i c; rw [← c.1]; exact hoi
      · exact hj
    exact s.en.inj p q hpq (hh p hp) (hh q hq)
  · rw [upd_ne (ne_of_none e hz)]; exact s.ext.keep _ _ hb e
  · rw [slot_set] at hj
    split at hj
    · rename_i c; rw [← c.1]; exact hz
    · exact s.ow j hj
/-- .. frozen -/
theorem Stt.frz (s : Stt B z Fb F H n σ env ad) {i : Nat} {l : D} (hi : slot env i = .own l) : ∃ F', Stt B z Fb F' H n σ (env.set i (.val l)) ad ∧ Rp B.K B.O F' (.ref (ad i)) l ∧ σ[i]? = some (some (.ref (ad i))) := by
  have q := s.en.ok i
  rw [hi] at q
  obtain ⟨xs, q1, q2, q3, q4, q5⟩ := q
  have hoi : isOwn (slot env i) = true := by rw [hi]; rfl
  have hz := s.ow i hoi
  have hlt : i < env.length := by
    by_cases h : i < env.length
    · exact h
    · have : slot env i = .no := by unfold slot; rw [List.getD_eq_getElem?_getD, List.getElem?_eq_none (by omega)]; rfl
      rw [this] at hi; cases hi
  have sm : Same F (upd F (ad i) xs) := fun b o e => by rw [upd_ne (ne_of_none e q2)]; exact e
  have rr : Rp B.K B.O (upd F (ad i) xs) (.ref (ad i)) l := RpC.newR q2 q5
  have ex := s.ext.frz hz s.ea q2 q4
  refine ⟨upd F (ad i) xs, ⟨⟨ex.sub, ex.fA, ex.hA, sm _ _ s.st.dr⟩, ⟨by rw [List.length_set]; exact s.en.len, fun j => ?_, fun p q hpq hp hq => ?_⟩, ex, fun j hj => ?_, s.base.trans sm, s.len, s.ea, s.dr0⟩, rr, q1⟩
  · rw [slot_set]
    by_cases hij : i = j
    · subst hij
      rw [if_pos ⟨rfl, hlt⟩]
      exact ⟨_, q1, rr⟩
    · rw [if_neg (fun q => hij q.1)]
      have w := s.en.ok j
      cases e : slot env j with
      | no => trivial
      | val d => rw [e] at w; obtain ⟨v, w1, w2⟩ := w; exact ⟨v, w1, w2.mono sm⟩
      | own m =>
        rw [e] at w
        obtain ⟨ys, w1, w2, w3, w4, w5⟩ := w
        refine ⟨ys, w1, ?_, w3, w4, w5.mono sm⟩
        rw [upd_ne (fun q => s.en.inj i j hij hoi (by rw [e]; rfl) q.symm)]
        exact w2
  · have hh : ∀ j, isOwn (slot (env.set i (.val l)) j) = true → isOwn (slot env j) = true := fun j hj => by
      rw [slot_set] at hj
      split at hj
      · cases hj
      · exact hj
    exact s.en.inj p q hpq (hh p hp) (hh q hq)
  · rw [slot_set] at hj
    split at hj
    · cases hj
    · exact s.ow j hj
end
section
variable (B : Gb) (T : Tab) (W : WX)
/-- a statement's reading -/
def tS (s : S) : TS := fun D σ H => ∃ z Fb F env ad n, Stt B z Fb F H n σ env ad ∧ RS B W z Fb (ex T s env n) D
end
/-! ### the look -/
def isComp : Expr → Bool
  | .ListComp .. => true
  | .SetComp .. => true
  | .DictComp .. => true
  | _ => false
def isTupE : Expr → Bool
  | .Tuple .. => true
  | _ => false
def swB (sc : Scope) (x : Str) (p : Pos) (s : Scope) (q : Pos) : Bool := decide (sc.names.lookup x = some .local) && (p.line == q.line) && !(s.names.any fun (n, k) => n == x && (k == .local || k == .cell))
def swOk (sc : Scope) (x : Str) (p : Pos) : Expr → Bool
  | .SetComp .. => false
  | _ => true
/-- what makes a new list -/
def newI : E → Bool
  | .lst _ => true
  | .comp .. => true
  | .dcomp .. => true
  | .blt .list _ => true
  | .bop .Mult (.lst _) _ => true
  | .bop .Add _ (.lst _) => true
  | .dnew => true
  | .dsp _ => true
  | _ => false
section
variable (g : Sg) (sc : Scope) (y : Str)
mutual
/-- what an except suite gives back: y is the error's name -/
def chkH : HE → Expr → Bool
  | .cst d, e => match e with
    | .Constant c _ _ => cstOk d c
    | _ => false
  | .fld f, e => match e with
    | .Attribute (.Name x _) f' _ => decide (x = y) && decide (f' = f)
    | _ => false
  | .tup es, e => match e with
    | .Tuple l _ _ => decide (l.length ≤ 1000) && chkHl es l
    | _ => false
  | .ite c a b, e => match e with
    | .IfExp (.Call (.Name z _) [.Name x _, .Name cc _] [] _) u v _ => decide (z = "isinstance") && (isGl sc z && (decide (x = y) && (decide (cc = c) && (isGl sc cc && (okN cc && (g.ecls.contains c && (chkH a u && chkH b v)))))))
    | _ => false
  | .iteV c a b, e => match e with
    | .IfExp (.BoolOp .And [.Call (.Name z _) [.Name x _, .Name cc _] [] _, .Call (.Name z2 _) [.Name x2 _, .Name cv _] [] _] _) u v _ => decide (z = "isinstance") && (isGl sc z && (decide (x = y) && (decide (cc = c) && (isGl sc cc && (okN cc && (g.ecls.contains c && ((decide (z2 = "isinstance") && (decide (x2 = y) && (decide (cv = "ValueError") && isGl sc cv))) && (chkH a u && chkH b v))))))))
    | _ => false
  | _, _ => false
def chkHl : HE → List Expr → Bool
  | .nil, l => l.isEmpty
  | .cons a b, l => match l with
    | x :: r => chkH a x && chkHl b r
    | [] => false
  | _, _ => false
end
end
section
variable (g : Sg) (N : List Str) (sc : Scope)
def chkHs : List (Str × Nat × HE) → List ExceptHandler → Bool
  | [], [] => true
  | (c, i, .anon d) :: r, (.ExceptHandler (some (.Name x _)) none [.Return (some (.Constant cc _ _)) _] _) :: hds =>
    decide (x = c) && (isGl sc x && (okN x && (g.ecls.contains c && (decide (i = 0) && (cstOk d cc && chkHs r hds)))))
  | (c, i, h) :: r, (.ExceptHandler (some (.Name x _)) (some y) [.Return (some e) _] _) :: hds =>
    decide (x = c) && (isGl sc x && (okN x && (g.ecls.contains c && (decide (N[i]? = some y) && (decide (sc.names.lookup y = some .local) && (okN y && (chkH g sc y h e && chkHs r hds)))))))
  | _, _ => false
end
section
variable (g : Sg) (N : List Str)
def nmL (sc : Scope) (i : Nat) (x : Str) : Bool := decide (N[i]? = some x) && (isLoc sc x && okN x)
def nmV (sc : Scope) (i : Nat) (x : Str) : Bool := decide (N[i]? = some x) && (isVis sc x && okN x)
mutual
def chkS (sc : Scope) : S → Stmt → Bool
  | .any, _ => true
  | .skip, st => match st with
    | .Pass _ => true
    | _ => false
  | .set i e, st => match st with
    | .Assign [.Name x p] v _ => nmL N sc i x && (swOk sc x p v && chkE g N false sc e v)
    | _ => false
  | .own i e, st => match st with
    | .Assign [.Name x p] v _ => nmL N sc i x && (swOk sc x p v && (newI e && chkE g N false sc e v))
    | _ => false
  | .setT t e, st => match st with
    | .Assign [tg] v _ => !isTupE v && (!isComp v && (chkG N sc t tg && chkE g N false sc e v))
    | _ => false
  | .par2 i j a b, st => match st with
    | .Assign [.Tuple [.Name x px, .Name y py] _ _] (.Tuple [u, w] _ _) _ => nmL N sc i x && (nmL N sc j y && (decide (sc.names.lookup x = some .local) && (decide (sc.names.lookup y = some .local) && (decide (i ≠ j) && (px.line == py.line && (decide (x ≠ y) &&
        (!(foldedForSure 8 u && foldedForSure 8 w) && (!(constantsAlone 8 u && constantsAlone 8 w) && (chkE g N false sc a u && chkE g N false sc b w)))))))))
    | _ => false
  | .app i e, st => match st with
    | .Expr (.Call (.Attribute (.Name x _) m ap) [v] [] cp) _ => decide (m = "append") && (nmV N sc i x && (ap.endLine == cp.line && chkE g N false sc e v))
    | _ => false
  | .sto i k e, st => match st with
    | .Assign [.Subscript (.Name x _) kx _] v _ => nmV N sc i x && (!isComp v && (chkE g N true sc k kx && chkE g N false sc e v))
    | _ => false
  | .aug op i e, st => match st with
    | .AugAssign (.Name x _) op' v _ => decide (op = op') && (nmL N sc i x && chkE g N true sc e v)
    | _ => false
  | .frz _, _ => false
  | .expr e, st => match st with
    | .Expr v _ => !isComp v && chkE g N false sc e v
    | _ => false
  | .ret e, st => match st with
    | .Return (some v) _ => chkE g N false sc e v
    | _ => false
  | .retN, st => match st with
    | .Return none _ => true
    | _ => false
  | .retO i, st => match st with
    | .Return (some (.Name x _)) _ => nmV N sc i x
    | _ => false
  | .ite c a b, st => match st with
    | .If t x y _ => chkT g N sc c t && (chkSs sc a x && chkSs sc b y)
    | _ => false
  | .whl c b, st => match st with
    | .While t x [] _ => chkT g N sc c t && chkSs sc b x
    | _ => false
  | .loop tg it b, st => match st with
    | .For t i x [] _ => (chkI g N true sc it i && zOk it t) && (chkG N sc tg t && chkSs sc b x)
    | _ => false
  | .brk, st => match st with
    | .Break _ => true
    | _ => false
  | .cnt, st => match st with
    | .Continue _ => true
    | _ => false
  | .rai c es, st => match st with
    | .Raise (some (.Call (.Name x _) [v] [] _)) none _ => decide (x = c) && (isGl sc x && (okN x && (match es with
      | .cons e .nil => chkE g N false sc e v
      | _ => false)))
    | _ => false
  | .tri b hs, st => match st with
    | .Try body (h1 :: hds) [] [] _ => chkSs sc b body && chkHs g N sc hs (h1 :: hds)
    | _ => false
  | .seq .., _ => false
def chkSs (sc : Scope) : S → List Stmt → Bool
  | .skip, sts => sts.isEmpty
  | .seq a b, sts => match a with
    | .frz _ => chkSs sc b sts
    | a => match sts with
      | st :: r => chkS sc a st && chkSs sc b r
      | [] => false
  | _, _ => false
end
end
end Py

set_option Elab.async false
set_option linter.all false
set_option maxRecDepth 100000
set_option maxHeartbeats 4000000
/-! C17: statements that were looked at keep to their reading. -/
namespace Py
open PySem PySem.Spec L2
structure GoodS (B : Gb) (g : Sg) (N : List Str) (T : Tab) (k : Nat) (W : WX) (X : Cx) : Prop where
  G : Good B g N T k W X
  kind : X.env.scope.kind = .function
  loc : ∀ x, isLoc X.env.scope x = true → X.fn x = true ∨ X.env.scope.names.lookup x = some .local
  po : PassesOwn (model X.prog X.w) X.A X.env X.xe
  tk : Takes X W
  hs : X.stack = X.env :: X.outer
  hf : X.env.frame = some X.env.locals
section
variable {B : Gb} {g : Sg} {N : List Str} {T : Tab} {k : Nat} {W : WX} {X : Cx} {σ : St}
theorem nmL_ok (G : GoodS B g N T k W X) {i : Nat} {x : Str} (h : nmL N X.env.scope i x = true) : X.N[i]? = some x ∧ L2.Loc X.env.scope x ∧ (X.fn x = true ∨ X.env.scope.names.lookup x = some .local) := by
  unfold nmL at h
  simp only [Bool.and_eq_true, decide_eq_true_eq] at h
  exact ⟨by rw [G.G.hN]; exact h.1, isLoc_ok h.2.1, G.loc _ h.2.1⟩
theorem nmV_ok (G : GoodS B g N T k W X) {i : Nat} {x : Str} {p : Pos} (h : nmV N X.env.scope i x = true) : PE X (.Name x p) (tVar i) := by
  unfold nmV at h
  simp only [Bool.and_eq_true, decide_eq_true_eq] at h
  exact pe_var (by rw [G.G.hN]; exact h.1) (isVis_ok h.2.1) (okN_ok h.2.2).1 (okN_ok h.2.2).2
theorem sw_no {v : Expr} {t : Option Expr} {l : Nat} {env : PySem.Env} (h : isComp v = false) : swapsWith v t l env = pure false := by
  cases v <;> first | rfl | cases h
theorem noStores {tg v : Expr} {env : PySem.Env} (h : isTupE v = false) : swappedStores [tg] v env = pure none := by
  cases v <;> first | (cases h; done) | skip
  all_goals cases tg <;> rfl
/-- a new list or dict is laid as the last step -/
theorem layC {F0 H0 : Hp} {n0 : Nat} {Q : VK} {r : D} {F H : Hp} {n : Nat} {u : HO} (e0 : Ext B.O F0 H0 n0 F H n) (s : St0 B.K B.O F H n)
    (h : R B W σ F H n (.ok r n) fun d _ F' H' => ∀ a u, H0 a = none → F' a = none → H' a = some u → RpC B.K B.O F' u d → Q (.ref a) H') (rv : RpC B.K B.O F u r) :
    ∀ a, H a = none → Q (.ref a) (upd H a u) := fun a ha => by
  refine h F _ (Ext.layO s ha _) a u ?_ (s.lt ha) (upd_same ..) rv
  cases zz : H0 a with
  | none => rfl
  | some o => rw [e0.keep a o (fun q => by subst q; rw [s.hA] at ha; cases ha) zz] at ha; cases ha
theorem layN {F0 H0 : Hp} {n0 : Nat} {Q : VK} {r : D} {F H : Hp} {n : Nat} {xs : List V} {l : List D} (e0 : Ext B.O F0 H0 n0 F H n) (s : St0 B.K B.O F H n)
    (h : R B W σ F H n (.ok r n) fun d _ F' H' => ∀ a u, H0 a = none → F' a = none → H' a = some u → RpC B.K B.O F' u d → Q (.ref a) H') (hr : r = .lst l) (rv : RpA B.K B.O F xs l) (hn : l.length ≤ LIM) :
    ∀ a, H a = none → Q (.ref a) (upd H a (.lst xs)) := by
  subst hr
  exact layC e0 s h (show RpA _ _ _ xs l ∧ _ from ⟨rv, hn⟩)
theorem new_E (G : Good B g N T k W X) {v : Expr} {e : E} (hc : isComp v = false) (hnew : newI e = true) (hv : chkE g N false X.env.scope e v = true) : PE X v (tN B T W e) := by
  unfold newI at hnew
  split at hnew
  · rename_i es
    unfold chkE at hv
    split at hv
    · simp only [Bool.and_eq_true, decide_eq_true_eq] at hv
      refine PEw (pe_lst ((snd es).s W X false _ G hv.2)) fun σ H Q ⟨F, env, ad, n, s, en, h⟩ => ?_
      dsimp only [ev] at h
      refine ⟨F, env, ad, n, s, en, h.seq.imp fun l n1 F1 H1 er e1 h1 vs rvs => ?_⟩
      have rv := rvs.frz
      have hn : l.length ≤ LIM := by rw [evs_len hv.2 er]; exact Nat.le_trans hv.1 (by decide)
      exact ⟨by rw [rv.length, ← lim_eq]; exact hn, layN e1 (s.ext e1) h1 rfl rv hn⟩
    · cases hv
  · exfalso
    unfold chkE at hv
    split at hv
    · cases hc
    · cases hv
  · exfalso
    unfold chkE at hv
    split at hv
    · cases hc
    · cases hv
  · rename_i es
    unfold chkE at hv
    split at hv
    · simp only [Bool.and_eq_true, decide_eq_true_eq] at hv
      obtain ⟨⟨⟨h1, h2⟩, h3⟩, h4⟩ := hv
      have pl := chkEs_plain h4
      rw [List.all_cons, Bool.and_eq_true] at pl
      have hx : _ = ("list" : Str) := h1
      subst hx
      refine PEw (pe_callTy call_list_of (isGl_ok h3) (blt_none G (by decide)) PyProof.Rows.boot_list ((snd es).s W X true _ G h4) (by decide) (by decide) (star1 pl.1) (starN pl.2)) fun σ H Q ⟨F, env, ad, n, s, en, h⟩ => ?_
      dsimp only [ev] at h
      refine ⟨F, env, ad, n, s, en, h.seq.imp fun l n1 F1 H1 er e1 h1 vs rvs => ?_⟩
      have s1 := s.ext e1
      cases eb : bltV .list l with
      | none => rw [eb] at h1; exact h1.elim
      | some r =>
        rw [eb] at h1
        unfold bltV at eb
        split at eb <;> first | (rename_i q; cases q; done) | skip
        · rename_i d _
          obtain ⟨v, rfl, rv⟩ := rvs.one
          cases d with
          | tup l =>
            obtain ⟨a, ys, rfl, h2, r1, n1⟩ := rv.tup s1.sub
            cases eb
            rw [G.hK] at h2
            exact ⟨a, ys, rfl, .inr h2, layN e1 s1 h1 rfl r1 n1⟩
          | lst l =>
            obtain ⟨a, ys, rfl, h2, r1, n1⟩ := rv.lst s1.sub
            cases eb
            exact ⟨a, ys, rfl, .inl (SqL.of h2), layN e1 s1 h1 rfl r1 n1⟩
          | _ => cases eb
        · cases eb
    · cases hv
  · rename_i es b
    unfold chkE at hv
    split at hv
    · simp only [Bool.and_eq_true, decide_eq_true_eq] at hv
      obtain ⟨⟨rfl, h1⟩, h2⟩ := hv
      refine PEw (pe_op op_rep ((snd (.lst es)).e W X true _ G h1) ((snd b).e W X true _ G h2)) fun σ H Q ⟨F, env, ad, n, s, en, h⟩ => ?_
      have hl : ∀ {env : Env} {n m : Nat} {d : D}, ev T (.lst es) env n = .ok d m → ∃ l, d = .lst l := fun {env n m d} q => by
        dsimp only [ev] at q
        cases eq : evs T es env n with
        | bad => rw [eq] at q; cases q
        | exc e m => rw [eq] at q; cases q
        | ok l m => rw [eq] at q; cases q; exact ⟨_, rfl⟩
      have h : R B W σ F H n ((ev T (.lst es) env n).bind fun x n => (ev T b env n).bind fun y n => Res.of (binV .Mult x y) n) _ := h
      refine ⟨F, env, ad, n, s, en, h.seq.imp fun d n1 F1 H1 er e1 h1 v rv => ?_⟩
      have s1 := s.ext e1
      have en1 := en.ext e1
      obtain ⟨l, rfl⟩ := hl er
      refine ⟨F1, env, ad, n1, s1, en1, h1.seq.imp fun d2 n2 F2 H2 er2 e2 h2 v2 rv2 => ?_⟩
      have s2 := s1.ext e2
      cases eb : binV .Mult (.lst l) d2 with
      | none => rw [eb] at h2; exact h2.elim
      | some r =>
        rw [eb] at h2
        cases d2 with
        | int kk =>
          obtain ⟨zz, hz, rfl⟩ := Option.map_eq_some_iff.mp (show (rep l kk).map D.lst = some r from eb)
          obtain ⟨rfl, k0, k1, hl⟩ := rep_some hz
          obtain ⟨a, xs, rfl, h3, r1, n1⟩ := (rv.ext e2).opd.lst s2.sub
          obtain rfl := rv2.opd.int
          exact ⟨a, _, xs, rfl, rfl, h3, by omega, by omega, (by rw [r1.length, ← lim_eq]; exact hl), layN (e1.trans e2) s2 h2 rfl (r1.rep _) (by rw [flat_len, Nat.mul_comm]; exact hl)⟩
        | _ => cases eb
    · cases hv
  · rename_i b es
    unfold chkE at hv
    split at hv
    · simp only [Bool.and_eq_true, decide_eq_true_eq] at hv
      obtain ⟨⟨rfl, h1⟩, h2⟩ := hv
      refine PEw (pe_op op_cat ((snd b).e W X true _ G h1) ((snd (.lst es)).e W X true _ G h2)) fun σ H Q ⟨F, env, ad, n, s, en, h⟩ => ?_
      have hl : ∀ {env : Env} {n m : Nat} {d : D}, ev T (.lst es) env n = .ok d m → ∃ l, d = .lst l := fun {env n m d} q => by
        dsimp only [ev] at q
        cases eq : evs T es env n with
        | bad => rw [eq] at q; cases q
        | exc e m => rw [eq] at q; cases q
        | ok l m => rw [eq] at q; cases q; exact ⟨_, rfl⟩
      have h : R B W σ F H n ((ev T b env n).bind fun x n => (ev T (.lst es) env n).bind fun y n => Res.of (binV .Add x y) n) _ := h
      refine ⟨F, env, ad, n, s, en, h.seq.imp fun d n1 F1 H1 er e1 h1 v rv => ?_⟩
      have s1 := s.ext e1
      have en1 := en.ext e1
      refine ⟨F1, env, ad, n1, s1, en1, h1.seq.imp fun d2 n2 F2 H2 er2 e2 h2 v2 rv2 => ?_⟩
      have s2 := s1.ext e2
      obtain ⟨l, rfl⟩ := hl er2
      cases eb : binV .Add d (.lst l) with
      | none => rw [eb] at h2; exact h2.elim
      | some r =>
        rw [eb] at h2
        cases d with
        | lst l1 =>
          obtain ⟨zz, hz, rfl⟩ := Option.map_eq_some_iff.mp (show (cat l1 l).map D.lst = some r from eb)
          obtain ⟨rfl, hl⟩ := cat_some hz
          obtain ⟨a, xs, rfl, h3, r1, n1⟩ := (rv.ext e2).opd.lst s2.sub
          obtain ⟨b, ys, rfl, h4, r2, n2⟩ := rv2.opd.lst s2.sub
          exact ⟨a, b, xs, ys, rfl, rfl, h3, h4, (by rw [r1.length, r2.length, ← lim_eq]; exact hl), layN (e1.trans e2) s2 h2 rfl (r1.app r2) (by rw [List.length_append]; exact hl)⟩
        | _ => cases eb
    · cases hv
  · unfold chkE at hv
    split at hv
    · refine PEw pe_dnewK fun σ H Q ⟨F, env, ad, n, s, en, h⟩ => ?_
      dsimp only [ev] at h
      exact layC (Ext.refl s) s h (show _ = _ ∧ (RpA _ _ _ _ _ ∧ _) from ⟨rfl, .nil, by decide⟩)
    · cases hv
  · unfold chkE at hv
    split at hv
    · rw [Bool.and_eq_true, decide_eq_true_eq] at hv
      obtain ⟨q1, q2⟩ := chkK_all hv.2
      exact o_dspN ((snd _).kk W X _ _ _ G hv.2) q1 q2 (by simp) hv.1
    · cases hv
  · cases hnew
theorem sw_false {el : Expr} {gs : List Comprehension} {scope : Scope} {pos py : Pos} {y : Str} {l : Nat} {env : PySem.Env} (hk : env.scope.kind = .function) (hb : swB env.scope y py scope pos = false) : swapsWith (.ListComp el gs scope pos) (some (.Name y py)) l env = pure false := by
  have hbk : env.blockKind = .function := by unfold Env.blockKind; rw [hk]; rfl
  have e : (env.kindOf y == some .local) = decide (env.scope.names.lookup y = some .local) := by
    show (env.scope.names.lookup y == some .local) = _
    cases env.scope.names.lookup y with
    | none => rfl
    | some k => cases k <;> rfl
  unfold swB at hb
  unfold swapsWith
  simp only [hbk, e, Expr.pos]
  have z : (ScopeKind.function == ScopeKind.function) = true := rfl
  rw [z, Bool.true_and]
  exact congrArg pure hb
theorem swD_false {kx vx : Expr} {gs : List Comprehension} {scope : Scope} {pos py : Pos} {y : Str} {l : Nat} {env : PySem.Env} (hk : env.scope.kind = .function) (hb : swB env.scope y py scope pos = false) : swapsWith (.DictComp kx vx gs scope pos) (some (.Name y py)) l env = pure false := by
  have hbk : env.blockKind = .function := by unfold Env.blockKind; rw [hk]; rfl
  have e : (env.kindOf y == some .local) = decide (env.scope.names.lookup y = some .local) := by
    show (env.scope.names.lookup y == some .local) = _
    cases env.scope.names.lookup y with
    | none => rfl
    | some k => cases k <;> rfl
  unfold swB at hb
  unfold swapsWith
  simp only [hbk, e, Expr.pos]
  have z : (ScopeKind.function == ScopeKind.function) = true := rfl
  rw [z, Bool.true_and]
  exact congrArg pure hb
theorem ps_name {i : Nat} {x : Str} {p q : Pos} {v : Expr} {e : E} (G : GoodS B g N T k W X) (hn : nmL N X.env.scope i x = true) (hs : swOk X.env.scope x p v = true) (hv : chkE g N false X.env.scope e v = true) :
    PS X (.Assign [.Name x p] v q) (tAsg (tE B T W false e) (gName i)) ∧ (newI e = true → PS X (.Assign [.Name x p] v q) (tAsg (tN B T W e) (gName i))) := by
  obtain ⟨n1, n2, n3⟩ := nmL_ok G hn
  by_cases hc : isComp v = true
  · by_cases hany : e = .any
    · subst hany
      exact ⟨PSw ps_never fun D σ H ⟨F, env, ad, n, s, en, h⟩ => h.elim, fun q => by cases q⟩
    by_cases hd : ∃ z y gs sc ps, v = .DictComp z y gs sc ps
    · obtain ⟨z, y, gs, scope, pos, rfl⟩ := hd
      have : ∃ kx vx tg it cond, e = .dcomp kx vx tg it cond := by
        cases e <;> first | exact ⟨_, _, _, _, _, rfl⟩ | (exact absurd rfl hany) | (simp [chkE] at hv)
      obtain ⟨kx, vx, tg, it, cond, rfl⟩ := this
      obtain ⟨z1, y1, t, j, ifs, scope1, pos1, e1, h1, h2, h3, h4, h5, h6⟩ := dcomp_parts hv
      cases e1
      by_cases hsw : swB X.env.scope x p scope pos = true
      rotate_left
      · have hsw : swB X.env.scope x p scope pos = false := by simpa using hsw
        have st : ∀ {tt : TE}, PE X (.DictComp z y [⟨t, j, ifs, 0⟩] scope pos) tt → PS X (.Assign [.Name x p] (.DictComp z y [⟨t, j, ifs, 0⟩] scope pos) q) (tAsg tt (gName i)) := fun he => ps_set (by rw [G.G.hN]; exact G.G.nd) n1 n2 he (swD_false G.kind hsw) n3
        have cn := dcomp_N (snd kx) (snd vx) (snd it) (snd cond) G.G hv
        exact ⟨st (PEw cn tN_E), fun _ => st cn⟩
      have hs := hsw
      unfold swB at hs
      simp only [Bool.and_eq_true, decide_eq_true_eq, Bool.not_eq_true'] at hs
      have key : PS X (.Assign [.Name x p] (.DictComp z y [⟨t, j, ifs, 0⟩] scope pos) q) (tAsg (tN B T W (.dcomp kx vx tg it cond)) (gName i)) := by
        refine PSw (ps_setDc (g := gT X.K tg) (tt := tT B T W0 cond) (tk := tE B T W0 false kx) (tv := tE B T W0 false vx) G.G.hc (by rw [G.G.hN]; exact G.G.nd) n1 hs.1.1 (swD_true G.kind hs.1.1 hs.1.2 hs.2) ((snd it).i W X false t j G.G h1.1 h1.2) (blkOk_by (by rw [G.G.hN]; exact h2))
          (fun s H C cl fp => g_ok (X := X.blk s H scope (compEnvC scope cl C X.env) fp) (sc := scope) G.G.hc G.G.hN (by show X.N.Nodup; rw [G.G.hN]; exact G.G.nd) (fun x q => blk_loc q) tg t h3) (fun s H C cl fp => ?_)
          (fun s H C cl fp => (snd kx).e W0 _ false z (G.G.blk s H scope C cl fp) h5) (fun s H C cl fp => (snd vx).e W0 _ false y (G.G.blk s H scope C cl fp) h6) (nofold (chkI_plain h1.1))) fun D σ H h => ?_
        · rcases h4 with ⟨rfl, rfl⟩ | ⟨c, rfl, h4⟩
          · exact o_yes
          · exact o_one ((snd cond).t W0 _ c (G.G.blk s H scope C cl fp) h4)
        · show tDc _ _ _ _ _ _ σ H _
          rw [← G.G.hK]
          exact dc_read (tg_slots tg scope t h3) σ H _ h
      exact ⟨PSw key fun D σ H h => tN_E σ H _ h, fun _ => key⟩
    have : ∃ el tg it cond, e = .comp el tg it cond := by
      cases v <;> first | (cases hc; done) | skip
      all_goals first | exact absurd ⟨_, _, _, _, _, rfl⟩ hd | skip
      all_goals cases e <;> first | exact ⟨_, _, _, _, rfl⟩ | (exact absurd rfl hany) | (simp [chkE] at hv)
    obtain ⟨el, tg, it, cond, rfl⟩ := this
    obtain ⟨y, t, j, ifs, scope, pos, rfl, h1, h2, h3, h4, h5⟩ := comp_parts hv
    by_cases hsw : swB X.env.scope x p scope pos = true
    rotate_left
    · have hsw : swB X.env.scope x p scope pos = false := by simpa using hsw
      have st : ∀ {tt : TE}, PE X (.ListComp y [⟨t, j, ifs, 0⟩] scope pos) tt → PS X (.Assign [.Name x p] (.ListComp y [⟨t, j, ifs, 0⟩] scope pos) q) (tAsg tt (gName i)) := fun he => ps_set (by rw [G.G.hN]; exact G.G.nd) n1 n2 he (sw_false G.kind hsw) n3
      have cn := comp_N (snd el) (snd it) (snd cond) G.G hv
      exact ⟨st (PEw cn tN_E), fun _ => st cn⟩
    have hs := hsw
    unfold swB at hs
    simp only [Bool.and_eq_true, decide_eq_true_eq, Bool.not_eq_true'] at hs
    have key : PS X (.Assign [.Name x p] (.ListComp y [⟨t, j, ifs, 0⟩] scope pos) q) (tAsg (tN B T W (.comp el tg it cond)) (gName i)) := by
      refine PSw (ps_setLc (g := gT X.K tg) (tt := tT B T W0 cond) (te := tE B T W0 false el) G.G.hc (by rw [G.G.hN]; exact G.G.nd) n1 hs.1.1 (sw_true G.kind hs.1.1 hs.1.2 hs.2) ((snd it).i W X false t j G.G h1.1 h1.2) (blkOk_by (by rw [G.G.hN]; exact h2))
        (fun s H C cl fp => g_ok (X := X.blk s H scope (compEnvC scope cl C X.env) fp) (sc := scope) G.G.hc G.G.hN (by show X.N.Nodup; rw [G.G.hN]; exact G.G.nd) (fun x q => blk_loc q) tg t h3) (fun s H C cl fp => ?_)
        (fun s H C cl fp => (snd el).e W0 _ false y (G.G.blk s H scope C cl fp) h5) (nofold (chkI_plain h1.1))) fun D σ H h => ?_
      · rcases h4 with ⟨rfl, rfl⟩ | ⟨c, rfl, h4⟩
        · exact o_yes
        · exact o_one ((snd cond).t W0 _ c (G.G.blk s H scope C cl fp) h4)
      · show tLc _ _ _ _ _ σ H _
        rw [← G.G.hK]
        exact lc_read (tg_slots tg scope t h3) σ H _ h
    exact ⟨PSw key fun D σ H h => tN_E σ H _ h, fun _ => key⟩
  · have hc : isComp v = false := by simpa using hc
    have st : ∀ {t : TE}, PE X v t → PS X (.Assign [.Name x p] v q) (tAsg t (gName i)) := fun he => ps_set (by rw [G.G.hN]; exact G.G.nd) n1 n2 he (sw_no hc) n3
    exact ⟨st ((snd e).e W X false v G.G hv), fun hnew => st (new_E G.G hc hnew hv)⟩
end
end Py

set_option Elab.async false
set_option linter.all false
set_option maxRecDepth 100000
set_option maxHeartbeats 4000000
/-! C18: each statement. -/
namespace Py
open PySem PySem.Spec L2
section
variable {B : Gb} {g : Sg} {N : List Str} {T : Tab} {k : Nat} {W : WX} {X : Cx} {σ : St} {i j : Nat} {e a b c : E}
theorem own_at {z : En} {Fb F H : Hp} {n : Nat} {env : Env} {ad : Nat → Addr} {l : D} (s : Stt B z Fb F H n σ env ad) (h : slot env i = .own l) : ∃ u, σ[i]? = some (some (.ref (ad i))) ∧ H (ad i) = some u ∧ RpC B.K B.O F u l ∧ ad i ≠ B.O.aA := by
  have q := s.en.ok i
  rw [h] at q
  obtain ⟨xs, q1, q2, q3, q4, q5⟩ := q
  exact ⟨xs, q1, q4, q5, q3⟩
theorem s_set : ∀ D σ H, tS B T W (.set i e) D σ H → tAsg (tE B T W false e) (gName i) D σ H := fun D σ H ⟨z, Fb, F, env, ad, n, s, h⟩ =>
  ⟨F, env, ad, n, s.st, s.en, (RS.seq (f := fun d n => .ok (.nx (env.set i (.val d))) n) s h).imp fun d n1 F1 H1 _ e1 h1 v rv => h1 F1 H1 _ _ ((s.go e1).set i rv)⟩
theorem s_own : ∀ D σ H, tS B T W (.own i e) D σ H → tAsg (tN B T W e) (gName i) D σ H := fun D σ H ⟨z, Fb, F, env, ad, n, s, h⟩ => by
  refine ⟨F, env, ad, n, s.st, s.en, (RS.seq (f := fun d n => if d.isC then .ok (.nx (env.set i (.own d))) n else .bad) s h).imp fun d n1 F1 H1 _ e1 h1 a u h0 f0 ha r => ?_⟩
  rw [if_pos r.isC] at h1
  refine h1 F1 H1 _ _ ((s.go e1).own i e1.keep (fun j hj => ?_) h0 ?_ f0 ha r)
  · obtain ⟨m, hm⟩ : ∃ m, slot env j = .own m := by
      cases q : slot env j with
      | own m => exact ⟨m, rfl⟩
      | no => rw [q] at hj; cases hj
      | val d => rw [q] at hj; cases hj
    obtain ⟨ys, -, q, -⟩ := own_at s hm
    rw [q]; exact nofun
  · cases q : z.H0 a with
    | none => rfl
    | some o => rw [s.ext.keep a o (fun q2 => by subst q2; rw [s.st.hA] at h0; cases h0) q] at h0; cases h0
theorem s_expr : ∀ D σ H, tS B T W (.expr e) D σ H → tDrop (tE B T W false e) D σ H := fun D σ H ⟨z, Fb, F, env, ad, n, s, h⟩ =>
  ⟨F, env, ad, n, s.st, s.en, (RS.seq (f := fun _ n => .ok (.nx env) n) s h).imp fun d n1 F1 H1 _ e1 h1 v rv => h1 F1 H1 _ _ (s.go e1)⟩
theorem s_ret : ∀ D σ H, tS B T W (.ret e) D σ H → tRet (tE B T W false e) D σ H := fun D σ H ⟨z, Fb, F, env, ad, n, s, h⟩ =>
  ⟨F, env, ad, n, s.st, s.en, (RS.seq (f := fun d n => .ok (.ret d) n) s h).imp fun d n1 F1 H1 _ e1 h1 v rv => h1 F1 H1 _ (s.go e1).ext (s.go e1).base rv⟩
theorem s_retN : ∀ D σ H, tS B T W .retN D σ H → tRetN D σ H := fun D σ H ⟨z, Fb, F, env, ad, n, s, h⟩ => h F H _ s.ext s.base .non
theorem s_retO : ∀ D σ H, tS B T W (.retO i) D σ H → tRet (tVar i) D σ H := fun D σ H ⟨z, Fb, F, env, ad, n, s, h⟩ => by
  dsimp only [ex] at h
  cases q : slot env i with
  | no => rw [q] at h; exact h.elim
  | val d => rw [q] at h; exact h.elim
  | own l =>
    rw [q] at h
    obtain ⟨F', s', r, hs⟩ := s.frz q
    exact ⟨_, hs, h F' H _ s'.ext s'.base r⟩
theorem s_skip : ∀ D σ H, tS B T W .skip D σ H → tNext D σ H := fun D σ H ⟨z, Fb, F, env, ad, n, s, h⟩ => h F H _ _ s
theorem s_brk : ∀ D σ H, tS B T W .brk D σ H → tBreak D σ H := fun D σ H ⟨z, Fb, F, env, ad, n, s, h⟩ => h F H _ _ s
theorem s_cnt : ∀ D σ H, tS B T W .cnt D σ H → tCont D σ H := fun D σ H ⟨z, Fb, F, env, ad, n, s, h⟩ => h F H _ _ s
theorem s_ite {u v : S} : ∀ D σ H, tS B T W (.ite c u v) D σ H → tIfS (tT B T W c) (tS B T W u) (tS B T W v) D σ H := fun D σ H ⟨z, Fb, F, env, ad, n, s, h⟩ => by
  refine ⟨F, env, ad, n, s.st, s.en, (RS.seq (f := fun c n => if c then ex T u env n else ex T v env n) s h).imp fun d n1 F1 H1 _ e1 h1 => ?_⟩
  cases d with
  | true => exact ⟨z, Fb, F1, env, ad, n1, s.go e1, h1⟩
  | false => exact ⟨z, Fb, F1, env, ad, n1, s.go e1, h1⟩
theorem s_seq {u v : S} : ∀ D σ H, tS B T W (.seq u v) D σ H → tSeq (tS B T W u) (tS B T W v) D σ H := fun D σ H ⟨z, Fb, F, env, ad, n, s, h⟩ => by
  refine ⟨z, Fb, F, env, ad, n, s, ?_⟩
  dsimp only [ex] at h
  cases q : ex T u env n with
  | bad => rw [q] at h; exact h.elim
  | exc e m => rw [q] at h; exact h
  | ok fl m =>
    rw [q, Res.bind_ok] at h
    cases fl with
    | nx env' => exact fun F' H' σ' ad' s' => ⟨z, Fb, F', env', ad', m, s', h⟩
    | brk env' => exact h
    | cnt env' => exact h
    | ret d => exact h
theorem s_frz {v : S} : ∀ D σ H, tS B T W (.seq (.frz i) v) D σ H → tS B T W v D σ H := fun D σ H ⟨z, Fb, F, env, ad, n, s, h⟩ => by
  dsimp only [ex] at h
  cases q : slot env i with
  | no => rw [q] at h; exact h.elim
  | val d => rw [q] at h; exact h.elim
  | own l =>
    rw [q] at h
    obtain ⟨F', s', r, hs⟩ := s.frz q
    exact ⟨z, Fb, F', _, ad, n, s', h⟩
theorem s_par2 : ∀ D σ H, tS B T W (.par2 i j a b) D σ H → tPar i j (tA B T W false (.cons a (.cons b .nil))) D σ H := fun D σ H ⟨z, Fb, F, env, ad, n, s, h⟩ => by
  refine ⟨F, env, ad, n, s.st, s.en, ?_⟩
  dsimp only [ex] at h
  dsimp only [evs]
  cases q1 : ev T a env n with
  | bad => rw [q1] at h; exact h.elim
  | exc e m => rw [q1] at h; exact fun F' H' c dx e x => h F' H' σ c dx (s.ext.trans e) (s.base.trans e.same) s.len x
  | ok d1 n1 =>
    rw [q1] at h
    simp only [Res.bind_ok] at h ⊢
    cases q2 : ev T b env n1 with
    | bad => rw [q2] at h; exact h.elim
    | exc e m => rw [q2] at h; exact fun F' H' c dx e x => h F' H' σ c dx (s.ext.trans e) (s.base.trans e.same) s.len x
    | ok d2 n2 =>
      rw [q2] at h
      simp only [Res.bind_ok] at h ⊢
      intro F1 H1 e1 vs rvs
      have rv := rvs.frz
      cases rv with
      | cons r1 t => cases t with
        | cons r2 t =>
          cases t
          exact ⟨_, _, rfl, h F1 H1 _ _ (((s.go e1).set i r1).set j r2)⟩
theorem s_app (hK : B.K = X.K) : ∀ D σ H, tS B T W (.app i e) D σ H → tDrop (tBM X.K "list" rAppend (tVar i) (tA B T W false (.cons e .nil))) D σ H := fun D σ H ⟨z, Fb, F, env, ad, n, s, h⟩ => by
  dsimp only [ex] at h
  cases q : slot env i with
  | no => rw [q] at h; exact h.elim
  | val d => rw [q] at h; exact h.elim
  | own l0 =>
    rw [q] at h
    obtain ⟨u, hs, ha, r0, nA⟩ := own_at s q
    obtain ⟨l, rfl⟩ : ∃ l, l0 = .lst l := by cases l0 <;> first | exact ⟨_, rfl⟩ | exact h.elim
    obtain ⟨xs, rfl, r, hl⟩ := r0.lst
    refine ⟨_, hs, .inl ⟨rfl, xs, SqL.of ha⟩, F, env, ad, n, s.st, s.en, ?_⟩
    dsimp only [evs]
    dsimp only at h
    cases q1 : ev T e env n with
    | bad => rw [q1] at h; exact h.elim
    | exc e m => rw [q1] at h; exact fun F' H' c dx e x => h F' H' σ c dx (s.ext.trans e) (s.base.trans e.same) s.len x
    | ok d n1 =>
      rw [q1] at h
      simp only [Res.bind_ok] at h ⊢
      intro F1 H1 e1 vs rvs
      have rv := rvs.frz
      cases rv with
      | cons r1 t =>
        cases t
        split at h
        · rename_i hlt
          refine ⟨_, xs, _, rfl, rfl, e1.keep _ _ nA ha, by rw [r.length, ← lim_eq]; exact hlt, ?_⟩
          exact h F1 _ _ _ ((s.go e1).chg q (show RpA _ _ _ _ _ ∧ _ from ⟨(r.mono e1.same).app (.one r1), by rw [List.length_append]; exact hlt⟩))
        · exact h.elim
/-- c[k] = v, a list or a dict -/
def rSetA : V → V → V → Hp → (Hp → Prop) → Prop := fun o i v H Q => rSetL o i v H Q ∨ ∃ a kvs k, o = .ref a ∧ i = kV k ∧ H a = some (.dK kvs) ∧ kvs.length < sizeLine ∧ Q (upd H a (.dK (putK kvs k v)))
theorem set_any (hu : X.A.units + 190 < cLine) : PSet X rSetA := by
  intro pins s σ H o i v ov iv u Q I ro ri rv h
  rcases h with h | ⟨a, kvs, k, rfl, rfl, h1, h2, h3⟩
  · exact set_list pins s σ H o i v ov iv u Q I ro ri rv h
  · cases ro
    exact d_setItem (A := X.A) (by omega) I (DPut.k h1 h2) ri rv fun s' I' => ⟨_, I', h3⟩
theorem s_sto {kx : E} : ∀ D σ H, tS B T W (.sto i kx e) D σ H → tAsg (tE B T W false e) (gSub (tVar i) (tE B T W true kx) rSetA) D σ H := fun D σ H ⟨z, Fb, F, env, ad, n, s, h⟩ => by
  refine ⟨F, env, ad, n, s.st, s.en, (RS.seq (f := fun d n => match slot env i with
    | .own c => (ev T kx env n).bind fun k n => (Res.of (stoV c k d) n).bind fun c n => .ok (.nx (env.set i (.own c))) n
    | _ => .bad) s h).imp fun d n1 F1 H1 _ e1 h1 v rv => ?_⟩
  cases q : slot env i with
  | no => rw [q] at h1; exact h1.elim
  | val d => rw [q] at h1; exact h1.elim
  | own c =>
    rw [q] at h1
    have s1 := s.go e1
    obtain ⟨u, hs, ha, r0, nA⟩ := own_at s1 q
    refine ⟨_, hs, F1, env, ad, n1, s1.st, s1.en, (RS.seq s1 h1).imp fun d2 n2 F2 H2 _ e2 h2 w rw' => ?_⟩
    have s2 := s1.go e2
    have rv : Rp B.K B.O F1 v d := rv
    cases qs : stoV c d2 d with
    | none => rw [qs] at h2; exact h2.elim
    | some c' =>
      rw [qs] at h2
      have h2 : ∀ F H σ ad, Stt B z Fb F H n2 σ (env.set i (.own c')) ad → D.nx σ H := h2
      cases c with
      | lst l =>
        obtain ⟨xs, rfl, r, hl⟩ := r0.lst
        unfold stoV at qs
        dsimp only at qs
        cases d2 with
        | int kk =>
          obtain rfl := rw'.opd.int
          obtain ⟨jj, qj, rfl⟩ := Option.map_eq_some_iff.mp qs
          refine .inl ⟨_, xs, kk, jj, rfl, rfl, e2.keep _ _ nA ha, by rw [r.length]; exact qj, ?_⟩
          exact h2 F2 _ _ _ (s2.chg q (show RpA _ _ _ _ _ ∧ _ from ⟨RpA.set (rv.mono e2.same) jj (r.mono e2.same), by rw [List.length_set]; exact hl⟩))
        | _ => cases qs
      | dic ks ds =>
        obtain ⟨kvs, rfl, r1, r2, hl⟩ := r0.dic
        unfold stoV at qs
        dsimp only at qs
        obtain ⟨k, hk, qs⟩ := Option.bind_eq_some_iff.mp qs
        split at qs
        · rename_i hlt
          cases qs
          have hlt' : kvs.length < LIM := by rw [← r1, List.length_map] at hlt; exact hlt
          refine .inr ⟨_, kvs, k, rfl, keyD_v rw'.opd hk, e2.keep _ _ nA ha, by rw [← lim_eq]; exact hlt', ?_⟩
          exact h2 F2 _ _ _ (s2.chg q (dput_v r1 (r2.mono e2.same) hlt' (rv.mono e2.same)))
        · cases qs
      | _ => cases qs
def rAug (op : Operator) : TIp := fun x y H Q => ∃ i j, x = .int i ∧ y = .int j ∧ match op with
  | .Add => Q (.int (i + j)) H
  | .Sub => Q (.int (i - j)) H
  | _ => False
theorem ip_aug (op : Operator) : PIp X op (rAug op) := by
  intro pins s σ H x y v u Q I r1 r2 h
  obtain ⟨i, j, rfl, rfl, h⟩ := h
  cases op <;> first | exact h.elim | skip
  · exact ip_add pins s σ H _ _ v u Q I r1 r2 ⟨i, j, rfl, rfl, h⟩
  · exact ip_sub pins s σ H _ _ v u Q I r1 r2 ⟨i, j, rfl, rfl, h⟩
theorem augV_some {op : Operator} {x y d : D} (h : augV op x y = some d) : ∃ i j, x = .int i ∧ y = .int j ∧ ((op = .Add ∧ d = .int (i + j)) ∨ (op = .Sub ∧ d = .int (i - j))) := by
  unfold augV at h
  split at h
  · cases h; exact ⟨_, _, rfl, rfl, .inl ⟨rfl, rfl⟩⟩
  · cases h; exact ⟨_, _, rfl, rfl, .inr ⟨rfl, rfl⟩⟩
  · cases h
theorem s_aug {op : Operator} : ∀ D σ H, tS B T W (.aug op i e) D σ H → tAug i (tE B T W true e) (rAug op) D σ H := fun D σ H ⟨z, Fb, F, env, ad, n, s, h⟩ => by
  dsimp only [ex] at h
  cases q : slot env i with
  | no => rw [q] at h; exact h.elim
  | own d => rw [q] at h; exact h.elim
  | val x =>
    rw [q] at h
    have qi := s.en.ok i
    rw [q] at qi
    obtain ⟨v, hv, rv⟩ := qi
    refine ⟨v, hv, F, env, ad, n, s.st, s.en, (RS.seq s h).imp fun y n1 F1 H1 _ e1 h1 w rw' => ?_⟩
    cases ea : augV op x y with
    | none => rw [ea] at h1; exact h1.elim
    | some d =>
      rw [ea] at h1
      obtain ⟨p, r, rfl, rfl, hd⟩ := augV_some ea
      cases rv
      obtain rfl := rw'.opd.int
      refine ⟨p, r, rfl, rfl, ?_⟩
      rcases hd with ⟨rfl, rfl⟩ | ⟨rfl, rfl⟩
      · exact h1 F1 H1 _ _ ((s.go e1).set i (.int _))
      · exact h1 F1 H1 _ _ ((s.go e1).set i (.int _))
theorem bind_own : ∀ (t : Tg) (d : D) (env env' : Env), t.bind d env = some env' → ∀ j, isOwn (slot env' j) = true → isOwn (slot env j) = true := by
  intro t
  induction t with
  | nm i =>
    intro d env env' h j hj
    rw [Tg.bind] at h
    cases h
    rw [slot_set] at hj
    split at hj
    · cases hj
    · exact hj
  | t2 a b iha ihb =>
    intro d env env' h j hj
    unfold Tg.bind at h
    split at h
    · obtain ⟨v1, h1, h⟩ := Option.bind_eq_some_iff.mp h
      exact iha _ _ _ h1 j (ihb _ _ _ h j hj)
    · cases h
  | t3 a b c iha ihb ihc =>
    intro d env env' h j hj
    unfold Tg.bind at h
    split at h
    · obtain ⟨v1, h1, h⟩ := Option.bind_eq_some_iff.mp h
      obtain ⟨v2, h2, h⟩ := Option.bind_eq_some_iff.mp h
      exact iha _ _ _ h1 j (ihb _ _ _ h2 j (ihc _ _ _ h j hj))
    · cases h
  | t4 a b c f iha ihb ihc ihf =>
    intro d env env' h j hj
    unfold Tg.bind at h
    split at h
    · obtain ⟨v1, h1, h⟩ := Option.bind_eq_some_iff.mp h
      obtain ⟨v2, h2, h⟩ := Option.bind_eq_some_iff.mp h
      obtain ⟨v3, h3, h⟩ := Option.bind_eq_some_iff.mp h
      exact iha _ _ _ h1 j (ihb _ _ _ h2 j (ihc _ _ _ h3 j (ihf _ _ _ h j hj)))
    · cases h
  | t5 a b c f m iha ihb ihc ihf ihm =>
    intro d env env' h j hj
    unfold Tg.bind at h
    split at h
    · obtain ⟨v1, h1, h⟩ := Option.bind_eq_some_iff.mp h
      obtain ⟨v2, h2, h⟩ := Option.bind_eq_some_iff.mp h
      obtain ⟨v3, h3, h⟩ := Option.bind_eq_some_iff.mp h
      obtain ⟨v4, h4, h⟩ := Option.bind_eq_some_iff.mp h
      exact iha _ _ _ h1 j (ihb _ _ _ h2 j (ihc _ _ _ h3 j (ihf _ _ _ h4 j (ihm _ _ _ h j hj))))
    · cases h
/-- a target takes a value, in a statement -/
theorem Stt.tgt {z : En} {Fb F H : Hp} {n : Nat} {env env' : Env} {ad : Nat → Addr} {d : D} {v : V} {Q : St → Hp → Prop} (s : Stt B z Fb F H n σ env ad) (t : Tg) (hb : t.bind d env = some env') (r : Rp B.K B.O F v d) (h : ∀ σ', Stt B z Fb F H n σ' env' ad → Q σ' H) : gT B.K t v σ H Q := by
  refine g_bind s.st.sub t d env env' σ [] v Q (s.en.x _) hb r fun σ' ex wp => h σ' ⟨s.st, ex.all, s.ext, fun j hj => s.ow j (bind_own t d env env' hb j hj), s.base, ?_, s.ea, s.dr0⟩
  have q := wp t.slots fun _ q => q
  rw [← wipe_length σ' t.slots, q, wipe_length]
  exact s.len
theorem s_setT {t : Tg} : ∀ D σ H, tS B T W (.setT t e) D σ H → tAsg (tE B T W false e) (gT B.K t) D σ H := fun D σ H ⟨z, Fb, F, env, ad, n, s, h⟩ => by
  refine ⟨F, env, ad, n, s.st, s.en, (RS.seq s h).imp fun d n1 F1 H1 _ e1 h1 v rv => ?_⟩
  cases q : t.bind d env with
  | none => rw [q] at h1; exact h1.elim
  | some env' =>
    rw [q] at h1
    exact (s.go e1).tgt t q rv fun σ' s' => h1 F1 H1 _ _ s'
end
end Py

set_option Elab.async false
set_option linter.all false
set_option maxRecDepth 100000
set_option maxHeartbeats 4000000
/-! C18b: raise; try. -/
namespace Py
open PySem PySem.Spec L2
section
variable {B : Gb} {g : Sg} {N : List Str} {T : Tab} {k : Nat} {W : WX} {X : Cx} {σ : St}
theorem zip1 {f : Str} {l : List D} {fs : List (Str × D)} (h : zipN [f] l = some fs) : ∃ d, l = [d] ∧ fs = [(f, d)] := by
  cases l with
  | nil => simp [zipN] at h
  | cons d r =>
    cases r with
    | nil => simp [zipN] at h; exact ⟨d, rfl, h.symm⟩
    | cons _ _ => simp [zipN] at h
/-- raise x(e) -/
theorem s_rai {c : Str} {e : E} {f : Str} (hc : T.ctor c = some [f]) : ∀ D σ H, tS B T W (.rai c (.cons e .nil)) D σ H → tA B T W false (.cons e .nil) σ H fun vs H1 => ∃ v, vs = [v] ∧ ∀ d, H1 d = none → W (.ref (B.cad c)) (some d) σ (upd H1 d (.xd [(f, v)])) := fun D σ H ⟨z, Fb, F, env, ad, n, s, h⟩ => by
  have h : RS B W z Fb ((evs T (.cons e .nil) env n).bind fun l n => match zipN [f] l with
    | some fs => .exc ⟨c, fs⟩ n
    | none => .bad) D := by
    rw [ex, hc] at h
    exact h
  refine ⟨F, env, ad, n, s.st, s.en, (RS.seq s h).imp fun l n1 F1 H1 _ e1 h1 vs rvs => ?_⟩
  cases q : zipN [f] l with
  | none => rw [q] at h1; exact h1.elim
  | some fs =>
    rw [q] at h1
    obtain ⟨d, rfl, rfl⟩ := zip1 q
    have rv := rvs.frz
    cases rv with
    | cons r t =>
      cases t
      have s1 := s.go e1
      exact ⟨_, rfl, fun dx hd => h1 F1 _ σ _ _ (s1.ext.trans (Ext.layO s1.st hd _)) s1.base s.len ⟨rfl, dx, _, rfl, upd_same .., rfl, .one r⟩⟩
/-! ### what a clause gives back -/
def tH (B : Gb) (T : Tab) (i : Nat) (a : Addr) (cls : Value) (d : Option Addr) (h : HE) : TE := fun σ H Q => ∃ (F : Hp) (e : Exn) (n : Nat) (dv : D), σ[i]? = some (some (.ref a)) ∧ ExR B e cls d F H ∧ T.ctor e.cls = some (e.fs.map (·.1)) ∧ St0 B.K B.O F H n ∧ h.val T.sub e = some dv ∧
  ∀ F' H' v, Ext B.O F H n F' H' n → Rp B.K B.O F' v dv → Q v H'
def tHl (B : Gb) (T : Tab) (i : Nat) (a : Addr) (cls : Value) (d : Option Addr) (h : HE) : TA := fun σ H Q => ∃ (F : Hp) (e : Exn) (n : Nat) (dv : List D), σ[i]? = some (some (.ref a)) ∧ ExR B e cls d F H ∧ T.ctor e.cls = some (e.fs.map (·.1)) ∧ St0 B.K B.O F H n ∧ h.vals T.sub e = some dv ∧
  ∀ F' H' v, Ext B.O F H n F' H' n → RpA B.K B.O F' v dv → Q v H'
theorem ExR.ext {e : Exn} {c : Value} {dx : Option Addr} {F H F' H' : Hp} {n n' : Nat} (hA : ∃ m : Int, H B.O.aA = some (.lst [.int m])) (h : ExR B e c dx F H) (x : Ext B.O F H n F' H' n') : ExR B e c dx F' H' := by
  obtain ⟨h1, d, fs, h2, h3, h4, h5⟩ := h
  refine ⟨h1, d, fs, h2, x.keep d _ (fun q => ?_) h3, h4, h5.mono x.same⟩
  subst q
  obtain ⟨m, hA⟩ := hA
  rw [hA] at h3
  cases h3
theorem look_rp {K : PySem.W.Frag} {O : Orc} {F : Hp} {f : Str} {d : D} : ∀ {fs : List (Str × V)} {ds : List (Str × D)}, fs.map (·.1) = ds.map (·.1) → RpA K O F (fs.map (·.2)) (ds.map (·.2)) → ds.lookup f = some d → ∃ v, fs.lookup f = some v ∧ Rp K O F v d
  | [], [], _, _, h => by cases h
  | [], _ :: _, e, _, _ => by cases e
  | _ :: _, [], e, _, _ => by cases e
  | (x, v) :: fs, (y, u) :: ds, e, r, h => by
    simp only [List.map_cons, List.cons.injEq] at e
    obtain ⟨rfl, e⟩ := e
    simp only [List.map_cons] at r
    cases r with
    | cons r1 r2 =>
      rw [List.lookup_cons] at h ⊢
      cases q : f == x with
      | true => rw [q] at h; cases h; exact ⟨v, rfl, r1⟩
      | false => rw [q] at h; exact look_rp e r2 h
theorem look_mem {f : Str} {d : D} : ∀ {ds : List (Str × D)}, ds.lookup f = some d → f ∈ ds.map (·.1)
  | (y, u) :: ds, h => by
    rw [List.lookup_cons] at h
    cases q : f == y with
    | true => simp [eq_of_beq q]
    | false => rw [q] at h; simp [look_mem h]
theorem HE.vals_len {sub : Str → Str → Bool} {e : Exn} : ∀ {es : HE} {l : List Expr} {y : Str} {sc : Scope} {r : List D}, chkHl g sc y es l = true → es.vals sub e = some r → r.length = l.length
  | .nil, l, y, sc, r, h, q => by
    simp only [chkHl] at h
    simp only [HE.vals, Option.some.injEq] at q
    subst q
    cases l <;> first | rfl | cases h
  | .cons a b, [], y, sc, r, h, q => by simp [chkHl] at h
  | .cons a b, x :: l, y, sc, r, h, q => by
    simp only [chkHl, Bool.and_eq_true] at h
    simp only [HE.vals] at q
    obtain ⟨u, h1, q⟩ := Option.bind_eq_some_iff.mp q
    obtain ⟨v, h2, q⟩ := Option.map_eq_some_iff.mp q
    subst q
    rw [List.length_cons, List.length_cons, vals_len h.2 h2]
  | .anon _, _, _, _, _, _, q => by simp [HE.vals] at q
  | .cst _, _, _, _, _, _, q => by simp [HE.vals] at q
  | .fld _, _, _, _, _, _, q => by simp [HE.vals] at q
  | .tup _, _, _, _, _, _, q => by simp [HE.vals] at q
  | .lst _, _, _, _, _, _, q => by simp [HE.vals] at q
  | .ite .., _, _, _, _, _, q => by simp [HE.vals] at q
  | .iteV .., _, _, _, _, _, q => by simp [HE.vals] at q
theorem chkH_plain {sc : Scope} {y : Str} {h : HE} {e : Expr} (q : chkH g sc y h e = true) : plainX e = true := by
  cases e <;> first | rfl | (exfalso; cases h <;> simp [chkH] at q)
/-- isinstance(e, c) on the error that the clause holds -/
theorem call_isH {a : Addr} {oe : Obj} {C : Addr} {f : Str} {dd : Addr} {pn : List (Addr × Obj)} (hK : B.K = X.K) (Hf : ErrH X.K C f) (hz : Zc (.ref C) (some dd) oe) (hf : ∃ vs, oe.data = .fields vs) :
    CallR (X.suite a ((a, oe) :: pn)) (.builtin "isinstance") (fun xs H Q => ∃ (c : Addr) (b : Bool) (fs : List (Str × V)), xs = [.ref a, .ref c] ∧ PySem.W.kitOne X.K (.ref C) (.ref c) = some b ∧ H dd = some (.xd fs) ∧ Q (.bl b) H) := by
  intro pins s σ H xs us Q I r h
  obtain ⟨c, b, fs, rfl, e, hd, q⟩ := h
  cases r with
  | cons rx rr =>
    cases rr with
    | cons rt rr =>
      cases rr
      cases rx
      cases rt
      obtain ⟨hget, _⟩ := I.pin (a, oe) (List.mem_append.mpr (.inl List.mem_cons_self))
      obtain ⟨vs, hv⟩ := hf
      obtain ⟨mA, hns, hr⟩ := (show ObjOk X.prog X.w H s.heap dd (.xd fs) from I.hok dd _ hd)
      obtain ⟨od, ho, hl⟩ := lookIn_ns hns
      have J : PySem.W.InstAt s.heap a oe C (some od) := ⟨hget, hz.1, by unfold PySem.W.notCls; rw [hv] <;> rfl, by rw [hz.2]; exact ho⟩
      have hcl : (PySem.W.clsIn X.K C).isSome = true := by
        obtain ⟨cd, hc, _⟩ := PySem.W.any_some Hf.xf.hdC
        rw [hc]; rfl
      exact PySem.W.kia_one (PySem.W.kitx_exc hcl Hf.xf.ga Hf.xf.gg Hf.xf.exC Hf.ha Hf.hn Hf.ht Hf.hm) I.kIn J e (fun z => nomatch z) fun tk => ⟨.bl b, H, I.kept (t' := tk) fun _ _ z => z, rfl, q⟩
theorem call_isV {a : Addr} {oe : Obj} {C : Addr} {f : Str} {dd : Addr} {pn : List (Addr × Obj)} (hK : B.K = X.K) (Hf : ErrH X.K C f) (hz : Zc (.ref C) (some dd) oe) (hf : ∃ vs, oe.data = .fields vs) :
    CallR (X.suite a ((a, oe) :: pn)) (.builtin "isinstance") (fun xs H Q => ∃ (fs : List (Str × V)), xs = [.ref a, .ty "ValueError"] ∧ H dd = some (.xd fs) ∧ Q (.bl true) H) := by
  intro pins s σ H xs us Q I r h
  obtain ⟨fs, rfl, hd, q⟩ := h
  cases r with
  | cons rx rr =>
    cases rr with
    | cons rt rr =>
      cases rr
      cases rx
      cases rt
      obtain ⟨hget, _⟩ := I.pin (a, oe) (List.mem_append.mpr (.inl List.mem_cons_self))
      obtain ⟨vs, hv⟩ := hf
      obtain ⟨mA, hns, hr⟩ := (show ObjOk X.prog X.w H s.heap dd (.xd fs) from I.hok dd _ hd)
      obtain ⟨od, ho, hl⟩ := lookIn_ns hns
      have J : PySem.W.InstAt s.heap a oe C (some od) := ⟨hget, hz.1, by unfold PySem.W.notCls; rw [hv] <;> rfl, by rw [hz.2]; exact ho⟩
      have hcl : (PySem.W.clsIn X.K C).isSome = true := by
        obtain ⟨cd, hc, _⟩ := PySem.W.any_some Hf.xf.hdC
        rw [hc]; rfl
      exact PySem.W.kia_one (PySem.W.kitx_exc hcl Hf.xf.ga Hf.xf.gg Hf.xf.exC Hf.ha Hf.hn Hf.ht Hf.hm) I.kIn J Hf.vl (fun z => nomatch z) fun tk => ⟨.bl true, H, I.kept (t' := tk) fun _ _ z => z, rfl, q⟩
theorem boot_VE : bootBuiltins "ValueError" = some (.type "ValueError") := by decide +kernel
end
end Py
namespace Py
open PySem PySem.Spec L2
section
variable {B : Gb} {g : Sg} {N : List Str} {T : Tab} {k : Nat} {W : WX} {X : Cx} {σ : St}
/-- the suite's expression -/
structure HSnd (B : Gb) (g : Sg) (N : List Str) (T : Tab) (k : Nat) (h : HE) : Prop where
  e : ∀ W X, Good B g N T k W X → ∀ (i : Nat) (y : Str) (a : Addr) (oe : Obj) (cls : Value) (d : Option Addr) (pn : List (Addr × Obj)) (x : Expr), N[i]? = some y → X.env.scope.names.lookup y = some .local → okN y = true → Zc cls d oe → (∃ vs, oe.data = .fields vs) →
    chkH g X.env.scope y h x = true → PE (X.suite a ((a, oe) :: pn)) x (tH B T i a cls d h)
  l : ∀ W X, Good B g N T k W X → ∀ (i : Nat) (y : Str) (a : Addr) (oe : Obj) (cls : Value) (d : Option Addr) (pn : List (Addr × Obj)) (xs : List Expr), N[i]? = some y → X.env.scope.names.lookup y = some .local → okN y = true → Zc cls d oe → (∃ vs, oe.data = .fields vs) →
    chkHl g X.env.scope y h xs = true → PA (X.suite a ((a, oe) :: pn)) xs (tHl B T i a cls d h)
theorem isLoc_vis {sc : Scope} {y : Str} (h : sc.names.lookup y = some .local) : Vis sc y := .inl h
theorem hsnd : ∀ h : HE, HSnd B g N T k h := by
  intro h
  induction h with
  | nil =>
    refine ⟨fun W X G i y a oe cls d pn x h1 h2 h3 h4 h5 h => by cases x <;> simp [chkH] at h, fun W X G i y a oe cls d pn xs h1 h2 h3 h4 h5 h => ?_⟩
    cases xs with
    | cons _ _ => simp [chkHl] at h
    | nil =>
      refine PAw pa_nil fun σ H Q ⟨F, e, n, dv, q1, q2, q3, q4, q5, q6⟩ => ?_
      simp only [HE.vals, Option.some.injEq] at q5
      subst q5
      exact q6 F H [] (Ext.refl q4) .nil
  | cons u v iu iv =>
    refine ⟨fun W X G i y a oe cls d pn x h1 h2 h3 h4 h5 h => by cases x <;> simp [chkH] at h, fun W X G i y a oe cls d pn xs h1 h2 h3 h4 h5 h => ?_⟩
    cases xs with
    | nil => simp [chkHl] at h
    | cons x r =>
      simp only [chkHl, Bool.and_eq_true] at h
      refine PAw (pa_cons (iu.e W X G i y a oe cls d pn x h1 h2 h3 h4 h5 h.1) (iv.l W X G i y a oe cls d pn r h1 h2 h3 h4 h5 h.2) (star1 (chkH_plain h.1))) fun σ H Q ⟨F, e, n, dv, q1, q2, q3, q4, q5, q6⟩ => ?_
      simp only [HE.vals] at q5
      obtain ⟨d1, e1, q5⟩ := Option.bind_eq_some_iff.mp q5
      obtain ⟨d2, e2, rfl⟩ := Option.map_eq_some_iff.mp q5
      refine ⟨F, e, n, d1, q1, q2, q3, q4, e1, fun F1 H1 v1 x1 r1 => ?_⟩
      exact ⟨F1, e, n, d2, q1, q2.ext ⟨_, q4.hA⟩ x1, q3, q4.ext x1, e2, fun F2 H2 v2 x2 r2 => q6 F2 H2 _ (x1.trans x2) (.cons (r1.mono x2.same) r2)⟩
  | cst dd =>
    refine ⟨fun W X G i y a oe cls d pn x h1 h2 h3 h4 h5 h => ?_, fun W X G i y a oe cls d pn xs h1 h2 h3 h4 h5 h => by simp [chkHl] at h⟩
    unfold chkH at h
    split at h
    · unfold cstOk at h
      split at h
      · obtain rfl := of_decide_eq_true h
        exact PEw pe_int fun σ H Q ⟨F, e, n, dv, q1, q2, q3, q4, q5, q6⟩ => by simp only [HE.val, Option.some.injEq] at q5; subst q5; exact q6 F H _ (Ext.refl q4) (.int _)
      · obtain rfl := eq_of_beq h
        exact PEw pe_bl fun σ H Q ⟨F, e, n, dv, q1, q2, q3, q4, q5, q6⟩ => by simp only [HE.val, Option.some.injEq] at q5; subst q5; exact q6 F H _ (Ext.refl q4) (.bl _)
      · rw [Bool.and_eq_true, decide_eq_true_eq] at h
        obtain ⟨rfl, h⟩ := h
        exact PEw pe_str fun σ H Q ⟨F, e, n, dv, q1, q2, q3, q4, q5, q6⟩ => by simp only [HE.val, Option.some.injEq] at q5; subst q5; exact q6 F H _ (Ext.refl q4) (.str _ h)
      · exact PEw pe_non fun σ H Q ⟨F, e, n, dv, q1, q2, q3, q4, q5, q6⟩ => by simp only [HE.val, Option.some.injEq] at q5; subst q5; exact q6 F H _ (Ext.refl q4) .non
      · cases h
    · cases h
  | fld f =>
    refine ⟨fun W X G i y a oe cls d pn x h1 h2 h3 h4 h5 h => ?_, fun W X G i y a oe cls d pn xs h1 h2 h3 h4 h5 h => by simp [chkHl] at h⟩
    unfold chkH at h
    split at h
    · simp only [Bool.and_eq_true, decide_eq_true_eq] at h
      obtain ⟨rfl, rfl⟩ := h
      -- which class it is, is told by the reading
      refine ⟨fun pins s σ H Q I ⟨F, e, n, dv, q1, q2, q3, q4, q5, q6⟩ => ?_⟩
      obtain ⟨c1, dx, fs, c2, c3, c4, c5⟩ := q2
      obtain ⟨f0, hf, m1, m2, m3, m4⟩ := G.tbl.errs _ _ q3
      simp only [HE.val] at q5
      obtain ⟨v, w1, w2⟩ := look_rp c4 c5 q5
      have z := look_mem q5
      rw [hf, List.mem_singleton] at z
      have hk := m4.no
      rw [← z] at hk
      refine (pe_xf m4.xf hk h4 h5 (pe_var (X := X.suite a ((a, oe) :: pn)) (by show X.N[i]? = _; rw [G.hN]; exact h1) (isLoc_vis h2) (okN_ok h3).1 (okN_ok h3).2) rfl).run pins s σ H Q I ?_
      exact ⟨_, q1, rfl, c1, dx, fs, v, c2, c3, w1, q6 F H v (Ext.refl q4) w2⟩
    · cases h
  | tup es ih =>
    refine ⟨fun W X G i y a oe cls d pn x h1 h2 h3 h4 h5 h => ?_, fun W X G i y a oe cls d pn xs h1 h2 h3 h4 h5 h => by simp [chkHl] at h⟩
    unfold chkH at h
    split at h
    · simp only [Bool.and_eq_true, decide_eq_true_eq] at h
      refine PEw (pe_tup (ih.l W X G i y a oe cls d pn _ h1 h2 h3 h4 h5 h.2)) fun σ H Q ⟨F, e, n, dv, q1, q2, q3, q4, q5, q6⟩ => ?_
      simp only [HE.val] at q5
      obtain ⟨l, e1, rfl⟩ := Option.map_eq_some_iff.mp q5
      have hl := HE.vals_len h.2 e1
      refine ⟨F, e, n, l, q1, q2, q3, q4, e1, fun F1 H1 vs x1 r1 => ?_⟩
      have s1 := q4.ext x1
      have hn : l.length ≤ LIM := by rw [hl]; exact Nat.le_trans h.1 (by decide)
      exact ⟨by rw [r1.length, ← lim_eq]; exact hn, fun p hp => q6 _ _ _ (x1.trans (Ext.lay s1 hp _)) (Rp.newT (s1.lt hp) r1 hn)⟩
    · cases h
  | anon dd => exact ⟨fun W X G i y a oe cls d pn x h1 h2 h3 h4 h5 h => by cases x <;> simp [chkH] at h, fun W X G i y a oe cls d pn xs h1 h2 h3 h4 h5 h => by simp [chkHl] at h⟩
  | lst es ih => exact ⟨fun W X G i y a oe cls d pn x h1 h2 h3 h4 h5 h => by cases x <;> simp [chkH] at h, fun W X G i y a oe cls d pn xs h1 h2 h3 h4 h5 h => by simp [chkHl] at h⟩
  | ite c u v iu iv =>
    refine ⟨fun W X G i y a oe cls d pn x h1 h2 h3 h4 h5 h => ?_, fun W X G i y a oe cls d pn xs h1 h2 h3 h4 h5 h => by simp [chkHl] at h⟩
    unfold chkH at h
    split at h
    · simp only [Bool.and_eq_true, decide_eq_true_eq] at h
      obtain ⟨rfl, g1, rfl, rfl, g2, g3, g4, g5, g6⟩ := h
      have pu := iu.e W X G i _ a oe cls d pn _ h1 h2 h3 h4 h5 g5
      have pv := iv.e W X G i _ a oe cls d pn _ h1 h2 h3 h4 h5 g6
      refine ⟨fun pins s σ H Q I ⟨F, e, n, dv, q1, q2, q3, q4, q5, q6⟩ => ?_⟩
      obtain ⟨c1, dx, fs, c2, c3, c4, c5⟩ := id q2
      subst c1 c2
      obtain ⟨f0, hf, m1, m2, m3, m4⟩ := G.tbl.errs _ _ q3
      obtain ⟨k1, k2⟩ := G.tbl.ecl _ (by simpa using g4)
      obtain ⟨k3, k4⟩ := k2 _ _ q3
      refine (pe_ifExp (pt_val (pe_callB (call_isH G.hK m4 h4 h5) (isGl_ok (X := X.suite a ((a, oe) :: pn)) g1) (blt_none G (by decide)) PyProof.Rows.boot_isinstance
        (pa_cons (pe_var (X := X.suite a ((a, oe) :: pn)) (by show X.N[i]? = _; rw [G.hN]; exact h1) (isLoc_vis h2) (okN_ok h3).1 (okN_ok h3).2) (pa_cons (pe_glob (X := X.suite a ((a, oe) :: pn)) (v := .ref (B.cad _)) (isGl_ok (X := X.suite a ((a, oe) :: pn)) g2) k1 rfl (okN_ok g3).1) pa_nil rfl) rfl) (by decide) (by decide) rfl rfl)) pu pv).run pins s σ H Q I ?_
      refine ⟨_, q1, B.cad _, T.sub e.cls _, fs, rfl, k4, c3, T.sub e.cls _, rfl, ?_⟩
      simp only [HE.val] at q5
      cases hb : T.sub e.cls _ with
      | true => rw [hb] at q5; exact ⟨F, e, n, dv, q1, q2, q3, q4, q5, q6⟩
      | false => rw [hb] at q5; exact ⟨F, e, n, dv, q1, q2, q3, q4, q5, q6⟩
    · cases h
  | iteV c u v iu iv =>
    refine ⟨fun W X G i y a oe cls d pn x h1 h2 h3 h4 h5 h => ?_, fun W X G i y a oe cls d pn xs h1 h2 h3 h4 h5 h => by simp [chkHl] at h⟩
    unfold chkH at h
    split at h
    · simp only [Bool.and_eq_true, decide_eq_true_eq] at h
      obtain ⟨rfl, g1, rfl, rfl, g2, g3, g4, ⟨rfl, rfl, rfl, g7⟩, g5, g6⟩ := h
      have pu := iu.e W X G i _ a oe cls d pn _ h1 h2 h3 h4 h5 g5
      have pv := iv.e W X G i _ a oe cls d pn _ h1 h2 h3 h4 h5 g6
      refine ⟨fun pins s σ H Q I ⟨F, e, n, dv, q1, q2, q3, q4, q5, q6⟩ => ?_⟩
      obtain ⟨c1, dx, fs, c2, c3, c4, c5⟩ := id q2
      subst c1 c2
      obtain ⟨f0, hf, m1, m2, m3, m4⟩ := G.tbl.errs _ _ q3
      obtain ⟨k1, k2⟩ := G.tbl.ecl _ (by simpa using g4)
      obtain ⟨k3, k4⟩ := k2 _ _ q3
      refine (pe_ifExp (pw_and (pt_val (pe_callB (call_isH G.hK m4 h4 h5) (isGl_ok (X := X.suite a ((a, oe) :: pn)) g1) (blt_none G (by decide)) PyProof.Rows.boot_isinstance
        (pa_cons (pe_var (X := X.suite a ((a, oe) :: pn)) (by show X.N[i]? = _; rw [G.hN]; exact h1) (isLoc_vis h2) (okN_ok h3).1 (okN_ok h3).2) (pa_cons (pe_glob (X := X.suite a ((a, oe) :: pn)) (v := .ref (B.cad _)) (isGl_ok (X := X.suite a ((a, oe) :: pn)) g2) k1 rfl (okN_ok g3).1) pa_nil rfl) rfl) (by decide) (by decide) rfl rfl))
        (pw_and1 (pt_val (pe_callB (call_isV G.hK m4 h4 h5) (isGl_ok (X := X.suite a ((a, oe) :: pn)) g1) (blt_none G (by decide)) PyProof.Rows.boot_isinstance
        (pa_cons (pe_var (X := X.suite a ((a, oe) :: pn)) (by show X.N[i]? = _; rw [G.hN]; exact h1) (isLoc_vis h2) (okN_ok h3).1 (okN_ok h3).2) (pa_cons (pe_bltn (X := X.suite a ((a, oe) :: pn)) (v := .ty "ValueError") (isGl_ok (X := X.suite a ((a, oe) :: pn)) g7) (blt_none G (by decide)) boot_VE rfl) pa_nil rfl) rfl) (by decide) (by decide) rfl rfl)))).pt pu pv).run pins s σ H Q I ?_
      refine ⟨_, q1, B.cad _, T.sub e.cls _, fs, rfl, k4, c3, T.sub e.cls _, rfl, ?_⟩
      simp only [HE.val] at q5
      cases hb : T.sub e.cls _ with
      | true => rw [hb] at q5; exact ⟨_, q1, fs, rfl, c3, true, rfl, ⟨F, e, n, dv, q1, q2, q3, q4, q5, q6⟩⟩
      | false => rw [hb] at q5; exact ⟨F, e, n, dv, q1, q2, q3, q4, q5, q6⟩
    · cases h
end
end Py

set_option Elab.async false
set_option linter.all false
set_option maxRecDepth 100000
set_option maxHeartbeats 4000000
/-! C18c: raise and try, looked at. -/
namespace Py
open PySem PySem.Spec L2
structure GoodS2 : Prop where
section
variable {B : Gb} {g : Sg} {N : List Str} {T : Tab} {k : Nat} {W : WX} {X : Cx} {σ : St}
/-- a clause without a name gives back a constant -/
def tHA (B : Gb) (dv : D) : TE := fun σ H Q => ∃ (F : Hp) (n : Nat), St0 B.K B.O F H n ∧ ∀ F' H' v, Ext B.O F H n F' H' n → Rp B.K B.O F' v dv → Q v H'
def clsOf (B : Gb) (T : Tab) : List (Str × Nat × HE) → List Cl
  | [] => []
  | (c, i, .anon d) :: r => ⟨.ref (B.cad c), none, fun _ _ _ => tRet (tHA B d)⟩ :: clsOf B T r
  | (c, i, h) :: r => ⟨.ref (B.cad c), some i, fun a cls d => tRet (tH B T i a cls d h)⟩ :: clsOf B T r
theorem clsOf_named {c : Str} {i : Nat} {h : HE} {r : List (Str × Nat × HE)} (hh : ∀ d, h ≠ .anon d) : clsOf B T ((c, i, h) :: r) = ⟨.ref (B.cad c), some i, fun a cls d => tRet (tH B T i a cls d h)⟩ :: clsOf B T r := by
  cases h <;> first | rfl | exact absurd rfl (hh _)
theorem chkHs_cases {sc : Scope} {c : Str} {i : Nat} {he : HE} {r : List (Str × Nat × HE)} {hd : ExceptHandler} {hds : List ExceptHandler} (h : chkHs g N sc ((c, i, he) :: r) (hd :: hds) = true) :
    (∃ x xp cc ck cp rp hp d, hd = .ExceptHandler (some (.Name x xp)) none [.Return (some (.Constant cc ck cp)) rp] hp ∧ he = .anon d ∧ x = c ∧ isGl sc x = true ∧ okN x = true ∧ c ∈ g.ecls ∧ cstOk d cc = true ∧ chkHs g N sc r hds = true) ∨
    (∃ x xp y e rp hp, hd = .ExceptHandler (some (.Name x xp)) (some y) [.Return (some e) rp] hp ∧ (∀ d, he ≠ .anon d) ∧ x = c ∧ isGl sc x = true ∧ okN x = true ∧ c ∈ g.ecls ∧ N[i]? = some y ∧ sc.names.lookup y = some .local ∧ okN y = true ∧ chkH g sc y he e = true ∧ chkHs g N sc r hds = true) := by
  unfold chkHs at h
  split at h
  · rename_i hq; cases hq
  · rename_i c' i' d r' x xp cc ck cp rp hp hds' e1 e2
    cases e1
    cases e2
    simp only [Bool.and_eq_true, decide_eq_true_eq] at h
    exact .inl ⟨_, _, _, _, _, _, _, _, rfl, rfl, h.1, h.2.1, h.2.2.1, by simpa using h.2.2.2.1, h.2.2.2.2.2.1, h.2.2.2.2.2.2⟩
  · rename_i c' i' h' r' x xp y e rp hp hds' e1 e2
    cases e1
    cases e2
    simp only [Bool.and_eq_true, decide_eq_true_eq] at h
    refine .inr ⟨_, _, _, _, _, _, rfl, fun d q => ?_, h.1, h.2.1, h.2.2.1, by simpa using h.2.2.2.1, h.2.2.2.2.1, h.2.2.2.2.2.1, h.2.2.2.2.2.2.1, h.2.2.2.2.2.2.2.1, h.2.2.2.2.2.2.2.2⟩
    subst q
    have := h.2.2.2.2.2.2.2.1
    unfold chkH at this
    cases e <;> cases this
  · cases h
theorem cst_PE {X : Cx} {d : D} {cc : Const} {k : Nat} {p : Pos} (h : cstOk d cc = true) : PE X (.Constant cc k p) (tHA B d) := by
  unfold cstOk at h
  split at h
  · obtain rfl := of_decide_eq_true h
    exact PEw pe_int fun σ H Q ⟨F, n, q1, q2⟩ => q2 F H _ (Ext.refl q1) (.int _)
  · obtain rfl := eq_of_beq h
    exact PEw pe_bl fun σ H Q ⟨F, n, q1, q2⟩ => q2 F H _ (Ext.refl q1) (.bl _)
  · rw [Bool.and_eq_true, decide_eq_true_eq] at h
    obtain ⟨rfl, h⟩ := h
    exact PEw pe_str fun σ H Q ⟨F, n, q1, q2⟩ => q2 F H _ (Ext.refl q1) (.str _ h)
  · exact PEw pe_non fun σ H Q ⟨F, n, q1, q2⟩ => q2 F H _ (Ext.refl q1) .non
  · cases h
theorem cls_ok (G : GoodS B g N T k W X) : ∀ (hs : List (Str × Nat × HE)) (hds : List ExceptHandler), chkHs g N X.env.scope hs hds = true → ClsOk X hds (clsOf B T hs)
  | [], [], _ => .nil
  | [], _ :: _, h => by simp [chkHs] at h
  | (c, i, he) :: r, [], h => by simp [chkHs] at h
  | (c, i, he) :: r, hd :: hds, h => by
    rcases chkHs_cases h with ⟨x, xp, cc, ck, cp, rp, hp, d, rfl, rfl, rfl, h1, h2, h3, h4, h5⟩ | ⟨x, xp, y, e, rp, hp, rfl, hn, rfl, h1, h2, h3, h4, h5, h6, h7, h8⟩
    · exact .anon ⟨isGl_ok h1, (okN_ok h2).1, .inl (G.G.tbl.ecl _ h3).1⟩ rfl (fun a oe cls dd pn hz hf => pss_one (ps_ret (cst_PE h4))) (cls_ok G r hds h5)
    · rw [clsOf_named hn]
      refine .cons ⟨isGl_ok h1, (okN_ok h2).1, .inl (G.G.tbl.ecl _ h3).1⟩ rfl (by rw [G.G.hN]; exact h4) h5 (fun a oe cls d pn hz hf => ?_) (cls_ok G r hds h8)
      exact pss_one (ps_ret ((hsnd he).e W X G.G i _ a oe cls d pn e h4 h5 h6 hz hf h7))
theorem cls_mem : ∀ (hs : List (Str × Nat × HE)) (hds : List ExceptHandler) {sc : Scope}, chkHs g N sc hs hds = true → ∀ h ∈ hs, h.1 ∈ g.ecls
  | [], _, _, _, h, m => by cases m
  | (c, i, he) :: r, [], _, h, _, _ => by simp [chkHs] at h
  | (c, i, he) :: r, hd :: hds, sc, h, q, m => by
    rcases chkHs_cases h with ⟨x, xp, cc, ck, cp, rp, hp, d, rfl, rfl, rfl, h1, h2, h3, h4, h5⟩ | ⟨x, xp, y, e, rp, hp, rfl, hn, rfl, h1, h2, h3, h4, h5, h6, h7, h8⟩
    · rcases List.mem_cons.mp m with rfl | m
      · exact h3
      · exact cls_mem r hds h5 q m
    · rcases List.mem_cons.mp m with rfl | m
      · exact h3
      · exact cls_mem r hds h8 q m
/-- what the clauses give back is what is wanted -/
theorem cls_wish (G : GoodS B g N T k W X) {z : En} {Fb F H : Hp} {m : Nat} {D : Ends} {e : Exn} {c : Value} {dx : Option Addr} (hct : T.ctor e.cls = some (e.fs.map (·.1))) (x : Ext B.O z.F0 z.H0 z.n0 F H m) (hb : Same Fb F) (hl : σ.length = z.ln) (dr : z.F0 B.O.aD = some (.lst (B.O.ds.map V.int))) (er : ExR B e c dx F H) :
    ∀ hs : List (Str × Nat × HE), (∀ h ∈ hs, h.1 ∈ g.ecls) → (∀ h ∈ hs, h.2.1 < z.ln) → RS B W z Fb (match hnd T.sub e hs with
      | some (some d) => .ok (.ret d) m
      | some none => .bad
      | none => .exc e m) D → wCls X.K W D (clsOf B T hs) c dx σ H
  | [], _, _, h => h F H σ c dx x hb hl er
  | (c2, i, he) :: r, hm, hi, h => by
    obtain ⟨k1, k2⟩ := G.G.tbl.ecl c2 (hm _ List.mem_cons_self)
    obtain ⟨k3, -⟩ := k2 _ _ hct
    obtain ⟨rfl, er2⟩ := id er
    by_cases hn : ∃ d, he = .anon d
    · obtain ⟨d, rfl⟩ := hn
      refine ⟨T.sub e.cls c2, k3, fun hit a ha => ?_, fun no => ?_⟩
      · rw [hnd, if_pos hit] at h
        exact ⟨F, m, ⟨x.sub, x.fA, x.hA, x.same _ _ dr⟩, fun F2 H2 v x2 r2 => h F2 H2 v (x.trans x2) (hb.trans x2.same) r2⟩
      · rw [hnd, if_neg (by rw [no]; exact Bool.false_ne_true)] at h
        exact cls_wish G hct x hb hl dr er r (fun h m => hm h (List.mem_cons_of_mem _ m)) (fun h m => hi h (List.mem_cons_of_mem _ m)) h
    · rw [clsOf_named fun d q => hn ⟨d, q⟩]
      refine ⟨T.sub e.cls c2, k3, fun hit a ha => ?_, fun no => ?_⟩
      · rw [hnd, if_pos hit] at h
        cases hv : he.val T.sub e with
        | none => rw [hv] at h; exact h.elim
        | some dv =>
          rw [hv] at h
          exact ⟨F, e, m, dv, List.getElem?_set_self (by rw [hl]; exact hi _ List.mem_cons_self), er, hct, ⟨x.sub, x.fA, x.hA, x.same _ _ dr⟩, hv, fun F2 H2 v x2 r2 => h F2 H2 v (x.trans x2) (hb.trans x2.same) r2⟩
      · rw [hnd, if_neg (by rw [no]; exact Bool.false_ne_true)] at h
        exact cls_wish G hct x hb hl dr er r (fun h m => hm h (List.mem_cons_of_mem _ m)) (fun h m => hi h (List.mem_cons_of_mem _ m)) h
theorem s_tri (G : GoodS B g N T k W X) {b : S} {hs : List (Str × Nat × HE)} {hds : List ExceptHandler} (hh : chkHs g N X.env.scope hs hds = true) : ∀ D σ H, tS B T W (.tri b hs) D σ H → tS B T (wCls X.K W D (clsOf B T hs)) b D σ H := fun D σ H ⟨z, Fb, F, env, ad, n, s, h⟩ => by
  refine ⟨z, Fb, F, env, ad, n, s, ?_⟩
  rw [ex] at h
  cases q : ex T b env n with
  | bad => rw [q] at h; exact h.elim
  | ok fl m =>
    rw [q] at h
    cases fl <;> exact h
  | exc e m =>
    rw [q] at h
    dsimp only at h
    split at h
    · rename_i hc
      rw [Bool.and_eq_true, decide_eq_true_eq, List.all_eq_true] at hc
      exact fun F' H' σ' c dx x hb hl er => cls_wish G hc.1 x hb hl s.dr0 er hs (cls_mem hs hds hh) (fun h m => by have z1 := hc.2 h m; rw [decide_eq_true_eq, ← s.en.len, s.len] at z1; exact z1) h
    · exact h.elim
theorem GoodS.tr (G : GoodS B g N T k W X) {W' : WX} {pn : List (Addr × Obj)} {xe : Value → Shared → Prop} (tk : Takes (X.tr pn xe) W') (po : PassesOwn (model X.prog X.w) X.A X.env xe) : GoodS B g N T k W' (X.tr pn xe) where
  G := { hK := G.G.hK, hu := G.G.hu, hc := G.G.hc, gd := G.G.gd, hN := G.G.hN, nd := G.G.nd, room := G.G.room, wish := fun σ => passAt tk σ, tbl := G.G.tbl }
  kind := G.kind
  loc := G.loc
  po := po
  tk := tk
  hs := G.hs
  hf := G.hf
end
end Py

set_option Elab.async false
set_option linter.all false
set_option maxRecDepth 100000
set_option maxHeartbeats 4000000
/-! C19: loops; all statements. -/
namespace Py
open PySem PySem.Spec L2
section
variable {B : Gb} {g : Sg} {N : List Str} {T : Tab} {k : Nat} {W : WX} {X : Cx} {σ : St} {i j : Nat} {e a b c : E}
/-- what a loop's turn is read by -/
noncomputable def loopF (T : Tab) (tg : Tg) (b : S) : D → Env → Nat → Res Flow := fun x env n => match tg.bind x env with
  | some env => ex T b env n
  | none => .bad
theorem s_loop {tg : Tg} {it : E} {u : S} : ∀ D σ H, tS B T W (.loop tg it u) D σ H → tFor (tI B T W true it) (gT B.K tg) (tS B T W u) D σ H := fun D σ H ⟨z, Fb, F, env, ad, n, s, h⟩ => by
  refine ⟨F, env, ad, n, s.st, s.en, (RS.seq (f := fun xs n => forL (loopF T tg u) xs env n) s h).imp fun xs n1 F1 H1 _ e1 h1 J P wk p1 _ stay hlen => ?_⟩
  have s1 := (s.go e1).rebase (Same.refl F1)
  have h1 : RS B W z F1 (forL (loopF T tg u) xs env n1) D := h1.rebase ((s.base).trans e1.same)
  have stay := stay rfl
  refine ⟨fun i m σ H => m = xs.length - i ∧ i ≤ xs.length ∧ ∃ F env ad n, Stt B z F1 F H n σ env ad ∧ RS B W z F1 (forL (loopF T tg u) (xs.drop i) env n) D, ⟨xs.length, rfl, Nat.zero_le _, F1, env, ad, n1, s1, h1⟩, ?_⟩
  rintro i m σ' H' ⟨rfl, hi, F', env', ad', n', s', h'⟩
  have pp : P F' H' := stay _ _ _ _ p1 s'.base s'.st.sub
  by_cases hlt : i < xs.length
  · refine .inr ⟨wk.go i F' H' pp hlt, fun σ H => ∃ F env ad n, Stt B z F1 F H n σ env ad ∧ RS B W z F1 (forL (loopF T tg u) (xs.drop (i + 1)) env n) D, fun σ2 H2 q => ⟨xs.length - (i + 1), by omega, rfl, hlt, q⟩, fun x H2 y => ?_⟩
    obtain ⟨F2, e2, r2⟩ := wk.yld i F' H' n' x H2 s'.st pp y _ (List.getElem?_eq_getElem hlt)
    rw [List.drop_eq_getElem_cons hlt, forL] at h'
    have s2 := s'.go e2
    cases q : tg.bind xs[i] env' with
    | none => unfold loopF at h'; rw [q] at h'; exact h'.elim
    | some env2 =>
      have ef : loopF T tg u xs[i] env' n' = ex T u env2 n' := by unfold loopF; rw [q]
      rw [ef] at h'
      refine s2.tgt tg q r2 fun σ3 s3 => ⟨z, F1, F2, env2, ad', n', s3, ?_⟩
      cases qe : ex T u env2 n' with
      | bad => rw [qe] at h'; exact h'.elim
      | exc e m => rw [qe] at h'; exact h'
      | ok fl m =>
        rw [qe, Res.bind_ok] at h'
        cases fl with
        | nx e => exact fun F4 H4 σ4 ad4 s4 => ⟨F4, e, ad4, m, s4, h'⟩
        | cnt e => exact fun F4 H4 σ4 ad4 s4 => ⟨F4, e, ad4, m, s4, h'⟩
        | brk e => exact h'
        | ret d => exact h'
  · have ei : i = xs.length := by omega
    subst ei
    rw [List.drop_length] at h'
    exact .inl ⟨wk.stop _ F' H' pp (Nat.le_refl _), h' F' H' σ' ad' s'⟩
theorem s_whl {u : S} : ∀ D σ H, tS B T W (.whl c u) D σ H → tWhile (tT B T W c) (tS B T W u) D σ H := fun D σ H ⟨z, Fb, F, env, ad, n, s, h⟩ => by
  have h : RS B W z Fb (whR (tv T c) (ex T u) env n) D := h
  by_cases hk : ∃ k, (whF (tv T c) (ex T u) k env n).good
  · obtain ⟨k0, hk⟩ := hk
    rw [whR_of hk] at h
    refine ⟨fun m σ H => ∃ F env ad n, Stt B z Fb F H n σ env ad ∧ RS B W z Fb (whF (tv T c) (ex T u) m env n) D, ⟨k0, F, env, ad, n, s, h⟩, ?_⟩
    rintro m σ' H' ⟨F', env', ad', n', s', h'⟩
    cases m with
    | zero => exact h'.elim
    | succ m =>
      rw [whF] at h'
      refine ⟨F', env', ad', n', s'.st, s'.en, (RS.seq s' h').imp fun b n1 F1 H1 _ e1 h1 => ?_⟩
      cases b with
      | false =>
        exact h1 F1 H1 _ _ (s'.go e1)
      | true =>
        simp only [if_true] at h1 ⊢
        refine ⟨fun σ H => ∃ F env ad n, Stt B z Fb F H n σ env ad ∧ RS B W z Fb (whF (tv T c) (ex T u) m env n) D, fun σ2 H2 q => ⟨m, Nat.lt_succ_self m, q⟩, z, Fb, F1, env', ad', n1, s'.go e1, ?_⟩
        cases qe : ex T u env' n1 with
        | bad => rw [qe] at h1; exact h1.elim
        | exc e m => rw [qe] at h1; exact h1
        | ok fl m2 =>
          rw [qe, Res.bind_ok] at h1
          cases fl with
          | nx e => exact fun F4 H4 σ4 ad4 s4 => ⟨F4, e, ad4, m2, s4, h1⟩
          | cnt e => exact fun F4 H4 σ4 ad4 s4 => ⟨F4, e, ad4, m2, s4, h1⟩
          | brk e => exact h1
          | ret d => exact h1
  · unfold whR at h
    rw [dif_neg hk] at h
    exact h.elim
end
section
variable (B : Gb) (g : Sg) (N : List Str) (T : Tab) (k : Nat)
structure SSnd (s : S) : Prop where
  one : ∀ W X st, GoodS B g N T k W X → chkS g N X.env.scope s st = true → PS X st (tS B T W s)
  all : ∀ W X sts, GoodS B g N T k W X → chkSs g N X.env.scope s sts = true → PSs X sts (tS B T W s)
end
section
variable {B : Gb} {g : Sg} {N : List Str} {T : Tab} {k : Nat}
theorem SSnd.of {s : S} (h : ∀ W X st, GoodS B g N T k W X → chkS g N X.env.scope s st = true → PS X st (tS B T W s)) (h2 : ∀ sc sts, chkSs g N sc s sts = false) : SSnd B g N T k s := ⟨h, fun W X sts _ q => by rw [h2] at q; cases q⟩
theorem aug_line : True := trivial
theorem sub_assign {o kx : Expr} {p : Pos} {env : PySem.Env} (h : plainX kx = true) : ∀ v, assign (.Subscript o kx p) env v = (do
      let ov ← holding [v] (eval o env)
      let iv ← holding [v, ov] (eval kx env)
      standAt p
      holding [v, ov, iv] (setItem ov iv v)
      release [v, ov, iv] []) := by
  cases kx <;> first | (intro v; rfl) | cases h
theorem sw_sole {tg v : Expr} {l : Nat} {env : PySem.Env} (h : isComp v = false) : swapsWithSole [tg] v l env = pure false := sw_no (t := some tg) h
theorem par_stores {x y : Str} {px py kp kp2 : Pos} {kt k2 : _} {u w : Expr} {env : PySem.Env} (hk : env.scope.kind = .function) (hx : env.scope.names.lookup x = some .local) (hy : env.scope.names.lookup y = some .local) (hl : (px.line == py.line) = true) (hxy : x ≠ y)
    (h1 : (foldedForSure 8 u && foldedForSure 8 w) = false) (h2 : (constantsAlone 8 u && constantsAlone 8 w) = false) (pu : plainX u = true) (pw : plainX w = true) :
    swappedStores [.Tuple [.Name x px, .Name y py] kt kp] (.Tuple [u, w] k2 kp2) env = pure (some [x, y]) := by
  have hb : env.blockKind = .function := by unfold Env.blockKind; rw [hk]; rfl
  have kx : env.kindOf x = some .local := hx
  have ky : env.kindOf y = some .local := hy
  have hxy' : (x == y) = false := by simpa using hxy
  have hyx' : (y == x) = false := by simpa using (Ne.symm hxy)
  have hl' : py.line = px.line := (beq_iff_eq.mp hl).symm
  have pos : ∀ (x : Str) (p : Pos), (Expr.Name x p).pos = p := fun _ _ => rfl
  unfold swappedStores
  simp only [hb]
  simp only [List.filterMap_cons, List.filterMap_nil, List.head?_cons, Option.map_some, Option.getD_some, kx, ky, pos, hl']
  simp [List.eraseDups, List.eraseDupsBy, List.eraseDupsBy.loop, hxy, Ne.symm hxy]
  refine (if_neg ?_).trans ?_
  · rintro (h | h)
    · cases u <;> first | (cases pu; done) | (cases h)
    · cases w <;> first | (cases pw; done) | (cases h)
  · have n1 : ¬ (foldedForSure 8 u = true ∧ foldedForSure 8 w = true) := fun q => by rw [q.1, q.2] at h1; cases h1
    have n2 : ¬ (constantsAlone 8 u = true ∧ constantsAlone 8 w = true) := fun q => by rw [q.1, q.2] at h2; cases h2
    rw [hyx']
    simp only [List.length_cons, List.length_nil, if_true]
    rw [if_neg n1, if_neg n2]
theorem snd_skip : SSnd B g N T k .skip where
  one := fun W X st G h => by
    unfold chkS at h
    split at h
    · exact PSw ps_pass s_skip
    · cases h
  all := fun W X sts G h => by
    cases sts with
    | nil => exact PSsw pss_nil s_skip
    | cons _ _ => simp [chkSs] at h
theorem snd_seqS {u v : S} (hu : SSnd B g N T k u) (hv : SSnd B g N T k v) : SSnd B g N T k (.seq u v) where
  one := fun W X st G h => by simp [chkS] at h
  all := fun W X sts G h => by
    by_cases hf : ∃ i, u = .frz i
    · obtain ⟨i, rfl⟩ := hf
      have h : chkSs g N X.env.scope v sts = true := by simpa only [chkSs] using h
      exact PSsw (hv.all W X sts G h) s_frz
    · have h : (match sts with
        | st :: r => chkS g N X.env.scope u st && chkSs g N X.env.scope v r
        | [] => false) = true := by
        unfold chkSs at h
        cases u <;> first | (exact absurd ⟨_, rfl⟩ hf) | (cases sts <;> exact h)
      cases sts with
      | nil => cases h
      | cons st r =>
        simp only [Bool.and_eq_true] at h
        exact PSsw (pss_cons (hu.one W X st G h.1) (hv.all W X r G h.2)) s_seq
theorem snd_rai {c : Str} {es : E} : SSnd B g N T k (.rai c es) := by
  refine SSnd.of (fun W X st G h => ?_) (fun _ _ => by simp [chkSs])
  unfold chkS at h
  split at h
  · simp only [Bool.and_eq_true, decide_eq_true_eq] at h
    obtain ⟨rfl, h1, h2, h3⟩ := h
    split at h3
    · rename_i e
      cases hc : T.ctor _ with
      | none =>
        refine PSw ps_never fun D σ H ⟨z, Fb, F, env, ad, n, s, h⟩ => ?_
        rw [ex, hc] at h
        exact h
      | some fs =>
        obtain ⟨f, rfl, m1, m2, ⟨qual, D0, fI, cc, cda, m3⟩, m4⟩ := G.G.tbl.errs _ _ hc
        exact PSw (ps_raise G.G.hc G.tk (pmk_err m3 G.G.room (o_cons ((snd e).e W X false _ G.G h3) o_nil (star1 (chkE_plain h3))) (isGl_ok h1) m1 m2 (raises_own m4.xf.exC m4.ty) (okN_ok h2).1 (chkE_plain h3))) (s_rai hc)
    · cases h3
  · cases h
theorem snd_tri {b : S} {hs : List (Str × Nat × HE)} (hb : SSnd B g N T k b) : SSnd B g N T k (.tri b hs) := by
  refine SSnd.of (fun W X st G h => ?_) (fun _ _ => by simp [chkSs])
  unfold chkS at h
  split at h
  · simp only [Bool.and_eq_true] at h
    exact PSw (ps_tryN (tb := fun W' => tS B T W' b) G.hs G.hf (by rw [G.G.hN]; exact G.G.nd) G.tk (fun W' pn xe tk po => hb.all W' _ _ (G.tr tk po) h.1) (cls_ok G hs _ h.2)) (s_tri G h.2)
  · cases h
/-- all statements that were looked at keep to their reading -/
theorem ssnd : ∀ s : S, SSnd B g N T k s := by
  intro s
  induction s with
  | any => exact SSnd.of (fun W X st G h => PSw ps_never fun D σ H ⟨z, Fb, F, env, ad, n, s, h⟩ => h.elim) (fun _ _ => by simp [chkSs])
  | skip => exact snd_skip
  | seq u v hu hv => exact snd_seqS hu hv
  | set i e =>
    refine SSnd.of (fun W X st G h => ?_) (fun _ _ => by simp [chkSs])
    unfold chkS at h
    split at h
    · simp only [Bool.and_eq_true] at h
      exact PSw (ps_name G h.1 h.2.1 h.2.2).1 s_set
    · cases h
  | own i e =>
    refine SSnd.of (fun W X st G h => ?_) (fun _ _ => by simp [chkSs])
    unfold chkS at h
    split at h
    · simp only [Bool.and_eq_true] at h
      exact PSw ((ps_name G h.1 h.2.1 h.2.2.2).2 h.2.2.1) s_own
    · cases h
  | setT t e =>
    refine SSnd.of (fun W X st G h => ?_) (fun _ _ => by simp [chkSs])
    unfold chkS at h
    split at h
    · simp only [Bool.and_eq_true, Bool.not_eq_true'] at h
      obtain ⟨h1, h2, h3, h4⟩ := h
      refine PSw (ps_asg ((snd e).e W X false _ G.G h4) (g_ok G.G.hc G.G.hN (by rw [G.G.hN]; exact G.G.nd) (fun x q => ⟨isLoc_ok q, G.loc x q⟩) t _ h3) (sw_sole h2) (noStores h1) (by rw [each1 (g_plain h3)]; rfl)) fun D σ H q => ?_
      rw [← G.G.hK]
      exact s_setT D σ H q
    · cases h
  | par2 i j a b =>
    refine SSnd.of (fun W X st G h => ?_) (fun _ _ => by simp [chkSs])
    unfold chkS at h
    split at h
    · simp only [Bool.and_eq_true, Bool.not_eq_true', decide_eq_true_eq] at h
      obtain ⟨h1, h2, h3, h4, h5, h6, h7, h8, h9, h10, h11⟩ := h
      exact PSw (ps_par G.G.hc (by rw [G.G.hN]; exact G.G.nd) (nmL_ok G h1).1 (nmL_ok G h2).1 h5 h3 h4 (o_cons ((snd a).e W X false _ G.G h10) (o_cons ((snd b).e W X false _ G.G h11) o_nil (star1 (chkE_plain h11))) (star1 (chkE_plain h10)))
        (par_stores G.kind h3 h4 h6 h7 h8 h9 (chkE_plain h10) (chkE_plain h11)) (sw_sole rfl)) s_par2
    · cases h
  | app i e =>
    refine SSnd.of (fun W X st G h => ?_) (fun _ _ => by simp [chkSs])
    unfold chkS at h
    split at h
    · simp only [Bool.and_eq_true, decide_eq_true_eq] at h
      obtain ⟨rfl, h2, h3, h4⟩ := h
      refine PSw (ps_expr (pe_bm PySem.F.plainAttrs_list PySem.F.slot_list_append PySem.F.type_list_append mt_append (nmV_ok G h2) (o_cons ((snd e).e W X false _ G.G h4) o_nil (star1 (chkE_plain h4))) rfl (by rw [star1 (chkE_plain h4)]; rfl) h3 (star1 (chkE_plain h4)) rfl) (sw_no rfl)) (s_app G.G.hK)
    · cases h
  | sto i kx e =>
    refine SSnd.of (fun W X st G h => ?_) (fun _ _ => by simp [chkSs])
    unfold chkS at h
    split at h
    · simp only [Bool.and_eq_true, Bool.not_eq_true'] at h
      obtain ⟨h1, h2, h3, h4⟩ := h
      exact PSw (ps_asg ((snd e).e W X false _ G.G h4) (pg_sub (nmV_ok G h1) ((snd kx).e W X true _ G.G h3) (set_any G.G.hu) (sub_assign (chkE_plain h3))) (sw_sole h2) (by rename_i v _; cases v <;> rfl) (by rw [each1 rfl]; rfl)) s_sto
    · cases h
  | aug op i e =>
    refine SSnd.of (fun W X st G h => ?_) (fun _ _ => by simp [chkSs])
    unfold chkS at h
    split at h
    · simp only [Bool.and_eq_true, decide_eq_true_eq] at h
      obtain ⟨rfl, h1, h2⟩ := h
      obtain ⟨n1, n2, n3⟩ := nmL_ok G h1
      exact PSw (ps_aug (by rw [G.G.hN]; exact G.G.nd) n1 n2 ((snd e).e W X true _ G.G h2) (ip_aug op) n3) s_aug
    · cases h
  | frz i => exact SSnd.of (fun W X st G h => by simp [chkS] at h) (fun _ _ => by simp [chkSs])
  | expr e =>
    refine SSnd.of (fun W X st G h => ?_) (fun _ _ => by simp [chkSs])
    unfold chkS at h
    split at h
    · simp only [Bool.and_eq_true, Bool.not_eq_true'] at h
      exact PSw (ps_expr ((snd e).e W X false _ G.G h.2) (sw_no h.1)) s_expr
    · cases h
  | ret e =>
    refine SSnd.of (fun W X st G h => ?_) (fun _ _ => by simp [chkSs])
    unfold chkS at h
    split at h
    · exact PSw (ps_ret ((snd e).e W X false _ G.G h)) s_ret
    · cases h
  | retN =>
    refine SSnd.of (fun W X st G h => ?_) (fun _ _ => by simp [chkSs])
    unfold chkS at h
    split at h
    · exact PSw ps_retN s_retN
    · cases h
  | retO i =>
    refine SSnd.of (fun W X st G h => ?_) (fun _ _ => by simp [chkSs])
    unfold chkS at h
    split at h
    · exact PSw (ps_ret (nmV_ok G h)) s_retO
    · cases h
  | ite c a b ha hb =>
    refine SSnd.of (fun W X st G h => ?_) (fun _ _ => by simp [chkSs])
    unfold chkS at h
    split at h
    · simp only [Bool.and_eq_true] at h
      exact PSw (ps_if ((snd c).t W X _ G.G h.1) (ha.all W X _ G h.2.1) (hb.all W X _ G h.2.2)) s_ite
    · cases h
  | whl c b hb =>
    refine SSnd.of (fun W X st G h => ?_) (fun _ _ => by simp [chkSs])
    unfold chkS at h
    split at h
    · simp only [Bool.and_eq_true] at h
      exact PSw (ps_while G.po ((snd c).t W X _ G.G h.1) (hb.all W X _ G h.2)) s_whl
    · cases h
  | loop tg it b hb =>
    refine SSnd.of (fun W X st G h => ?_) (fun _ _ => by simp [chkSs])
    unfold chkS at h
    split at h
    · simp only [Bool.and_eq_true] at h
      obtain ⟨h1, h2, h3⟩ := h
      refine PSw (ps_for G.po G.G.hc ((snd it).i W X true _ _ G.G h1.1 h1.2) (g_ok G.G.hc G.G.hN (by rw [G.G.hN]; exact G.G.nd) (fun x q => ⟨isLoc_ok q, G.loc x q⟩) tg _ h2) (hb.all W X _ G h3) (nofold (chkI_plain h1.1))) fun D σ H q => ?_
      rw [← G.G.hK]
      exact s_loop D σ H q
    · cases h
  | brk =>
    refine SSnd.of (fun W X st G h => ?_) (fun _ _ => by simp [chkSs])
    unfold chkS at h
    split at h
    · exact PSw ps_break s_brk
    · cases h
  | cnt =>
    refine SSnd.of (fun W X st G h => ?_) (fun _ _ => by simp [chkSs])
    unfold chkS at h
    split at h
    · exact PSw ps_continue s_cnt
    · cases h
  | rai c es => exact snd_rai
  | tri b hs hb => exact snd_tri hb
end
end Py

set_option Elab.async false
set_option linter.all false
set_option maxRecDepth 100000
set_option maxHeartbeats 2000000
/-! C20: functions. -/
namespace Py
open PySem PySem.Spec L2
theorem look_zip : ∀ {ps : List Str} {us : List Value} {n : Str}, us.length = ps.length → n ∈ ps → ∃ v, (ps.zip us).lookup n = some v
  | [], _, _, _, h => by cases h
  | p :: ps, [], _, h, _ => by cases h
  | p :: ps, u :: us, n, h, hn => by
    rw [List.zip_cons_cons, List.lookup_cons]
    cases e : n == p with
    | true => exact ⟨u, rfl⟩
    | false =>
      rcases List.mem_cons.mp hn with q | q
      · rw [q, beq_self_eq_true] at e; cases e
      · exact look_zip (by simpa using h) q
theorem map_zip : ∀ {ps : List Str} {us : List Value}, us.length = ps.length → ps.Nodup → (ps.filterMap fun n => ((ps.zip us).lookup n).map (n, ·)) = ps.zip us
  | [], us, h, _ => by cases us <;> rfl
  | p :: ps, [], h, _ => by cases h
  | p :: ps, u :: us, h, nd => by
    rw [List.nodup_cons] at nd
    rw [List.zip_cons_cons, List.filterMap_cons, List.lookup_cons, beq_self_eq_true]
    dsimp only [Option.map_some]
    have ih := map_zip (ps := ps) (us := us) (by simpa using h) nd.2
    have : (ps.filterMap fun n => (((p, u) :: ps.zip us).lookup n).map (n, ·)) = ps.filterMap fun n => ((ps.zip us).lookup n).map (n, ·) := by
      have cg : ∀ (l : List Str) (f g : Str → Option (Str × Value)), (∀ n ∈ l, f n = g n) → l.filterMap f = l.filterMap g := by
        intro l f g h
        induction l with
        | nil => rfl
        | cons a l ih => rw [List.filterMap_cons, List.filterMap_cons, h a List.mem_cons_self, ih fun n hn => h n (List.mem_cons_of_mem _ hn)]
      refine cg _ _ _ fun n hn => ?_
      rw [List.lookup_cons]
      have : (n == p) = false := by
        rw [beq_eq_false_iff_ne]
        exact fun e => nd.1 (e ▸ hn)
      rw [this]
    rw [this, ih]
theorem bind_plain {fd : FuncData} {ps : List Str} (hp : fd.params.posonlyargs = []) (ha : fd.params.args.map (·.arg) = ps) (hv : fd.params.vararg = none) (hk : fd.params.kwonlyargs = []) (hw : fd.params.kwarg = none) (hd : fd.defaults = .none) (nd : ps.Nodup) :
    ∀ us : List Value, us.length = ps.length → bindArgs fd ⟨us, []⟩ = pure (ps.zip us) := by
  intro us hl
  have h0 : ((ps.take (ps.length - 0)).filter fun n => ((ps.zip us).lookup n).isNone) = [] := by
    rw [List.filter_eq_nil_iff]
    intro n hn
    obtain ⟨v, e⟩ := look_zip hl (List.mem_of_mem_take hn)
    rw [e]; exact Bool.false_ne_true
  have h1 : ¬ (us.length > ps.length) := by omega
  have hs : seqItems? (Value.none) = pure none := rfl
  have h2 := map_zip hl nd
  unfold bindArgs
  simp only [hp, ha, hv, hk, hw, hd, hs, List.map_nil, List.nil_append, List.append_nil, List.forIn_nil, pure_bind]
  have e1 : ((none : Option (Array Value)).getD #[]).toList = [] := rfl
  have e2 : (decide (us.length > ps.length) && (none : Option Arg).isNone) = false := by rw [decide_eq_false h1]; rfl
  simp only [e1, e2, List.drop_nil, List.length_nil, h0, List.isEmpty_nil, Bool.not_true, Bool.false_eq_true, if_false, List.zip_nil_right, List.forIn_nil, pure_bind, h2]

/-- a def whose body keeps to its promise where no text is being told -/
theorem fnG_of {P : Program} {w : World} {K : PySem.W.Frag} {mg : Str → Option Value} {base : Heap} {k : Nat} {f : Addr} {name qual : Str} {params : Arguments} {body : List Stmt} {scope : Scope} {dV kV doc pm cdv ct oc : Value} {an od : Option Addr}
    {osl : Array (Option Value)} {N ps : List Str} {sp : Sp} (lk : K.lookup f = some ⟨oc, od, .func (PySem.W.fnOf name qual params body scope dV kV doc pm an cdv ct), osl⟩) (hcd : PySem.W.codeIn K cdv qual = true) (S : FnScope N ps scope) (len : ∀ vs H Q E, sp vs H Q E → vs.length = ps.length)
    (hbody : ∀ (A : Around) (out : List PySem.Env) (s : Shared) (H : Hp) (vs : List V) (Q : VK) (E : XK), Room k (A.deeper (PyProof.Rows.envOfC qual scope s.heap.objs.size f cdv)) → A.guards = some [] → sp vs H Q E →
      ∃ t, PSs (cxOf (L2.CX P w) P w K mg base N qual scope f cdv A out s H E) body t ∧ t { nx := fun _ H' => Q .non H', rt := Q } (start N vs) H) :
    FnG P w K mg base (k + 1) f (PySem.W.fnOf name qual params body scope dV kV doc pm an cdv ct) ps sp := by
  refine ⟨len, fun A out s H as us vs Q E room gd e0 bd rv prom => ?_⟩
  have lens := len _ _ _ _ prom
  have kin : K.In s.heap := e0.mod.kin.keeps fun b o e => (e0.bs b o e).1
  have nolim : s.heap.NoLimit := e0.mod.nolimit.keeps fun b o e => (e0.bs b o e).1
  refine codeAny_call_function room.depth (kin _ _ lk) rfl S.co S.gen rfl (PySem.W.codeRec_of kin hcd) (bd _ _ _ _ ?_)
  refine wpAny_newFunctionEnv_cells S.kind (fun ⟨y, u⟩ hy => ?_) fun env he s1 x => ?_
  · rcases S.par y (List.of_mem_zip hy).1 with q | q
    · exact .inl q
    · exact .inr ⟨q, PySem.W.cellsFrom_some _ _ _ (.inl q)⟩
  · subst he
    obtain ⟨t, ht, q⟩ := hbody A out s H vs Q E (room.deeper _) gd prom
    refine ⟨nolim.keeps x.toInCall.keep, codeAny_func (wpAny_mono (ht.run [] s1 _ H _ (inv_start S room.hd e0 lens rv x) q) (fun fl s' sp => ?_) fun _ _ z => z)⟩
    cases fl with
    | next => obtain ⟨q', H', J, z⟩ := sp; exact ⟨V.non, H', J.os, J.bare, J.base, J.hok, rfl, z⟩
    | ret u => obtain ⟨v, q', H', J, r, z⟩ := sp; exact ⟨v, H', J.os, J.bare, J.base, J.hok, r, z⟩
    | brk => obtain ⟨_, _, _, z⟩ := sp; exact z.elim
    | cont => obtain ⟨_, _, _, z⟩ := sp; exact z.elim
end Py

set_option Elab.async false
set_option linter.all false
set_option maxRecDepth 100000
set_option maxHeartbeats 2000000
/-! C21: each def of the text is what the language says. -/
namespace Py
open PySem PySem.Spec L2
def plainPar (pa : Arguments) (ps : List Str) : Bool := pa.posonlyargs.isEmpty && (decide (pa.args.map (·.arg) = ps) && (pa.vararg.isNone && (pa.kwonlyargs.isEmpty && pa.kwarg.isNone)))
def chkD (g : Sg) (t : DefT) (d : Def) : Bool := C8.scC t.N t.ps t.scope && (plainPar t.params t.ps && (decide t.ps.Nodup && (decide (d.size = t.N.length) && (decide (d.params = t.ps.length) && chkSs g t.N t.scope d.body t.body))))
section
variable {B : Gb} {g : Sg} {T : Tab} {P : Program} {w : World} {K : PySem.W.Frag} {mg : Str → Option Value} {base : Heap} {k : Nat}
theorem isNone_eq {α : Type} {o : Option α} (h : o.isNone = true) : o = none := by cases o <;> first | rfl | cases h
theorem binds_def {x qual : Str} {params : Arguments} {body : List Stmt} {scope : Scope} {f : Addr} {fd : FuncData} {ps : List Str} (F : FunD K x qual params body scope [] [] f fd) (h : plainPar params ps = true) (nd : ps.Nodup) : Binds K fd ps [] := by
  obtain ⟨oc, od, dV, kV, doc, pm, an, cdv, ct, osl, rfl, lk, hcd, hD, _⟩ := F.ex
  have hdv : dV = .none := by
    rcases hD with ⟨_, h⟩ | ⟨h, _⟩
    · exact h
    · exact absurd rfl h
  unfold plainPar at h
  simp only [Bool.and_eq_true, decide_eq_true_eq, List.isEmpty_iff] at h
  obtain ⟨h1, h2, h3, h4, h5⟩ := h
  exact Binds.all (bind_plain h1 h2 (isNone_eq h3) h4 (isNone_eq h5) hdv nd)
theorem start_en {K : PySem.W.Frag} {O : Orc} {F H : Hp} {vs : List V} {l : List D} {N : List Str} (r : RpA K O F vs l) : EnOk K O F H (L2.start N vs) (l.map .val ++ List.replicate (N.length - l.length) .no) fun _ => 0 := by
  have hl := r.length
  have sl : ∀ i, slot (l.map .val ++ List.replicate (N.length - l.length) .no) i = match l[i]? with
    | some d => .val d
    | none => .no := fun i => by
    unfold slot
    rw [List.getD_eq_getElem?_getD]
    by_cases hi : i < l.length
    · rw [List.getElem?_append_left (by simpa using hi), List.getElem?_map, List.getElem?_eq_getElem hi]; rfl
    · rw [List.getElem?_eq_none (by omega : l.length ≤ i), List.getElem?_append_right (by simpa using hi)]
      rw [List.getElem?_replicate]
      split <;> rfl
  refine ⟨by simp [L2.start, hl], fun i => ?_, fun i j _ hi => ?_⟩
  · rw [sl]
    cases e : l[i]? with
    | none => trivial
    | some d =>
      obtain ⟨v, e1, e2⟩ := r.get e
      refine ⟨v, ?_, e2⟩
      have hi : i < vs.length := by
        by_cases q : i < vs.length
        · exact q
        · rw [List.getElem?_eq_none (by omega)] at e1; cases e1
      unfold L2.start
      rw [List.getElem?_append_left (by simpa using hi), List.getElem?_map, e1]; rfl
  · rw [sl] at hi
    cases e : l[i]? <;> rw [e] at hi <;> cases hi
/-- the body's reading at a def's start -/
theorem body_start {d : Def} {t : DefT} {vs : List V} {l : List D} {F H : Hp} {n : Nat} {Q : VK} {E : XK} (hs : d.size = t.N.length) (st : St0 B.K B.O F H n) (r : RpA B.K B.O F vs l) (hz : vs.length ≤ t.N.length)
    (h : R B (fun c dx _ H' => E c dx H') [] F H n (runD T d l n) fun d _ F' H' => ∀ v, Rp B.K B.O F' v d → Q v H') : tS B T (fun cls dd _ H => E cls dd H) d.body { nx := fun _ H' => Q .non H', rt := Q } (L2.start t.N vs) H := by
  refine ⟨⟨F, H, n, t.N.length⟩, F, F, _, _, n, ⟨st, start_en r, Ext.refl st, fun i hi => ?_, Same.refl F, ?_, by show H B.O.aA ≠ none; rw [st.hA]; exact nofun, st.dr⟩, ?_⟩
  · exfalso
    unfold slot at hi
    rw [List.getD_eq_getElem?_getD] at hi
    by_cases q : i < l.length
    · rw [List.getElem?_append_left (by simpa using q), List.getElem?_map, List.getElem?_eq_getElem q] at hi; cases hi
    · rw [List.getElem?_append_right (by simpa using q), List.getElem?_replicate] at hi
      split at hi <;> cases hi
  · show (L2.start t.N vs).length = _
    unfold L2.start
    simp
    omega
  · unfold runD at h
    split at h
    · rw [hs] at h
      cases q : ex T d.body (l.map .val ++ List.replicate (t.N.length - l.length) .no) n with
      | bad => rw [q] at h; exact h.elim
      | exc e m => rw [q] at h; exact fun F' H' σ c dx e _ _ er => h F' H' c dx e er
      | ok fl m =>
        rw [q] at h
        cases fl with
        | nx env => exact fun F' H' σ ad s => h F' H' s.ext _ .non
        | ret v => exact fun F' H' v e _ r => h F' H' e v r
        | brk _ => exact h.elim
        | cnt _ => exact h.elim
    · exact h.elim
theorem fnG_def {x qual : Str} {f : Addr} {fd : FuncData} {t : DefT} {d : Def} {fn : List D → Nat → Res D} (hK : B.K = K) (tbl : TblOk B g T P w K mg base k) (F : FunD K x qual t.params t.body t.scope [] [] f fd) (hc : chkD g t d = true) (hfn : ∀ l n, fn l n = runD T d l n) :
    FnG P w K mg base (k + 1) f fd t.ps (spD B fn t.ps.length) := by
  obtain ⟨oc, od, dV, kV, doc, pm, an, cdv, ct, osl, rfl, lk, hcd, hD, _⟩ := F.ex
  unfold chkD at hc
  simp only [Bool.and_eq_true, decide_eq_true_eq] at hc
  obtain ⟨h1, h2, h3, h4, h5, h6⟩ := hc
  have S := C8.fnScope_by h1
  have hps : t.ps.length ≤ t.N.length := by have := congrArg List.length S.pre; rw [List.length_take] at this; omega
  refine fnG_of lk hcd S (fun vs H Q E h => h.1) fun A out s H vs Q E room gd prom => ?_
  obtain ⟨hv, Fz, n, l, st, r, hr⟩ := prom
  rw [hfn] at hr
  have tk : Takes (cxOf (L2.CX P w) P w K mg base t.N qual t.scope f cdv A out s H E) (fun cls dd _ H => E cls dd H) := takes_of rfl rfl rfl rfl
  have G : GoodS B g t.N T k (fun cls dd _ H => E cls dd H) (cxOf (L2.CX P w) P w K mg base t.N qual t.scope f cdv A out s H E) :=
    { G := { hK := hK, hu := by have := room.un; show (A.deeper _).units + 190 < _; omega, hc := rfl, gd := gd, hN := rfl, nd := S.nd, room := room, wish := fun σ => passAt tk σ, tbl := tbl }
      kind := S.kind, loc := fun _ _ => .inl rfl, po := passes_of rfl, tk := tk, hs := rfl, hf := rfl }
  exact ⟨_, (ssnd d.body).all _ _ _ G h6, body_start h4 st r (by rw [hv]; exact hps) hr⟩
end
end Py

set_option Elab.async false
set_option linter.all false
set_option maxRecDepth 100000
set_option maxHeartbeats 2000000
/-! C22: the law called behind the module's top. -/
namespace Py
open PySem PySem.Spec L2
open PyProof.Rows (IntsAre)
section
variable {P : Program} {w : World} {K : PySem.W.Frag} {mg mb : Str → Option Value} {k : Nat} {fa a : Addr} {fd : FuncData} {x : Str} {sp : Sp} {s1 : Shared} {vs : List Value} {ns : List Int}
/-- the answer that is wanted -/
def Yes (s1 : Shared) (r : Result) (s' : Shared) : Prop := r = .ok (.ret (.bool true)) ∧ OldK s1.heap s'.heap ∧ s'.os = s1.os ∧ PyProof.Rows.AllBare s'.gens
/-- from a heap in which the script alone may be tracked -/
theorem law_core {H : Hp} (kin : K.In s1.heap) (gl : s1.heap.Ns mainGlobals mg) (bl : s1.heap.Ns builtinsNs mb) (bo : ∀ x : Str, x ≠ "__name__" → mb x = bootBuiltins x) (nolim : s1.heap.NoLimit) (g0 : s1.gens = #[])
    (sc : s1.heap.get? a = some { cls := .type "list", data := .seq vs.toArray }) (room : Room k callerA) (F : ∀ base : Heap, K.In base → base.Ns mainGlobals mg → FnG P w K mg base k fa fd [x] sp) (bd : ∀ (s : Shared) (u : Value), BindsTo s fd ⟨[u], []⟩ [(x, u)])
    (prom : sp [.ref a] H (fun v _ => v = .bl true) fun _ _ _ => False) (only : Only H) (ok : HOk P w H s1.heap) (lone : ∀ b, H b ≠ none → b = a) (own : H a ≠ none → K.lookup a = none) :
    codeAny (model P w) callerA (.call (.ref fa) ⟨[.ref a], []⟩) (Yes s1) s1 := by
  have low : ∀ {b : Addr} {o : Obj}, s1.heap.get? b = some o → H b = none → (hidT s1.heap H).get? b = some o := fun e n => hidT_get e n
  have undict : ∀ {b : Addr} {o : Obj} {es : Array DictEntry} {ep : Nat}, s1.heap.get? b = some o → o.data = .dict es ep → H b = none := fun {b o es ep} e dd => by
    cases q : H b with
    | none => rfl
    | some u =>
      obtain rfl : b = a := lone b (by rw [q]; simp)
      rw [sc] at e
      cases e
      cases (show Data.seq vs.toArray _ = Data.dict es ep from dd)
  have nsLow : ∀ {b : Addr} {m : Str → Option Value}, s1.heap.Ns b m → (hidT s1.heap H).Ns b m := fun {b m} ⟨o, es, ep, e, dd, r⟩ => ⟨o, es, ep, low e (undict e dd), dd, r⟩
  have kinLow : K.In (hidT s1.heap H) := fun b o e => low (kin b o e) (by
    cases q : H b with
    | none => rfl
    | some u =>
      obtain rfl : b = a := lone b (by rw [q]; simp)
      rw [own (by rw [q]; simp)] at e
      cases e)
  have md : Mod K mg (hidT s1.heap H) := ⟨kinLow, nsLow gl, ⟨mb, nsLow bl, bo⟩, let ⟨m, h1, h2⟩ := nolim; ⟨m, nsLow h1, h2⟩⟩
  have en : Env0 P w K mg (hidT s1.heap H) callerA [] s1 H := ⟨rfl, md, fun b o e => of_hidT e, Nat.le_of_eq (hidT_size _ _), trivial, fun b hb => absurd (show b ∈ ([] : List Addr) from hb) (by simp), ok, .of_eq g0⟩
  refine codeAny_mono ((F _ kinLow (nsLow gl)).go callerA [] s1 H ⟨[.ref a], []⟩ [.ref a] [.ref a] _ _ room rfl en (bd s1 (.ref a)) (.cons rfl .nil) prom) fun r s' h => ?_
  cases r with
  | error e =>
    obtain ⟨_, _, _, _, _, _, _, _, _, _, _, _, h⟩ := h
    exact h.elim
  | ok fl =>
    cases fl with
    | ret u =>
      obtain ⟨v, H', os, bare, un, ok', r', q⟩ := h
      obtain rfl : v = .bl true := q
      obtain rfl : u = Value.bool true := r'
      refine ⟨rfl, OldK.of_keep fun b o e => ?_, os, bare⟩
      rcases only b with z | ⟨ob, l, z⟩
      · exact un.keep b o e z (by intro y; exact absurd (show b ∈ ([] : List Addr) from y) (by simp)) (by simp)
      · obtain ⟨e1, _⟩ := ok b _ z
        obtain ⟨e2, _⟩ := ok' b _ (un.frzs b ob _ z)
        rw [e] at e1
        cases e1
        exact e2
    | next => exact h.elim
    | brk => exact h.elim
    | cont => exact h.elim
theorem law_callG (kin : K.In s1.heap) (gl : s1.heap.Ns mainGlobals mg) (bl : s1.heap.Ns builtinsNs mb) (bo : ∀ x : Str, x ≠ "__name__" → mb x = bootBuiltins x) (nolim : s1.heap.NoLimit) (g0 : s1.gens = #[])
    (sc : s1.heap.get? a = some { cls := .type "list", data := .seq vs.toArray }) (iz : IntsAre vs ns) (hl : ns.length ≤ sizeLine) (room : Room k callerA) (F : ∀ base : Heap, K.In base → base.Ns mainGlobals mg → FnG P w K mg base k fa fd [x] sp) (bd : ∀ (s : Shared) (u : Value), BindsTo s fd ⟨[u], []⟩ [(x, u)])
    (prom : ∀ H : Hp, Only H → SqL K H a (ns.map V.int) → sp [.ref a] H (fun v _ => v = .bl true) fun _ _ _ => False) : codeAny (model P w) callerA (.call (.ref fa) ⟨[.ref a], []⟩) (Yes s1) s1 := by
  have rv := vals_ints iz
  have len := iz.length
  cases hk : K.lookup a with
  | some o =>
    have e := kin a o hk
    rw [sc] at e
    cases e
    have on : Only (fun _ => none) := fun _ => .inl rfl
    exact law_core kin gl bl bo nolim g0 sc room F bd (prom _ on (.inr ⟨_, vs.toArray, _, hk, rfl, rfl, rfl, by rw [List.size_toArray, len]; exact hl, by simpa using rv⟩)) on (fun b u z => nomatch (show (none : Option HO) = some u from z)) (fun b z => absurd rfl z) fun z => absurd rfl z
  | none =>
    have at1 : ∀ {b u}, (fun b => if b = a then some (HO.frz { cls := .type "list", data := .seq vs.toArray } (.lst (ns.map V.int))) else none) b = some u → b = a ∧ u = HO.frz { cls := .type "list", data := .seq vs.toArray } (.lst (ns.map V.int)) := fun {b u} z => by
      by_cases hb : b = a
      · exact ⟨hb, by have q := (if_pos hb).symm.trans z; exact (Option.some.inj q).symm⟩
      · cases (if_neg hb).symm.trans z
    have on : Only (fun b => if b = a then some (.frz { cls := .type "list", data := .seq vs.toArray } (.lst (ns.map V.int))) else none) := fun b => by
      by_cases hb : b = a
      · exact .inr ⟨_, _, if_pos hb⟩
      · exact .inl (if_neg hb)
    refine law_core kin gl bl bo nolim g0 sc room F bd (prom _ on (.inl (.inr ⟨{ cls := .type "list", data := .seq vs.toArray }, if_pos rfl⟩))) on (fun b u z => ?_) (fun b z => ?_) fun _ => hk
    · obtain ⟨rfl, rfl⟩ := at1 z
      exact ⟨sc, by rw [List.length_map]; exact hl, vs, _, rv, sc⟩
    · cases q : (fun b => if b = a then some (HO.frz { cls := .type "list", data := .seq vs.toArray } (.lst (ns.map V.int))) else none) b with
      | none => exact absurd q z
      | some u => exact (at1 q).1
end
/-- the goal behind the head -/
theorem walk_G {l : PySem.W.OpenLaw} {n k : Nat} {q : Program} {loose : List Str} {XP : (Str → Option Value) → Heap → Prop} {YP : World → Heap → Prop} {d : PySem.DefRec} {x : Str} (hn : l.most = some n) (hn2 : n ≤ sizeLine) (hdf : d.params.defaults = []) (hr : Room k callerA)
    (F : ∀ (w : World) (mg : Str → Option Value) (fa : Addr) (h : Heap), YP w h → h.Ns mainGlobals mg → mg d.name = some (.ref fa) → ∃ (K : PySem.W.Frag) (fd : FuncData) (sp : Sp), K.In h ∧ (∀ (s : Shared) (u : Value), BindsTo s fd ⟨[u], []⟩ [(x, u)]) ∧
      (∀ (H : Hp) (a : Addr) (ns : List Int), ns.length ≤ n → Only H → SqL K H a (ns.map V.int) → sp [.ref a] H (fun v _ => v = .bl true) fun _ _ _ => False) ∧ ∀ base : Heap, K.In base → base.Ns mainGlobals mg → FnG l.prog w K mg base k fa fd [x] sp) :
    PySem.W.WalkO q loose XP YP l.row.toRowW d [] (fun f vs => PySem.call f vs) := by
  refine Att.attach_call hn hdf fun w s0 s1 mg mb fa o pm cd doc a vs ns G Y ho hd hcd hmg sc iz len g0 => ?_
  obtain ⟨K, fd, sp, kin, bd, prom, hF⟩ := F w mg fa _ Y G.T.g hmg
  exact law_callG kin G.T.g G.T.b G.T.builtins G.T.nolimit g0 sc iz (Nat.le_trans len hn2) hr hF bd fun H hO hS => prom H a ns len hO hS
end Py

set_option Elab.async false
set_option linter.all false
set_option maxRecDepth 100000
set_option maxHeartbeats 2000000
/-! C23: the draws: _law_more. -/
namespace Py
open PySem
/-- int(e) -/
def iInt (e : E) : E := .blt .int (.cons e .nil)
def iLen (e : E) : E := .blt .len (.cons e .nil)
def iC (i : Int) : E := .cst (.int i)
def moreA : S := .set 2 (.bop .Mod (iInt (.bop .Add (.bop .Add (.bop .Mult (.var 1) (iC 48271)) (iLen (.var 0))) (iC 11))) (iC 2147483629))
def moreB : S := .ite (.tru (.var 0)) (.seq (.set 2 (.bop .Add (.var 2) (.idx (.var 0) (.bop .Mod (iInt (.bop .Add (.bop .Mult (.var 1) (.bop .Add (.var 3) (iC 5))) (.var 3))) (iLen (.var 0)))))) .skip) .skip
def moreC : S := .set 2 (.bop .Mod (iInt (.bop .Add (.bop .Add (.bop .Mult (.var 2) (iC 16807)) (.bop .Mult (iC 69621) (.var 3))) (iC 5))) (iC 2147483629))
def moreD : Def := ⟨4, 2, .seq moreA (.seq (.loop (.nm 3) (.rng1 (iC 3)) (.seq moreB (.seq moreC .skip))) (.seq (.ret (.bop .FloorDiv (.var 2) (iC 1009))) .skip))⟩
theorem atI_ok {α : Type} {l : List α} {i : Int} (h0 : 0 ≤ i) (h1 : i < l.length) : ∃ x, L2.atI l i = some x ∧ x ∈ l := by
  have hl : i.toNat < l.length := by omega
  refine ⟨l[i.toNat], ?_, List.getElem_mem hl⟩
  unfold L2.atI L2.ixN
  rw [if_pos h0, if_pos h1]
  exact List.getElem?_eq_getElem hl
theorem more_turn {T : Tab} {ds : List Int} (hd : ∀ d ∈ ds, d.natAbs < 2 ^ 64) {n0 : Nat} (hn : n0 < 2 ^ 40) {mx k : Int} (h0 : 0 ≤ mx) (h1 : mx < 2147483648) (k0 : 0 ≤ k) (k1 : k < 3) (m : Nat) :
    ∃ mx', 0 ≤ mx' ∧ mx' < 2147483648 ∧ ex T (.seq moreB (.seq moreC .skip)) [.val (.lst (ds.map .int)), .val (.int n0), .val (.int mx), .val (.int k)] m = .ok (.nx [.val (.lst (ds.map .int)), .val (.int n0), .val (.int mx'), .val (.int k)]) m := by
  have fin : ∀ {z : Int}, z.natAbs < 2 ^ 70 → ∃ mx', 0 ≤ mx' ∧ mx' < 2147483648 ∧ ex T (.seq moreC .skip) [.val (.lst (ds.map .int)), .val (.int n0), .val (.int z), .val (.int k)] m = .ok (.nx [.val (.lst (ds.map .int)), .val (.int n0), .val (.int mx'), .val (.int k)]) m := fun {z} hz => by
    refine ⟨(z * 16807 + 69621 * k + 5) % 2147483629, Int.emod_nonneg _ (by decide), Int.lt_of_lt_of_le (Int.emod_lt_of_pos _ (by decide)) (by decide), ?_⟩
    have e : ex T moreC [.val (.lst (ds.map .int)), .val (.int n0), .val (.int z), .val (.int k)] m = .ok (.nx [.val (.lst (ds.map .int)), .val (.int n0), .val (.int ((z * 16807 + 69621 * k + 5) % 2147483629)), .val (.int k)]) m :=
      ex_set (ev_bop (ev_blt1 (ev_bop (ev_bop (ev_bop rfl rfl (b_muls (by omega) (by decide))) (ev_bop rfl rfl (b_muls (by decide) (by omega))) (b_add _ _)) rfl (b_add _ _)) (int_int _)) rfl (b_mod (by decide)))
    rw [ex_seq e]
    rfl
  by_cases he : ds = []
  · subst he
    have e1 : ex T moreB [.val (.lst (([] : List Int).map .int)), .val (.int n0), .val (.int mx), .val (.int k)] m = .ok (.nx [.val (.lst (([] : List Int).map .int)), .val (.int n0), .val (.int mx), .val (.int k)]) m := by
      unfold moreB
      rw [ex_ite (tv_tru rfl rfl)]
      rfl
    rw [ex_seq e1]
    exact fin (by omega)
  · have hl : 0 < ds.length := List.length_pos_iff.mpr he
    obtain ⟨x, hx, hm⟩ := atI_ok (l := ds.map D.int) (i := (n0 * (k + 5) + k) % (ds.length : Int)) (Int.emod_nonneg _ (by omega)) (by rw [List.length_map]; exact Int.emod_lt_of_pos _ (by omega))
    obtain ⟨d, hd1, rfl⟩ := List.mem_map.mp hm
    have e1 : ex T moreB [.val (.lst (ds.map .int)), .val (.int n0), .val (.int mx), .val (.int k)] m = .ok (.nx [.val (.lst (ds.map .int)), .val (.int n0), .val (.int (mx + d)), .val (.int k)]) m := by
      unfold moreB
      have ht : (D.lst (ds.map D.int)).tru = some true := by
        show some _ = _
        cases ds with
        | nil => exact absurd rfl he
        | cons _ _ => rfl
      rw [ex_ite (tv_tru rfl ht), if_pos rfl]
      have hlen : bltV .len [D.lst (ds.map D.int)] = some (.int (ds.length : Int)) := by rw [len_lst, List.length_map]
      have e : ex T (.set 2 (.bop .Add (.var 2) (.idx (.var 0) (.bop .Mod (iInt (.bop .Add (.bop .Mult (.var 1) (.bop .Add (.var 3) (iC 5))) (.var 3))) (iLen (.var 0)))))) [.val (.lst (ds.map .int)), .val (.int n0), .val (.int mx), .val (.int k)] m = .ok (.nx [.val (.lst (ds.map .int)), .val (.int n0), .val (.int (mx + d)), .val (.int k)]) m :=
        ex_set (ev_bop rfl (ev_idx rfl (ev_bop (ev_blt1 (ev_bop (ev_bop rfl (ev_bop rfl rfl (b_add _ _)) (b_muls (by omega) (by omega))) rfl (b_add _ _)) (int_int _)) (ev_blt1 rfl hlen) (b_mod (by omega))) hx) (b_add _ _))
      rw [ex_seq e]
      rfl
    rw [ex_seq e1]
    have := hd d hd1
    exact fin (by omega)
theorem more_ok {T : Tab} {ds : List Int} (hd : ∀ d ∈ ds, d.natAbs < 2 ^ 64) (hl : ds.length < 2 ^ 40) {n0 : Nat} (hn : n0 < 2 ^ 40) (m : Nat) : ∃ i : Int, runD T moreD [.lst (ds.map .int), .int n0] m = .ok (.int i) m := by
  have hlen : bltV .len [D.lst (ds.map D.int)] = some (.int (ds.length : Int)) := by rw [len_lst, List.length_map]
  have e0 : ex T moreA [.val (.lst (ds.map .int)), .val (.int n0), .no, .no] m = .ok (.nx [.val (.lst (ds.map .int)), .val (.int n0), .val (.int (((n0 : Int) * 48271 + ds.length + 11) % 2147483629)), .no]) m := by
    exact ex_set (ev_bop (ev_blt1 (ev_bop (ev_bop (ev_bop rfl rfl (b_muls (by omega) (by decide))) (ev_blt1 rfl hlen) (b_add _ _)) rfl (b_add _ _)) (int_int _)) rfl (b_mod (by decide)))
  obtain ⟨x0, a0, b0, c0⟩ := more_turn (T := T) hd hn (mx := ((n0 : Int) * 48271 + ds.length + 11) % 2147483629) (k := 0) (Int.emod_nonneg _ (by decide)) (Int.lt_of_lt_of_le (Int.emod_lt_of_pos _ (by decide)) (by decide)) (by decide) (by decide) m
  obtain ⟨x1, a1, b1, c1⟩ := more_turn (T := T) hd hn (mx := x0) (k := 1) a0 b0 (by decide) (by decide) m
  obtain ⟨x2, a2, b2, c2⟩ := more_turn (T := T) hd hn (mx := x1) (k := 2) a1 b1 (by decide) (by decide) m
  refine ⟨x2 / 1009, ?_⟩
  unfold runD moreD
  dsimp only
  rw [if_pos (by simp)]
  show (match ex T (.seq moreA _) [.val (.lst (ds.map .int)), .val (.int n0), .no, .no] m with
    | .ok (.ret d) n => Res.ok d n
    | .ok (.nx _) n => .ok .non n
    | .exc e n => .exc e n
    | _ => .bad) = _
  rw [ex_seq e0]
  have el : ex T (.loop (.nm 3) (.rng1 (iC 3)) (.seq moreB (.seq moreC .skip))) [.val (.lst (ds.map .int)), .val (.int n0), .val (.int (((n0 : Int) * 48271 + ds.length + 11) % 2147483629)), .no] m = .ok (.nx [.val (.lst (ds.map .int)), .val (.int n0), .val (.int x2), .val (.int 2)]) m := by
    rw [ex]
    show (Res.ok [D.int 0, D.int 1, D.int 2] m).bind _ = _
    rw [Res.bind_ok]
    show forL _ _ _ _ = _
    rw [forL]
    show (ex T _ [.val (.lst (ds.map .int)), .val (.int n0), .val (.int (((n0 : Int) * 48271 + ds.length + 11) % 2147483629)), .val (.int 0)] m).bind _ = _
    rw [c0, Res.bind_ok]
    dsimp only
    rw [forL]
    show (ex T _ [.val (.lst (ds.map .int)), .val (.int n0), .val (.int x0), .val (.int 1)] m).bind _ = _
    rw [c1, Res.bind_ok]
    dsimp only
    rw [forL]
    show (ex T _ [.val (.lst (ds.map .int)), .val (.int n0), .val (.int x1), .val (.int 2)] m).bind _ = _
    rw [c2, Res.bind_ok]
    rfl
  have er : ex T (.ret (.bop .FloorDiv (.var 2) (iC 1009))) [.val (.lst (ds.map .int)), .val (.int n0), .val (.int x2), .val (.int 2)] m = .ok (.ret (.int (x2 / 1009))) m := ex_ret (ev_bop rfl rfl (b_fdiv (by decide) (by decide)))
  rw [ex_seq el, ex_seqR er]
end Py

set_option Elab.async false
set_option linter.all false
set_option maxRecDepth 100000
set_option maxHeartbeats 4000000
/-! C24: _law_take. -/
namespace Py
open PySem PySem.Spec L2
def T0 : Tab := ⟨fun _ _ _ => .bad, fun _ => 0, fun _ _ => false, fun _ => none, fun _ => .non⟩
def sg0 : Sg := ⟨[], [], [], false⟩
def sg1 : Sg := ⟨["_law_more"], [], [], false⟩
/-- what _law_more tells -/
noncomputable def moreV (ds : List Int) (n : Nat) : Int := match runD T0 moreD [.lst (ds.map .int), .int n] (n + 1) with
  | .ok (.int i) _ => i
  | _ => 0
/-- the draws, without end -/
noncomputable def omF (ds : List Int) (n : Nat) : Int := if h : n < ds.length then ds[n] else moreV ds n
noncomputable def T1 : Tab := { T0 with fn := fun f l n => if f = 0 then runD T0 moreD l n else .bad }
def takeE : E := .bop .Mod (iInt (.ite (.tru (.cmp .Lt (.var 3) (iLen (.var 0)))) (.idx (.var 0) (.var 3)) (.call 0 (.cons (.var 0) (.cons (.var 3) .nil))))) (.var 2)
def chkTake (sc : Scope) : List Stmt → Bool
  | [.Assign [.Name p _] (.Subscript (.Name a _) (.Constant (.int z) _ _) _) _, .Assign [.Subscript (.Name a2 _) (.Constant (.int z2) _ _) _] (.BinOp (.Name p2 _) .Add (.Constant (.int o) _ _) _) _, st] =>
    decide (p = "place") && (decide (a = "at") && (decide (a2 = "at") && (decide (p2 = "place") && (decide (z = 0) && (decide (z2 = 0) && (decide (o = 1) && (isLoc sc p && (isVis sc a && chkS sg1 takeN sc (.ret takeE) st))))))))
  | _ => false
def takeT (t : DefT) : Bool := decide (t.N = takeN) && (decide (t.ps = takePs) && (C8.scC t.N t.ps t.scope && (plainPar t.params t.ps && chkTake t.scope t.body)))
theorem take_ev {ds : List Int} (hd : ∀ d ∈ ds, d.natAbs < 2 ^ 64) (hl : ds.length < 2 ^ 40) {n : Nat} (hn : n < 2 ^ 40) {m : Int} (hm : 0 < m) (x : Slot) : ev T1 takeE [.val (.lst (ds.map .int)), x, .val (.int m), .val (.int n)] (n + 1) = .ok (.int (omF ds n % m)) (n + 1) := by
  have hlen : bltV .len [D.lst (ds.map D.int)] = some (.int (ds.length : Int)) := by rw [len_lst, List.length_map]
  have ec : ev T1 (.cmp .Lt (.var 3) (iLen (.var 0))) [.val (.lst (ds.map .int)), x, .val (.int m), .val (.int n)] (n + 1) = .ok (.bl (decide ((n : Int) < ds.length))) (n + 1) := ev_cmp rfl (ev_blt1 rfl hlen) rfl
  have ei : ev T1 (.ite (.tru (.cmp .Lt (.var 3) (iLen (.var 0)))) (.idx (.var 0) (.var 3)) (.call 0 (.cons (.var 0) (.cons (.var 3) .nil)))) [.val (.lst (ds.map .int)), x, .val (.int m), .val (.int n)] (n + 1) = .ok (.int (omF ds n)) (n + 1) := by
    rw [ev, tv_tru ec rfl, Res.bind_ok]
    by_cases h : n < ds.length
    · rw [if_pos (by simpa using h)]
      refine ev_idx rfl rfl ?_
      show L2.atI (ds.map D.int) (n : Int) = _
      unfold L2.atI L2.ixN omF
      rw [dif_pos h, if_pos (by omega), if_pos (by rw [List.length_map]; omega)]
      show (ds.map D.int)[(n : Int).toNat]? = _
      rw [List.getElem?_map, Int.toNat_natCast, List.getElem?_eq_getElem h]; rfl
    · rw [if_neg (by simpa using h)]
      obtain ⟨i, hi⟩ := more_ok (T := T0) hd hl hn (n + 1)
      have e2 : ev T1 (.call 0 (.cons (.var 0) (.cons (.var 3) .nil))) [.val (.lst (ds.map .int)), x, .val (.int m), .val (.int n)] (n + 1) = .ok (.int i) (n + 1) := by
        refine ev_call (l := [.lst (ds.map .int), .int n]) rfl ?_
        unfold T1
        dsimp only
        rw [if_pos rfl, hi]
      rw [e2]
      unfold omF moreV
      rw [dif_neg h, hi]
  exact ev_bop (ev_blt1 ei (int_int _)) rfl (b_mod hm)

theorem tbl0 {B : Gb} {P : Program} {w : World} {K : PySem.W.Frag} {mg : Str → Option Value} {base : Heap} (hb : ∀ x ∈ bltNames, mg x = none) : TblOk B sg0 T0 P w K mg base 0 where
  fns := fun f x h => by simp [sg0] at h
  take := fun h => nomatch h
  cons := fun j x h => by simp [sg0] at h
  blt := hb
  errs := fun x fs h => nomatch h
  ecl := fun c h => by simp [sg0] at h
theorem tbl1 {B : Gb} {P : Program} {w : World} {K : PySem.W.Frag} {mg : Str → Option Value} {base : Heap} (hK : B.K = K) (hb : ∀ x ∈ bltNames, mg x = none) {tm : DefT} {fa : Addr} {fd : FuncData} {qual : Str} (F : FunD K qual qual tm.params tm.body tm.scope [] [] fa fd) (hm : mg "_law_more" = some (.ref fa))
    (hc : chkD sg0 tm moreD = true) : TblOk B sg1 T1 P w K mg base 1 where
  fns := fun f x h => by
    have hf : f = 0 ∧ x = "_law_more" := by
      cases f with
      | zero => simp [sg1] at h; exact ⟨rfl, h.symm⟩
      | succ f => simp [sg1] at h
    obtain ⟨rfl, rfl⟩ := hf
    have hc' := hc
    unfold chkD at hc'
    simp only [Bool.and_eq_true, decide_eq_true_eq] at hc'
    refine ⟨fa, fd, tm.ps, fnG_def hK (tbl0 hb) F hc (fun l n => ?_), hm, F.kp, binds_def F hc'.2.1 hc'.2.2.1, fun l n hg => ?_⟩
    · unfold T1
      dsimp only
      rw [if_pos rfl]
    · have hg : (runD T0 moreD l n).good := by
        have e : T1.fn 0 l n = runD T0 moreD l n := by unfold T1; dsimp only; rw [if_pos rfl]
        rw [← e]; exact hg
      unfold runD at hg
      split at hg
      · rename_i q; rw [q]; exact hc'.2.2.2.2.1
      · exact hg.elim
  take := fun h => nomatch h
  cons := fun j x h => by simp [sg1] at h
  blt := hb
  errs := fun x fs h => nomatch h
  ecl := fun c h => by simp [sg1] at h
/-- _law_take keeps to its promise -/
theorem take_fn {B : Gb} {P : Program} {w : World} {K : PySem.W.Frag} {mg : Str → Option Value} {base : Heap} (hK : B.K = K) (hb : ∀ x ∈ bltNames, mg x = none) (hd : ∀ d ∈ B.O.ds, d.natAbs < 2 ^ 64) (hl : B.O.ds.length ≤ 10000)
    {tm : DefT} {fm : Addr} {fdm : FuncData} (Fm : FunD K "_law_more" "_law_more" tm.params tm.body tm.scope [] [] fm fdm) (hm : mg "_law_more" = some (.ref fm)) (hcm : chkD sg0 tm moreD = true)
    {t : DefT} {fa : Addr} {fd : FuncData} (F : FunD K "_law_take" "_law_take" t.params t.body t.scope [] [] fa fd) (hc : takeT t = true) :
    FnG P w K mg base 2 fa fd takePs (spT B (omF B.O.ds)) := by
  obtain ⟨oc, od, dV, kV, doc, pm, an, cdv, ct, osl, rfl, lk, hcd, hD, _⟩ := F.ex
  unfold takeT at hc
  simp only [Bool.and_eq_true, decide_eq_true_eq] at hc
  obtain ⟨h1, h2, h3, h4, h5⟩ := hc
  rw [h1, h2] at h3
  have S := C8.fnScope_by h3
  refine fnG_of lk hcd S (fun vs H Q E h => ?_) fun A out s H vs Q E room gd prom => ?_
  · obtain ⟨Fz, n, m, rfl, _⟩ := h; rfl
  obtain ⟨Fz, n, m, rfl, st, ⟨hm0, hn⟩, hq⟩ := prom
  have tk : Takes (cxOf (L2.CX P w) P w K mg base takeN "_law_take" t.scope fa cdv A out s H E) (fun cls dd _ H => E cls dd H) := takes_of rfl rfl rfl rfl
  have G : GoodS B sg1 takeN T1 1 (fun cls dd _ H => E cls dd H) (cxOf (L2.CX P w) P w K mg base takeN "_law_take" t.scope fa cdv A out s H E) :=
    { G := { hK := hK, hu := by have := room.un; show (A.deeper _).units + 190 < _; omega, hc := rfl, gd := gd, hN := rfl, nd := S.nd, room := room, wish := fun σ => passAt tk σ, tbl := tbl1 hK hb Fm hm hcm }
      kind := S.kind, loc := fun _ _ => .inl rfl, po := passes_of rfl, tk := tk, hs := rfl, hf := rfl }
  unfold chkTake at h5
  split at h5
  · rename_i p pp a pa z kz pz ps1 q1 a2 pa2 z2 kz2 pz2 ps2 p2 pp2 o ko po pb q2 st3 heq
    rw [heq]
    simp only [Bool.and_eq_true, decide_eq_true_eq] at h5
    obtain ⟨rfl, rfl, rfl, rfl, rfl, rfl, rfl, g1, g2, g3⟩ := h5
    have va : ∀ pos, PE (cxOf (L2.CX P w) P w K mg base takeN "_law_take" t.scope fa cdv A out s H E) (.Name "at" pos) (tVar 1) := fun pos => pe_var rfl (isVis_ok g2) (by decide) (by decide)
    have vp : ∀ pos, PE (cxOf (L2.CX P w) P w K mg base takeN "_law_take" t.scope fa cdv A out s H E) (.Name "place" pos) (tVar 3) := fun pos => pe_var rfl ((isLoc_ok g1).elim .inl fun z => .inr (.inl z)) (by decide) (by decide)
    refine ⟨_, pss_cons (ps_set (i := 3) S.nd rfl (isLoc_ok g1) (pe_ix ix_list (va _) pe_int (plainIx_of rfl)) rfl (.inl rfl)) (pss_cons (ps_asg (pe_op op_add (vp _) pe_int) (pg_sub (va _) pe_int set_list (sub_assign rfl)) rfl rfl rfl) (pss_one ((ssnd (.ret takeE)).one _ _ _ G g3))), ?_⟩
    have nA : B.O.aD ≠ B.O.aA := fun z => by have q := st.dr; rw [z, st.fA] at q; cases q
    refine ⟨.ref B.O.aA, rfl, B.O.aA, [.int n], 0, .int n, rfl, rfl, SqL.of st.hA, rfl, ?_⟩
    refine ⟨.int n, rfl, (n : Int), 1, rfl, rfl, ?_⟩
    refine ⟨.ref B.O.aA, rfl, B.O.aA, [.int n], 0, 0, rfl, rfl, st.hA, rfl, ?_⟩
    have x1 : Ext B.O Fz H n Fz (upd H B.O.aA (.lst [.int ((n : Int) + 1)])) (n + 1) := Ext.took st
    have rD : Rp B.K B.O Fz (.ref B.O.aD) (.lst (B.O.ds.map .int)) := by
      refine .lst st.dr ?_ (by rw [List.length_map]; exact Nat.le_trans hl (by decide))
      have : ∀ l : List Int, RpA B.K B.O Fz (l.map V.int) (l.map D.int) := by
        intro l
        induction l with
        | nil => exact .nil
        | cons i l ih => exact .cons (.int i) ih
      exact this _
    have en : EnOk B.K B.O Fz H [some (.ref B.O.aD), some (.ref B.O.aA), some (.int m), some (.int n)] [.val (.lst (B.O.ds.map .int)), .no, .val (.int m), .val (.int n)] (fun _ => 0) := by
      refine ⟨rfl, fun i => ?_, fun i j _ hi => ?_⟩
      · match i with
        | 0 => exact ⟨_, rfl, rD⟩
        | 1 => trivial
        | 2 => exact ⟨_, rfl, .int m⟩
        | 3 => exact ⟨_, rfl, .int n⟩
        | i + 4 => trivial
      · exfalso
        match i, hi with
        | 0, hi => cases hi
        | 1, hi => cases hi
        | 2, hi => cases hi
        | 3, hi => cases hi
        | i + 4, hi => cases hi
    refine ⟨⟨Fz, H, n, 4⟩, Fz, Fz, _, _, n + 1, ⟨st.ext x1, en.ext x1, x1, fun i hi => ?_, Same.refl _, rfl, by show H B.O.aA ≠ none; rw [st.hA]; exact nofun, st.dr⟩, ?_⟩
    · exfalso
      match i, hi with
      | 0, hi => cases hi
      | 1, hi => cases hi
      | 2, hi => cases hi
      | 3, hi => cases hi
      | i + 4, hi => cases hi
    · rw [ex_ret (take_ev hd (by omega) hn hm0 .no)]
      intro F' H' v e b r
      cases r
      exact hq F' H' e
  · cases h5
end Py

set_option Elab.async false
set_option linter.all false
set_option maxRecDepth 100000
set_option maxHeartbeats 4000000
/-! C25: _law_draws. -/
namespace Py
open PySem PySem.Spec L2
def dr1 (p : Nat → Pos) : Stmt := .For (.Name "k" (p 16)) (.Call (.Name "range" (p 18)) [(.Constant (.int 60) 0 (p 17))] [] (p 19)) [.If (.Compare (.Name "rest" (p 0)) [.Gt] [(.Constant (.int 0) 0 (p 1))] (p 2)) [.Expr (.Call (.Attribute (.Name "draws" (p 8)) "append" (p 100)) [(.BinOp (.Call (.Name "int" (p 4)) [(.Name "rest" (p 3))] [] (p 5)) .Mod (.Constant (.int 1009) 0 (p 6)) (p 7))] [] (p 101)) (p 9), .Assign [(.Name "rest" (p 13))] (.BinOp (.Name "rest" (p 10)) .FloorDiv (.Constant (.int 1009) 0 (p 11)) (p 12)) (p 14)] [] (p 15)] [] (p 20)
def dr2 (p : Nat → Pos) : Stmt := .Assign [(.Name "mixed" (p 30))] (.BinOp (.Call (.Name "int" (p 26)) [(.BinOp (.BinOp (.Name "rest" (p 21)) .Mult (.Constant (.int 48271) 0 (p 22)) (p 23)) .Add (.Constant (.int 11) 0 (p 24)) (p 25))] [] (p 27)) .Mod (.Constant (.int 2147483647) 0 (p 28)) (p 29)) (p 31)
def dr3 (p : Nat → Pos) : Stmt := .For (.Name "k" (p 52)) (.Call (.Name "range" (p 54)) [(.Constant (.int 12) 0 (p 53))] [] (p 55)) [.Assign [(.Name "mixed" (p 45))] (.BinOp (.Call (.Name "int" (p 41)) [(.BinOp (.BinOp (.BinOp (.Name "mixed" (p 32)) .Mult (.Constant (.int 16807) 0 (p 33)) (p 34)) .Add (.BinOp (.Constant (.int 69621) 0 (p 35)) .Mult (.Name "k" (p 36)) (p 37)) (p 38)) .Add (.Constant (.int 5) 0 (p 39)) (p 40))] [] (p 42)) .Mod (.Constant (.int 2147483629) 0 (p 43)) (p 44)) (p 46), .Expr (.Call (.Attribute (.Name "draws" (p 50)) "append" (p 102)) [(.BinOp (.Name "mixed" (p 47)) .FloorDiv (.Constant (.int 1009) 0 (p 48)) (p 49))] [] (p 103)) (p 51)] [] (p 56)
def dr0 (p : Nat → Pos) : List Stmt := [.Assign [(.Name "rest" (p 66))] (.Call (.Name "abs" (p 64)) [(.Name "cell" (p 63))] [] (p 65)) (p 67), .If (.Compare (.Name "rest" (p 79)) [.GtE] [(.BinOp (.Constant (.int 10) 0 (p 80)) .Pow (.Constant (.int 18) 0 (p 81)) (p 82))] (p 83)) [dr1 p] [dr2 p, dr3 p] (p 84)]
def drB (p : Nat → Pos) : List Stmt := [.Assign [(.Name "draws" (p 74))] (.List [] (p 75)) (p 76), .For (.Name "cell" (p 85)) (.Subscript (.Name "script" (p 86)) (.Slice none (some (.Constant (.int 63) 0 (p 87))) none (p 88)) (p 89)) (dr0 p) [] (p 90), .Return (some (.Name "draws" (p 77))) (p 78)]
def lineOk (p : Nat → Pos) : Bool := (p 100).endLine == (p 101).line && (p 102).endLine == (p 103).line

/-- where the body runs -/
structure DrX (X : Cx) : Prop where
  hN : X.N = drN
  hc : X.calm = true
  po : PassesOwn (model X.prog X.w) X.A X.env X.xe
  kind : X.env.scope.kind = .function
  fn : ∀ x, X.fn x = true
  lv : ∀ x ∈ drN, isLoc X.env.scope x = true
  gl : ∀ x ∈ (["abs", "int", "range"] : List Str), isGl X.env.scope x = true ∧ X.mg x = none
section
variable {X : Cx} {p : Nat → Pos}
theorem DrX.nd (G : DrX X) : X.N.Nodup := by rw [G.hN]; decide
theorem DrX.v (G : DrX X) {i : Nat} {x : Str} (h : drN[i]? = some x) {q : Pos} (h1 : okN x = true := by decide) : PE X (.Name x q) (tVar i) :=
  pe_var (by rw [G.hN]; exact h) (by have z := isLoc_ok (G.lv x (List.mem_of_getElem? h)); exact z.elim .inl fun y => .inr (.inl y)) (okN_ok h1).1 (okN_ok h1).2
theorem DrX.g (G : DrX X) {i : Nat} {x : Str} (h : drN[i]? = some x) {q : Pos} : PG X (.Name x q) (gName i) := pg_name G.nd (by rw [G.hN]; exact h) (isLoc_ok (G.lv x (List.mem_of_getElem? h))) (.inl (G.fn x))
theorem DrX.s (G : DrX X) {i : Nat} {x : Str} (h : drN[i]? = some x) {q q2 : Pos} {e : Expr} {t : TE} (he : PE X e t) (hs : isComp e = false := by rfl) : PS X (.Assign [.Name x q] e q2) (tAsg t (gName i)) :=
  ps_set G.nd (by rw [G.hN]; exact h) (isLoc_ok (G.lv x (List.mem_of_getElem? h))) he (sw_no hs) (.inl (G.fn x))
theorem DrX.int (G : DrX X) {e : Expr} {t : TE} {q q2 : Pos} (he : PE X e t) (hp : plainX e = true := by rfl) : PE X (.Call (.Name "int" q) [e] [] q2) (tCB (fun xs H Q => (∃ i, xs = [.int i] ∧ Q (.int i) H) ∨ ∃ k, xs = [.bl k] ∧ Q (.int (if k then 1 else 0)) H) (tCons t tNil)) :=
  pe_callTy call_int1 (isGl_ok (G.gl "int" (by simp)).1) (G.gl "int" (by simp)).2 PyProof.Rows.boot_int (pa_cons he pa_nil (star1 hp)) (by decide) (by decide) (star1 hp) rfl
theorem DrX.abs (G : DrX X) {e : Expr} {t : TE} {q q2 : Pos} (he : PE X e t) (hp : plainX e = true := by rfl) : PE X (.Call (.Name "abs" q) [e] [] q2) (tCB (fun xs H Q => ∃ i, xs = [.int i] ∧ Q (.int (if i < 0 then -i else i)) H) (tCons t tNil)) :=
  pe_callB call_abs (isGl_ok (G.gl "abs" (by simp)).1) (G.gl "abs" (by simp)).2 PyProof.Rows.boot_abs (pa_cons he pa_nil (star1 hp)) (by decide) (by decide) (star1 hp) rfl
theorem DrX.rng (G : DrX X) {tg : Expr} {i : Int} {k : Nat} {q q2 q3 : Pos} : PI X tg (.Call (.Name "range" q) [.Constant (.int i) k q2] [] q3) (iRng1 (tCons (tC (.int i)) tNil)) := pi_range1 (isGl_ok (G.gl "range" (by simp)).1) (G.gl "range" (by simp)).2 (pa_cons pe_int pa_nil rfl) rfl
theorem DrX.app (G : DrX X) {e : Expr} {t : TE} {q q2 q3 q4 : Pos} (hl : (q2.endLine == q3.line) = true) (he : PE X e t) (hp : plainX e = true := by rfl) : PS X (.Expr (.Call (.Attribute (.Name "draws" q) "append" q2) [e] [] q3) q4) (tDrop (tBM X.K "list" rAppend (tVar 1) (tCons t tNil))) :=
  ps_expr (pe_bm PySem.F.plainAttrs_list PySem.F.slot_list_append PySem.F.type_list_append mt_append (G.v (i := 1) rfl) (pa_cons he pa_nil (star1 hp)) rfl (by rw [star1 hp]; rfl) hl (star1 hp) rfl) (sw_no rfl)
abbrev tInt1 (t : TE) : TE := tCB (fun xs H Q => (∃ i, xs = [.int i] ∧ Q (.int i) H) ∨ ∃ k, xs = [.bl k] ∧ Q (.int (if k then 1 else 0)) H) (tCons t tNil)
abbrev tMod (a b : TE) : TE := tOp (rI (fun _ j => j ≠ 0) fun i j => .int (i.fmod j)) a b
abbrev tFd (a b : TE) : TE := tOp (rI (fun i j => j ≠ 0 ∧ Builtin.divisionGoesByPylong i j = false) fun i j => .int (i.fdiv j)) a b
abbrev tMl (a b : TE) : TE := tOp (rI (fun i j => mulOk i j = true) fun i j => .int (i * j)) a b
abbrev tPl (a b : TE) : TE := tOp (rI0 fun i j => .int (i + j)) a b
abbrev tApp (K : PySem.W.Frag) (t : TE) : TS := tDrop (tBM K "list" rAppend (tVar 1) (tCons t tNil))
def rd1 (K : PySem.W.Frag) : TS := tFor (iRng1 (tCons (tC (.int 60)) tNil)) (gName 4) (tIfS (tTest (tOp (rI0 fun i j => .bl (decide (j < i))) (tVar 3) (tC (.int 0)))) (tSeq (tApp K (tMod (tInt1 (tVar 3)) (tC (.int 1009)))) (tAsg (tFd (tVar 3) (tC (.int 1009))) (gName 3))) tNext)
def rd3 (K : PySem.W.Frag) : TS := tFor (iRng1 (tCons (tC (.int 12)) tNil)) (gName 4) (tSeq (tAsg (tMod (tInt1 (tPl (tPl (tMl (tVar 5) (tC (.int 16807))) (tMl (tC (.int 69621)) (tVar 4))) (tC (.int 5)))) (tC (.int 2147483629))) (gName 5)) (tApp K (tFd (tVar 5) (tC (.int 1009)))))
def rd2 : TS := tAsg (tMod (tInt1 (tPl (tMl (tVar 3) (tC (.int 48271))) (tC (.int 11)))) (tC (.int 2147483647))) (gName 5)
def rd0 (K : PySem.W.Frag) : TS := tSeq (tAsg (tCB (fun xs H Q => ∃ i, xs = [.int i] ∧ Q (.int (if i < 0 then -i else i)) H) (tCons (tVar 2) tNil)) (gName 3))
  (tIfS (tTest (tOp (rI0 fun i j => .bl (decide (j ≤ i))) (tVar 3) (tOp (rI CPow fun i j => .int (i ^ j.toNat)) (tC (.int 10)) (tC (.int 18))))) (rd1 K) (tSeq rd2 (rd3 K)))
def rdB (K : PySem.W.Frag) : TS := tSeq (tAsg (tLst tNil) (gName 1)) (tSeq (tFor (iSq K (tSl (rSlL K) (tVar 0) tNoPart (tPart (tC (.int 63))))) (gName 2) (rd0 K)) (tRet (tVar 1)))
theorem drB_ps (G : DrX X) (hl : lineOk p = true) : PSs X (drB p) (rdB X.K) := by
  unfold lineOk at hl
  rw [Bool.and_eq_true] at hl
  have h1 : PS X (dr1 p) (rd1 X.K) := ps_for G.po G.hc G.rng (G.g (i := 4) rfl) (pss_one (ps_if (pt_cmpR op_gt (G.v (i := 3) rfl) pe_int rfl) (pss_cons (G.app hl.1 (pe_op op_modN (G.int (G.v (i := 3) rfl)) pe_int)) (pss_one (G.s (i := 3) rfl (pe_op op_fdivB (G.v (i := 3) rfl) pe_int)))) pss_nil)) (nofold rfl)
  have h2 : PS X (dr2 p) rd2 := G.s (i := 5) rfl (pe_op op_modN (G.int (pe_op op_add (pe_op op_mulB (G.v (i := 3) rfl) pe_int) pe_int)) pe_int)
  have h3 : PS X (dr3 p) (rd3 X.K) := ps_for G.po G.hc G.rng (G.g (i := 4) rfl) (pss_cons (G.s (i := 5) rfl (pe_op op_modN (G.int (pe_op op_add (pe_op op_add (pe_op op_mulB (G.v (i := 5) rfl) pe_int) (pe_op op_mulB pe_int (G.v (i := 4) rfl))) pe_int)) pe_int)) (pss_one (G.app hl.2 (pe_op op_fdivB (G.v (i := 5) rfl) pe_int)))) (nofold rfl)
  have h0 : PSs X (dr0 p) (rd0 X.K) := pss_cons (G.s (i := 3) rfl (G.abs (G.v (i := 2) rfl))) (pss_one (ps_if (pt_cmpR op_ge (G.v (i := 3) rfl) (pe_op op_pow pe_int pe_int) rfl) (pss_one h1) (pss_cons h2 (pss_one h3))))
  exact pss_cons (G.s (i := 1) rfl (pe_lst pa_nil)) (pss_cons (ps_for G.po G.hc (pi_sq (pe_slice sl_list (G.v (i := 0) rfl) po_none (po_some pe_int))) (G.g (i := 2) rfl) h0 (nofold rfl)) (pss_one (ps_ret (G.v (i := 1) rfl))))
end
end Py

set_option Elab.async false
set_option linter.all false
set_option maxRecDepth 100000
set_option maxHeartbeats 4000000
/-! C26: _law_draws tells small numbers. -/
namespace Py
open PySem PySem.Spec L2
/-- between the turns: pd the draws, q what is walked; b, how many draws at most -/
structure Dw (H0 : Hp) (q pd : Addr) (lz : List Int) (b : Nat) (σ : St) (H : Hp) : Prop where
  len : σ.length = 6
  at1 : σ[1]? = some (some (.ref pd))
  ds : ∃ ds : List Int, H pd = some (.lst (ds.map V.int)) ∧ ds.length ≤ b ∧ ∀ d ∈ ds, 0 ≤ d ∧ d < 2 ^ 31
  sq : H q = some (.lst (lz.map V.int))
  ne : q ≠ pd
  keep : ∀ a o, H0 a = some o → H a = some o
  new : H0 pd = none
section
variable {H0 : Hp} {q pd : Addr} {lz : List Int} {b : Nat} {σ : St} {H : Hp} {K : PySem.W.Frag} {D : Ends}
theorem Dw.set (w : Dw H0 q pd lz b σ H) {i : Nat} (hi : i ≠ 1) (x : V) : Dw H0 q pd lz b (σ.set i (some x)) H := ⟨by rw [List.length_set]; exact w.len, by rw [List.getElem?_set_ne hi]; exact w.at1, w.ds, w.sq, w.ne, w.keep, w.new⟩
theorem Dw.up (w : Dw H0 q pd lz b σ H) {b' : Nat} (h : b ≤ b') : Dw H0 q pd lz b' σ H := ⟨w.len, w.at1, by obtain ⟨ds, h1, h2, h3⟩ := w.ds; exact ⟨ds, h1, Nat.le_trans h2 h, h3⟩, w.sq, w.ne, w.keep, w.new⟩
theorem Dw.app {t : TE} (w : Dw H0 q pd lz b σ H) (hb : b ≤ 5000) {i : Int} (h0 : 0 ≤ i) (h1 : i < 2 ^ 31) (ht : ∀ Q : VK, Q (.int i) H → t σ H Q) (k : ∀ H', Dw H0 q pd lz (b + 1) σ H' → D.nx σ H') : tApp K t D σ H := by
  obtain ⟨ds, hd, hl, hr⟩ := w.ds
  refine ⟨.ref pd, w.at1, .inl ⟨rfl, _, SqL.of hd⟩, ht _ ⟨pd, _, _, rfl, rfl, hd, ?_, k _ ⟨w.len, w.at1, ⟨ds ++ [i], by rw [upd_same, List.map_append]; rfl, by rw [List.length_append, List.length_singleton]; omega, fun d hm => ?_⟩, by rw [upd_ne w.ne]; exact w.sq, w.ne, fun a o e => ?_, w.new⟩⟩⟩
  · rw [List.length_map, ← lim_eq]
    exact Nat.lt_of_le_of_lt (Nat.le_trans hl hb) (by decide)
  · rcases List.mem_append.mp hm with z | z
    · exact hr d z
    · rw [List.mem_singleton.mp z]; exact ⟨h0, h1⟩
  · rw [upd_ne (ne_of_none e w.new)]; exact w.keep a o e
theorem Dw.at (w : Dw H0 q pd lz b σ H) {i : Nat} (hi : i < 6) (x : V) : (σ.set i (some x))[i]? = some (some x) := List.getElem?_set_self (by rw [w.len]; exact hi)
theorem rd1_ok (w : Dw H0 q pd lz b σ H) (hb : b + 60 ≤ 5000) {r : Int} (hr : σ[3]? = some (some (.int r))) (k : ∀ σ' H', Dw H0 q pd lz (b + 60) σ' H' → D.nx σ' H') : rd1 K D σ H := by
  refine ⟨60, rfl, by decide, by decide, for_range (fun i σ H => Dw H0 q pd lz (b + i) σ H ∧ ∃ r : Int, σ[3]? = some (some (.int r))) ⟨w, r, hr⟩ (fun i σ H hi ⟨w, r, hr⟩ => ?_) fun σ' H' h => k σ' H' h.1⟩
  have hi : i < 60 := hi
  have w4 := w.set (i := 4) (by decide) (.int (0 + (i : Int)))
  have r4 : (σ.set 4 (some (.int (0 + (i : Int)))))[3]? = some (some (.int r)) := by rw [List.getElem?_set_ne (by decide)]; exact hr
  refine ⟨_, r4, r, 0, rfl, rfl, decide (0 < r), rfl, ?_⟩
  dsimp only
  by_cases hp : 0 < r
  · rw [decide_eq_true hp, if_pos rfl]
    refine w4.app (by omega) (i := r.fmod 1009) (by rw [Int.fmod_eq_emod_of_nonneg _ (by decide)]; exact Int.emod_nonneg _ (by decide)) (by rw [Int.fmod_eq_emod_of_nonneg _ (by decide)]; exact Int.lt_of_lt_of_le (Int.emod_lt_of_pos _ (by decide)) (by decide))
      (fun Q h => ⟨_, r4, .inl ⟨r, rfl, r, 1009, rfl, rfl, (by decide : (1009 : Int) ≠ 0), h⟩⟩) fun H2 w2 => ?_
    refine ⟨_, r4, r, 1009, rfl, rfl, ⟨(by decide : (1009 : Int) ≠ 0), noPy (by decide)⟩, ?_⟩
    exact ⟨(w2.set (i := 3) (by decide) _).up (by omega), _, w2.at (by decide) _⟩
  · rw [decide_eq_false hp, if_neg Bool.false_ne_true]
    exact ⟨w4.up (by omega), r, r4⟩
theorem rd3_ok (w : Dw H0 q pd lz b σ H) (hb : b + 60 ≤ 5000) {m : Int} (hm : σ[5]? = some (some (.int m))) (m0 : 0 ≤ m) (m1 : m < 2 ^ 31) (k : ∀ σ' H', Dw H0 q pd lz (b + 60) σ' H' → D.nx σ' H') : rd3 K D σ H := by
  refine ⟨12, rfl, by decide, by decide, for_range (fun i σ H => Dw H0 q pd lz (b + i) σ H ∧ ∃ m : Int, σ[5]? = some (some (.int m)) ∧ 0 ≤ m ∧ m < 2 ^ 31) ⟨w, m, hm, m0, m1⟩ (fun i σ H hi ⟨w, m, hm, m0, m1⟩ => ?_) fun σ' H' h => k σ' H' (h.1.up (by show b + (12 : Int).toNat ≤ _; simp))⟩
  have hi : i < 12 := hi
  have w4 := w.set (i := 4) (by decide) (.int (0 + (i : Int)))
  have r4 : (σ.set 4 (some (.int (0 + (i : Int)))))[5]? = some (some (.int m)) := by rw [List.getElem?_set_ne (by decide)]; exact hm
  have k4 := w.at (i := 4) (by decide) (.int (0 + (i : Int)))
  refine ⟨_, r4, m, 16807, rfl, rfl, mulOk_small (by omega) (by decide), _, k4, 69621, (0 + (i : Int)), rfl, rfl, mulOk_small (by decide) (by omega), _, _, rfl, rfl, _, 5, rfl, rfl, .inl ⟨_, rfl, _, 2147483629, rfl, rfl, (by decide : (2147483629 : Int) ≠ 0), ?_⟩⟩
  have f0 : 0 ≤ (m * 16807 + 69621 * (0 + (i : Int)) + 5).fmod 2147483629 := by rw [Int.fmod_eq_emod_of_nonneg _ (by decide)]; exact Int.emod_nonneg _ (by decide)
  have f1 : (m * 16807 + 69621 * (0 + (i : Int)) + 5).fmod 2147483629 < 2 ^ 31 := by rw [Int.fmod_eq_emod_of_nonneg _ (by decide)]; exact Int.lt_of_lt_of_le (Int.emod_lt_of_pos _ (by decide)) (by decide)
  have w5 := w4.set (i := 5) (by decide) (.int ((m * 16807 + 69621 * (0 + (i : Int)) + 5).fmod 2147483629))
  have r5 := w4.at (i := 5) (by decide) (.int ((m * 16807 + 69621 * (0 + (i : Int)) + 5).fmod 2147483629))
  refine w5.app (by omega) (i := ((m * 16807 + 69621 * (0 + (i : Int)) + 5).fmod 2147483629).fdiv 1009) (by rw [Int.fdiv_eq_ediv_of_nonneg _ (by decide)]; exact Int.ediv_nonneg f0 (by decide)) (by rw [Int.fdiv_eq_ediv_of_nonneg _ (by decide)]; omega)
    (fun Q h => ⟨_, r5, _, 1009, rfl, rfl, ⟨(by decide : (1009 : Int) ≠ 0), noPy (by decide)⟩, h⟩) fun H2 w2 => ⟨w2.up (by omega), _, r5, f0, f1⟩
theorem rd0_ok (w : Dw H0 q pd lz b σ H) (hb : b + 60 ≤ 5000) {c : Int} (hc : σ[2]? = some (some (.int c))) (k : ∀ σ' H', Dw H0 q pd lz (b + 60) σ' H' → D.nx σ' H') : rd0 K D σ H := by
  refine ⟨_, hc, c, rfl, ?_⟩
  have w3 := w.set (i := 3) (by decide) (.int (if c < 0 then -c else c))
  have r3 := w.at (i := 3) (by decide) (.int (if c < 0 then -c else c))
  refine ⟨_, r3, 10, 18, rfl, rfl, ⟨by decide, by decide, by decide⟩, _, _, rfl, rfl, _, rfl, ?_⟩
  dsimp only
  by_cases hp : (10 : Int) ^ (18 : Int).toNat ≤ (if c < 0 then -c else c)
  · rw [decide_eq_true hp, if_pos rfl]
    exact rd1_ok w3 hb r3 k
  · rw [decide_eq_false hp, if_neg Bool.false_ne_true]
    have hp : ¬ (1000000000000000000 : Int) ≤ (if c < 0 then -c else c) := hp
    have hs : (if c < 0 then -c else c).natAbs < 2 ^ 1000 := by split at hp <;> split <;> omega
    refine ⟨_, r3, _, 48271, rfl, rfl, mulOk_small hs (by decide), _, 11, rfl, rfl, .inl ⟨_, rfl, _, 2147483647, rfl, rfl, (by decide : (2147483647 : Int) ≠ 0), ?_⟩⟩
    refine rd3_ok (w3.set (i := 5) (by decide) _) hb (w3.at (by decide) _) ?_ ?_ k
    · rw [Int.fmod_eq_emod_of_nonneg _ (by decide)]; exact Int.emod_nonneg _ (by decide)
    · rw [Int.fmod_eq_emod_of_nonneg _ (by decide)]; exact Int.lt_of_lt_of_le (Int.emod_lt_of_pos _ (by decide)) (by decide)
/-- the promise of _law_draws -/
def spDr (K : PySem.W.Frag) : Sp := fun vs H Q _ => ∃ (a : Addr) (ns : List Int), vs = [.ref a] ∧ SqL K H a (ns.map V.int) ∧ ∀ (pd : Addr) (ds : List Int) (H' : Hp), H pd = none → (∀ b o, H b = some o → H' b = some o) → H' pd = some (.lst (ds.map V.int)) → ds.length ≤ 5000 → (∀ d ∈ ds, 0 ≤ d ∧ d < 2 ^ 31) → Q (.ref pd) H'
theorem cut63 (ns : List Int) : cutV (ns.map V.int) none (some 63) = (ns.take 63).map V.int := by
  have e : (some (63 : Int)) = some ((63 : Nat) : Int) := rfl
  rw [e]
  unfold cutV
  rw [List.length_map, HT.sIx_nat]
  have h0 : HT.sIx ns.length 0 none = 0 := rfl
  rw [h0, List.drop_zero, Nat.sub_zero, ← List.map_take]
  congr 1
  rw [List.take_eq_take_iff]
  omega
theorem rdB_ok {vs : List V} {Q : VK} {E : XK} (h : spDr K vs H Q E) : rdB K { nx := fun _ H' => Q .non H', rt := Q } (L2.start drN vs) H := by
  obtain ⟨a, ns, rfl, hs, hq⟩ := h
  refine ⟨Nat.zero_le _, fun pd hpd => ?_⟩
  have ha : ∀ {H' : Hp}, (∀ b o, H b = some o → H' b = some o) → SqL K H' a (ns.map V.int) := fun k => Same.seq k hs
  have k1 : ∀ b o, H b = some o → upd H pd (.lst []) b = some o := fun b o e => by rw [upd_ne (ne_of_none e hpd)]; exact e
  refine ⟨_, rfl, 63, rfl, a, ns.map V.int, rfl, ha k1, fun q hq' => .inl ⟨q, (ns.take 63).map V.int, rfl, SqL.of (by rw [upd_same, cut63]), ?_⟩⟩
  rw [cut63]
  have nq : q ≠ pd := fun z => by rw [z, upd_same] at hq'; cases hq'
  have w : Dw H q pd (ns.take 63) 0 ((L2.start drN [.ref a]).set 1 (some (.ref pd))) (upd (upd H pd (.lst [])) q (.lst ((ns.take 63).map V.int))) :=
    ⟨rfl, rfl, ⟨[], by rw [upd_ne (Ne.symm nq), upd_same]; rfl, Nat.le_refl _, fun _ h => nomatch h⟩, upd_same .., nq, fun b o e => by rw [upd_ne (ne_of_none (k1 b o e) hq')]; exact k1 b o e, hpd⟩
  refine for_list (fun i σ H1 => Dw H q pd (ns.take 63) (60 * i) σ H1) w (fun i σ H1 _ w => SqL.of w.sq) (fun i x σ H1 hx w => ?_) fun σ H1 w => ?_
  · rw [List.getElem?_map] at hx
    obtain ⟨c, hc, rfl⟩ := Option.map_eq_some_iff.mp hx
    have hi : i < 63 := by
      have := List.length_take_le 63 ns
      have h2 : i < (ns.take 63).length := by
        by_cases h : i < (ns.take 63).length
        · exact h
        · rw [List.getElem?_eq_none (by omega)] at hc; cases hc
      omega
    exact rd0_ok (w.set (i := 2) (by decide) (.int c)) (by omega) (w.at (by decide) _) fun σ' H' w' => w'.up (by omega)
  · obtain ⟨ds, h1, h2, h3⟩ := w.ds
    refine ⟨_, w.at1, hq pd ds H1 hpd w.keep h1 ?_ h3⟩
    have := List.length_take_le 63 ns
    rw [List.length_map] at h2
    omega
end
end Py

set_option Elab.async false
set_option linter.all false
set_option maxRecDepth 100000
set_option maxHeartbeats 4000000
/-! C27: the module's functions, level by level; the law. -/
namespace Py
open PySem PySem.Spec L2
noncomputable def Prg.at (p : Prg) (ds : List Int) : Prg := { p with om := omF ds }
/-- what the module's top left, of the text -/
structure Mdl (g : Sg) (p : Prg) (cad : Str → Addr) (P : Program) (w : World) (K : PySem.W.Frag) (mg : Str → Option Value) : Prop where
  fns : ∀ (f : Nat) (x : Str), g.fns[f]? = some x → ∃ t d fa fd, p.defs[f]? = some d ∧ chkD g t d = true ∧ FunD K x x t.params t.body t.scope [] [] fa fd ∧ mg x = some (.ref fa)
  more : ∃ t fa fd, FunD K "_law_more" "_law_more" t.params t.body t.scope [] [] fa fd ∧ mg "_law_more" = some (.ref fa) ∧ chkD sg0 t moreD = true
  take : ∃ t fa fd, FunD K "_law_take" "_law_take" t.params t.body t.scope [] [] fa fd ∧ mg "_law_take" = some (.ref fa) ∧ takeT t = true
  cons : ∀ (j : Nat) (x : Str), g.cons[j]? = some x → ∃ v u, mg x = some u ∧ RelV v u ∧ ∀ O F, Rp K O F v (p.con j)
  blt : ∀ x ∈ bltNames, mg x = none
  errs : ∀ (x : Str) (fs : List Str), p.ctor x = some fs → ∃ f, fs = [f] ∧ mg x = some (.ref (cad x)) ∧ PySem.W.keepIn K (.ref (cad x)) = true ∧ (∃ qual D fI cc cda, PyX.ErrTxt K P mg qual f (cad x) D fI cc cda) ∧ ErrH K (cad x) f
  ecl : ∀ c ∈ g.ecls, mg c = some (.ref (cad c)) ∧ ∀ x fs, p.ctor x = some fs → PySem.W.exmOne K (.ref (cad x)) (.ref (cad c)) = some (p.sub x c) ∧ PySem.W.kitOne K (.ref (cad x)) (.ref (cad c)) = some (p.sub x c)
section
variable {g : Sg} {p : Prg} {cad : Str → Addr} {P : Program} {w : World} {K : PySem.W.Frag} {mg : Str → Option Value} {base : Heap}
theorem FnG.never {B : Gb} {k ar : Nat} {fa : Addr} {fd : FuncData} {ps : List Str} {fn : List D → Nat → Res D} (h : ∀ l n, fn l n = .bad) (ha : ar = ps.length) : FnG P w K mg base k fa fd ps (spD B fn ar) :=
  ⟨fun vs H Q E q => q.1.trans ha, fun A out s H as us vs Q E _ _ _ _ _ prom => by
    obtain ⟨-, F, n, l, -, -, q⟩ := prom
    rw [h] at q
    exact q.elim⟩
theorem tbl_lv (M : Mdl g p cad P w K mg) (O : Orc) (hd : ∀ d ∈ O.ds, d.natAbs < 2 ^ 64) (hl : O.ds.length ≤ 10000) : ∀ L : Nat, TblOk ⟨K, O, cad⟩ g ((p.at O.ds).tab L) P w K mg base (L + 2) := by
  have tkF : ∀ L : Nat, ∃ fa fd, FnG P w K mg base (L + 2) fa fd takePs (spT ⟨K, O, cad⟩ (omF O.ds)) ∧ mg "_law_take" = some (.ref fa) ∧ PySem.W.keepIn K (.ref fa) = true ∧ Binds K fd takePs [] := fun L => by
    obtain ⟨tm, fm, fdm, F1, m1, c1⟩ := M.more
    obtain ⟨t, fa, fd, F2, m2, c2⟩ := M.take
    have c2' := c2
    unfold takeT at c2'
    simp only [Bool.and_eq_true, decide_eq_true_eq] at c2'
    refine ⟨fa, fd, (take_fn (B := ⟨K, O, cad⟩) rfl M.blt hd hl F1 m1 c1 F2 c2).up (by omega), m2, F2.kp, binds_def F2 (by rw [← c2'.2.1]; exact c2'.2.2.2.1) (by decide)⟩
  intro L
  induction L with
  | zero =>
    refine ⟨fun f x h => ?_, fun _ => tkF 0, fun j x h => ?_, M.blt, M.errs, M.ecl⟩
    · obtain ⟨t, d, fa, fd, h1, h2, h3, h4⟩ := M.fns f x h
      have c := h2
      unfold chkD at c
      simp only [Bool.and_eq_true, decide_eq_true_eq] at c
      exact ⟨fa, fd, t.ps, FnG.never (fun _ _ => rfl) rfl, h4, h3.kp, binds_def h3 c.2.1 c.2.2.1, fun l n q => q.elim⟩
    · obtain ⟨v, u, h1, h2, h3⟩ := M.cons j x h
      exact ⟨v, u, h1, h2, fun F => h3 O F⟩
  | succ L ih =>
    refine ⟨fun f x h => ?_, fun _ => tkF (L + 1), fun j x h => ?_, M.blt, M.errs, M.ecl⟩
    · obtain ⟨t, d, fa, fd, h1, h2, h3, h4⟩ := M.fns f x h
      have c := h2
      unfold chkD at c
      simp only [Bool.and_eq_true, decide_eq_true_eq] at c
      have e : ∀ l n, ((p.at O.ds).tab (L + 1)).fn f l n = runD ((p.at O.ds).tab L) d l n := fun l n => by
        show (p.at O.ds).fn (L + 1) f l n = _
        rw [Prg.fn]
        have : (p.at O.ds).defs[f]? = some d := h1
        rw [this]; rfl
      refine ⟨fa, fd, t.ps, fnG_def rfl ih h3 h2 e, h4, h3.kp, binds_def h3 c.2.1 c.2.2.1, fun l n q => ?_⟩
      rw [e] at q
      unfold runD at q
      split at q
      · rename_i z; rw [z]; exact c.2.2.2.2.1
      · exact q.elim
    · obtain ⟨v, u, h1, h2, h3⟩ := M.cons j x h
      exact ⟨v, u, h1, h2, fun F => h3 O F⟩
/-! ### _law_draws as a function -/
def drT (t : DefT) (p : Nat → Pos) : Bool := decide (t.N = drN) && (decide (t.ps = drPs) && (C8.scC t.N t.ps t.scope && (plainPar t.params t.ps && (lineOk p && (drN.all (fun x => isLoc t.scope x) && (["abs", "int", "range"] : List Str).all fun x => isGl t.scope x)))))
theorem dr_fn (hb : ∀ x ∈ bltNames, mg x = none) {t : DefT} {q : Nat → Pos} {fa : Addr} {fd : FuncData} (F : FunD K "_law_draws" "_law_draws" t.params t.body t.scope [] [] fa fd) (hc : drT t q = true) (hbd : t.body = drB q) : FnG P w K mg base 1 fa fd drPs (spDr K) := by
  obtain ⟨oc, od, dV, kV, doc, pm, an, cdv, ct, osl, rfl, lk, hcd, hD, _⟩ := F.ex
  unfold drT at hc
  simp only [Bool.and_eq_true, decide_eq_true_eq, List.all_eq_true] at hc
  obtain ⟨h1, h2, h3, h4, h5, h6, h7⟩ := hc
  rw [h1, h2] at h3
  have S := C8.fnScope_by h3
  refine fnG_of lk hcd S (fun vs H Q E h => ?_) fun A out s H vs Q E room gd prom => ?_
  · obtain ⟨a, ns, rfl, _⟩ := h; rfl
  rw [hbd]
  refine ⟨_, drB_ps ⟨rfl, rfl, passes_of rfl, S.kind, fun _ => rfl, fun x hx => h6 x hx, fun x hx => ⟨h7 x hx, hb x ?_⟩⟩ h5, rdB_ok prom⟩
  simp only [List.mem_cons, List.not_mem_nil, or_false] at hx
  rcases hx with rfl | rfl | rfl <;> decide
end
end Py

set_option Elab.async false
set_option linter.all false
set_option maxRecDepth 100000
set_option maxHeartbeats 4000000
/-! C28: the law's def. -/
namespace Py
open PySem PySem.Spec L2
theorem PSs.some {X : Cx} {sts : List Stmt} {ι : Type} {t : ι → TS} (h : ∀ i, PSs X sts (t i)) : PSs X sts (fun D σ H => ∃ i, t i D σ H) := ⟨fun pins s σ H D I ⟨i, q⟩ => (h i).run pins s σ H D I q⟩
/-- the law's text: draws, their place, the rest -/
def chkL (g : Sg) (t : DefT) (b : S) : Bool := C8.scC t.N t.ps t.scope && (plainPar t.params t.ps && (decide (t.ps = lawPs) && (decide (t.N[0]? = some ("script" : Str)) && (decide (t.N[1]? = some ("draws" : Str)) && (decide (t.N[2]? = some ("at" : Str)) && (match t.body with
  | .Assign [.Name d _] (.Call (.Name f _) [.Name s _] [] _) _ :: .Assign [.Name a _] (.List [.Constant (.int z) _ _] _) _ :: rest => decide (d = "draws") && (decide (f = "_law_draws") && (decide (s = "script") && (decide (a = "at") && (decide (z = 0) && (isLoc t.scope d && (isLoc t.scope a && (isVis t.scope s && (isGl t.scope f && chkSs g t.N t.scope b rest))))))))
  | _ => false))))))
/-- what the rest of the law begins with -/
def lawEnv (n : Nat) : Env := [.no, .val .drw, .val .att] ++ List.replicate (n - 3) .no
theorem law_slot (n i : Nat) : slot (lawEnv n) (i + 3) = .no := by
  unfold slot lawEnv
  rw [List.getD_eq_getElem?_getD, List.getElem?_append_right (by simp), List.getElem?_replicate]
  split <;> rfl
theorem law_len {n : Nat} (h : n ≥ 3) : (lawEnv n).length = n := by
  unfold lawEnv
  simp
  omega
def spLaw (K : PySem.W.Frag) : Sp := fun vs H Q _ => (∃ (a : Addr) (ns : List Int), vs = [.ref a] ∧ SqL K H a (ns.map V.int)) ∧ ∀ H', Q (.bl true) H'
section
variable {g : Sg} {p : Prg} {cad : Str → Addr} {P : Program} {w : World} {K : PySem.W.Frag} {mg : Str → Option Value} {base : Heap}
theorem law_fn (M : Mdl g p cad P w K mg) {td : DefT} {q : Nat → Pos} {fad : Addr} {fdd : FuncData} (Fd : FunD K "_law_draws" "_law_draws" td.params td.body td.scope [] [] fad fdd) (hd1 : drT td q = true) (hd2 : td.body = drB q) (hd3 : mg "_law_draws" = some (.ref fad))
    {t : DefT} {b : S} {fa : Addr} {fd : FuncData} (F : FunD K "law" "law" t.params t.body t.scope [] [] fa fd) (hc : chkL g t b = true) (L : Nat)
    (holds : ∀ ds : List Int, (∀ d ∈ ds, 0 ≤ d ∧ d < 2 ^ 31) → ∃ n, ex ((p.at ds).tab L) b (lawEnv t.N.length) 0 = .ok (.ret (.bl true)) n) : FnG P w K mg base (L + 3) fa fd lawPs (spLaw K) := by
  obtain ⟨oc, od, dV, kV, doc, pm, an, cdv, ct, osl, rfl, lk, hcd, hD, _⟩ := F.ex
  unfold chkL at hc
  simp only [Bool.and_eq_true, decide_eq_true_eq] at hc
  obtain ⟨h1, h2, h3, n0, n1, n2, h4⟩ := hc
  rw [h3] at h1
  have S := C8.fnScope_by h1
  refine fnG_of lk hcd S (fun vs H Q E h => ?_) fun A out s H vs Q E room gd prom => ?_
  · obtain ⟨⟨a, ns, rfl, _⟩, _⟩ := h; rfl
  split at h4
  · rename_i d pd f pf s0 ps pc pa a pa2 z kz pz pl pa3 rest heq
    rw [heq]
    simp only [Bool.and_eq_true, decide_eq_true_eq] at h4
    obtain ⟨rfl, rfl, rfl, rfl, rfl, g1, g2, g3, g4, g5⟩ := h4
    have tk : Takes (cxOf (L2.CX P w) P w K mg base t.N "law" t.scope fa cdv A out s H E) (fun cls dd _ H => E cls dd H) := takes_of rfl rfl rfl rfl
    have hps : t.N.length ≥ 3 := by
      by_cases q : t.N.length ≥ 3
      · exact q
      · rw [List.getElem?_eq_none (by omega)] at n2; cases n2
    have dTF := (dr_fn (P := P) (w := w) (base := base) M.blt Fd hd1 hd2).up (show 1 ≤ L + 2 by omega)
    have bD : Binds K fdd drPs [] := by
      have c := hd1
      unfold drT at c
      simp only [Bool.and_eq_true, decide_eq_true_eq] at c
      exact binds_def Fd (by rw [← c.2.1]; exact c.2.2.2.1) (by decide)
    have p1 := ps_set (X := cxOf (L2.CX P w) P w K mg base t.N "law" t.scope fa cdv A out s H E) (i := 1) (pos := pa) (pos' := pd) S.nd n1 (isLoc_ok g1) (pe_callG (E := WE fun cls dd _ H => E cls dd H) (pos := pc) (p := pf) dTF room gd (isGl_ok (X := cxOf (L2.CX P w) P w K mg base t.N "law" t.scope fa cdv A out s H E) g4) hd3 Fd.kp bD (fun σ => passAt tk σ)
      (pa_cons (pe_var (pos := ps) (i := 0) n0 (isVis_ok g3) (by decide) (by decide)) pa_nil rfl) (by decide) rfl rfl) rfl (.inl rfl)
    have p2 := ps_set (X := cxOf (L2.CX P w) P w K mg base t.N "law" t.scope fa cdv A out s H E) (i := 2) (pos := pa3) (pos' := pa2) S.nd n2 (isLoc_ok g2) (pe_lst (pos := pl) (pa_cons (pe_int (i := 0) (j := kz) (pos := pz)) pa_nil rfl)) rfl (.inl rfl)
    have p3 : ∀ O : {O : Orc // (∀ d ∈ O.ds, d.natAbs < 2 ^ 64) ∧ O.ds.length ≤ 10000}, PSs (cxOf (L2.CX P w) P w K mg base t.N "law" t.scope fa cdv A out s H E) rest (tS ⟨K, O.1, cad⟩ ((p.at O.1.ds).tab L) (fun cls dd _ H => E cls dd H) b) := fun O => by
      refine (ssnd (k := L + 2) b).all _ _ _ ?_ g5
      exact { G := { hK := rfl, hu := by have := room.un; show (A.deeper _).units + 190 < _; omega, hc := rfl, gd := gd, hN := rfl, nd := S.nd, room := room, wish := fun σ => passAt tk σ, tbl := tbl_lv M O.1 O.2.1 O.2.2 L }
              kind := S.kind, loc := fun _ _ => .inl rfl, po := passes_of rfl, tk := tk, hs := rfl, hf := rfl }
    refine ⟨_, pss_cons p1 (pss_cons p2 (PSs.some p3)), ?_⟩
    obtain ⟨⟨a, ns, rfl, hs⟩, hq⟩ := prom
    refine ⟨_, rfl, a, ns, rfl, hs, fun aD ds H1 h0 hk hH1 hl hr => ?_⟩
    refine ⟨by show 1 ≤ sizeLine; decide, fun aA hA => ?_⟩
    have neq : aD ≠ aA := fun z => by rw [z, hA] at hH1; cases hH1
    have hds : ∀ d ∈ ds, d.natAbs < 2 ^ 64 := fun d hd => by have := hr d hd; omega
    refine ⟨⟨⟨aD, aA, ds⟩, hds, Nat.le_trans hl (by decide)⟩, ?_⟩
    obtain ⟨n, hn⟩ := holds ds hr
    have st : St0 K ⟨aD, aA, ds⟩ (fun x => if x = aD then some (.lst (ds.map V.int)) else none) (upd H1 aA (.lst [.int 0])) 0 := by
      refine ⟨fun x o e => ?_, if_neg (Ne.symm neq), upd_same .., if_pos rfl⟩
      by_cases hx : x = aD
      · subst hx
        rw [upd_ne neq, hH1]
        exact (if_pos rfl).symm.trans e
      · cases (if_neg hx).symm.trans e
    refine ⟨⟨_, _, 0, t.N.length⟩, _, _, lawEnv t.N.length, fun _ => 0, 0, ⟨st, ?_, Ext.refl st, fun i hi => ?_, Same.refl _, ?_, ?_, st.dr⟩, ?_⟩
    · have hlen : (((L2.start t.N [.ref a]).set 1 (some (.ref aD))).set 2 (some (.ref aA))).length = t.N.length := by
        rw [List.length_set, List.length_set]
        unfold L2.start
        simp
        omega
      refine ⟨hlen.trans (law_len hps).symm, fun i => ?_, fun i j _ hi => ?_⟩
      · match i with
        | 0 => trivial
        | 1 =>
          refine ⟨.ref aD, ?_, .drw⟩
          rw [List.getElem?_set_ne (by decide)]
          exact List.getElem?_set_self (by rw [List.length_set] at hlen; rw [List.length_set] at hlen; omega)
        | 2 =>
          refine ⟨.ref aA, ?_, .att⟩
          exact List.getElem?_set_self (by rw [List.length_set] at hlen; omega)
        | i + 3 => rw [law_slot]; trivial
      · exfalso
        match i, hi with
        | 0, hi => cases hi
        | 1, hi => cases hi
        | 2, hi => cases hi
        | i + 3, hi => rw [law_slot] at hi; cases hi
    · exfalso
      match i, hi with
      | 0, hi => cases hi
      | 1, hi => cases hi
      | 2, hi => cases hi
      | i + 3, hi => rw [law_slot] at hi; cases hi
    · show (((L2.start t.N [.ref a]).set 1 (some (.ref aD))).set 2 (some (.ref aA))).length = t.N.length
      rw [List.length_set, List.length_set]
      unfold L2.start
      simp
      omega
    · show upd H1 aA (.lst [.int 0]) aA ≠ none
      rw [upd_same]; exact nofun
    · show RS _ _ _ _ (ex ((p.at ds).tab L) b (lawEnv t.N.length) 0) _
      rw [hn]
      intro F' H' v e _ r
      cases r
      exact hq H'
  · cases h4
end
end Py

set_option Elab.async false
set_option linter.all false
set_option maxRecDepth 100000
set_option maxHeartbeats 4000000
/-! C29: what the head is asked of the errors' classes. -/
namespace Py
open PySem PySem.Spec L2
theorem clB_ok {K : PySem.W.Frag} {C : Addr} (h : clB K C = true) : ∃ nm q N bs bm sn sub ab col dd k0 k1 k2 k3 k5, K.lookup C = some (excClassObj nm q C N bs bm true sn sub ab col dd k0 k1 k2 k3 k5 "ValueError.__new__") ∧ PySem.HandSPX.refsVE bm = true := by
  unfold clB at h
  split at h
  · rename_i dd cd sl ho
    split at h
    · rename_i C' bm k0 k1 k2 k3 n k5 hm hs
      rw [Bool.and_eq_true, Bool.and_eq_true, Bool.and_eq_true, Bool.and_eq_true, beq_iff_eq, beq_iff_eq, Bool.not_eq_true'] at h
      obtain ⟨⟨rfl, rfl⟩, ⟨h1, h2⟩, h3⟩ := h
      obtain ⟨nm, bs, mro, ns, qn, hd, sn, sub, ab, col, del⟩ := cd
      dsimp only at hm h1 h2
      subst hm h1 h2
      have hsl : sl = #[k0, k1, k2, k3, some (.builtin "ValueError.__new__"), k5] := by
        obtain ⟨l⟩ := sl
        simp only at hs
        rw [hs]
      subst hsl
      exact ⟨nm, qn, ns, bs, bm, sn, sub, ab, col, dd, k0, k1, k2, k3, k5, ho, h3⟩
    · cases h
  · cases h
/-- the class in which the __init__ stands -/
theorem kit_VE {K : PySem.W.Frag} {C : Addr} (h : PySem.W.subIn K (.ref C) (.type "ValueError") = some true) : PySem.W.kitOne K (.ref C) (.type "ValueError") = some true := by
  unfold PySem.W.kitOne
  rw [if_neg (fun q => by have := beq_iff_eq.mp q; cases this)]
  unfold PySem.W.kitCls
  dsimp only
  rw [if_pos (by decide +kernel)]
  exact h
theorem errB_ok {file : Str} {K : PySem.W.Frag} {e : ErrD} {P : Program} {h : Heap} {mg : Str → Option Value} (X : K.In h) (G : h.Ns mainGlobals mg) (hs : mg "super" = none) (ht : (P.main.scope.names.lookup ("super" : Str)).isSome = false) (hf : P.main.file = file)
    (ho : iOb K e = iVal e) (hb : errB file K e = true) : mg e.x = some (.ref (He.ga K e.x)) ∧ PySem.W.keepIn K (.ref (He.ga K e.x)) = true ∧ (∃ qual D fI cc cda, PyX.ErrTxt K P mg qual e.f (He.ga K e.x) D fI cc cda) ∧ ErrH K (He.ga K e.x) e.f := by
  unfold errB at hb
  simp only [Bool.and_eq_true, Bool.or_eq_true, decide_eq_true_eq] at hb
  obtain ⟨b1, b2, b3, b4, b5, b6, b7, b8, b9, b10, b11, b12, b13, b14, b15, b16, b17, b18, b19, b20, b21, b22, b23, b24⟩ := hb
  refine ⟨PySem.W.mg_of X G b1, b2, ⟨e.qual, (homeC K e.x).1, iAd K e.x, (homeC K e.x).2.1, (homeC K e.x).2.2, { cls := clB_ok b3, sa := b4, noN := b5, iC := b6, tC := b7, fn := ?_, code := ?_, cell := ?_, hD := Option.isSome_iff_exists.mp b12, sub := b13, nsup := hs, htop := ht, any := b14, sin := b15, sve := b16, fld := b17.elim (fun q => q.elim .inl fun z => .inr (.inl z)) fun z => .inr (.inr z) }⟩,
    { xf := xfB_ok b19, no := b5, ty := b20, ha := b21, hn := b22, ht := b23, hm := b24, vl := kit_VE b16 }⟩
  · unfold iOb iVal at ho
    split at ho
    · rename_i oc od fd osl q
      rw [q] at b11
      simp only [Bool.and_eq_true, decide_eq_true_eq] at b11
      obtain ⟨c1, c2⟩ := b11
      obtain ⟨n1, n2, n3, n4, n5, n6, n7, n8, n9, n10, n11, n12, n13, n14, n15⟩ := fd
      simp only [Option.some.injEq, Prod.mk.injEq] at ho
      dsimp only at c1 c2 ho
      obtain ⟨rfl, rfl, rfl, rfl, rfl, rfl, h7, rfl, rfl, rfl⟩ := ho
      subst c1 c2
      exact ⟨oc, od, _, _, _, _, osl, e.p, q, b8, b18⟩
    · cases ho
  · split at b9
    · rename_i oc od vs osl q
      split at b9
      · rename_i fl tf q2
        exact ⟨oc, od, vs, osl, fl, tf, q, q2, by rw [hf, of_decide_eq_true b9]; exact beq_self_eq_true _⟩
      · cases b9
    · cases b9
  · split at b10
    · rename_i oc od D osl q
      rw [of_decide_eq_true b10] at q
      exact ⟨oc, od, osl, q⟩
    · cases b10
end Py

set_option Elab.async false
set_option linter.all false
set_option maxRecDepth 100000
set_option maxHeartbeats 4000000
/-! C30: the head's facts, with the errors. -/
namespace Py
open PySem PySem.Spec L2
mutual
theorem conB_ok {K : PySem.W.Frag} : ∀ (d : D) (u : Value), conB K d u = true → ∃ v, RelV v u ∧ ∀ O F, Rp K O F v d
  | .non, u, h => by cases u <;> first | exact ⟨.non, rfl, fun _ _ => .non⟩ | (simp [conB] at h)
  | .bl b, u, h => by
    cases u with
    | bool c =>
      simp only [conB, beq_iff_eq] at h
      subst h
      exact ⟨.bl b, rfl, fun _ _ => .bl b⟩
    | _ => simp [conB] at h
  | .int i, u, h => by
    cases u with
    | int j t =>
      simp only [conB, decide_eq_true_eq] at h
      subst h
      exact ⟨.int i, ⟨t, rfl⟩, fun _ _ => .int i⟩
    | _ => simp [conB] at h
  | .str x, u, h => by
    cases u with
    | str y t =>
      simp only [conB, Bool.and_eq_true, decide_eq_true_eq] at h
      obtain ⟨rfl, h⟩ := h
      exact ⟨.str x, ⟨t, rfl⟩, fun _ _ => .str x h⟩
    | _ => simp [conB] at h
  | .tup l, u, h => by
    cases u with
    | ref a =>
      simp only [conB] at h
      split at h
      · rename_i c od its n osl q
        simp only [Bool.and_eq_true, decide_eq_true_eq] at h
        obtain ⟨rfl, h1, h2⟩ := h
        obtain ⟨vs, rv, rp⟩ := conBs_ok l _ h2
        refine ⟨.ref a, rfl, fun O F => .tup (.inr ⟨_, its, n, q, rfl, rfl, Nat.le_trans h1 (by rw [← lim_eq]; decide), rv⟩) (rp O F) ?_⟩
        rw [← (rp O F).length, rv.length, Array.length_toList]
        exact Nat.le_trans h1 (by decide)
      · cases h
    | _ => simp [conB] at h
  | .lst l, u, h => by cases u <;> simp [conB] at h
  | .dic ks l, u, h => by cases u <;> simp [conB] at h
  | .drw, u, h => by cases u <;> simp [conB] at h
  | .att, u, h => by cases u <;> simp [conB] at h
theorem conBs_ok {K : PySem.W.Frag} : ∀ (l : List D) (us : List Value), conBs K l us = true → ∃ vs, Vals vs us ∧ ∀ O F, RpA K O F vs l
  | [], [], _ => ⟨[], .nil, fun _ _ => .nil⟩
  | [], _ :: _, h => by simp [conBs] at h
  | _ :: _, [], h => by simp [conBs] at h
  | d :: l, u :: us, h => by
    simp only [conBs, Bool.and_eq_true] at h
    obtain ⟨v, h1, h2⟩ := conB_ok d u h.1
    obtain ⟨vs, h3, h4⟩ := conBs_ok l us h.2
    exact ⟨v :: vs, .cons h1 h3, fun O F => .cons (h2 O F) (h4 O F)⟩
end
section
variable {z : HdP} {K : PySem.W.Frag}
theorem SaysP.d (c : SaysP z K) : He.SaysD z.fa z.fn K := congrArg (fun q : AlP => q.1) c
theorem SaysP.e (c : SaysP z K) (i : Nat) {e : ErrD} (h : z.es[i]? = some e) : errB z.file K e = true ∧ iOb K e = iVal e := by
  have c1 : ((z.es.all fun e => errB z.file K e) && ((z.rs.all fun r => relB K r) && z.cs.all fun c => conF K c)) = true := congrArg (fun q : AlP => q.2.1) c
  rw [Bool.and_eq_true, List.all_eq_true] at c1
  have c2 : z.es.map (fun e => iOb K e) = z.es.map iVal := congrArg (fun q : AlP => q.2.2) c
  have c3 : (z.es.map (fun e => iOb K e))[i]? = (z.es.map iVal)[i]? := by rw [c2]
  rw [List.getElem?_map, List.getElem?_map, h] at c3
  exact ⟨c1.1 e (List.mem_of_getElem? h), Option.some.inj c3⟩
theorem SaysP.r (c : SaysP z K) (r : RelE) (h : r ∈ z.rs) : PySem.W.exmOne K (.ref (He.ga K r.x)) (.ref (He.ga K r.c)) = some r.b ∧ PySem.W.kitOne K (.ref (He.ga K r.x)) (.ref (He.ga K r.c)) = some r.b := by
  have c1 : ((z.es.all fun e => errB z.file K e) && ((z.rs.all fun r => relB K r) && z.cs.all fun c => conF K c)) = true := congrArg (fun q : AlP => q.2.1) c
  rw [Bool.and_eq_true, Bool.and_eq_true, List.all_eq_true, List.all_eq_true] at c1
  have q := c1.2.1 r h
  unfold relB at q
  rw [Bool.and_eq_true, decide_eq_true_eq, decide_eq_true_eq] at q
  exact q
theorem SaysP.c {h : Heap} {mg : Str → Option Value} (c : SaysP z K) (X : K.In h) (G : h.Ns mainGlobals mg) (q : Str × D) (m : q ∈ z.cs) : ∃ v u, mg q.1 = some u ∧ RelV v u ∧ ∀ O F, Rp K O F v q.2 := by
  have c1 : ((z.es.all fun e => errB z.file K e) && ((z.rs.all fun r => relB K r) && z.cs.all fun c => conF K c)) = true := congrArg (fun q : AlP => q.2.1) c
  rw [Bool.and_eq_true, Bool.and_eq_true, List.all_eq_true, List.all_eq_true, List.all_eq_true] at c1
  have k := c1.2.2 q m
  unfold conF at k
  split at k
  · rename_i u hu
    obtain ⟨v, h1, h2⟩ := conB_ok _ _ k
    exact ⟨v, u, PySem.W.mg_of X G hu, h1, h2⟩
  · cases k
end
end Py

set_option Elab.async false
set_option linter.all false
set_option maxRecDepth 100000
set_option maxHeartbeats 4000000
/-! C31: a law's data; what is left is the plain law. -/
namespace Py
open PySem PySem.Spec L2
def LawD.sg (z : LawD) : Sg := ⟨z.fns.map (·.1), z.cs.map (·.1), z.ecls, true⟩
def LawD.prg (z : LawD) : Prg := ⟨z.fns.map (·.2.2), fun _ => 0, z.sub, z.ctor, z.cs⟩
/-- the looks that need no run -/
structure LawD.Ok (z : LawD) : Prop where
  fns : ∀ f ∈ z.fns, chkD z.sg f.2.1 f.2.2 = true
  m : chkD sg0 z.tm moreD = true
  t : takeT z.tt = true
  d : drT z.td z.q = true
  db : z.td.body = drB z.q
  l : chkL z.sg z.tl z.bl = true
section
variable {z : LawD} {K : PySem.W.Frag} {h : Heap} {mg : Str → Option Value} {P : Program} {w : World}
theorem hd_glo (c : SaysP z.hd K) (X : K.In h) (G : h.Ns mainGlobals mg) {x : Str} (m : x ∈ z.names) : mg x = some (.ref (He.ga K x)) := by
  obtain ⟨i, hi⟩ := List.getElem?_of_mem (show He.Fa.glo x ∈ z.hd.fa from List.mem_append_left _ (List.mem_map_of_mem m))
  exact He.glo_ok X G (He.SaysD.fact c.d i hi)
theorem hd_free (c : SaysP z.hd K) (X : K.In h) (G : h.Ns mainGlobals mg) {x : Str} (m : x ∈ freeN) : mg x = none := by
  obtain ⟨i, hi⟩ := List.getElem?_of_mem (show He.Fa.free x ∈ z.hd.fa from List.mem_append_right _ (List.mem_map_of_mem m))
  exact He.free_ok X G (He.SaysD.fact c.d i hi)
theorem hd_def (c : SaysP z.hd K) {x : Str} {t : DefT} (m : ddef x t ∈ z.hd.fn) : ∃ fd, FunD K x x t.params t.body t.scope [] [] (He.ga K x) fd := by
  obtain ⟨i, hi⟩ := List.getElem?_of_mem m
  exact He.SaysD.def_ c.d i hi
theorem find_some {l : List ErrD} {x : Str} {e : ErrD} (h : l.find? (fun e => e.x == x) = some e) : e ∈ l ∧ e.x = x := ⟨List.mem_of_find?_eq_some h, by have := List.find?_some h; exact eq_of_beq this⟩
/-- the module behind its top -/
theorem mdl_of (ok : z.Ok) (c : SaysP z.hd K) (X : K.In h) (G : h.Ns mainGlobals mg) (ht : (P.main.scope.names.lookup ("super" : Str)).isSome = false) (hf : P.main.file = z.file) : Mdl z.sg z.prg (He.ga K) P w K mg where
  fns := fun f x hx => by
    have hx : (z.fns.map (·.1))[f]? = some x := hx
    rw [List.getElem?_map] at hx
    obtain ⟨⟨x', t, d⟩, e1, rfl⟩ := Option.map_eq_some_iff.mp hx
    have m := List.mem_of_getElem? e1
    obtain ⟨fd, F⟩ := hd_def c (x := x') (t := t) (List.mem_append_right _ (List.mem_map.mpr ⟨_, m, rfl⟩))
    refine ⟨t, d, _, fd, ?_, ok.fns _ m, F, hd_glo c X G (List.mem_append_right _ (List.mem_append_right _ (List.mem_map.mpr ⟨_, m, rfl⟩)))⟩
    show (z.fns.map (·.2.2))[f]? = some d
    rw [List.getElem?_map, e1]; rfl
  more := by
    obtain ⟨fd, F⟩ := hd_def c (x := "_law_more") (t := z.tm) (by simp [LawD.hd])
    exact ⟨z.tm, _, fd, F, hd_glo c X G (by simp [LawD.names, ownN]), ok.m⟩
  take := by
    obtain ⟨fd, F⟩ := hd_def c (x := "_law_take") (t := z.tt) (by simp [LawD.hd])
    exact ⟨z.tt, _, fd, F, hd_glo c X G (by simp [LawD.names, ownN]), ok.t⟩
  cons := fun j x hx => by
    have hx : (z.cs.map (·.1))[j]? = some x := hx
    rw [List.getElem?_map] at hx
    obtain ⟨q, e1, rfl⟩ := Option.map_eq_some_iff.mp hx
    obtain ⟨v, u, h1, h2, h3⟩ := c.c X G q (List.mem_of_getElem? e1)
    refine ⟨v, u, h1, h2, fun O F => ?_⟩
    have e : z.prg.con j = q.2 := by
      show (z.cs.getD j ("", .non)).2 = q.2
      rw [List.getD_eq_getElem?_getD, e1]; rfl
    rw [e]
    exact h3 O F
  blt := fun x hx => hd_free c X G (List.mem_cons_of_mem _ hx)
  errs := fun x fs hx => by
    obtain ⟨e, e1, rfl⟩ := Option.map_eq_some_iff.mp (show (z.es.find? fun e => e.x == x).map (fun e => [e.f]) = some fs from hx)
    obtain ⟨m, rfl⟩ := find_some e1
    obtain ⟨i, hi⟩ := List.getElem?_of_mem m
    obtain ⟨b1, b2⟩ := c.e i hi
    obtain ⟨k1, k2, k3, k4⟩ := errB_ok X G (hd_free c X G List.mem_cons_self) ht hf b2 b1
    exact ⟨e.f, rfl, k1, k2, k3, k4⟩
  ecl := fun k hk => by
    refine ⟨hd_glo c X G (List.mem_append_right _ (List.mem_append_left _ hk)), fun x fs hx => ?_⟩
    obtain ⟨e, e1, -⟩ := Option.map_eq_some_iff.mp (show (z.es.find? fun e => e.x == x).map (fun e => [e.f]) = some fs from hx)
    obtain ⟨m, rfl⟩ := find_some e1
    exact c.r ⟨e.x, k, z.sub e.x k⟩ (List.mem_flatMap.mpr ⟨e, m, List.mem_map.mpr ⟨k, hk, rfl⟩⟩)
theorem binds_any {x qual : Str} {params : Arguments} {body : List Stmt} {scope : Scope} {f : Addr} {fd : FuncData} {ps : List Str} (F : FunD K x qual params body scope [] [] f fd) (h : plainPar params ps = true) (nd : ps.Nodup) (s : Shared) (us : List Value) (hl : us.length = ps.length) : BindsTo s fd ⟨us, []⟩ (ps.zip us) := by
  obtain ⟨oc, od, dV, kV, doc, pm, an, cdv, ct, osl, rfl, lk, hcd, hD, _⟩ := F.ex
  have hdv : dV = .none := by
    rcases hD with ⟨_, h⟩ | ⟨h, _⟩
    · exact h
    · exact absurd rfl h
  unfold plainPar at h
  simp only [Bool.and_eq_true, decide_eq_true_eq, List.isEmpty_iff] at h
  obtain ⟨h1, h2, h3, h4, h5⟩ := h
  exact BindsTo.of_eq (bind_plain h1 h2 (isNone_eq h3) h4 (isNone_eq h5) hdv nd us hl)
/-- the law's promise -/
theorem law_of (ok : z.Ok) (c : SaysP z.hd K) (X : K.In h) (G : h.Ns mainGlobals mg) (ht : (P.main.scope.names.lookup ("super" : Str)).isSome = false) (hf : P.main.file = z.file) (L : Nat)
    (holds : ∀ ds : List Int, (∀ d ∈ ds, 0 ≤ d ∧ d < 2 ^ 31) → ∃ n, ex ((z.prg.at ds).tab L) z.bl (lawEnv z.tl.N.length) 0 = .ok (.ret (.bl true)) n) :
    mg "law" = some (.ref (He.ga K "law")) ∧ ∃ fd, (∀ (s : Shared) (u : Value), BindsTo s fd ⟨[u], []⟩ [("script", u)]) ∧ ∀ base : Heap, FnG P w K mg base (L + 3) (He.ga K "law") fd lawPs (spLaw K) := by
  obtain ⟨fd, F⟩ := hd_def c (x := "law") (t := z.tl) (by simp [LawD.hd])
  obtain ⟨fdd, Fd⟩ := hd_def c (x := "_law_draws") (t := z.td) (by simp [LawD.hd])
  have kl := ok.l
  unfold chkL at kl
  simp only [Bool.and_eq_true, decide_eq_true_eq] at kl
  have b := binds_any F kl.2.1 (by rw [kl.2.2.1]; decide)
  refine ⟨hd_glo c X G (by simp [LawD.names, ownN]), fd, fun s u => ?_, fun base => law_fn (mdl_of ok c X G ht hf) Fd ok.d ok.db (hd_glo c X G (by simp [LawD.names, ownN])) F ok.l L holds⟩
  have q := b s [u] (by rw [kl.2.2.1]; rfl)
  rw [kl.2.2.1] at q
  exact q
end
end Py

set_option Elab.async false
set_option linter.all false
set_option maxRecDepth 100000
/-! C1d: rules for simp: one step of the reckoning. -/
namespace Py
open PySem
theorem run_ret' {T : Tab} {d : Def} {l : List D} {n m : Nat} {v : D} (h1 : l.length = d.params) (h : ex T d.body (l.map .val ++ List.replicate (d.size - l.length) .no) n = .ok (.ret v) m) : runD T d l n = .ok v m := by
  unfold runD
  rw [if_pos h1, h]
theorem run_exc' {T : Tab} {d : Def} {l : List D} {n m : Nat} {x : Exn} (h1 : l.length = d.params) (h : ex T d.body (l.map .val ++ List.replicate (d.size - l.length) .no) n = .exc x m) : runD T d l n = .exc x m := by
  unfold runD
  rw [if_pos h1, h]
@[simp] theorem slot_0 (a : Slot) (l : Env) : slot (a :: l) 0 = a := rfl
@[simp] theorem slot_s (a : Slot) (l : Env) (i : Nat) : slot (a :: l) (i + 1) = slot l i := rfl
@[simp] theorem bi_add (i j : Int) : binV .Add (.int i) (.int j) = some (.int (i + j)) := rfl
@[simp] theorem bi_sub (i j : Int) : binV .Sub (.int i) (.int j) = some (.int (i - j)) := rfl
@[simp] theorem bi_mul (i j : Int) : binV .Mult (.int i) (.int j) = if mulOk i j = true then some (.int (i * j)) else none := rfl
@[simp] theorem bl_add (a b : List D) : binV .Add (.lst a) (.lst b) = (cat a b).map .lst := rfl
@[simp] theorem bt_add (a b : List D) : binV .Add (.tup a) (.tup b) = (cat a b).map .tup := rfl
@[simp] theorem c_eq (x y : D) : cmpV .Eq x y = eqV x y := by cases x <;> cases y <;> rfl
@[simp] theorem c_ne (x y : D) : cmpV .NotEq x y = (eqV x y).map (!·) := by cases x <;> cases y <;> rfl
@[simp] theorem c_lt (i j : Int) : cmpV .Lt (.int i) (.int j) = some (decide (i < j)) := rfl
@[simp] theorem c_le (i j : Int) : cmpV .LtE (.int i) (.int j) = some (decide (i ≤ j)) := rfl
@[simp] theorem c_gt (i j : Int) : cmpV .Gt (.int i) (.int j) = some (decide (j < i)) := rfl
@[simp] theorem c_ge (i j : Int) : cmpV .GtE (.int i) (.int j) = some (decide (j ≤ i)) := rfl
@[simp] theorem c_in_tup (x : D) (l : List D) : cmpV .In x (.tup l) = inV x l := by cases x <;> rfl
@[simp] theorem e_int (i j : Int) : eqV (.int i) (.int j) = some (i == j) := by simp [eqV, D.pl, D.dep, D.eq]
@[simp] theorem e_str (x y : Str) : eqV (.str x) (.str y) = some (x == y) := by simp [eqV, D.pl, D.dep, D.eq]
@[simp] theorem t_bl (b : Bool) : (D.bl b).tru = some b := rfl
@[simp] theorem t_int (i : Int) : (D.int i).tru = some (i != 0) := rfl
@[simp] theorem t_tup (l : List D) : (D.tup l).tru = some (!l.isEmpty) := rfl
@[simp] theorem t_lst (l : List D) : (D.lst l).tru = some (!l.isEmpty) := rfl
@[simp] theorem f_abs (i : Int) : bltV .abs [.int i] = some (.int (if i < 0 then -i else i)) := rfl
@[simp] theorem f_int (i : Int) : bltV .int [.int i] = some (.int i) := rfl
@[simp] theorem f_lent (l : List D) : bltV .len [.tup l] = some (.int l.length) := rfl
@[simp] theorem f_lenl (l : List D) : bltV .len [.lst l] = some (.int l.length) := rfl
@[simp] theorem f_tupl (l : List D) : bltV .tuple [.lst l] = some (.tup l) := rfl
@[simp] theorem h_int_int (i : Int) : Ty.int.has (.int i) = some true := rfl
@[simp] theorem h_int_bl (i : Bool) : Ty.int.has (.bl i) = some true := rfl
@[simp] theorem h_int_str (i : Str) : Ty.int.has (.str i) = some false := rfl
@[simp] theorem h_int_tup (i : List D) : Ty.int.has (.tup i) = some false := rfl
@[simp] theorem h_int_non : Ty.int.has .non = some false := rfl
@[simp] theorem h_int_lst (i : List D) : Ty.int.has (.lst i) = some false := rfl
@[simp] theorem h_bl_int (i : Int) : Ty.bool.has (.int i) = some false := rfl
@[simp] theorem h_bl_bl (i : Bool) : Ty.bool.has (.bl i) = some true := rfl
@[simp] theorem h_tup_tup (i : List D) : Ty.tup.has (.tup i) = some true := rfl
@[simp] theorem h_tup_int (i : Int) : Ty.tup.has (.int i) = some false := rfl
@[simp] theorem h_tup_bl (i : Bool) : Ty.tup.has (.bl i) = some false := rfl
@[simp] theorem h_tup_str (i : Str) : Ty.tup.has (.str i) = some false := rfl
@[simp] theorem h_tup_non : Ty.tup.has .non = some false := rfl
@[simp] theorem h_tup_lst (i : List D) : Ty.tup.has (.lst i) = some false := rfl
@[simp] theorem h_str_str (i : Str) : Ty.str.has (.str i) = some true := rfl
@[simp] theorem h_str_int (i : Int) : Ty.str.has (.int i) = some false := rfl
@[simp] theorem h_str_non : Ty.str.has .non = some false := rfl
@[simp] theorem h_str_tup (i : List D) : Ty.str.has (.tup i) = some false := rfl
@[simp] theorem h_str_lst (i : List D) : Ty.str.has (.lst i) = some false := rfl
@[simp] theorem i_tup (l : List D) (i : Int) : idxV (.tup l) (.int i) = L2.atI l i := rfl
@[simp] theorem i_lst (l : List D) (i : Int) : idxV (.lst l) (.int i) = L2.atI l i := rfl
@[simp] theorem at_0 {α : Type} (a : α) (l : List α) : L2.atI (a :: l) 0 = some a := by
  unfold L2.atI L2.ixN
  rw [if_pos (by decide), if_pos (by simp only [List.length_cons]; omega)]; rfl
@[simp] theorem at_1 {α : Type} (a b : α) (l : List α) : L2.atI (a :: b :: l) 1 = some b := by
  unfold L2.atI L2.ixN
  rw [if_pos (by decide), if_pos (by simp only [List.length_cons]; omega)]; rfl
end Py

set_option Elab.async false
set_option linter.all false
set_option maxRecDepth 100000
/-! C1e: more rules to reckon with. -/
namespace Py
open PySem
section
variable {T : Tab} {env env' : Env} {n m : Nat} {u v : S} {r : Res Flow}
theorem seq_nx (h1 : ex T u env n = .ok (.nx env') m) (h2 : ex T v env' m = r) : ex T (.seq u v) env n = r := by rw [ex_seq h1, h2]
theorem ite_t {c : E} (h : tv T c env n = .ok true m) (h2 : ex T u env m = r) : ex T (.ite c u v) env n = r := by rw [ex_ite h, if_pos rfl, h2]
theorem ite_f {c : E} (h : tv T c env n = .ok false m) (h2 : ex T v env m = r) : ex T (.ite c u v) env n = r := by rw [ex_ite h]; exact h2
theorem seq_rt {d : D} (h1 : ex T u env n = .ok (.ret d) m) : ex T (.seq u v) env n = .ok (.ret d) m := ex_seqR h1
theorem seq_ex {x : Exn} (h1 : ex T u env n = .exc x m) : ex T (.seq u v) env n = .exc x m := by rw [ex, h1]; rfl
theorem ex_skip : ex T .skip env n = .ok (.nx env) n := rfl
end
/-- each item gives one value -/
theorem mapR_ex {f : D → Nat → Res (Option D)} {P : D → Prop} {c N : Nat} : ∀ (xs : List D) (n : Nat), (∀ x ∈ xs, ∀ n, n ≤ N → ∃ y, f x n = .ok (some y) (n + c) ∧ P y) → n + c * xs.length ≤ N → ∃ l, mapR f xs n = .ok l (n + c * xs.length) ∧ l.length = xs.length ∧ ∀ y ∈ l, P y
  | [], n, _, _ => ⟨[], rfl, rfl, by simp⟩
  | x :: xs, n, h, hn => by
    have hl : c * (x :: xs).length = c + c * xs.length := by rw [List.length_cons, Nat.mul_succ, Nat.add_comm]
    rw [hl] at hn
    obtain ⟨y, hy, py⟩ := h x List.mem_cons_self n (by omega)
    obtain ⟨l, hl2, ll, pl⟩ := mapR_ex xs (n + c) (fun x hx => h x (List.mem_cons_of_mem _ hx)) (by omega)
    refine ⟨y :: l, ?_, by rw [List.length_cons, ll, List.length_cons], ?_⟩
    · rw [mapR, hy, Res.bind_ok, hl2, Res.bind_ok, hl, Nat.add_assoc]
    · intro z hz
      rcases List.mem_cons.mp hz with rfl | hz
      · exact py
      · exact pl _ hz
/-- each item gives the value told -/
theorem mapR_map {f : D → Nat → Res (Option D)} {g : D → D} : ∀ (xs : List D) (n : Nat), (∀ x ∈ xs, f x n = .ok (some (g x)) n) → mapR f xs n = .ok (xs.map g) n
  | [], n, _ => rfl
  | x :: xs, n, h => by
    rw [mapR, h x List.mem_cons_self, Res.bind_ok, mapR_map xs n (fun x hx => h x (List.mem_cons_of_mem _ hx)), Res.bind_ok]
    rfl
theorem atI_mem {α : Type} {l : List α} {i : Int} (h0 : 0 ≤ i) (h1 : i < l.length) : ∃ x ∈ l, L2.atI l i = some x := by
  have e : i.toNat < l.length := by omega
  refine ⟨l[i.toNat], List.getElem_mem e, ?_⟩
  unfold L2.atI L2.ixN
  rw [if_pos h0, if_pos h1]
  exact List.getElem?_eq_getElem e
theorem tk {T : Tab} {n i j : Nat} {env : Env} {m : E} {v : Int} (h1 : slot env i = .val .drw) (h2 : slot env j = .val .att) (h3 : ev T m env n = .ok (.int v) n) (hv : 0 < v) (hn : n < 2 ^ 40) : ∃ x : Int, 0 ≤ x ∧ x < v ∧ ev T (.take i j m) env n = .ok (.int x) (n + 1) := by
  refine ⟨T.om n % v, Int.emod_nonneg _ (by omega), Int.emod_lt_of_pos _ hv, ?_⟩
  rw [ev, h1, h2]
  dsimp only
  rw [h3, Res.bind_ok]
  dsimp only
  rw [if_pos ⟨hv, hn⟩]

/-! ### what may be told -/
mutual
def D.sok : D → Bool
  | .int i => decide (i.natAbs < 2 ^ 1920)
  | .str x => x.cps.toList.all fun c => decide (c < 16 ^ 8)
  | .tup l => D.soks l
  | .lst l => D.soks l
  | .non => true
  | .bl _ => true
  | _ => false
def D.soks : List D → Bool
  | [] => true
  | d :: r => D.sok d && D.soks r
end
mutual
def D.sw : D → Nat
  | .int _ => 1921
  | .str x => 10 * x.length + 2
  | .tup l => D.sws l + 3
  | .lst l => D.sws l + 3
  | _ => 5
def D.sws : List D → Nat
  | [] => 0
  | d :: r => D.sw d + D.sws r + 2
end
theorem log2_of_lt {n k : Nat} (hk : 0 < k) (h : n < 2 ^ k) : n.log2 < k := by
  by_cases q : n = 0
  · subst q; rw [show Nat.log2 0 = 0 from by decide]; exact hk
  · exact (Nat.log2_lt q).mpr h
mutual
theorem D.sok_pl : ∀ d : D, d.sok = true → d.pl = true ∧ d.py.showable = true ∧ d.py.shown.length ≤ d.sw
  | .non, _ => ⟨rfl, rfl, by decide⟩
  | .bl b, _ => ⟨rfl, rfl, by cases b <;> decide⟩
  | .int i, h => by
    have h : i.natAbs < 2 ^ 1920 := of_decide_eq_true (by simpa only [D.sok] using h)
    have l := log2_of_lt (by decide) h
    refine ⟨rfl, by simp only [D.py, PyData.showable]; exact decide_eq_true l, ?_⟩
    simp only [D.py, PyData.shown, D.sw]
    rw [ofString_length]
    exact int_text_length_le (by decide) l
  | .str x, h => by
    have hx : ∀ c ∈ x.cps.toList, c < 16 ^ 8 := by simpa only [D.sok, List.all_eq_true, decide_eq_true_eq] using h
    exact ⟨rfl, rfl, StrLaws.reprText_len x hx⟩
  | .tup l, h => by
    obtain ⟨a, b, c, d⟩ := D.soks_pl l (by simpa only [D.sok] using h)
    refine ⟨a, b, ?_⟩
    have e := tupleText_len_le (PyData.shownAll (D.pys l))
    show (tupleText (PyData.shownAll (D.pys l))).length ≤ D.sws l + 3
    omega
  | .lst l, h => by
    obtain ⟨a, b, c, d⟩ := D.soks_pl l (by simpa only [D.sok] using h)
    refine ⟨a, b, ?_⟩
    have e := listText_len_le (PyData.shownAll (D.pys l))
    show (listText (PyData.shownAll (D.pys l))).length ≤ D.sws l + 3
    omega
  | .dic _ _, h => by simp [D.sok] at h
  | .drw, h => by simp [D.sok] at h
  | .att, h => by simp [D.sok] at h
theorem D.soks_pl : ∀ l : List D, D.soks l = true → D.pls l = true ∧ PyData.showableAll (D.pys l) = true ∧ ((PyData.shownAll (D.pys l)).map (·.length)).sum + 2 * (PyData.shownAll (D.pys l)).length ≤ D.sws l ∧ True
  | [], _ => ⟨rfl, rfl, by decide, trivial⟩
  | d :: r, h => by
    have h : d.sok = true ∧ D.soks r = true := by simpa only [D.soks, Bool.and_eq_true] using h
    obtain ⟨a1, a2, a3⟩ := D.sok_pl d h.1
    obtain ⟨b1, b2, b3, _⟩ := D.soks_pl r h.2
    refine ⟨by rw [D.pls, a1, b1]; rfl, by rw [D.pys, PyData.showableAll, a2, b2]; rfl, ?_, trivial⟩
    simp only [D.pys, PyData.shownAll, List.map_cons, List.sum_cons, List.length_cons, D.sws]
    omega
end
theorem shOk_of {d : D} (h : d.sok = true) (h2 : d.dep ≤ 180) (h3 : d.sw ≤ LIM) : shOk d = true := by
  obtain ⟨a, b, c⟩ := D.sok_pl d h
  unfold shOk
  rw [a, b, decide_eq_true h2, decide_eq_true (Nat.le_trans c h3)]
  rfl
section
variable {T : Tab} {env env' : Env} {n m k : Nat} {a b c e : E} {x y r : D}
/-- repr(a) != repr(b) of the same value -/
theorem ev_reqN (ha : ev T a env n = .ok x m) (hb : ev T b env m = .ok x k) (h : shOk x = true) : ev T (.req true a b) env n = .ok (.bl false) k := by
  rw [ev, ha, Res.bind_ok, if_pos h, hb, Res.bind_ok, if_pos h, beq_self_eq_true]
  rfl
theorem tri_ok {u : S} {hs : List (Str × Nat × HE)} {f : Flow} (h : ex T u env n = .ok f m) : ex T (.tri u hs) env n = .ok f m := by rw [ex, h]
theorem tri_exc {u : S} {hs : List (Str × Nat × HE)} {x : Exn} {d : D} (h : ex T u env n = .exc x m) (h2 : (decide (T.ctor x.cls = some (x.fs.map (·.1))) && hs.all (fun h => decide (h.2.1 < env.length))) = true) (h3 : hnd T.sub x hs = some (some d)) : ex T (.tri u hs) env n = .ok (.ret d) m := by
  rw [ex, h]
  dsimp only
  rw [if_pos h2, h3]
theorem ex_retE {x : Exn} (h : ev T e env n = .exc x m) : ex T (.ret e) env n = .exc x m := by rw [ex, h]; rfl
theorem ev_callE {f : Nat} {x : Exn} (h : evs T a env n = .exc x m) : ev T (.call f a) env n = .exc x m := by rw [ev, h]; rfl
theorem evs_consE {x : Exn} (h : ev T a env n = .exc x m) : evs T (.cons a b) env n = .exc x m := by rw [evs, h]; rfl
theorem ev_ite {q : Bool} {r : Res D} (h : tv T c env n = .ok q m) (h2 : (if q then ev T a env m else ev T b env m) = r) : ev T (.ite c a b) env n = r := by rw [ev, h, Res.bind_ok]; exact h2
theorem tv_and {q : Bool} {r : Res Bool} (h : tv T a env n = .ok q m) (h2 : (if q then tv T b env m else .ok false m) = r) : tv T (.and a b) env n = r := by rw [tv, h, Res.bind_ok]; exact h2
theorem tv_or {q : Bool} {r : Res Bool} (h : tv T a env n = .ok q m) (h2 : (if q then .ok true m else tv T b env m) = r) : tv T (.or a b) env n = r := by rw [tv, h, Res.bind_ok]; exact h2
theorem tv_not {q : Bool} (h : tv T a env n = .ok q m) : tv T (.not a) env n = .ok (!q) m := by rw [tv, h]; rfl
/-- a comprehension whose items draw nothing -/
theorem ev_comp_map {tg : Tg} {it elt : E} {xs : List D} {g : D → D} (h : evi T it env n = .ok xs m) (h2 : ∀ x ∈ xs, ∃ env', tg.bind x env = some env' ∧ ev T elt env' m = .ok (g x) m) : ev T (.comp elt tg it .nil) env n = .ok (.lst (xs.map g)) m := by
  rw [ev, h, Res.bind_ok, mapR_map (g := g) xs m]
  · rfl
  · intro x hx
    obtain ⟨env', e1, e2⟩ := h2 x hx
    rw [e1]
    dsimp only
    rw [tv, Res.bind_ok, if_pos rfl, e2]
    rfl
/-- a comprehension whose items draw -/
theorem ev_comp_ex {tg : Tg} {it elt : E} {xs : List D} {P : D → Prop} {c N : Nat} (h : evi T it env n = .ok xs m) (h2 : ∀ x ∈ xs, ∃ env', tg.bind x env = some env' ∧ ∀ n, n ≤ N → ∃ y, ev T elt env' n = .ok y (n + c) ∧ P y) (hm : m + c * xs.length ≤ N) : ∃ l, ev T (.comp elt tg it .nil) env n = .ok (.lst l) (m + c * xs.length) ∧ l.length = xs.length ∧ ∀ y ∈ l, P y := by
  obtain ⟨l, e, hl, hp⟩ := mapR_ex (f := fun x n => match tg.bind x env with
    | some env' => (tv T .nil env' n).bind fun c n => if c then (ev T elt env' n).bind fun y n => .ok (some y) n else .ok none n
    | none => .bad) (P := P) (c := c) (N := N) xs m (fun x hx n hn => by
      obtain ⟨env', e1, e2⟩ := h2 x hx
      obtain ⟨y, e3, e4⟩ := e2 n hn
      refine ⟨y, ?_, e4⟩
      rw [e1]
      dsimp only
      rw [tv, Res.bind_ok, if_pos rfl, e3]
      rfl) hm
  refine ⟨l, ?_, hl, hp⟩
  rw [ev, h, Res.bind_ok]
  exact congrArg (fun r : Res (List D) => r.quiet.bind fun l n => Res.ok (D.lst l) n) e
end
end Py

set_option Elab.async false
set_option linter.all false
set_option maxRecDepth 100000
/-! C1f: what holds of an answer; loops by what holds between. -/
namespace Py
open PySem
/-- the answer is told, and Q holds of it -/
def Res.P {α : Type} (r : Res α) (Q : α → Nat → Prop) : Prop := match r with
  | .ok a n => Q a n
  | _ => False
section
variable {α β : Type} {r : Res α} {Q Q' : α → Nat → Prop}
theorem P_ok {a : α} {n : Nat} : (Res.ok a n).P Q ↔ Q a n := Iff.rfl
theorem P_bind {f : α → Nat → Res β} {R : β → Nat → Prop} : (r.bind f).P R ↔ r.P fun a n => (f a n).P R := by cases r <;> exact Iff.rfl
theorem Res.P.imp (h : r.P Q) (k : ∀ a n, Q a n → Q' a n) : r.P Q' := by
  cases r with
  | ok a n => exact k a n h
  | exc e n => exact h
  | bad => exact h
theorem Res.P.out (h : r.P Q) : ∃ a n, r = .ok a n ∧ Q a n := by
  cases r with
  | ok a n => exact ⟨a, n, rfl, h⟩
  | exc e n => exact h.elim
  | bad => exact h.elim
theorem P_of_eq {a : α} {n : Nat} (e : r = .ok a n) (h : Q a n) : r.P Q := by rw [e]; exact h
end
/-- a loop by what holds between its turns -/
theorem forL_P {f : D → Env → Nat → Res Flow} {P : Nat → Env → Nat → Prop} : ∀ (xs : List D) (i : Nat) (env : Env) (n : Nat), P i env n →
    (∀ (j : Nat) (x : D) (env : Env) (n : Nat), xs[j]? = some x → P (i + j) env n → (f x env n).P fun fl n => ∃ env', fl = .nx env' ∧ P (i + j + 1) env' n) →
    ∃ env' n', forL f xs env n = .ok (.nx env') n' ∧ P (i + xs.length) env' n'
  | [], i, env, n, h, _ => ⟨env, n, rfl, h⟩
  | x :: xs, i, env, n, h, k => by
    obtain ⟨fl, m, e1, env1, rfl, p1⟩ := (k 0 x env n rfl h).out
    obtain ⟨env2, n2, e2, p2⟩ := forL_P xs (i + 1) env1 m p1 (fun j x env n hj p => by
      have := k (j + 1) x env n (by simpa using hj) (by rw [show i + (j + 1) = i + 1 + j from by omega]; exact p)
      rw [show i + (j + 1) + 1 = i + 1 + j + 1 from by omega] at this
      exact this)
    refine ⟨env2, n2, ?_, by rw [List.length_cons, show i + (xs.length + 1) = i + 1 + xs.length from by omega]; exact p2⟩
    rw [forL, e1, Res.bind_ok]
    exact e2
end Py

set_option Elab.async false
set_option linter.all false
set_option maxRecDepth 100000
/-! C1g: what holds behind expressions and statements: rules for simp. -/
namespace Py
open PySem
section
variable {α β : Type} {Q : α → Nat → Prop}
theorem P_exc {e : Exn} {n : Nat} : (Res.exc e n : Res α).P Q ↔ False := Iff.rfl
theorem P_bad : (Res.bad : Res α).P Q ↔ False := Iff.rfl
theorem P_of {o : Option α} {n : Nat} : (Res.of o n).P Q ↔ ∃ a, o = some a ∧ Q a n := by
  cases o with
  | none => exact ⟨fun h => h.elim, fun ⟨_, h, _⟩ => by cases h⟩
  | some a => exact ⟨fun h => ⟨a, rfl, h⟩, fun ⟨_, h, q⟩ => by cases h; exact q⟩
theorem P_ite {c : Prop} [Decidable c] {a b : Res α} : (if c then a else b).P Q ↔ (c → a.P Q) ∧ (¬c → b.P Q) := by
  by_cases h : c
  · rw [if_pos h]; exact ⟨fun q => ⟨fun _ => q, fun z => absurd h z⟩, fun q => q.1 h⟩
  · rw [if_neg h]; exact ⟨fun q => ⟨fun z => absurd z h, fun _ => q⟩, fun q => q.2 h⟩
theorem P_ite_bad {c : Prop} [Decidable c] {a : Res α} : (if c then a else .bad).P Q ↔ c ∧ a.P Q := by
  by_cases h : c
  · rw [if_pos h]; exact ⟨fun q => ⟨h, q⟩, fun q => q.2⟩
  · rw [if_neg h]; exact ⟨fun q => q.elim, fun q => absurd q.1 h⟩
theorem P_quiet {r : Res α} : r.quiet.P Q ↔ r.P Q := by cases r <;> exact Iff.rfl
end
section
variable {T : Tab} {env : Env} {n : Nat}
/-- one statement behind another -/
theorem P_seq {u v : S} {Q : Flow → Nat → Prop} (R : Env → Nat → Prop) (h : (ex T u env n).P fun fl n => ∃ env', fl = .nx env' ∧ R env' n) (h2 : ∀ env' n', R env' n' → (ex T v env' n').P Q) : (ex T (.seq u v) env n).P Q := by
  rw [ex, P_bind]
  refine h.imp fun fl n' q => ?_
  obtain ⟨env', rfl, q⟩ := q
  exact h2 _ _ q
theorem P_seqR {u v : S} {Q : Flow → Nat → Prop} {d : D} (h : (ex T u env n).P fun fl n => fl = .ret d ∧ Q (.ret d) n) : (ex T (.seq u v) env n).P Q := by
  rw [ex, P_bind]
  refine h.imp fun fl n' q => ?_
  obtain ⟨rfl, q⟩ := q
  exact q
/-- a body that gives back a value -/
theorem runD_P {d : Def} {l : List D} {Q : D → Nat → Prop} (h1 : l.length = d.params) (h : (ex T d.body (l.map .val ++ List.replicate (d.size - l.length) .no) n).P fun fl n => match fl with
    | .ret d => Q d n
    | .nx _ => Q .non n
    | _ => False) : (runD T d l n).P Q := by
  unfold runD
  rw [if_pos h1]
  cases e : ex T d.body (l.map .val ++ List.replicate (d.size - l.length) .no) n with
  | bad => rw [e] at h; exact h
  | exc x m => rw [e] at h; exact h
  | ok fl m =>
    rw [e] at h
    cases fl <;> first | exact h | exact h.elim
theorem fn_P {p : Prg} {k f : Nat} {d : Def} {l : List D} {Q : D → Nat → Prop} (hf : p.defs[f]? = some d) (h1 : l.length = d.params) (h : (ex (p.tab k) d.body (l.map .val ++ List.replicate (d.size - l.length) .no) n).P fun fl n => match fl with
    | .ret d => Q d n
    | .nx _ => Q .non n
    | _ => False) : (p.fn (k + 1) f l n).P Q := by
  rw [Prg.fn, hf]
  exact runD_P h1 h
/-- a loop: what holds at each turn; b: where it is left by break -/
theorem forL_inv {f : D → Env → Nat → Res Flow} {Q : Flow → Nat → Prop} (I : Nat → Env → Nat → Prop) : ∀ (xs : List D) (i : Nat) (env : Env) (n : Nat), I i env n →
    (∀ (j : Nat) (x : D) (env : Env) (n : Nat), xs[j]? = some x → I (i + j) env n → (f x env n).P fun fl n => match fl with
      | .nx e => I (i + j + 1) e n
      | .cnt e => I (i + j + 1) e n
      | .brk e => Q (.nx e) n
      | .ret d => Q (.ret d) n) →
    (∀ env n, I (i + xs.length) env n → Q (.nx env) n) → (forL f xs env n).P Q
  | [], i, env, n, h, _, k => k env n h
  | x :: xs, i, env, n, h, s, k => by
    rw [forL, P_bind]
    have go : ∀ e m, I (i + 1) e m → (forL f xs e m).P Q := fun e m hm => forL_inv I xs (i + 1) e m hm (fun j y e2 m2 hj p => by
      have := s (j + 1) y e2 m2 (by simpa using hj) (by rw [show i + (j + 1) = i + 1 + j from by omega]; exact p)
      rw [show i + (j + 1) + 1 = i + 1 + j + 1 from by omega] at this
      exact this) (fun e2 m2 q => k e2 m2 (by rw [List.length_cons, show i + (xs.length + 1) = i + 1 + xs.length from by omega]; exact q))
    refine (s 0 x env n rfl h).imp fun fl m q => ?_
    cases fl with
    | nx e => exact go e m q
    | cnt e => exact go e m q
    | brk e => exact q
    | ret d => exact q
/-- items that come one by one -/
theorem mapR_inv {f : D → Nat → Res (Option D)} {Q : List D → Nat → Prop} (I : Nat → List D → Nat → Prop) : ∀ (xs : List D) (i : Nat) (acc : List D) (n : Nat), I i acc n →
    (∀ (j : Nat) (x : D) (acc : List D) (n : Nat), xs[j]? = some x → I (i + j) acc n → (f x n).P fun o n => I (i + j + 1) (acc ++ o.toList) n) →
    (∀ l n, I (i + xs.length) l n → Q l n) → (mapR f xs n).P fun l n => Q (acc ++ l) n
  | [], i, acc, n, h, _, k => by
    show Q (acc ++ []) n
    rw [List.append_nil]
    exact k _ _ h
  | x :: xs, i, acc, n, h, s, k => by
    rw [mapR, P_bind]
    refine (s 0 x acc n rfl h).imp fun o m q => ?_
    rw [P_bind]
    refine (mapR_inv I xs (i + 1) (acc ++ o.toList) m q (fun j y e2 m2 hj p => by
      have := s (j + 1) y e2 m2 (by simpa using hj) (by rw [show i + (j + 1) = i + 1 + j from by omega]; exact p)
      rw [show i + (j + 1) + 1 = i + 1 + j + 1 from by omega] at this
      exact this) (fun e2 m2 q => k e2 m2 (by rw [List.length_cons, show i + (xs.length + 1) = i + 1 + xs.length from by omega]; exact q))).imp fun l n q => ?_
    cases o with
    | none =>
      show Q (acc ++ l) n
      simpa using q
    | some y =>
      show Q (acc ++ (y :: l)) n
      simpa using q
/-- a comprehension whose items each keep to P, and take at most c draws -/
theorem comp_P {tg : Tg} {it elt cond : E} {xs : List D} {Q : D → Nat → Prop} {P : D → Prop} {c : Nat} (h : (evi T it env n).P fun l m => (∀ x ∈ l, ∃ env', tg.bind x env = some env' ∧ ∀ n', n' ≤ m + c * l.length → (tv T cond env' n').P fun b n2 => (b = true → (ev T elt env' n2).P fun y n3 => P y ∧ n3 ≤ n' + c) ∧ (b = false → n2 ≤ n' + c)) ∧
    ∀ r n', (∀ y ∈ r, P y) → r.length ≤ l.length → n' ≤ m + c * l.length → Q (.lst r) n') : (ev T (.comp elt tg it cond) env n).P Q := by
  rw [ev, P_bind]
  refine h.imp fun l m q => ?_
  rw [P_bind, P_quiet]
  obtain ⟨q1, q2⟩ := q
  refine (mapR_inv (fun i acc n' => n' ≤ m + c * i ∧ acc.length ≤ i ∧ ∀ y ∈ acc, P y) l 0 [] m ⟨by omega, by simp, by simp⟩ (fun j x acc n' hj p => ?_) (fun r n' p => p) ).imp fun r n' p => ?_
  · obtain ⟨env', e1, e2⟩ := q1 x (List.mem_of_getElem? hj)
    have hjl : j < l.length := (List.getElem?_eq_some_iff.mp hj).1
    have hmul : c * j + c ≤ c * l.length := by
      have : c * (j + 1) ≤ c * l.length := Nat.mul_le_mul_left c hjl
      rw [Nat.mul_succ] at this; exact this
    have hmul2 : c * (0 + j + 1) = c * j + c := by rw [Nat.zero_add, Nat.mul_succ]
    simp only [Nat.zero_add] at p hmul2 ⊢
    rw [e1]
    dsimp only
    rw [P_bind]
    refine (e2 n' (by omega)).imp fun b n2 z => ?_
    cases b with
    | false =>
      have z := z.2 rfl
      simp only [Bool.false_eq_true, if_false, P_ok, Option.toList_none, List.append_nil]
      exact ⟨by omega, by omega, p.2.2⟩
    | true =>
      simp only [if_true, P_bind]
      refine (z.1 rfl).imp fun y n3 w => ?_
      simp only [P_ok, Option.toList_some]
      refine ⟨by omega, by simp; omega, fun y' hy' => ?_⟩
      rcases List.mem_append.mp hy' with hy' | hy'
      · exact p.2.2 _ hy'
      · rw [List.mem_singleton] at hy'; rw [hy']; exact w.1
  · simp only [List.nil_append, Nat.zero_add] at p
    exact q2 r n' p.2.2 p.2.1 p.1
end
section
variable {T : Tab} {env env' : Env} {n m : Nat} {tg : Tg} {it : E} {b : S} {f : D → Env → Nat → Res Flow} {x d : D} {xs : List D}
theorem ex_loop {r : Res Flow} (h : evi T it env n = .ok xs m) (h2 : forL (fun x env n => match tg.bind x env with
    | some env => ex T b env n
    | none => .bad) xs env m = r) : ex T (.loop tg it b) env n = r := by rw [ex, h, Res.bind_ok]; exact h2
theorem forL_nx {r : Res Flow} (h : f x env n = .ok (.nx env') m) (h2 : forL f xs env' m = r) : forL f (x :: xs) env n = r := by rw [forL, h, Res.bind_ok]; exact h2
theorem forL_rt (h : f x env n = .ok (.ret d) m) : forL f (x :: xs) env n = .ok (.ret d) m := by rw [forL, h, Res.bind_ok]
theorem forL_ex {e : Exn} (h : f x env n = .exc e m) : forL f (x :: xs) env n = .exc e m := by rw [forL, h]; rfl
theorem forL_nil : forL f [] env n = .ok (.nx env) n := rfl
end
end Py

set_option Elab.async false
set_option linter.all false
set_option maxRecDepth 100000
set_option maxHeartbeats 0
namespace Kx
open PySem PySem.Spec L2 Py
theorem ok : z.Ok where
  fns := by decide +kernel
  m := by decide +kernel
  t := by decide +kernel
  d := by decide +kernel
  db := by rfl
  l := by decide +kernel
end Kx

set_option Elab.async false
set_option linter.all false
set_option maxRecDepth 100000
set_option maxHeartbeats 1000000
set_option exponentiation.threshold 10000
/-! A0: the program's functions, one by one. -/
namespace Kx
open Py PySem
variable {ds : List Int}
noncomputable abbrev Q (ds : List Int) : Prg := z.prg.at ds
theorem Qfn (k : Nat) : ((Q ds).tab k).fn = (Q ds).fn k := rfl
theorem run_f {k f n : Nat} {d : Def} {l : List D} {r : Res D} (hf : (Q ds).defs[f]? = some d) (h : runD ((Q ds).tab k) d l n = r) : (Q ds).fn (k + 1) f l n = r := by
  rw [Prg.fn, hf]; exact h
theorem run_nx {T : Tab} {d : Def} {l : List D} {n m : Nat} {env' : Py.Env} (h1 : l.length = d.params) (h : ex T d.body (l.map .val ++ List.replicate (d.size - l.length) .no) n = .ok (.nx env') m) : runD T d l n = .ok .non m := by
  unfold runD
  rw [if_pos h1, h]
/-- what may be asked whether it is a number, a text, a tuple -/
def askI : D → Bool
  | .drw => false
  | .att => false
  | _ => true
def isI : D → Bool
  | .int _ => true
  | _ => false
def isT : D → Bool
  | .tup _ => true
  | _ => false
def isS : D → Bool
  | .str _ => true
  | _ => false
theorem has_tup {d : D} (h : askI d = true) : Ty.tup.has d = some (isT d) := by cases d <;> first | rfl | cases h
theorem has_str {d : D} (h : askI d = true) : Ty.str.has d = some (isS d) := by cases d <;> first | rfl | cases h
theorem ev_ite_t {T : Tab} {c a b : E} {env : Py.Env} {n m : Nat} {r : Res D} (h : tv T c env n = .ok true m) (h2 : ev T a env m = r) : ev T (.ite c a b) env n = r := ev_ite h h2
theorem ev_ite_f {T : Tab} {c a b : E} {env : Py.Env} {n m : Nat} {r : Res D} (h : tv T c env n = .ok false m) (h2 : ev T b env m = r) : ev T (.ite c a b) env n = r := ev_ite h h2
theorem or_tt {T : Tab} {a b : E} {env : Py.Env} {n m : Nat} (h : tv T a env n = .ok true m) : tv T (.or a b) env n = .ok true m := tv_or h rfl
theorem or_ff {T : Tab} {a b : E} {env : Py.Env} {n m : Nat} {r : Res Bool} (h : tv T a env n = .ok false m) (h2 : tv T b env m = r) : tv T (.or a b) env n = r := tv_or h h2
theorem and_ff {T : Tab} {a b : E} {env : Py.Env} {n m : Nat} (h : tv T a env n = .ok false m) : tv T (.and a b) env n = .ok false m := tv_and h rfl
theorem and_tt {T : Tab} {a b : E} {env : Py.Env} {n m : Nat} {r : Res Bool} (h : tv T a env n = .ok true m) (h2 : tv T b env m = r) : tv T (.and a b) env n = r := tv_and h h2
/-- one sign -/
abbrev ch (c : Nat) : Str := ⟨#[c]⟩
theorem le1 (a b : Nat) : cmpV .LtE (.str (ch a)) (.str (ch b)) = some (decide (a ≤ b)) := by
  show some (!decide ([b] < [a])) = _
  have e : ([b] < [a]) ↔ b < a := by
    rw [List.cons_lt_cons_iff]
    constructor
    · rintro (h | ⟨_, h⟩)
      · exact h
      · exact absurd h (by simp)
    · exact fun h => .inl h
  congr 1
  by_cases h : a ≤ b
  · rw [decide_eq_false (fun q => by have := e.mp q; omega), decide_eq_true h]; rfl
  · rw [decide_eq_true (e.mpr (by omega)), decide_eq_false h]; rfl
theorem eq1 (a b : Nat) : (ch a == ch b) = decide (a = b) := by
  by_cases h : a = b
  · subst h; simp
  · have : ch a ≠ ch b := fun e => h (by injection e with e; simpa using e)
    simp [h, this]
theorem in1 (c : Nat) (z : Str) : cmpV .In (.str (ch c)) (.str z) = some (decide (c ∈ z.cps.toList)) := congrArg some (StrLaws.found_one z c)
theorem nin1 (c : Nat) (z : Str) : cmpV .NotIn (.str (ch c)) (.str z) = some (!decide (c ∈ z.cps.toList)) := congrArg (fun b => some (!b)) (StrLaws.found_one z c)
theorem Str_len (x : Str) : x.cps.toList.length = x.length := by simp [Str.length]
/-- all of them, by what each is -/
theorem bools_map (l : List D) (g : D → Bool) : boolsD (l.map fun x => .bl (g x)) = some (l.map g) := by
  induction l with
  | nil => rfl
  | cons a r ih => rw [List.map_cons, boolsD, ih]; rfl
theorem all_map (l : List D) (g : D → Bool) : bltV .all [.lst (l.map fun x => .bl (g x))] = some (.bl (l.all g)) := by
  show (boolsD _).map _ = _
  rw [bools_map, Option.map_some, List.all_map]; rfl
/-- a comprehension with a test: those that pass -/
theorem mapR_filter {f : D → Nat → Res (Option D)} {g : D → Bool} : ∀ (xs : List D) (n : Nat), (∀ x ∈ xs, f x n = .ok (if g x then some x else none) n) → mapR f xs n = .ok (xs.filter g) n
  | [], n, _ => rfl
  | x :: xs, n, h => by
    rw [mapR, h x List.mem_cons_self, Res.bind_ok, mapR_filter xs n (fun x hx => h x (List.mem_cons_of_mem _ hx)), Res.bind_ok, List.filter_cons]
    cases g x <;> rfl
theorem comp_filter {T : Tab} {env : Py.Env} {n m i : Nat} {it cond : E} {xs : List D} {g : D → Bool} (h : evi T it env n = .ok xs m) (hi : i < env.length) (h2 : ∀ x ∈ xs, tv T cond (env.set i (.val x)) m = .ok (g x) m) : ev T (.comp (.var i) (.nm i) it cond) env n = .ok (.lst (xs.filter g)) m := by
  rw [ev, h, Res.bind_ok, mapR_filter (g := g) xs m]
  · rfl
  · intro x hx
    show (tv T cond (env.set i (.val x)) m).bind _ = _
    rw [h2 x hx, Res.bind_ok]
    cases g x with
    | false => rfl
    | true =>
      rw [if_pos rfl, ev]
      have : slot (env.set i (.val x)) i = .val x := by rw [slot_set, if_pos ⟨rfl, hi⟩]
      rw [this]; rfl
theorem filter_nil (l : List D) (g : D → Bool) : (l.filter g).isEmpty = !l.any g := by
  induction l with
  | nil => rfl
  | cons a r ih => rw [List.filter_cons, List.any_cons]; cases g a <;> simp [ih]
theorem eqs_nil (l : List D) : D.eqs l [] = l.isEmpty := by cases l <;> rfl
/-- is it []? -/
theorem eq_nil {l : List D} (h : D.pls l = true) : eqV (.lst l) (.lst []) = some l.isEmpty := by
  unfold eqV
  rw [if_pos (by simp [D.pl, h, D.pls, D.dep, D.deps])]
  rw [D.eq, eqs_nil]
theorem pls_filter {l : List D} {g : D → Bool} (h : D.pls l = true) : D.pls (l.filter g) = true := by
  induction l with
  | nil => rfl
  | cons a r ih =>
    rw [D.pls, Bool.and_eq_true] at h
    rw [List.filter_cons]
    cases g a
    · exact ih h.2
    · show (D.pl a && D.pls _) = true
      rw [h.1, ih h.2]; rfl
theorem pls_of {l : List D} (h : ∀ d ∈ l, d.pl = true) : D.pls l = true := by
  induction l with
  | nil => rfl
  | cons a r ih =>
    rw [D.pls, h a List.mem_cons_self, ih fun d hd => h d (List.mem_cons_of_mem _ hd)]; rfl
/-- all([elt for x in a]) -/
theorem ev_all {T : Tab} {env : Py.Env} {n i : Nat} {a elt : E} {d : D} {xs : List D} {g : D → Bool} (h : ev T a env n = .ok d n) (hi : itV d = some xs) (h2 : ∀ x ∈ xs, ev T elt (env.set i (.val x)) n = .ok (.bl (g x)) n) : ev T (.blt .all (.cons (.comp elt (.nm i) (.seq a) .nil) E.nil)) env n = .ok (.bl (xs.all g)) n :=
  ev_blt1 (ev_comp_map (g := fun x => .bl (g x)) (xs := xs) (m := n) (by rw [evi, h, Res.bind_ok, hi]; rfl) (fun x hx => ⟨_, rfl, h2 x hx⟩)) (all_map xs g)
/-- [x for x in a if c] != [] -/
theorem tv_some {T : Tab} {env : Py.Env} {n i : Nat} {a c : E} {d : D} {xs : List D} {g : D → Bool} (h : ev T a env n = .ok d n) (hi : itV d = some xs) (hl : i < env.length) (hp : D.pls xs = true) (h2 : ∀ x ∈ xs, tv T c (env.set i (.val x)) n = .ok (g x) n) : tv T (.tru (.cmp .NotEq (.comp (.var i) (.nm i) (.seq a) c) (.lst E.nil))) env n = .ok (xs.any g) n := by
  have e := comp_filter (g := g) (xs := xs) (m := n) (it := .seq a) (i := i) (by rw [evi, h, Res.bind_ok, hi]; rfl) hl h2
  refine tv_tru (ev_cmp e rfl (q := xs.any g) ?_) rfl
  rw [c_ne, eq_nil (pls_filter hp), Option.map_some, filter_nil, Bool.not_not]
theorem ev_none {T : Tab} {env : Py.Env} {n i : Nat} {a c : E} {d : D} {xs : List D} {g : D → Bool} (h : ev T a env n = .ok d n) (hi : itV d = some xs) (hl : i < env.length) (hp : D.pls xs = true) (h2 : ∀ x ∈ xs, tv T c (env.set i (.val x)) n = .ok (g x) n) : ev T (.cmp .Eq (.comp (.var i) (.nm i) (.seq a) c) (.lst E.nil)) env n = .ok (.bl (!xs.any g)) n := by
  have e := comp_filter (g := g) (xs := xs) (m := n) (it := .seq a) (i := i) (by rw [evi, h, Res.bind_ok, hi]; rfl) hl h2
  refine ev_cmp e rfl (q := !xs.any g) ?_
  rw [c_eq, eq_nil (pls_filter hp), filter_nil]
/-! data that may be looked at everywhere -/
mutual
def okD : D → Bool
  | .str x => decide (x.length ≤ 1000)
  | .tup l => decide (l.length ≤ 1000) && okDs l
  | .lst l => decide (l.length ≤ 1000) && okDs l
  | .dic _ _ => false
  | .drw => false
  | .att => false
  | _ => true
def okDs : List D → Bool
  | [] => true
  | d :: r => okD d && okDs r
end
theorem okDs_iff {l : List D} : okDs l = true ↔ ∀ d ∈ l, okD d = true := by
  induction l with
  | nil => simp [okDs]
  | cons a r ih => simp [okDs, ih]
theorem okDs_app {l m : List D} : okDs (l ++ m) = true ↔ okDs l = true ∧ okDs m = true := by
  simp only [okDs_iff, List.mem_append]
  exact ⟨fun h => ⟨fun d q => h d (.inl q), fun d q => h d (.inr q)⟩, fun h d q => q.elim (h.1 d) (h.2 d)⟩
mutual
theorem okD_pl : ∀ d : D, okD d = true → d.pl = true
  | .str x, _ => rfl
  | .tup l, h => by rw [okD, Bool.and_eq_true] at h; exact okDs_pl l h.2
  | .lst l, h => by rw [okD, Bool.and_eq_true] at h; exact okDs_pl l h.2
  | .dic _ _, h => by rw [okD] at h; cases h
  | .drw, h => by rw [okD] at h; cases h
  | .att, h => by rw [okD] at h; cases h
  | .non, _ => rfl
  | .bl _, _ => rfl
  | .int _, _ => rfl
theorem okDs_pl : ∀ l : List D, okDs l = true → D.pls l = true
  | [], _ => rfl
  | d :: r, h => by
    rw [okDs, Bool.and_eq_true] at h
    rw [D.pls, okD_pl d h.1, okDs_pl r h.2]; rfl
end
theorem okD_ask {d : D} (h : okD d = true) : askI d = true := by cases d <;> first | rfl | (rw [okD] at h; cases h)
theorem okD_tup {l : List D} (h : okD (.tup l) = true) : okDs l = true := by rw [okD, Bool.and_eq_true] at h; exact h.2
theorem okD_tupL {l : List D} (h : okD (.tup l) = true) : l.length ≤ 1000 := by rw [okD, Bool.and_eq_true, decide_eq_true_eq] at h; exact h.1
theorem okD_lst {l : List D} (h : okD (.lst l) = true) : okDs l = true := by rw [okD, Bool.and_eq_true] at h; exact h.2
theorem okD_str {x : Str} (h : okD (.str x) = true) : x.length ≤ 1000 := by rw [okD, decide_eq_true_eq] at h; exact h
theorem okD_mem {l : List D} (h : okDs l = true) {d : D} (m : d ∈ l) : okD d = true := okDs_iff.mp h d m
end Kx

set_option Elab.async false
set_option linter.all false
set_option maxRecDepth 100000
set_option maxHeartbeats 1000000
set_option exponentiation.threshold 10000
/-! A1: numbers, letters, names. -/
namespace Kx
open Py PySem
variable {ds : List Int}
theorem q_is_integer {k n : Nat} {x : D} (h : askI x = true) : (Q ds).fn (k + 1) i_is_integer [x] n = .ok (.bl (isI x)) n := by
  refine run_f (d := d_is_integer) rfl (run_ret' rfl ?_)
  show ex ((Q ds).tab k) d_is_integer.body [.val x] n = _
  unfold d_is_integer
  refine ex_seqR (ex_ret ?_)
  cases x <;> first | rfl | exact absurd h (by decide)
def inR (x : D) (lo hi : Int) : Bool := match x with
    | .int i => decide (lo ≤ i) && decide (i ≤ hi)
    | _ => false
theorem q_in_range {k n : Nat} {x : D} (h : askI x = true) (lo hi : Int) : (Q ds).fn (k + 2) i_in_range [x, .int lo, .int hi] n = .ok (.bl (inR x lo hi)) n := by
  refine run_f (d := d_in_range) rfl (run_ret' rfl ?_)
  show ex ((Q ds).tab (k + 1)) d_in_range.body [.val x, .val (.int lo), .val (.int hi)] n = _
  unfold d_in_range
  refine ex_seqR (ex_ret ?_)
  have e0 : ev ((Q ds).tab (k + 1)) (.call i_is_integer (.cons (.var 0) E.nil)) [.val x, .val (.int lo), .val (.int hi)] n = .ok (.bl (isI x)) n := ev_call (l := [x]) rfl (q_is_integer h)
  rw [ev, e0, Res.bind_ok]
  cases x with
  | int i =>
    by_cases q : lo ≤ i
    · simp [isI, inR, ev, q]
    · simp [isI, inR, ev, q]
  | _ => first | rfl | exact absurd h (by decide)
def isLet (c : Nat) : Bool := (decide (97 ≤ c) && decide (c ≤ 122)) || (decide (65 ≤ c) && decide (c ≤ 90))
def isSgn (c : Nat) : Bool := isLet c || ((decide (48 ≤ c) && decide (c ≤ 57)) || decide (c = 95))
theorem ch_a : ("a" : Str) = ch 97 := by decide
theorem ch_z : ("z" : Str) = ch 122 := by decide
theorem ch_A : ("A" : Str) = ch 65 := by decide
theorem ch_Z : ("Z" : Str) = ch 90 := by decide
theorem ch_0 : ("0" : Str) = ch 48 := by decide
theorem ch_9 : ("9" : Str) = ch 57 := by decide
theorem ch__ : ("_" : Str) = ch 95 := by decide
theorem q_is_letter {k n : Nat} (c : Nat) : (Q ds).fn (k + 1) i_is_letter [.str (ch c)] n = .ok (.bl (isLet c)) n := by
  refine run_f (d := d_is_letter) rfl (run_ret' rfl ?_)
  show ex ((Q ds).tab k) d_is_letter.body [.val (.str (ch c))] n = _
  unfold d_is_letter isLet
  refine ex_seqR (ex_ret ?_)
  simp only [ev, slot_0, Res.bind_ok, ch_a, ch_z, ch_A, ch_Z, le1, Res.of_some, Option.map_some]
  by_cases h1 : 97 ≤ c <;> by_cases h2 : c ≤ 122 <;> by_cases h3 : 65 ≤ c <;> by_cases h4 : c ≤ 90 <;> simp [h1, h2, h3, h4]
/-- a name's text -/
def nameS (x : Str) : Bool := (decide (1 ≤ x.length) && decide (x.length ≤ 12)) && (isLet (x.cps.toList.headD 0) && x.cps.toList.all isSgn)
theorem head1 {x : Str} (h : 1 ≤ x.length) (h2 : x.length ≤ LIM) : idxV (.str x) (.int 0) = some (.str (ch (x.cps.toList.headD 0))) := by
  show (if x.length ≤ LIM then (L2.atI x.cps.toList 0).map fun c => D.str ⟨#[c]⟩ else none) = _
  rw [if_pos h2]
  rw [← Str_len] at h
  cases e : x.cps.toList with
  | nil => rw [e] at h; simp at h
  | cons a r => rw [at_0]; rfl
theorem itV_str {x : Str} (h2 : x.length ≤ LIM) : itV (.str x) = some (x.cps.toList.map fun c => .str (ch c)) := by
  show (if x.length ≤ LIM then _ else none) = _
  rw [if_pos h2]
theorem q_is_name {k n : Nat} {x : Str} (hl : x.length ≤ LIM) : (Q ds).fn (k + 2) i_is_name [.str x] n = .ok (.bl (nameS x)) n := by
  refine run_f (d := d_is_name) rfl (run_ret' rfl ?_)
  show ex ((Q ds).tab (k + 1)) d_is_name.body [.val (.str x), .no] n = _
  unfold d_is_name
  have c0 : ((Q ds).tab (k + 1)).con c_MAX_NAME = .int 12 := rfl
  have el : bltV .len [.str x] = some (.int x.length) := by show (if x.length ≤ LIM then _ else none) = _; rw [if_pos hl]
  have e1 : tv ((Q ds).tab (k + 1)) (.or (.not (.tru (.isi (.var 0) [.str]))) (.not (.tru (.cmp2 .LtE .LtE (.cst (.int 1)) (.blt .len (.cons (.var 0) E.nil)) (.glb c_MAX_NAME))))) [.val (.str x), .no] n = .ok (!(decide (1 ≤ x.length) && decide (x.length ≤ 12))) n := by
    by_cases h1 : 1 ≤ x.length
    · have h1' : (1 : Int) ≤ x.length := by omega
      by_cases h2 : x.length ≤ 12
      · have h2' : (x.length : Int) ≤ 12 := by omega
        simp [tv, ev, evs, el, c0, h1, h1', h2, h2']
      · have h2' : ¬ (x.length : Int) ≤ 12 := by omega
        simp [tv, ev, evs, el, c0, h1, h1', h2, h2']
    · have : x.length = 0 := by omega
      simp [tv, ev, evs, el, c0, this]
  by_cases h12 : (decide (1 ≤ x.length) && decide (x.length ≤ 12)) = true
  · rw [h12] at e1
    have h1 : 1 ≤ x.length := by simp at h12; exact h12.1
    refine seq_nx (ite_f e1 ex_skip) ?_
    have e2 : tv ((Q ds).tab (k + 1)) (.not (.tru (.call i_is_letter (.cons (.idx (.var 0) (.cst (.int 0))) E.nil)))) [.val (.str x), .no] n = .ok (!(isLet (x.cps.toList.headD 0))) n :=
      tv_not (tv_tru (ev_call (l := [.str (ch (x.cps.toList.headD 0))]) (evs_cons (ev_idx rfl rfl (head1 h1 hl)) rfl) (q_is_letter _)) rfl)
    by_cases h3 : isLet (x.cps.toList.headD 0) = true
    · rw [h3] at e2
      refine seq_nx (ite_f e2 ex_skip) (seq_rt (ex_ret ?_))
      have e3 := ev_comp_map (T := (Q ds).tab (k + 1)) (env := [.val (.str x), .no]) (n := n) (m := n) (tg := .nm 1) (it := .seq (.var 0)) (elt := (.orv (.call i_is_letter (.cons (.var 1) E.nil)) (.orv (.cmp2 .LtE .LtE (.cst (.str "0")) (.var 1) (.cst (.str "9"))) (.cmp .Eq (.var 1) (.cst (.str "_"))))))
        (xs := x.cps.toList.map fun c => .str (ch c)) (g := fun d => match d with
          | .str y => .bl (isSgn (y.cps.toList.headD 0))
          | _ => .non) (by simp [evi, ev, itV_str hl]) (fun d hd => by
          obtain ⟨c, _, rfl⟩ := List.mem_map.mp hd
          refine ⟨_, rfl, ?_⟩
          have el : ev ((Q ds).tab (k + 1)) (.call i_is_letter (.cons (.var 1) E.nil)) [.val (.str x), .val (.str (ch c))] n = .ok (.bl (isLet c)) n := ev_call (l := [.str (ch c)]) rfl (q_is_letter c)
          show ev _ _ [.val (.str x), .val (.str (ch c))] n = .ok (.bl (isSgn c)) n
          rw [ev, el, Res.bind_ok]
          unfold isSgn
          cases isLet c with
          | true => rfl
          | false =>
            simp only [ev, slot_0, slot_s, Res.bind_ok, ch_0, ch_9, ch__, le1, Res.of_some, Option.map_some, c_eq, e_str, eq1, Bool.false_or]
            by_cases q1 : 48 ≤ c <;> by_cases q2 : c ≤ 57 <;> simp [q1, q2])
      refine ev_blt1 e3 ?_
      rw [List.map_map]
      show (boolsD _).map _ = _
      have : ∀ l : List Nat, boolsD (l.map ((fun d => match d with
          | .str y => .bl (isSgn (y.cps.toList.headD 0))
          | _ => .non) ∘ fun c => D.str (ch c))) = some (l.map isSgn) := fun l => by
        induction l with
        | nil => rfl
        | cons a r ih => rw [List.map_cons, List.map_cons, Function.comp, boolsD]; dsimp only; rw [ih]; rfl
      rw [this, Option.map_some, List.all_map]
      unfold nameS
      rw [h12, h3]; rfl
    · have h3 : isLet (x.cps.toList.headD 0) = false := by simpa using h3
      rw [h3] at e2
      refine seq_rt (ite_t e2 (seq_rt (ex_ret ?_)))
      unfold nameS
      rw [h3, Bool.false_and, Bool.and_false]; rfl
  · have h12 : (decide (1 ≤ x.length) && decide (x.length ≤ 12)) = false := by simpa using h12
    rw [h12] at e1
    refine seq_rt (ite_t e1 (seq_rt (ex_ret ?_)))
    unfold nameS
    rw [h12, Bool.false_and]; rfl
end Kx

set_option Elab.async false
set_option linter.all false
set_option maxRecDepth 100000
set_option maxHeartbeats 1000000
set_option exponentiation.threshold 10000
/-! A2: the form of a frame. -/
namespace Kx
open Py PySem
variable {ds : List Int}
def row4 : D → Bool
  | .tup l => decide (l.length = 4)
  | _ => false
def rowsOk : D → Bool
  | .tup l => l.all row4
  | _ => false
def formOk : D → Bool
  | .tup [a, b] => rowsOk a && rowsOk b
  | _ => false
theorem len4 (l : List D) : ((l.length : Int) == 4) = decide (l.length = 4) := by
  by_cases h : l.length = 4
  · simp [h]
  · have : ¬ (l.length : Int) = 4 := by omega
    simp [h, this]
theorem len2 (l : List D) : ((l.length : Int) == 2) = decide (l.length = 2) := by
  by_cases h : l.length = 2
  · simp [h]
  · have : ¬ (l.length : Int) = 2 := by omega
    simp [h, this]
theorem isT_two {a b : D} (h : (isT a && isT b) = true) : ∃ l m, a = .tup l ∧ b = .tup m := by
  cases a <;> cases b <;> first | exact ⟨_, _, rfl, rfl⟩ | cases h
theorem q_has_form {k n : Nat} {v : D} (h : okD v = true) : (Q ds).fn (k + 1) i_has_form [v] n = .ok (.bl (formOk v)) n := by
  refine run_f (d := d_has_form) rfl (run_ret' rfl ?_)
  show ex ((Q ds).tab k) d_has_form.body [.val v, .no, .no] n = _
  unfold d_has_form
  cases v with
  | tup l =>
    have ok := okD_tup h
    by_cases hl : l.length = 2
    · obtain ⟨a, b, rfl⟩ : ∃ a b, l = [a, b] := by
        match l, hl with
        | [a, b], _ => exact ⟨_, _, rfl⟩
      have oka := okD_mem ok (d := a) (by simp)
      have okb := okD_mem ok (d := b) (by simp)
      have e0 : ev ((Q ds).tab k) (.blt .all (.cons (.comp (.isi (.var 1) [.tup]) (.nm 1) (.seq (.var 0)) .nil) E.nil)) [.val (.tup [a, b]), .no, .no] n = .ok (.bl ([a, b].all isT)) n :=
        ev_all (d := .tup [a, b]) rfl rfl fun x hx => by
          have := has_tup (okD_ask (okD_mem ok hx))
          show (Res.of ((Ty.tup.has x).map D.bl) n) = _
          rw [this]; rfl
      have e1 : tv ((Q ds).tab k) (.or (.not (.tru (.isi (.var 0) [.tup]))) (.or (.tru (.cmp .NotEq (.blt .len (.cons (.var 0) E.nil)) (.cst (.int 2)))) (.not (.tru (.blt .all (.cons (.comp (.isi (.var 1) [.tup]) (.nm 1) (.seq (.var 0)) .nil) E.nil)))))) [.val (.tup [a, b]), .no, .no] n = .ok (!(isT a && isT b)) n := by
        refine tv_or (q := false) (m := n) rfl (tv_or (q := false) (m := n) rfl (tv_not (tv_tru e0 ?_)))
        simp
      by_cases hab : (isT a && isT b) = true
      · rw [hab] at e1
        obtain ⟨l1, l2, rfl, rfl⟩ := isT_two hab
        refine seq_nx (ite_f e1 ex_skip) ?_
        have c : ∀ (l : List D) (s : Slot), okDs l = true → tv ((Q ds).tab k) (.not (.tru (.blt .all (.cons (.comp (.andv (.isi (.var 2) [.tup]) (.cmp .Eq (.blt .len (.cons (.var 2) E.nil)) (.cst (.int 4)))) (.nm 2) (.seq (.var 1)) .nil) E.nil)))) [.val (.tup [.tup l1, .tup l2]), .val (.tup l), s] n = .ok (!(l.all row4)) n := fun l s ho => by
          refine tv_not (tv_tru (x := .bl (l.all row4)) (ev_all (d := .tup l) rfl rfl fun x hx => ?_) rfl)
          have ax := okD_ask (okD_mem ho hx)
          cases x <;> first | rfl | (cases ax; done) | skip
          rename_i r
          show ev _ _ [.val (.tup [.tup l1, .tup l2]), .val (.tup l), .val (.tup r)] n = _
          simp only [ev, evs, slot_0, slot_s, h_tup_tup, Option.map_some, Res.of_some, Res.bind_ok, f_lent, c_eq, e_int, len4, row4]
        have o1 := okD_tup oka
        have o2 := okD_tup okb
        by_cases h1 : l1.all row4 = true
        · by_cases h2 : l2.all row4 = true
          · refine seq_nx (env' := [.val (.tup [.tup l1, .tup l2]), .val (.tup l2), .no]) (m := n) (ex_loop (xs := [.tup l1, .tup l2]) rfl (forL_nx (seq_nx (ite_f (m := n) ?_ ex_skip) ex_skip) (forL_nx (seq_nx (ite_f (m := n) ?_ ex_skip) ex_skip) forL_nil))) (seq_rt (ex_ret ?_))
            · exact (c l1 .no o1).trans (by rw [h1]; rfl)
            · exact (c l2 .no o2).trans (by rw [h2]; rfl)
            · show _ = Res.ok (D.bl (l1.all row4 && l2.all row4)) n
              rw [h1, h2]; rfl
          · have h2 : l2.all row4 = false := by simpa using h2
            have : formOk (.tup [.tup l1, .tup l2]) = false := by
              show (l1.all row4 && l2.all row4) = false
              rw [h2, Bool.and_false]
            rw [this]
            refine seq_rt (ex_loop (xs := [.tup l1, .tup l2]) rfl (forL_nx (seq_nx (ite_f (m := n) ?_ ex_skip) ex_skip) (forL_rt (seq_rt (ite_t (m := n) ?_ (seq_rt (ex_ret rfl)))))))
            · exact (c l1 .no o1).trans (by rw [h1]; rfl)
            · exact (c l2 .no o2).trans (by rw [h2]; rfl)
        · have h1 : l1.all row4 = false := by simpa using h1
          have : formOk (.tup [.tup l1, .tup l2]) = false := by
            show (l1.all row4 && l2.all row4) = false
            rw [h1, Bool.false_and]
          rw [this]
          refine seq_rt (ex_loop (xs := [.tup l1, .tup l2]) rfl (forL_rt (seq_rt (ite_t (m := n) ?_ (seq_rt (ex_ret rfl))))))
          exact (c l1 .no o1).trans (by rw [h1]; rfl)
      · have hab : (isT a && isT b) = false := by simpa using hab
        rw [hab] at e1
        refine seq_rt (ite_t e1 (seq_rt (ex_ret ?_)))
        show _ = Res.ok (D.bl (rowsOk a && rowsOk b)) n
        have : (rowsOk a && rowsOk b) = false := by
          cases a <;> cases b <;> first | (cases hab; done) | rfl | (simp [rowsOk])
        rw [this]; rfl
    · have fo : formOk (.tup l) = false := by
        match l, hl with
        | [], _ => rfl
        | [_], _ => rfl
        | [_, _], h => exact absurd rfl h
        | _ :: _ :: _ :: _, _ => rfl
      rw [fo]
      refine seq_rt (ite_t (m := n) (tv_or (q := false) (m := n) rfl (tv_or (q := true) (m := n) ?_ rfl)) (seq_rt (ex_ret rfl)))
      refine tv_tru (ev_cmp (ev_blt1 rfl (f_lent l)) rfl (q := true) ?_) rfl
      rw [c_ne, e_int, len2]
      simp [hl]
  | _ => first | rfl | (rw [okD] at h; cases h)
end Kx

set_option Elab.async false
set_option linter.all false
set_option maxRecDepth 100000
set_option maxHeartbeats 1000000
set_option exponentiation.threshold 10000
/-! A3: the check of a frame. -/
namespace Kx
open Py PySem
variable {ds : List Int}
def eC (x : Str) : Exn := ⟨"CheckError", [("reason", .str x)]⟩
/-- nothing, or an error -/
def optE (o : Option Str) (n : Nat) : Res D := match o with
  | none => .ok .non n
  | some x => .exc (eC x) n
theorem optE_flat (o : Option Str) (n : Nat) : (optE o n).flat = optE o n := by cases o <;> rfl
def nameD : D → Bool
  | .str s => nameS s
  | _ => false
def anyS (l : List Str) : D → Bool
  | .str s => l.any fun y => y == s
  | _ => false
abbrev holdW : List Str := ["free", "fixed", "along", "up"]
abbrev sorts : List Str := ["bar", "rope", "strut"]
def keyR : D → L2.Key
  | .tup (.str s :: _) => .inr s
  | _ => .inl 0
def plR : D → D
  | .tup [_, x, y, _] => .tup [x, y]
  | _ => .non
/-- what is wrong with a joint -/
def jErr (ks : List L2.Key) : D → Option Str
  | .tup [a, x, y, h] => if nameD a && !hasK ks (keyR (.tup [a, x, y, h])) then (if inR x (-1000) 1000 && inR y (-1000) 1000 then (if anyS holdW h then none else some "hold") else some "place") else some "joint"
  | _ => none
def inK (ks : List L2.Key) : D → Bool
  | .str s => hasK ks (.inr s)
  | _ => false
def lk (ks : List L2.Key) (vs : List D) : D → D
  | .str s => (dlook ks vs (.inr s)).getD .non
  | _ => .non
/-- what is wrong with a bar -/
def bErr (ns ks : List L2.Key) (vs : List D) : D → Option Str
  | .tup [a, f, s, t] => if nameD a && !hasK ns (keyR (.tup [a, f, s, t])) then (if inK ks f && inK ks s then (if D.eq (lk ks vs f) (lk ks vs s) then some "ends" else (if anyS sorts t then none else some "sort")) else some "ends") else some "bar"
  | _ => none
theorem inV_strs (s : Str) (l : List Str) : inV (.str s) (l.map .str) = some (l.any fun y => y == s) := by
  have p : ∀ l : List Str, D.pls (l.map .str) = true := fun l => by induction l with | nil => rfl | cons a r ih => exact ih
  have d : ∀ l : List Str, D.deps (l.map .str) = 0 := fun l => by induction l with | nil => rfl | cons a r ih => simp [D.deps, D.dep, ih]
  unfold inV
  rw [if_pos (by rw [p, d]; rfl), List.any_map]
  rfl
theorem q_holds {k : Nat} : ((Q ds).tab k).con c_HOLDS = .tup (holdW.map .str) := rfl
theorem q_sorts {k : Nat} : ((Q ds).tab k).con c_SORTS = .tup (sorts.map .str) := rfl
theorem q_place {k : Nat} : ((Q ds).tab k).con c_MAX_PLACE = .int 1000 := rfl
theorem c_in_dic (s : Str) (ks : List L2.Key) (vs : List D) : cmpV .In (.str s) (.dic ks vs) = some (hasK ks (.inr s)) := rfl
theorem c_nin_dic (s : Str) (ks : List L2.Key) (vs : List D) : cmpV .NotIn (.str s) (.dic ks vs) = some (!hasK ks (.inr s)) := rfl
theorem c_nin_tup (x : D) (l : List D) : cmpV .NotIn x (.tup l) = (inV x l).map (!·) := by cases x <;> rfl
theorem c_nin_lst (x : D) (l : List D) : cmpV .NotIn x (.lst l) = (inV x l).map (!·) := by cases x <;> rfl
theorem c_in_lst (x : D) (l : List D) : cmpV .In x (.lst l) = inV x l := by cases x <;> rfl
/-- a name that is known already, or none -/
theorem tv_name {T : Tab} {env : Py.Env} {n i : Nat} {a c : D} {ks : List L2.Key} {vs : List D} {g : E} (hf : ∀ x : Str, x.length ≤ LIM → T.fn i_is_name [.str x] n = .ok (.bl (nameS x)) n) (h : slot env i = .val a) (hg : ev T g env n = .ok (.dic ks vs) n) (ok : okD a = true) :
    tv T (.or (.not (.tru (.isi (.var i) [.str]))) (.or (.not (.tru (.call i_is_name (.cons (.var i) E.nil)))) (.tru (.cmp .In (.var i) g)))) env n = .ok (!(nameD a && !inK ks a)) n := by
  have ea : ev T (.var i) env n = .ok a n := by rw [ev, h]
  have e1 : tv T (.not (.tru (.isi (.var i) [.str]))) env n = .ok (!isS a) n := tv_not (tv_tru (x := .bl (isS a)) (by rw [ev, ea, Res.bind_ok]; dsimp only; rw [has_str (okD_ask ok)]; rfl) rfl)
  cases a with
  | str s =>
    have hs := okD_str ok
    have e2 : tv T (.not (.tru (.call i_is_name (.cons (.var i) E.nil)))) env n = .ok (!nameS s) n := tv_not (tv_tru (ev_call (evs_cons ea rfl) (hf s (by simp only [LIM]; omega))) rfl)
    refine tv_or (q := false) e1 (tv_or e2 ?_)
    cases hn : nameS s with
    | false =>
      simp [nameD, hn]
    | true =>
      simp only [Bool.not_true, Bool.false_eq_true, if_false]
      refine (tv_tru (x := .bl (hasK ks (.inr s))) (ev_cmp ea hg (c_in_dic s ks vs)) rfl).trans ?_
      simp [nameD, hn, inK]
  | _ => first | exact tv_or (q := true) e1 rfl | (rw [okD] at ok; cases ok)
theorem tv_place {k n i : Nat} {env : Py.Env} {x : D} (h : slot env i = .val x) (ok : okD x = true) : tv ((Q ds).tab (k + 2)) (.not (.tru (.call i_in_range (.cons (.var i) (.cons (.neg (.glb c_MAX_PLACE)) (.cons (.glb c_MAX_PLACE) E.nil)))))) env n = .ok (!inR x (-1000) 1000) n := by
  refine tv_not (tv_tru (ev_call (l := [x, .int (-1000), .int 1000]) (evs_cons (m := n) (by rw [ev, h]) rfl) (q_in_range (okD_ask ok) _ _)) rfl)
theorem keyR_str (s : Str) (r : List D) : keyR (.tup (.str s :: r)) = .inr s := rfl
theorem inK_key {ks : List L2.Key} {a x y h : D} (hn : nameD a = true) : inK ks a = hasK ks (keyR (.tup [a, x, y, h])) := by
  cases a <;> first | rfl | cases hn
theorem jErr_eq {ks : List L2.Key} {a x y h : D} : jErr ks (.tup [a, x, y, h]) = (if nameD a && !inK ks a then (if inR x (-1000) 1000 && inR y (-1000) 1000 then (if anyS holdW h then none else some "hold") else some "place") else some "joint" : Option Str) := by
  rw [jErr]
  cases hn : nameD a with
  | false => rfl
  | true => rw [inK_key (x := x) (y := y) (h := h) hn]
theorem bErr_eq {ns ks : List L2.Key} {vs : List D} {a f s t : D} : bErr ns ks vs (.tup [a, f, s, t]) = (if nameD a && !inK ns a then (if inK ks f && inK ks s then (if D.eq (lk ks vs f) (lk ks vs s) then some "ends" else (if anyS sorts t then none else some "sort")) else some "ends") else some "bar" : Option Str) := by
  rw [bErr]
  cases hn : nameD a with
  | false => rfl
  | true => rw [inK_key (x := f) (y := s) (h := t) hn]
/-- a word of a row -/
theorem tv_word {T : Tab} {env : Py.Env} {n i : Nat} {a : D} {l : List Str} {g : E} (h : slot env i = .val a) (hg : ev T g env n = .ok (.tup (l.map .str)) n ∨ ev T g env n = .ok (.lst (l.map .str)) n) (ok : okD a = true) :
    tv T (.or (.not (.tru (.isi (.var i) [.str]))) (.tru (.cmp .NotIn (.var i) g))) env n = .ok (!anyS l a) n := by
  have ea : ev T (.var i) env n = .ok a n := by rw [ev, h]
  have e1 : tv T (.not (.tru (.isi (.var i) [.str]))) env n = .ok (!isS a) n := tv_not (tv_tru (x := .bl (isS a)) (by rw [ev, ea, Res.bind_ok]; dsimp only; rw [has_str (okD_ask ok)]; rfl) rfl)
  cases a with
  | str s =>
    refine tv_or (q := false) e1 ?_
    rcases hg with hg | hg
    · exact tv_tru (x := .bl (!anyS l (.str s))) (ev_cmp ea hg (by rw [c_nin_tup, inV_strs]; rfl)) rfl
    · exact tv_tru (x := .bl (!anyS l (.str s))) (ev_cmp ea hg (by rw [c_nin_lst, inV_strs]; rfl)) rfl
  | _ => first | exact tv_or (q := true) e1 rfl | (rw [okD] at ok; cases ok)
theorem q_check_joint {k n : Nat} {a x y h : D} {ks : List L2.Key} {vs : List D} (oa : okD a = true) (ox : okD x = true) (oy : okD y = true) (oh : okD h = true) :
    (Q ds).fn (k + 3) i_check_joint [.tup [a, x, y, h], .dic ks vs] n = optE (jErr ks (.tup [a, x, y, h])) n := by
  rw [jErr_eq]
  have e1 := tv_name (T := (Q ds).tab (k + 2)) (env := [.val (.tup [a, x, y, h]), .val (.dic ks vs), .val a, .val x, .val y, .val h]) (n := n) (i := 2) (c := .non) (ks := ks) (vs := vs) (g := .var 1) (fun z hz => q_is_name hz) rfl rfl oa
  have ex1 := tv_place (ds := ds) (k := k) (n := n) (i := 3) (env := [.val (.tup [a, x, y, h]), .val (.dic ks vs), .val a, .val x, .val y, .val h]) rfl ox
  have ey1 := tv_place (ds := ds) (k := k) (n := n) (i := 4) (env := [.val (.tup [a, x, y, h]), .val (.dic ks vs), .val a, .val x, .val y, .val h]) rfl oy
  have eh1 := tv_word (T := (Q ds).tab (k + 2)) (env := [.val (.tup [a, x, y, h]), .val (.dic ks vs), .val a, .val x, .val y, .val h]) (n := n) (i := 5) (l := holdW) (g := .glb c_HOLDS) rfl (.inl rfl) oh
  have s0 : ex ((Q ds).tab (k + 2)) (.setT (.t4 (.nm 2) (.nm 3) (.nm 4) (.nm 5)) (.var 0)) [.val (.tup [a, x, y, h]), .val (.dic ks vs), .no, .no, .no, .no] n = .ok (.nx [.val (.tup [a, x, y, h]), .val (.dic ks vs), .val a, .val x, .val y, .val h]) n := rfl
  by_cases c1 : (nameD a && !inK ks a) = true
  · rw [if_pos c1]
    rw [c1] at e1
    by_cases cx : inR x (-1000) 1000 = true
    · rw [cx] at ex1
      by_cases cy : inR y (-1000) 1000 = true
      · rw [cy] at ey1
        rw [if_pos (by rw [cx, cy]; rfl)]
        by_cases ch : anyS holdW h = true
        · rw [if_pos ch]
          rw [ch] at eh1
          have : ex ((Q ds).tab (k + 2)) d_check_joint.body [.val (.tup [a, x, y, h]), .val (.dic ks vs), .no, .no, .no, .no] n = .ok (.nx [.val (.tup [a, x, y, h]), .val (.dic ks vs), .val a, .val x, .val y, .val h]) n := by
            unfold d_check_joint
            exact seq_nx s0 (seq_nx (ite_f e1 ex_skip) (seq_nx (ite_f (tv_or (q := false) ex1 ey1) ex_skip) (seq_nx (ite_f eh1 ex_skip) ex_skip)))
          exact run_f (d := d_check_joint) rfl (run_nx rfl this)
        · rw [if_neg ch]
          have ch : anyS holdW h = false := by simpa using ch
          rw [ch] at eh1
          exact run_f (d := d_check_joint) rfl (run_exc' rfl (seq_nx s0 (seq_nx (ite_f e1 ex_skip) (seq_nx (ite_f (tv_or (q := false) ex1 ey1) ex_skip) (seq_ex (ite_t eh1 (seq_ex rfl)))))))
      · have cy : inR y (-1000) 1000 = false := by simpa using cy
        rw [cy] at ey1
        rw [if_neg (by rw [cy, Bool.and_false]; simp)]
        exact run_f (d := d_check_joint) rfl (run_exc' rfl (seq_nx s0 (seq_nx (ite_f e1 ex_skip) (seq_ex (ite_t (tv_or (q := false) ex1 ey1) (seq_ex rfl))))))
    · have cx : inR x (-1000) 1000 = false := by simpa using cx
      rw [cx] at ex1
      rw [if_neg (by rw [cx, Bool.false_and]; simp)]
      exact run_f (d := d_check_joint) rfl (run_exc' rfl (seq_nx s0 (seq_nx (ite_f e1 ex_skip) (seq_ex (ite_t (tv_or (q := true) ex1 rfl) (seq_ex rfl))))))
  · rw [if_neg c1]
    have c1 : (nameD a && !inK ks a) = false := by simpa using c1
    rw [c1] at e1
    exact run_f (d := d_check_joint) rfl (run_exc' rfl (seq_nx s0 (seq_ex (ite_t e1 (seq_ex rfl)))))
end Kx

set_option Elab.async false
set_option linter.all false
set_option maxRecDepth 100000
set_option maxHeartbeats 1000000
set_option exponentiation.threshold 10000
/-! A4: the check of a frame, all of it. -/
namespace Kx
open Py PySem
variable {ds : List Int}
/-- names and places -/
structure JI (ks : List L2.Key) (vs : List D) : Prop where
  len : ks.length = vs.length
  pl : ∀ d ∈ vs, d.pl = true ∧ d.dep ≤ 1
theorem dlook_has {k : L2.Key} : ∀ {ks : List L2.Key} {vs : List D}, ks.length = vs.length → hasK ks k = true → ∃ d ∈ vs, dlook ks vs k = some d
  | [], vs, _, h => by cases h
  | _ :: _, [], h, _ => by cases h
  | a :: ks, d :: vs, hl, h => by
    rw [dlook]
    by_cases q : a = k
    · rw [if_pos q]; exact ⟨d, List.mem_cons_self, rfl⟩
    · rw [if_neg q]
      have h2 : hasK ks k = true := by
        unfold hasK at h ⊢
        rw [List.any_cons, decide_eq_false q, Bool.false_or] at h
        exact h
      obtain ⟨e, h3, h4⟩ := dlook_has (by simpa using hl) h2
      exact ⟨e, List.mem_cons_of_mem _ h3, h4⟩
theorem lk_of {ks : List L2.Key} {vs : List D} {f : D} (j : JI ks vs) (h : inK ks f = true) : idxV (.dic ks vs) f = some (lk ks vs f) ∧ (lk ks vs f).pl = true ∧ (lk ks vs f).dep ≤ 1 := by
  cases f with
  | str s =>
    obtain ⟨d, h1, h2⟩ := dlook_has j.len h
    have e : lk ks vs (.str s) = d := by show (dlook ks vs (.inr s)).getD .non = d; rw [h2]; rfl
    rw [e]
    exact ⟨h2, j.pl d h1⟩
  | _ => cases h
theorem eqV_lk {ks : List L2.Key} {vs : List D} {f s : D} (j : JI ks vs) (h1 : inK ks f = true) (h2 : inK ks s = true) : eqV (lk ks vs f) (lk ks vs s) = some (D.eq (lk ks vs f) (lk ks vs s)) := by
  obtain ⟨-, a, b⟩ := lk_of j h1
  obtain ⟨-, c, d⟩ := lk_of j h2
  unfold eqV
  rw [if_pos]
  rw [a, c, decide_eq_true (by omega)]; rfl
/-- both ends are known -/
theorem tv_ends {T : Tab} {env : Py.Env} {n i j : Nat} {f s : D} {ks : List L2.Key} {vs : List D} {g : E} (hi : slot env i = .val f) (hj : slot env j = .val s) (hg : ev T g env n = .ok (.dic ks vs) n) (of : okD f = true) (os : okD s = true) :
    tv T (.or (.not (.tru (.isi (.var i) [.str]))) (.or (.tru (.cmp .NotIn (.var i) g)) (.or (.not (.tru (.isi (.var j) [.str]))) (.tru (.cmp .NotIn (.var j) g))))) env n = .ok (!(inK ks f && inK ks s)) n := by
  have ei : ev T (.var i) env n = .ok f n := by rw [ev, hi]
  have ej : ev T (.var j) env n = .ok s n := by rw [ev, hj]
  have is : ∀ (a : Nat) (d : D), ev T (.var a) env n = .ok d n → okD d = true → tv T (.not (.tru (.isi (.var a) [.str]))) env n = .ok (!isS d) n := fun a d e o => tv_not (tv_tru (x := .bl (isS d)) (by rw [ev, e, Res.bind_ok]; dsimp only; rw [has_str (okD_ask o)]; rfl) rfl)
  have ni : ∀ (a : Nat) (x : Str), ev T (.var a) env n = .ok (.str x) n → tv T (.tru (.cmp .NotIn (.var a) g)) env n = .ok (!inK ks (.str x)) n := fun a x e => tv_tru (x := .bl (!inK ks (.str x))) (ev_cmp e hg (c_nin_dic x ks vs)) rfl
  have second : tv T (.or (.not (.tru (.isi (.var j) [.str]))) (.tru (.cmp .NotIn (.var j) g))) env n = .ok (!inK ks s) n := by
    cases s with
    | str y => exact tv_or (q := false) (is j _ ej os) (ni j y ej)
    | _ => first | exact tv_or (q := true) (is j _ ej os) rfl | (rw [okD] at os; cases os)
  cases f with
  | str x =>
    refine tv_or (q := false) (is i _ ei of) (tv_or (ni i x ei) ?_)
    cases inK ks (.str x) with
    | true => simpa using second
    | false => rfl
  | _ => first | exact tv_or (q := true) (is i _ ei of) rfl | (rw [okD] at of; cases of)
theorem q_check_bar {k n : Nat} {a f s t : D} {ns ks : List L2.Key} {ms vs : List D} (oa : okD a = true) (of : okD f = true) (os : okD s = true) (ot : okD t = true) (j : JI ks vs) :
    (Q ds).fn (k + 3) i_check_bar [.tup [a, f, s, t], .dic ns ms, .dic ks vs] n = optE (bErr ns ks vs (.tup [a, f, s, t])) n := by
  rw [bErr_eq]
  have e1 := tv_name (T := (Q ds).tab (k + 2)) (env := [.val (.tup [a, f, s, t]), .val (.dic ns ms), .val (.dic ks vs), .val a, .val f, .val s, .val t]) (n := n) (i := 3) (c := .non) (ks := ns) (vs := ms) (g := .var 1) (fun z hz => q_is_name hz) rfl rfl oa
  have e2 := tv_ends (T := (Q ds).tab (k + 2)) (env := [.val (.tup [a, f, s, t]), .val (.dic ns ms), .val (.dic ks vs), .val a, .val f, .val s, .val t]) (n := n) (i := 4) (j := 5) (ks := ks) (vs := vs) (g := .var 2) rfl rfl rfl of os
  have e4 := tv_word (T := (Q ds).tab (k + 2)) (env := [.val (.tup [a, f, s, t]), .val (.dic ns ms), .val (.dic ks vs), .val a, .val f, .val s, .val t]) (n := n) (i := 6) (l := sorts) (g := .glb c_SORTS) rfl (.inl rfl) ot
  have s0 : ex ((Q ds).tab (k + 2)) (.setT (.t4 (.nm 3) (.nm 4) (.nm 5) (.nm 6)) (.var 0)) [.val (.tup [a, f, s, t]), .val (.dic ns ms), .val (.dic ks vs), .no, .no, .no, .no] n = .ok (.nx [.val (.tup [a, f, s, t]), .val (.dic ns ms), .val (.dic ks vs), .val a, .val f, .val s, .val t]) n := rfl
  by_cases c1 : (nameD a && !inK ns a) = true
  · rw [if_pos c1]
    rw [c1] at e1
    by_cases c2 : (inK ks f && inK ks s) = true
    · rw [if_pos c2]
      rw [c2] at e2
      rw [Bool.and_eq_true] at c2
      have e3 : tv ((Q ds).tab (k + 2)) (.tru (.cmp .Eq (.idx (.var 2) (.var 4)) (.idx (.var 2) (.var 5)))) [.val (.tup [a, f, s, t]), .val (.dic ns ms), .val (.dic ks vs), .val a, .val f, .val s, .val t] n = .ok (D.eq (lk ks vs f) (lk ks vs s)) n :=
        tv_tru (x := .bl _) (ev_cmp (ev_idx (x := .dic ks vs) (y := f) rfl rfl (lk_of j c2.1).1) (ev_idx (x := .dic ks vs) (y := s) rfl rfl (lk_of j c2.2).1) (by rw [c_eq]; exact eqV_lk j c2.1 c2.2)) rfl
      by_cases c3 : D.eq (lk ks vs f) (lk ks vs s) = true
      · rw [if_pos c3]
        rw [c3] at e3
        exact run_f (d := d_check_bar) rfl (run_exc' rfl (seq_nx s0 (seq_nx (ite_f e1 ex_skip) (seq_nx (ite_f e2 ex_skip) (seq_ex (ite_t e3 (seq_ex rfl)))))))
      · rw [if_neg c3]
        have c3 : D.eq (lk ks vs f) (lk ks vs s) = false := by simpa using c3
        rw [c3] at e3
        by_cases c4 : anyS sorts t = true
        · rw [if_pos c4]
          rw [c4] at e4
          exact run_f (d := d_check_bar) rfl (run_nx rfl (seq_nx s0 (seq_nx (ite_f e1 ex_skip) (seq_nx (ite_f e2 ex_skip) (seq_nx (ite_f e3 ex_skip) (seq_nx (ite_f e4 ex_skip) ex_skip))))))
        · rw [if_neg c4]
          have c4 : anyS sorts t = false := by simpa using c4
          rw [c4] at e4
          exact run_f (d := d_check_bar) rfl (run_exc' rfl (seq_nx s0 (seq_nx (ite_f e1 ex_skip) (seq_nx (ite_f e2 ex_skip) (seq_nx (ite_f e3 ex_skip) (seq_ex (ite_t e4 (seq_ex rfl))))))))
    · rw [if_neg c2]
      have c2 : (inK ks f && inK ks s) = false := by simpa using c2
      rw [c2] at e2
      exact run_f (d := d_check_bar) rfl (run_exc' rfl (seq_nx s0 (seq_nx (ite_f e1 ex_skip) (seq_ex (ite_t e2 (seq_ex rfl))))))
  · rw [if_neg c1]
    have c1 : (nameD a && !inK ns a) = false := by simpa using c1
    rw [c1] at e1
    exact run_f (d := d_check_bar) rfl (run_exc' rfl (seq_nx s0 (seq_ex (ite_t e1 (seq_ex rfl)))))
/-! the rows, one behind another -/
def jRun : List D → List L2.Key → List D → Option Str × List L2.Key × List D
  | [], ks, vs => (none, ks, vs)
  | r :: rs, ks, vs => match jErr ks r with
    | some e => (some e, ks, vs)
    | none => jRun rs (ks ++ [keyR r]) (vs ++ [plR r])
def bRun : List D → List L2.Key → List L2.Key → List D → Option Str
  | [], _, _, _ => none
  | r :: rs, ns, ks, vs => match bErr ns ks vs r with
    | some e => some e
    | none => bRun rs (ns ++ [keyR r]) ks vs
theorem row4_of {r : D} (h : row4 r = true) (ok : okD r = true) : ∃ a x y t, r = .tup [a, x, y, t] ∧ okD a = true ∧ okD x = true ∧ okD y = true ∧ okD t = true := by
  cases r with
  | tup l =>
    have hl : l.length = 4 := by simpa [row4] using h
    match l, hl with
    | [a, x, y, t], _ =>
      have o := okD_tup ok
      exact ⟨a, x, y, t, rfl, okD_mem o (by simp), okD_mem o (by simp), okD_mem o (by simp), okD_mem o (by simp)⟩
  | _ => cases h
theorem jErr_none {ks : List L2.Key} {a x y t : D} (h : jErr ks (.tup [a, x, y, t]) = none) : ∃ s i j, a = .str s ∧ nameS s = true ∧ hasK ks (.inr s) = false ∧ x = .int i ∧ y = .int j := by
  rw [jErr_eq] at h
  split at h
  · rename_i c
    rw [Bool.and_eq_true] at c
    split at h
    · rename_i c2
      rw [Bool.and_eq_true] at c2
      cases a with
      | str s =>
        cases x with
        | int i =>
          cases y with
          | int j => exact ⟨s, i, j, rfl, c.1, by simpa [inK] using c.2, rfl, rfl⟩
          | _ => cases c2.2
        | _ => cases c2.1
      | _ => cases c.1
    · cases h
  · cases h
theorem bErr_none {ns ks : List L2.Key} {vs : List D} {a f s t : D} (h : bErr ns ks vs (.tup [a, f, s, t]) = none) : ∃ x, a = .str x ∧ nameS x = true ∧ hasK ns (.inr x) = false := by
  rw [bErr_eq] at h
  split at h
  · rename_i c
    rw [Bool.and_eq_true] at c
    cases a with
    | str x => exact ⟨x, rfl, c.1, by simpa [inK] using c.2⟩
    | _ => cases c.1
  · cases h
theorem JI.add {ks : List L2.Key} {vs : List D} (j : JI ks vs) (k : L2.Key) (a b : Int) : JI (ks ++ [k]) (vs ++ [.tup [.int a, .int b]]) where
  len := by rw [List.length_append, List.length_append, j.len]; rfl
  pl := fun d hd => by
    rcases List.mem_append.mp hd with hd | hd
    · exact j.pl d hd
    · rw [List.mem_singleton] at hd; subst hd; exact ⟨rfl, by simp [D.dep, D.deps]⟩
theorem sto_dic {ks : List L2.Key} {vs : List D} {s : Str} {d : D} (hl : ks.length < LIM) (h : hasK ks (.inr s) = false) : stoV (.dic ks vs) (.str s) d = some (.dic (ks ++ [.inr s]) (vs ++ [d])) := by
  show (if ks.length < LIM then some (dput ks vs (.inr s) d) else none) = _
  rw [if_pos hl]
  unfold dput
  rw [h]; rfl
theorem sl13 (a x y t : D) : slcV (.tup [a, x, y, t]) (some 1) (some 3) = some (.tup [x, y]) := rfl
theorem lim_ok {n : Nat} (h : n ≤ 1000) : n < LIM := by simp only [LIM]; omega
def jBody : S := (.seq (.expr (.callB i_check_joint (.cons (.var 2) (.cons (.ovar 1) E.nil)))) (.seq (.sto 1 (.idx (.var 2) (.cst (.int 0))) (.slc (.var 2) (.opt (.cst (.int 1))) (.opt (.cst (.int 3))))) S.skip))
theorem loop_j {k n : Nat} {v : D} : ∀ (js : List D) (ks : List L2.Key) (vs : List D) (s2 : Slot), (∀ r ∈ js, row4 r = true ∧ okD r = true) → JI ks vs → ks.length + js.length ≤ 1000 → match jRun js ks vs with
    | (some e, _, _) => forL (fun x env n => match (Tg.nm 2).bind x env with
      | some env => ex ((Q ds).tab (k + 3)) jBody env n
      | none => .bad) js [.val v, .own (.dic ks vs), s2, .no, .no] n = .exc (eC e) n
    | (none, ks', vs') => JI ks' vs' ∧ ∃ s2', forL (fun x env n => match (Tg.nm 2).bind x env with
      | some env => ex ((Q ds).tab (k + 3)) jBody env n
      | none => .bad) js [.val v, .own (.dic ks vs), s2, .no, .no] n = .ok (.nx [.val v, .own (.dic ks' vs'), s2', .no, .no]) n
  | [], ks, vs, s2, _, j, _ => ⟨j, s2, rfl⟩
  | r :: rs, ks, vs, s2, h, j, hl => by
    obtain ⟨a, x, y, t, rfl, oa, ox, oy, ot⟩ := row4_of (h r List.mem_cons_self).1 (h r List.mem_cons_self).2
    have e : ev ((Q ds).tab (k + 3)) (.callB i_check_joint (.cons (.var 2) (.cons (.ovar 1) E.nil))) [.val v, .own (.dic ks vs), .val (.tup [a, x, y, t]), .no, .no] n = optE (jErr ks (.tup [a, x, y, t])) n := by
      rw [ev]
      show ((Q ds).fn (k + 3) i_check_joint [.tup [a, x, y, t], .dic ks vs] n).flat = _
      rw [q_check_joint oa ox oy ot, optE_flat]
    rw [jRun]
    cases c : jErr ks (.tup [a, x, y, t]) with
    | some er =>
      rw [c] at e
      refine forL_ex ?_
      show ex _ jBody [.val v, .own (.dic ks vs), .val (.tup [a, x, y, t]), .no, .no] n = _
      refine seq_ex ?_
      rw [ex, e]; rfl
    | none =>
      rw [c] at e
      obtain ⟨s, i, q, rfl, hn, hk, rfl, rfl⟩ := jErr_none c
      have hll : ks.length + (rs.length + 1) ≤ 1000 := hl
      have step : ex ((Q ds).tab (k + 3)) jBody [.val v, .own (.dic ks vs), .val (.tup [.str s, .int i, .int q, t]), .no, .no] n = .ok (.nx [.val v, .own (.dic (ks ++ [.inr s]) (vs ++ [.tup [.int i, .int q]])), .val (.tup [.str s, .int i, .int q, t]), .no, .no]) n := by
        refine seq_nx (env' := [.val v, .own (.dic ks vs), .val (.tup [.str s, .int i, .int q, t]), .no, .no]) (m := n) (by rw [ex, e]; rfl) (seq_nx (m := n) ?_ ex_skip)
        rw [ex]
        show (Res.of (stoV (.dic ks vs) (.str s) (.tup [.int i, .int q])) n).bind _ = _
        rw [sto_dic (lim_ok (by omega)) hk]; rfl
      have ih := loop_j (k := k) (n := n) (v := v) rs (ks ++ [.inr s]) (vs ++ [.tup [.int i, .int q]]) (.val (.tup [.str s, .int i, .int q, t])) (fun r hr => h r (List.mem_cons_of_mem _ hr)) (j.add _ _ _) (by rw [List.length_append]; simp only [List.length_cons, List.length_nil]; omega)
      show match jRun rs (ks ++ [.inr s]) (vs ++ [.tup [.int i, .int q]]) with
        | (some e, _, _) => _
        | (none, ks', vs') => _
      cases er : jRun rs (ks ++ [.inr s]) (vs ++ [.tup [.int i, .int q]]) with
      | mk o w =>
        obtain ⟨ks', vs'⟩ := w
        rw [er] at ih
        cases o with
        | some e2 => exact forL_nx step ih
        | none => exact ⟨ih.1, ih.2.choose, forL_nx step ih.2.choose_spec⟩
def bBody : S := (.seq (.expr (.callB i_check_bar (.cons (.var 4) (.cons (.ovar 3) (.cons (.var 1) E.nil))))) (.seq (.sto 3 (.idx (.var 4) (.cst (.int 0))) (.cst (.bl true))) S.skip))
theorem loop_b {k n : Nat} {v : D} {ks : List L2.Key} {vs : List D} (j : JI ks vs) : ∀ (bs : List D) (ns : List L2.Key) (ms : List D) (s2 s4 : Slot), (∀ r ∈ bs, row4 r = true ∧ okD r = true) → ns.length + bs.length ≤ 1000 → match bRun bs ns ks vs with
    | some e => forL (fun x env n => match (Tg.nm 4).bind x env with
      | some env => ex ((Q ds).tab (k + 3)) bBody env n
      | none => .bad) bs [.val v, .val (.dic ks vs), s2, .own (.dic ns ms), s4] n = .exc (eC e) n
    | none => ∃ ns' ms' s4', forL (fun x env n => match (Tg.nm 4).bind x env with
      | some env => ex ((Q ds).tab (k + 3)) bBody env n
      | none => .bad) bs [.val v, .val (.dic ks vs), s2, .own (.dic ns ms), s4] n = .ok (.nx [.val v, .val (.dic ks vs), s2, .own (.dic ns' ms'), s4']) n
  | [], ns, ms, s2, s4, _, _ => ⟨ns, ms, s4, rfl⟩
  | r :: rs, ns, ms, s2, s4, h, hl => by
    obtain ⟨a, f, s, t, rfl, oa, of, os, ot⟩ := row4_of (h r List.mem_cons_self).1 (h r List.mem_cons_self).2
    have e : ev ((Q ds).tab (k + 3)) (.callB i_check_bar (.cons (.var 4) (.cons (.ovar 3) (.cons (.var 1) E.nil)))) [.val v, .val (.dic ks vs), s2, .own (.dic ns ms), .val (.tup [a, f, s, t])] n = optE (bErr ns ks vs (.tup [a, f, s, t])) n := by
      rw [ev]
      show ((Q ds).fn (k + 3) i_check_bar [.tup [a, f, s, t], .dic ns ms, .dic ks vs] n).flat = _
      rw [q_check_bar oa of os ot j, optE_flat]
    rw [bRun]
    cases c : bErr ns ks vs (.tup [a, f, s, t]) with
    | some er =>
      rw [c] at e
      refine forL_ex ?_
      show ex _ bBody [.val v, .val (.dic ks vs), s2, .own (.dic ns ms), .val (.tup [a, f, s, t])] n = _
      refine seq_ex ?_
      rw [ex, e]; rfl
    | none =>
      rw [c] at e
      obtain ⟨x, rfl, hn, hk⟩ := bErr_none c
      have hll : ns.length + (rs.length + 1) ≤ 1000 := hl
      have step : ex ((Q ds).tab (k + 3)) bBody [.val v, .val (.dic ks vs), s2, .own (.dic ns ms), .val (.tup [.str x, f, s, t])] n = .ok (.nx [.val v, .val (.dic ks vs), s2, .own (.dic (ns ++ [.inr x]) (ms ++ [.bl true])), .val (.tup [.str x, f, s, t])]) n := by
        refine seq_nx (env' := [.val v, .val (.dic ks vs), s2, .own (.dic ns ms), .val (.tup [.str x, f, s, t])]) (m := n) (by rw [ex, e]; rfl) (seq_nx (m := n) ?_ ex_skip)
        rw [ex]
        show (Res.of (stoV (.dic ns ms) (.str x) (.bl true)) n).bind _ = _
        rw [sto_dic (lim_ok (by omega)) hk]; rfl
      have ih := loop_b (k := k) (n := n) (v := v) j rs (ns ++ [.inr x]) (ms ++ [.bl true]) s2 (.val (.tup [.str x, f, s, t])) (fun r hr => h r (List.mem_cons_of_mem _ hr)) (by rw [List.length_append]; simp only [List.length_cons, List.length_nil]; omega)
      show match bRun rs (ns ++ [.inr x]) ks vs with
        | some e => _
        | none => _
      cases er : bRun rs (ns ++ [.inr x]) ks vs with
      | some e2 => rw [er] at ih; exact forL_nx step ih
      | none =>
        rw [er] at ih
        obtain ⟨a1, a2, a3, ih⟩ := ih
        exact ⟨a1, a2, a3, forL_nx step ih⟩
/-- what is wrong with a value as a frame -/
def dueM (v : D) : Option Str := if formOk v = false then some "form" else match v with
  | .tup [.tup js, .tup bs] => if (decide (1 ≤ js.length) && decide (js.length ≤ 12) && decide (bs.length ≤ 30)) = false then some "many" else match jRun js [] [] with
    | (some e, _, _) => some e
    | (none, ks, vs) => bRun bs [] ks vs
  | _ => none
theorem form_of {v : D} (h : formOk v = true) : ∃ js bs, v = .tup [.tup js, .tup bs] ∧ js.all row4 = true ∧ bs.all row4 = true := by
  unfold formOk at h
  split at h
  · rename_i a b
    rw [Bool.and_eq_true] at h
    cases a <;> first | (cases h.1; done) | skip
    cases b <;> first | (cases h.2; done) | skip
    exact ⟨_, _, rfl, h.1, h.2⟩
  · cases h
theorem q_check {k n : Nat} {v : D} (ok : okD v = true) : (Q ds).fn (k + 4) i_check [v] n = optE (dueM v) n := by
  have e0 : tv ((Q ds).tab (k + 3)) (.not (.tru (.call i_has_form (.cons (.var 0) E.nil)))) [.val v, .no, .no, .no, .no] n = .ok (!formOk v) n := tv_not (tv_tru (ev_call (l := [v]) rfl (q_has_form ok)) rfl)
  unfold dueM
  by_cases hf : formOk v = false
  · rw [if_pos hf]
    rw [hf] at e0
    exact run_f (d := d_check) rfl (run_exc' rfl (seq_ex (ite_t e0 (seq_ex rfl))))
  rw [if_neg hf]
  have hf : formOk v = true := by simpa using hf
  rw [hf] at e0
  obtain ⟨js, bs, rfl, hj, hb⟩ := form_of hf
  have o := okD_tup ok
  have oj := okD_mem o (d := .tup js) (by simp)
  have ob := okD_mem o (d := .tup bs) (by simp)
  have rj : ∀ r ∈ js, row4 r = true ∧ okD r = true := fun r hr => ⟨List.all_eq_true.mp hj r hr, okD_mem (okD_tup oj) hr⟩
  have rb : ∀ r ∈ bs, row4 r = true ∧ okD r = true := fun r hr => ⟨List.all_eq_true.mp hb r hr, okD_mem (okD_tup ob) hr⟩
  have e1 : tv ((Q ds).tab (k + 3)) (.or (.not (.tru (.cmp2 .LtE .LtE (.cst (.int 1)) (.blt .len (.cons (.idx (.var 0) (.cst (.int 0))) E.nil)) (.glb c_MAX_JOINTS)))) (.tru (.cmp .Gt (.blt .len (.cons (.idx (.var 0) (.cst (.int 1))) E.nil)) (.glb c_MAX_BARS)))) [.val (.tup [.tup js, .tup bs]), .no, .no, .no, .no] n = .ok (!(decide (1 ≤ js.length) && decide (js.length ≤ 12) && decide (bs.length ≤ 30))) n := by
    have c1 : ((Q ds).tab (k + 3)).con c_MAX_JOINTS = .int 12 := rfl
    have c2 : ((Q ds).tab (k + 3)).con c_MAX_BARS = .int 30 := rfl
    have h1 : ((1 : Int) ≤ js.length) ↔ 1 ≤ js.length := by omega
    have h2 : ((js.length : Int) ≤ 12) ↔ js.length ≤ 12 := by omega
    have h3 : ((30 : Int) < bs.length) ↔ ¬ bs.length ≤ 30 := by omega
    by_cases q1 : 1 ≤ js.length <;> by_cases q2 : js.length ≤ 12 <;> by_cases q3 : bs.length ≤ 30 <;> simp [tv, ev, evs, c1, c2, h1, h2, h3, q1, q2, q3]
  by_cases hm : (decide (1 ≤ js.length) && decide (js.length ≤ 12) && decide (bs.length ≤ 30)) = false
  · rw [hm] at e1
    show _ = optE (if _ then _ else _) n
    rw [if_pos hm]
    exact run_f (d := d_check) rfl (run_exc' rfl (seq_nx (ite_f e0 ex_skip) (seq_ex (ite_t e1 (seq_ex rfl)))))
  have hm' : (decide (1 ≤ js.length) && decide (js.length ≤ 12) && decide (bs.length ≤ 30)) = true := eq_true_of_ne_false hm
  show _ = optE (if _ then _ else _) n
  rw [if_neg hm]
  rw [hm'] at e1
  simp only [Bool.and_eq_true, decide_eq_true_eq] at hm'
  have lj := loop_j (ds := ds) (k := k) (n := n) (v := .tup [.tup js, .tup bs]) js [] [] .no rj ⟨rfl, by simp⟩ (by simp; omega)
  cases er : jRun js [] [] with
  | mk oo w =>
    obtain ⟨ks, vs⟩ := w
    rw [er] at lj
    cases oo with
    | some e =>
      exact run_f (d := d_check) rfl (run_exc' rfl (seq_nx (ite_f e0 ex_skip) (seq_nx (ite_f e1 ex_skip) (seq_nx (env' := [.val (.tup [.tup js, .tup bs]), .own (.dic [] []), .no, .no, .no]) (m := n) rfl (seq_ex (ex_loop (xs := js) rfl lj))))))
    | none =>
      obtain ⟨ji, s2, lj⟩ := lj
      have lb := loop_b (ds := ds) (k := k) (n := n) (v := .tup [.tup js, .tup bs]) ji bs [] [] s2 .no rb (by simp; omega)
      dsimp only
      cases eb : bRun bs [] ks vs with
      | some e =>
        rw [eb] at lb
        exact run_f (d := d_check) rfl (run_exc' rfl (seq_nx (ite_f e0 ex_skip) (seq_nx (ite_f e1 ex_skip) (seq_nx (env' := [.val (.tup [.tup js, .tup bs]), .own (.dic [] []), .no, .no, .no]) (m := n) rfl (seq_nx (ex_loop (xs := js) rfl lj) (seq_nx (env' := [.val (.tup [.tup js, .tup bs]), .val (.dic ks vs), s2, .no, .no]) (m := n) rfl (seq_nx (env' := [.val (.tup [.tup js, .tup bs]), .val (.dic ks vs), s2, .own (.dic [] []), .no]) (m := n) rfl (seq_ex (ex_loop (xs := bs) rfl lb)))))))))
      | none =>
        rw [eb] at lb
        obtain ⟨ns', ms', s4', lb⟩ := lb
        exact run_f (d := d_check) rfl (run_nx rfl (seq_nx (ite_f e0 ex_skip) (seq_nx (ite_f e1 ex_skip) (seq_nx (env' := [.val (.tup [.tup js, .tup bs]), .own (.dic [] []), .no, .no, .no]) (m := n) rfl (seq_nx (ex_loop (xs := js) rfl lj) (seq_nx (env' := [.val (.tup [.tup js, .tup bs]), .val (.dic ks vs), s2, .no, .no]) (m := n) rfl (seq_nx (env' := [.val (.tup [.tup js, .tup bs]), .val (.dic ks vs), s2, .own (.dic [] []), .no]) (m := n) rfl (seq_nx (ex_loop (xs := bs) rfl lb) (seq_nx (m := n) rfl ex_skip)))))))))
end Kx

set_option Elab.async false
set_option linter.all false
set_option maxRecDepth 100000
set_option maxHeartbeats 1000000
set_option exponentiation.threshold 10000
/-! A8: draws; the frames that the law makes. -/
namespace Kx
open Py PySem
variable {ds : List Int}
theorem q_one {k n : Nat} {l : List D} (hl : l ≠ []) (hn : n < 2 ^ 40) : ∃ x ∈ l, (Q ds).fn (k + 1) i__law_one [.lst l, .drw, .att] n = .ok x (n + 1) := by
  have hp : (0 : Int) < l.length := by
    cases l with
    | nil => exact absurd rfl hl
    | cons a r => simp only [List.length_cons]; omega
  obtain ⟨v, v0, v1, e⟩ := tk (T := (Q ds).tab k) (n := n) (i := 1) (j := 2) (env := [.val (.lst l), .val .drw, .val .att]) (m := .blt .len (.cons (.var 0) E.nil)) rfl rfl rfl hp hn
  obtain ⟨x, hx, q⟩ := atI_mem (l := l) v0 v1
  refine ⟨x, hx, run_f (d := d__law_one) rfl (run_ret' rfl ?_)⟩
  show ex ((Q ds).tab k) d__law_one.body [.val (.lst l), .val .drw, .val .att] n = _
  unfold d__law_one
  exact seq_rt (ex_ret (ev_idx rfl e q))
/-- one of a row, in an expression; d, a: where the draws and their place stand -/
theorem e_one {k n d a : Nat} {env : Py.Env} {e : E} {l : List D} (he : ev ((Q ds).tab (k + 1)) e env n = .ok (.lst l) n) (h1 : slot env d = .val .drw) (h2 : slot env a = .val .att) (hl : l ≠ []) (hn : n < 2 ^ 40) :
    ∃ x ∈ l, ev ((Q ds).tab (k + 1)) (.call i__law_one (.cons e (.cons (.var d) (.cons (.var a) E.nil)))) env n = .ok x (n + 1) := by
  obtain ⟨x, hx, e1⟩ := q_one (ds := ds) (k := k) hl hn
  refine ⟨x, hx, ev_call (l := [.lst l, .drw, .att]) (evs_cons he (evs_cons (m := n) ?_ (evs_cons (m := n) ?_ rfl))) e1⟩
  · rw [ev, h1]
  · rw [ev, h2]
/-- one of a row of words -/
theorem e_oneS {k n d a : Nat} {env : Py.Env} {e : E} {l : List Str} (he : ev ((Q ds).tab (k + 1)) e env n = .ok (.lst (l.map .str)) n) (h1 : slot env d = .val .drw) (h2 : slot env a = .val .att) (hl : l ≠ []) (hn : n < 2 ^ 40) :
    ∃ x ∈ l, ev ((Q ds).tab (k + 1)) (.call i__law_one (.cons e (.cons (.var d) (.cons (.var a) E.nil)))) env n = .ok (.str x) (n + 1) := by
  obtain ⟨x, hx, e1⟩ := e_one (ds := ds) (k := k) he h1 h2 (by simpa using hl) hn
  obtain ⟨s, hs, rfl⟩ := List.mem_map.mp hx
  exact ⟨s, hs, e1⟩
theorem e_oneI {k n d a : Nat} {env : Py.Env} {e : E} {l : List Int} (he : ev ((Q ds).tab (k + 1)) e env n = .ok (.lst (l.map .int)) n) (h1 : slot env d = .val .drw) (h2 : slot env a = .val .att) (hl : l ≠ []) (hn : n < 2 ^ 40) :
    ∃ x ∈ l, ev ((Q ds).tab (k + 1)) (.call i__law_one (.cons e (.cons (.var d) (.cons (.var a) E.nil)))) env n = .ok (.int x) (n + 1) := by
  obtain ⟨x, hx, e1⟩ := e_one (ds := ds) (k := k) he h1 h2 (by simpa using hl) hn
  obtain ⟨s, hs, rfl⟩ := List.mem_map.mp hx
  exact ⟨s, hs, e1⟩
abbrev nmL : List Str := ["A", "b", "C_1", "dd", "E", "F6", "g", "hhhhhhhhhhhh", "J", "k", "L9_", "b0"]
def jrow (s : Str) (x y : Int) (h : Str) : D := .tup [.str s, .int x, .int y, .str h]
structure JR (t : Nat) (r : D) : Prop where
  ex : ∃ s x y h, nmL[t]? = some s ∧ r = jrow s x y h ∧ (-1000 ≤ x ∧ x ≤ 1000) ∧ (-1000 ≤ y ∧ y ≤ 1000) ∧ h ∈ holdW
def JL (J : List D) : Prop := ∀ t r, J[t]? = some r → JR t r
def BL (J Bs : List D) : Prop := ∀ b ∈ Bs, ∃ r s, b = .lst [r, s] ∧ r ∈ J ∧ s ∈ J
theorem BL.mono {J J' Bs : List D} (h : BL J Bs) (s : ∀ r ∈ J, r ∈ J') : BL J' Bs := fun b hb => by
  obtain ⟨r, q, e, h1, h2⟩ := h b hb
  exact ⟨r, q, e, s _ h1, s _ h2⟩
theorem JL.add {J : List D} (h : JL J) {r : D} (hr : JR J.length r) : JL (J ++ [r]) := fun t q e => by
  rcases Nat.lt_trichotomy t J.length with c | c | c
  · rw [List.getElem?_append_left c] at e; exact h t q e
  · subst c
    rw [List.getElem?_append_right (Nat.le_refl _), Nat.sub_self] at e
    cases e; exact hr
  · rw [List.getElem?_eq_none (by simp; omega)] at e; cases e
theorem rng_some {c : Int} (h0 : 0 ≤ c) (h1 : c ≤ 1000) : rngV 0 c = some ((List.range c.toNat).map fun j => .int (j : Nat)) := by
  unfold rngV
  rw [if_pos (by simp only [LIM]; omega)]
  congr 1
  rw [Int.sub_zero]
  exact List.map_congr_left fun j _ => by rw [Int.zero_add]
theorem at_nat {α : Type} {l : List α} {i : Nat} {x : α} (h : l[i]? = some x) : L2.atI l (i : Int) = some x := by
  have hi : i < l.length := (List.getElem?_eq_some_iff.mp h).1
  unfold L2.atI L2.ixN
  rw [if_pos (by omega), if_pos (by omega)]
  exact h
def inBody : S := (.seq (.set 13 (.lst (.cons (.idx (.ovar 6) (.var 8)) (.cons (.idx (.ovar 6) (.bop .Mod (.blt .int (.cons (.bop .Add (.var 10) (.bop .Mult (.var 12) (.var 11))) E.nil)) (.var 8))) E.nil)))) (.seq (.app 7 (.ite (.tru (.cmp .Eq (.take 0 1 (.cst (.int 2))) (.cst (.int 0)))) (.rev (.var 13)) (.var 13))) S.skip))
def outBody : S := (.seq (.set 9 (.call i__law_one (.cons (.lst (.cons (.cst (.str "free")) (.cons (.cst (.str "free")) (.cons (.cst (.str "free")) (.cons (.cst (.str "free")) (.cons (.cst (.str "free")) (.cons (.cst (.str "free")) (.cons (.cst (.str "fixed")) (.cons (.cst (.str "along")) (.cons (.cst (.str "up")) E.nil)))))))))) (.cons (.var 0) (.cons (.var 1) E.nil))))) (.seq (.ite (.tru (.cmp .Lt (.var 8) (.cst (.int 2)))) (.seq (.set 9 (.call i__law_one (.cons (.lst (.cons (.cst (.str "fixed")) (.cons (.cst (.str "fixed")) (.cons (.cst (.str "fixed")) (.cons (.cst (.str "along")) (.cons (.cst (.str "up")) (.cons (.cst (.str "free")) E.nil))))))) (.cons (.var 0) (.cons (.var 1) E.nil))))) S.skip) S.skip) (.seq (.app 6 (.tup (.cons (.idx (.var 3) (.var 8)) (.cons (.bop .Sub (.take 0 1 (.bop .Add (.bop .Mult (.cst (.int 2)) (.var 5)) (.cst (.int 1)))) (.var 5)) (.cons (.bop .Sub (.take 0 1 (.bop .Add (.bop .Mult (.cst (.int 2)) (.var 5)) (.cst (.int 1)))) (.var 5)) (.cons (.var 9) E.nil)))))) (.seq (.set 10 (.take 0 1 (.cst (.int 12)))) (.seq (.set 11 (.bop .Add (.cst (.int 1)) (.take 0 1 (.cst (.int 5))))) (.seq (.loop (.nm 12) (.rng1 (.ite (.tru (.cmp .Gt (.var 8) (.cst (.int 0)))) (.call i__law_one (.cons (.lst (.cons (.cst (.int 2)) (.cons (.cst (.int 2)) (.cons (.cst (.int 2)) (.cons (.cst (.int 2)) (.cons (.cst (.int 2)) (.cons (.cst (.int 1)) (.cons (.cst (.int 3)) (.cons (.cst (.int 0)) E.nil))))))))) (.cons (.var 0) (.cons (.var 1) E.nil)))) (.cst (.int 0)))) inBody) S.skip))))))
theorem in_turn {k n i : Nat} {m2 m4 m5 a9 a12 a13 a14 a15 a3 : Slot} {J Bs : List D} {f st j : Int} (hi : 0 < i) (hJ : J.length = i + 1) (hB : BL J Bs) (hb : Bs.length ≤ 1000) (hf : 0 ≤ f ∧ f < 12) (hs : 1 ≤ st ∧ st ≤ 5) (hj : 0 ≤ j ∧ j ≤ 10) (hn : n < 2 ^ 39) :
    ∃ b13 Bs', BL J Bs' ∧ Bs'.length = Bs.length + 1 ∧ ex ((Q ds).tab k) inBody [.val .drw, .val .att, m2, a3, m4, m5, .own (.lst J), .own (.lst Bs), .val (.int i), a9, .val (.int f), .val (.int st), .val (.int j), a13, a14, a15] n = .ok (.nx [.val .drw, .val .att, m2, a3, m4, m5, .own (.lst J), .own (.lst Bs'), .val (.int i), a9, .val (.int f), .val (.int st), .val (.int j), b13, a14, a15]) (n + 1) := by
  have h1 : J[i]? = some J[i] := List.getElem?_eq_getElem (by omega)
  have hm : (f + j * st) % (i : Int) < i := Int.emod_lt_of_pos _ (by omega)
  have hm0 : 0 ≤ (f + j * st) % (i : Int) := Int.emod_nonneg _ (by omega)
  have h2 : J[((f + j * st) % (i : Int)).toNat]? = some (J[((f + j * st) % (i : Int)).toNat]'(by omega)) := List.getElem?_eq_getElem (by omega)
  generalize J[i] = r at h1
  generalize (J[((f + j * st) % (i : Int)).toNat]'(by omega)) = s at h2
  obtain ⟨q, q0, q1, eq⟩ := tk (T := (Q ds).tab k) (n := n) (i := 0) (j := 1) (env := [.val .drw, .val .att, m2, a3, m4, m5, .own (.lst J), .own (.lst Bs), .val (.int i), a9, .val (.int f), .val (.int st), .val (.int j), .val (.lst [r, s]), a14, a15]) (m := .cst (.int 2)) rfl rfl rfl (by decide) (by omega)
  have e1 : ev ((Q ds).tab k) (.lst (.cons (.idx (.ovar 6) (.var 8)) (.cons (.idx (.ovar 6) (.bop .Mod (.blt .int (.cons (.bop .Add (.var 10) (.bop .Mult (.var 12) (.var 11))) E.nil)) (.var 8))) E.nil))) [.val .drw, .val .att, m2, a3, m4, m5, .own (.lst J), .own (.lst Bs), .val (.int i), a9, .val (.int f), .val (.int st), .val (.int j), a13, a14, a15] n = .ok (.lst [r, s]) n := by
    refine ev_lst (evs_cons (ev_idx (x := .lst J) (y := .int i) rfl rfl (at_nat h1)) (evs_cons (ev_idx (x := .lst J) (y := .int ((f + j * st) % (i : Int))) rfl (ev_bop (ev_blt1 (ev_bop rfl (ev_bop rfl rfl (b_muls (i := j) (j := st) (by omega) (by omega))) (b_add f _)) rfl) rfl (b_mod (by omega))) ?_) rfl))
    have := at_nat h2
    rw [Int.toNat_of_nonneg hm0] at this
    exact this
  have hq : ∀ b, tv ((Q ds).tab k) (.tru (.cmp .Eq (.take 0 1 (.cst (.int 2))) (.cst (.int 0)))) [.val .drw, .val .att, m2, a3, m4, m5, .own (.lst J), .own (.lst Bs), .val (.int i), a9, .val (.int f), .val (.int st), .val (.int j), .val (.lst [r, s]), a14, a15] n = .ok b (n + 1) → ∃ c, (c = .lst [r, s] ∨ c = .lst [s, r]) ∧ ev ((Q ds).tab k) (.ite (.tru (.cmp .Eq (.take 0 1 (.cst (.int 2))) (.cst (.int 0)))) (.rev (.var 13)) (.var 13)) [.val .drw, .val .att, m2, a3, m4, m5, .own (.lst J), .own (.lst Bs), .val (.int i), a9, .val (.int f), .val (.int st), .val (.int j), .val (.lst [r, s]), a14, a15] n = .ok c (n + 1) := by
    intro b hb
    cases b with
    | true => exact ⟨_, .inr rfl, ev_ite hb rfl⟩
    | false => exact ⟨_, .inl rfl, ev_ite hb rfl⟩
  obtain ⟨c, hc, ec⟩ := hq (q == 0) (tv_tru (x := .bl _) (ev_cmp eq rfl (by rw [c_eq, e_int])) rfl)
  have mr := List.mem_of_getElem? h1
  have ms := List.mem_of_getElem? h2
  refine ⟨.val (.lst [r, s]), Bs ++ [c], ?_, by simp, seq_nx (ex_set e1) (seq_nx (m := n + 1) ?_ ex_skip)⟩
  · intro b hb
    rcases List.mem_append.mp hb with hb | hb
    · exact hB b hb
    · rw [List.mem_singleton] at hb
      subst hb
      rcases hc with rfl | rfl
      · exact ⟨r, s, rfl, mr, ms⟩
      · exact ⟨s, r, rfl, ms, mr⟩
  · rw [ex]
    show ((ev ((Q ds).tab k) _ [.val .drw, .val .att, m2, a3, m4, m5, .own (.lst J), .own (.lst Bs), .val (.int i), a9, .val (.int f), .val (.int st), .val (.int j), .val (.lst [r, s]), a14, a15] n).bind fun d n => if Bs.length < LIM then _ else _) = _
    rw [ec, Res.bind_ok, if_pos (by simp only [LIM]; omega)]
    rfl
end Kx

set_option Elab.async false
set_option linter.all false
set_option maxRecDepth 100000
set_option maxHeartbeats 1000000
set_option exponentiation.threshold 10000
/-! A9: one joint of a frame. -/
namespace Kx
open Py PySem
variable {ds : List Int}
theorem in_loop {k n i : Nat} {m2 m4 m5 a9 a14 a15 a3 : Slot} {J : List D} {f st : Int} (hi : 0 < i) (hJ : J.length = i + 1) (hf : 0 ≤ f ∧ f < 12) (hs : 1 ≤ st ∧ st ≤ 5) : ∀ (c j : Nat) (Bs : List D) (a12 a13 : Slot) (n : Nat), j + c ≤ 10 → BL J Bs → Bs.length + c ≤ 900 → n + c < 2 ^ 38 →
    ∃ Bs' b12 b13, BL J Bs' ∧ Bs'.length = Bs.length + c ∧ forL (fun x env n => match (Tg.nm 12).bind x env with
      | some env => ex ((Q ds).tab k) inBody env n
      | none => .bad) ((List.range' j c).map fun j => .int (j : Nat)) [.val .drw, .val .att, m2, a3, m4, m5, .own (.lst J), .own (.lst Bs), .val (.int i), a9, .val (.int f), .val (.int st), a12, a13, a14, a15] n = .ok (.nx [.val .drw, .val .att, m2, a3, m4, m5, .own (.lst J), .own (.lst Bs'), .val (.int i), a9, .val (.int f), .val (.int st), b12, b13, a14, a15]) (n + c)
  | 0, j, Bs, a12, a13, n, _, hB, _, _ => ⟨Bs, a12, a13, hB, rfl, rfl⟩
  | c + 1, j, Bs, a12, a13, n, hc, hB, hb, hn => by
    obtain ⟨b13, Bs1, h1, h2, h3⟩ := in_turn (ds := ds) (k := k) (n := n) (i := i) (m2 := m2) (m4 := m4) (m5 := m5) (a9 := a9) (a12 := a12) (a13 := a13) (a14 := a14) (a15 := a15) (a3 := a3) (j := (j : Int)) hi hJ hB (by omega) hf hs (by omega) (by omega)
    obtain ⟨Bs2, b12, c13, h4, h5, h6⟩ := in_loop (k := k) (n := n) (m2 := m2) (m4 := m4) (m5 := m5) (a9 := a9) (a14 := a14) (a15 := a15) (a3 := a3) hi hJ hf hs c (j + 1) Bs1 (.val (.int (j : Nat))) b13 (n + 1) (by omega) h1 (by omega) (by omega)
    refine ⟨Bs2, b12, c13, h4, by omega, ?_⟩
    rw [show List.range' j (c + 1) = j :: List.range' (j + 1) c from rfl, List.map_cons, show n + (c + 1) = n + 1 + c from by omega]
    exact forL_nx h3 h6
theorem range_map (c : Nat) : ((List.range c).map fun j => D.int (j : Nat)) = (List.range' 0 c).map fun j => D.int (j : Nat) := by rw [List.range_eq_range']
theorem out_turn {k n i : Nat} {m2 m4 a9 a10 a11 a12 a13 a14 a15 : Slot} {J Bs : List D} {sp : Int} (hi : i < 12) (hsp : 1 ≤ sp ∧ sp ≤ 1000) (hl : J.length = i) (hJ : JL J) (hB : BL J Bs) (hb : Bs.length ≤ 800) (hn : n < 2 ^ 37) :
    ∃ J' Bs' b9 b10 b11 b12 b13 n', JL J' ∧ J'.length = i + 1 ∧ BL J' Bs' ∧ Bs'.length ≤ Bs.length + 3 ∧ n' ≤ n + 10 ∧ ex ((Q ds).tab (k + 1)) outBody [.val .drw, .val .att, m2, .val (.lst (nmL.map .str)), m4, .val (.int sp), .own (.lst J), .own (.lst Bs), .val (.int i), a9, a10, a11, a12, a13, a14, a15] n = .ok (.nx [.val .drw, .val .att, m2, .val (.lst (nmL.map .str)), m4, .val (.int sp), .own (.lst J'), .own (.lst Bs'), .val (.int i), b9, b10, b11, b12, b13, a14, a15]) n' := by
  obtain ⟨s, hs⟩ : ∃ s, nmL[i]? = some s := ⟨nmL[i]'(by simpa using hi), List.getElem?_eq_getElem _⟩
  obtain ⟨h, hh, e1⟩ := e_oneS (ds := ds) (k := k) (n := n) (d := 0) (a := 1) (env := [.val .drw, .val .att, m2, .val (.lst (nmL.map .str)), m4, .val (.int sp), .own (.lst J), .own (.lst Bs), .val (.int i), a9, a10, a11, a12, a13, a14, a15]) (e := (.lst (.cons (.cst (.str "free")) (.cons (.cst (.str "free")) (.cons (.cst (.str "free")) (.cons (.cst (.str "free")) (.cons (.cst (.str "free")) (.cons (.cst (.str "free")) (.cons (.cst (.str "fixed")) (.cons (.cst (.str "along")) (.cons (.cst (.str "up")) E.nil)))))))))) ) (l := ["free", "free", "free", "free", "free", "free", "fixed", "along", "up"]) rfl rfl rfl (by simp) (by omega)
  have hh : h ∈ holdW := by
    simp only [List.mem_cons, List.not_mem_nil, or_false] at hh ⊢
    rcases hh with q | q | q | q | q | q | q | q | q <;> simp [q]
  -- the hold, anew for the first two
  have st2 : ∃ h2 n2, h2 ∈ holdW ∧ n2 ≤ n + 2 ∧ ex ((Q ds).tab (k + 1)) (.ite (.tru (.cmp .Lt (.var 8) (.cst (.int 2)))) (.seq (.set 9 (.call i__law_one (.cons (.lst (.cons (.cst (.str "fixed")) (.cons (.cst (.str "fixed")) (.cons (.cst (.str "fixed")) (.cons (.cst (.str "along")) (.cons (.cst (.str "up")) (.cons (.cst (.str "free")) E.nil))))))) (.cons (.var 0) (.cons (.var 1) E.nil))))) S.skip) S.skip) [.val .drw, .val .att, m2, .val (.lst (nmL.map .str)), m4, .val (.int sp), .own (.lst J), .own (.lst Bs), .val (.int i), .val (.str h), a10, a11, a12, a13, a14, a15] (n + 1) = .ok (.nx [.val .drw, .val .att, m2, .val (.lst (nmL.map .str)), m4, .val (.int sp), .own (.lst J), .own (.lst Bs), .val (.int i), .val (.str h2), a10, a11, a12, a13, a14, a15]) n2 := by
    have t : tv ((Q ds).tab (k + 1)) (.tru (.cmp .Lt (.var 8) (.cst (.int 2)))) [.val .drw, .val .att, m2, .val (.lst (nmL.map .str)), m4, .val (.int sp), .own (.lst J), .own (.lst Bs), .val (.int i), .val (.str h), a10, a11, a12, a13, a14, a15] (n + 1) = .ok (decide ((i : Int) < 2)) (n + 1) := tv_tru (ev_cmp rfl rfl (c_lt _ _)) rfl
    by_cases c : (i : Int) < 2
    · rw [decide_eq_true c] at t
      obtain ⟨h2, hh2, e2⟩ := e_oneS (ds := ds) (k := k) (n := n + 1) (d := 0) (a := 1) (env := [.val .drw, .val .att, m2, .val (.lst (nmL.map .str)), m4, .val (.int sp), .own (.lst J), .own (.lst Bs), .val (.int i), .val (.str h), a10, a11, a12, a13, a14, a15]) (e := (.lst (.cons (.cst (.str "fixed")) (.cons (.cst (.str "fixed")) (.cons (.cst (.str "fixed")) (.cons (.cst (.str "along")) (.cons (.cst (.str "up")) (.cons (.cst (.str "free")) E.nil)))))))) (l := ["fixed", "fixed", "fixed", "along", "up", "free"]) rfl rfl rfl (by simp) (by omega)
      refine ⟨h2, n + 2, ?_, Nat.le_refl _, ite_t t (seq_nx (ex_set e2) ex_skip)⟩
      simp only [List.mem_cons, List.not_mem_nil, or_false] at hh2 ⊢
      rcases hh2 with q | q | q | q | q | q <;> simp [q]
    · rw [decide_eq_false c] at t
      exact ⟨h, n + 1, hh, by omega, ite_f t ex_skip⟩
  obtain ⟨h2, n2, hh2, hn2, e2⟩ := st2
  have ew : ∀ m, ev ((Q ds).tab (k + 1)) (.bop .Add (.bop .Mult (.cst (.int 2)) (.var 5)) (.cst (.int 1))) [.val .drw, .val .att, m2, .val (.lst (nmL.map .str)), m4, .val (.int sp), .own (.lst J), .own (.lst Bs), .val (.int i), .val (.str h2), a10, a11, a12, a13, a14, a15] m = .ok (.int (2 * sp + 1)) m := fun m => ev_bop (ev_bop rfl rfl (b_muls (by omega) (by omega))) rfl (b_add _ _)
  obtain ⟨x, x0, x1, ex1⟩ := tk (T := (Q ds).tab (k + 1)) (n := n2) (i := 0) (j := 1) (env := [.val .drw, .val .att, m2, .val (.lst (nmL.map .str)), m4, .val (.int sp), .own (.lst J), .own (.lst Bs), .val (.int i), .val (.str h2), a10, a11, a12, a13, a14, a15]) rfl rfl (ew n2) (by omega) (by omega)
  obtain ⟨y, y0, y1, ey1⟩ := tk (T := (Q ds).tab (k + 1)) (n := n2 + 1) (i := 0) (j := 1) (env := [.val .drw, .val .att, m2, .val (.lst (nmL.map .str)), m4, .val (.int sp), .own (.lst J), .own (.lst Bs), .val (.int i), .val (.str h2), a10, a11, a12, a13, a14, a15]) rfl rfl (ew (n2 + 1)) (by omega) (by omega)
  have jr : JR J.length (jrow s (x - sp) (y - sp) h2) := ⟨s, x - sp, y - sp, h2, by rw [hl]; exact hs, rfl, by omega, by omega, hh2⟩
  have e3 : ex ((Q ds).tab (k + 1)) (.app 6 (.tup (.cons (.idx (.var 3) (.var 8)) (.cons (.bop .Sub (.take 0 1 (.bop .Add (.bop .Mult (.cst (.int 2)) (.var 5)) (.cst (.int 1)))) (.var 5)) (.cons (.bop .Sub (.take 0 1 (.bop .Add (.bop .Mult (.cst (.int 2)) (.var 5)) (.cst (.int 1)))) (.var 5)) (.cons (.var 9) E.nil)))))) [.val .drw, .val .att, m2, .val (.lst (nmL.map .str)), m4, .val (.int sp), .own (.lst J), .own (.lst Bs), .val (.int i), .val (.str h2), a10, a11, a12, a13, a14, a15] n2 = .ok (.nx [.val .drw, .val .att, m2, .val (.lst (nmL.map .str)), m4, .val (.int sp), .own (.lst (J ++ [jrow s (x - sp) (y - sp) h2])), .own (.lst Bs), .val (.int i), .val (.str h2), a10, a11, a12, a13, a14, a15]) (n2 + 2) := by
    have es : L2.atI (nmL.map D.str) (i : Int) = some (.str s) := at_nat (by rw [List.getElem?_map, hs]; rfl)
    rw [ex]
    show ((ev ((Q ds).tab (k + 1)) _ [.val .drw, .val .att, m2, .val (.lst (nmL.map .str)), m4, .val (.int sp), .own (.lst J), .own (.lst Bs), .val (.int i), .val (.str h2), a10, a11, a12, a13, a14, a15] n2).bind fun d n => if J.length < LIM then _ else _) = _
    rw [ev_tup (evs_cons (ev_idx (x := .lst (nmL.map .str)) (y := .int i) rfl rfl es) (evs_cons (ev_bop ex1 rfl (b_sub _ _)) (evs_cons (ev_bop ey1 rfl (b_sub _ _)) (evs_cons rfl rfl)))), Res.bind_ok, if_pos (by simp only [LIM]; omega)]
    rfl
  obtain ⟨f, f0, f1, ef⟩ := tk (T := (Q ds).tab (k + 1)) (n := n2 + 2) (i := 0) (j := 1) (env := [.val .drw, .val .att, m2, .val (.lst (nmL.map .str)), m4, .val (.int sp), .own (.lst (J ++ [jrow s (x - sp) (y - sp) h2])), .own (.lst Bs), .val (.int i), .val (.str h2), a10, a11, a12, a13, a14, a15]) (m := .cst (.int 12)) rfl rfl rfl (by decide) (by omega)
  obtain ⟨g, g0, g1, eg⟩ := tk (T := (Q ds).tab (k + 1)) (n := n2 + 3) (i := 0) (j := 1) (env := [.val .drw, .val .att, m2, .val (.lst (nmL.map .str)), m4, .val (.int sp), .own (.lst (J ++ [jrow s (x - sp) (y - sp) h2])), .own (.lst Bs), .val (.int i), .val (.str h2), .val (.int f), a11, a12, a13, a14, a15]) (m := .cst (.int 5)) rfl rfl rfl (by decide) (by omega)
  have hB2 : BL (J ++ [jrow s (x - sp) (y - sp) h2]) Bs := hB.mono fun r hr => List.mem_append.mpr (.inl hr)
  have hl2 : (J ++ [jrow s (x - sp) (y - sp) h2]).length = i + 1 := by simp [hl]
  -- the bars
  have lp : ∃ (c n3 : Nat), n3 ≤ n2 + 5 ∧ c ≤ 3 ∧ (c = 0 ∨ 0 < i) ∧ evi ((Q ds).tab (k + 1)) (.rng1 (.ite (.tru (.cmp .Gt (.var 8) (.cst (.int 0)))) (.call i__law_one (.cons (.lst (.cons (.cst (.int 2)) (.cons (.cst (.int 2)) (.cons (.cst (.int 2)) (.cons (.cst (.int 2)) (.cons (.cst (.int 2)) (.cons (.cst (.int 1)) (.cons (.cst (.int 3)) (.cons (.cst (.int 0)) E.nil))))))))) (.cons (.var 0) (.cons (.var 1) E.nil)))) (.cst (.int 0)))) [.val .drw, .val .att, m2, .val (.lst (nmL.map .str)), m4, .val (.int sp), .own (.lst (J ++ [jrow s (x - sp) (y - sp) h2])), .own (.lst Bs), .val (.int i), .val (.str h2), .val (.int f), .val (.int (1 + g)), a12, a13, a14, a15] (n2 + 4) = .ok ((List.range' 0 c).map fun j => .int (j : Nat)) n3 := by
    have t : tv ((Q ds).tab (k + 1)) (.tru (.cmp .Gt (.var 8) (.cst (.int 0)))) [.val .drw, .val .att, m2, .val (.lst (nmL.map .str)), m4, .val (.int sp), .own (.lst (J ++ [jrow s (x - sp) (y - sp) h2])), .own (.lst Bs), .val (.int i), .val (.str h2), .val (.int f), .val (.int (1 + g)), a12, a13, a14, a15] (n2 + 4) = .ok (decide ((0 : Int) < i)) (n2 + 4) := tv_tru (ev_cmp rfl rfl (c_gt _ _)) rfl
    by_cases c : (0 : Int) < i
    · rw [decide_eq_true c] at t
      obtain ⟨v, hv, e⟩ := e_oneI (ds := ds) (k := k) (n := n2 + 4) (d := 0) (a := 1) (env := [.val .drw, .val .att, m2, .val (.lst (nmL.map .str)), m4, .val (.int sp), .own (.lst (J ++ [jrow s (x - sp) (y - sp) h2])), .own (.lst Bs), .val (.int i), .val (.str h2), .val (.int f), .val (.int (1 + g)), a12, a13, a14, a15]) (e := (.lst (.cons (.cst (.int 2)) (.cons (.cst (.int 2)) (.cons (.cst (.int 2)) (.cons (.cst (.int 2)) (.cons (.cst (.int 2)) (.cons (.cst (.int 1)) (.cons (.cst (.int 3)) (.cons (.cst (.int 0)) E.nil)))))))))) (l := [2, 2, 2, 2, 2, 1, 3, 0]) rfl rfl rfl (by simp) (by omega)
      have hv2 : 0 ≤ v ∧ v ≤ 3 := by
        simp only [List.mem_cons, List.not_mem_nil, or_false] at hv
        omega
      refine ⟨v.toNat, n2 + 5, Nat.le_refl _, by omega, .inr (by omega), ?_⟩
      rw [evi, ev_ite_t t e, Res.bind_ok]
      dsimp only
      rw [rng_some hv2.1 (by omega), range_map]; rfl
    · rw [decide_eq_false c] at t
      refine ⟨0, n2 + 4, by omega, by omega, .inl rfl, ?_⟩
      rw [evi, ev_ite_f t rfl]
      rfl
  obtain ⟨c, n3, hn3, hc, hci, e5⟩ := lp
  have lp2 : ∃ Bs' b12 b13, BL (J ++ [jrow s (x - sp) (y - sp) h2]) Bs' ∧ Bs'.length = Bs.length + c ∧ forL (fun x env n => match (Tg.nm 12).bind x env with
      | some env => ex ((Q ds).tab (k + 1)) inBody env n
      | none => .bad) ((List.range' 0 c).map fun j => .int (j : Nat)) [.val .drw, .val .att, m2, .val (.lst (nmL.map .str)), m4, .val (.int sp), .own (.lst (J ++ [jrow s (x - sp) (y - sp) h2])), .own (.lst Bs), .val (.int i), .val (.str h2), .val (.int f), .val (.int (1 + g)), a12, a13, a14, a15] n3 = .ok (.nx [.val .drw, .val .att, m2, .val (.lst (nmL.map .str)), m4, .val (.int sp), .own (.lst (J ++ [jrow s (x - sp) (y - sp) h2])), .own (.lst Bs'), .val (.int i), .val (.str h2), .val (.int f), .val (.int (1 + g)), b12, b13, a14, a15]) (n3 + c) := by
    rcases hci with rfl | hi0
    · exact ⟨Bs, a12, a13, hB2, rfl, rfl⟩
    · exact in_loop (k := k + 1) (n := n3) hi0 hl2 (by omega) (by omega) c 0 Bs a12 a13 n3 (by omega) hB2 (by omega) (by omega)
  obtain ⟨Bs', b12, b13, hB3, hlb, e6⟩ := lp2
  refine ⟨J ++ [jrow s (x - sp) (y - sp) h2], Bs', .val (.str h2), .val (.int f), .val (.int (1 + g)), b12, b13, n3 + c, hJ.add jr, hl2, hB3, by omega, by omega, ?_⟩
  unfold outBody
  exact seq_nx (ex_set e1) (seq_nx e2 (seq_nx e3 (seq_nx (ex_set ef) (seq_nx (ex_set (ev_bop rfl eg (b_add _ _))) (seq_nx (ex_loop e5 e6) ex_skip)))))
end Kx

set_option Elab.async false
set_option linter.all false
set_option maxRecDepth 100000
set_option maxHeartbeats 1000000
set_option exponentiation.threshold 10000
/-! A10: a frame that the law makes. -/
namespace Kx
open Py PySem
variable {ds : List Int}
theorem out_loop {k : Nat} {m2 m4 a14 a15 : Slot} {sp : Int} (hsp : 1 ≤ sp ∧ sp ≤ 1000) : ∀ (c i : Nat) (J Bs : List D) (a8 a9 a10 a11 a12 a13 : Slot) (n : Nat), i + c ≤ 12 → J.length = i → JL J → BL J Bs → Bs.length ≤ 3 * i → n < 2 ^ 37 - 10 * c →
    ∃ J' Bs' b8 b9 b10 b11 b12 b13 n', JL J' ∧ J'.length = i + c ∧ BL J' Bs' ∧ Bs'.length ≤ 3 * (i + c) ∧ n' ≤ n + 10 * c ∧ forL (fun x env n => match (Tg.nm 8).bind x env with
      | some env => ex ((Q ds).tab (k + 1)) outBody env n
      | none => .bad) ((List.range' i c).map fun j => .int (j : Nat)) [.val .drw, .val .att, m2, .val (.lst (nmL.map .str)), m4, .val (.int sp), .own (.lst J), .own (.lst Bs), a8, a9, a10, a11, a12, a13, a14, a15] n = .ok (.nx [.val .drw, .val .att, m2, .val (.lst (nmL.map .str)), m4, .val (.int sp), .own (.lst J'), .own (.lst Bs'), b8, b9, b10, b11, b12, b13, a14, a15]) n'
  | 0, i, J, Bs, a8, a9, a10, a11, a12, a13, n, _, hl, hJ, hB, hb, _ => ⟨J, Bs, a8, a9, a10, a11, a12, a13, n, hJ, hl, hB, hb, by omega, rfl⟩
  | c + 1, i, J, Bs, a8, a9, a10, a11, a12, a13, n, hc, hl, hJ, hB, hb, hn => by
    obtain ⟨J1, Bs1, b9, b10, b11, b12, b13, n1, h1, h2, h3, h4, h5, h6⟩ := out_turn (ds := ds) (k := k) (n := n) (i := i) (m2 := m2) (m4 := m4) (a9 := a9) (a10 := a10) (a11 := a11) (a12 := a12) (a13 := a13) (a14 := a14) (a15 := a15) (by omega) hsp hl hJ hB (by omega) (by omega)
    obtain ⟨J2, Bs2, c8, c9, c10, c11, c12, c13, n2, g1, g2, g3, g4, g5, g6⟩ := out_loop (k := k) (m2 := m2) (m4 := m4) (a14 := a14) (a15 := a15) hsp c (i + 1) J1 Bs1 (.val (.int (i : Nat))) b9 b10 b11 b12 b13 n1 (by omega) h2 h1 h3 (by omega) (by omega)
    refine ⟨J2, Bs2, c8, c9, c10, c11, c12, c13, n2, g1, by omega, g3, by omega, by omega, ?_⟩
    rw [show List.range' i (c + 1) = i :: List.range' (i + 1) c from rfl, List.map_cons]
    exact forL_nx h6 g6
def moreBody : S := (.seq (.app 7 (.lst (.cons (.call i__law_one (.cons (.var 6) (.cons (.var 0) (.cons (.var 1) E.nil)))) (.cons (.call i__law_one (.cons (.var 6) (.cons (.var 0) (.cons (.var 1) E.nil)))) E.nil)))) S.skip)
theorem more_loop {k : Nat} {m2 m3 m4 m5 a8 a9 a10 a11 a13 a14 a15 : Slot} {J : List D} (hJ : J ≠ []) : ∀ (c i : Nat) (Bs : List D) (a12 : Slot) (n : Nat), BL J Bs → Bs.length + c ≤ 100 → n + 2 * c < 2 ^ 38 →
    ∃ Bs' b12, BL J Bs' ∧ Bs'.length = Bs.length + c ∧ forL (fun x env n => match (Tg.nm 12).bind x env with
      | some env => ex ((Q ds).tab (k + 1)) moreBody env n
      | none => .bad) ((List.range' i c).map fun j => .int (j : Nat)) [.val .drw, .val .att, m2, m3, m4, m5, .val (.lst J), .own (.lst Bs), a8, a9, a10, a11, a12, a13, a14, a15] n = .ok (.nx [.val .drw, .val .att, m2, m3, m4, m5, .val (.lst J), .own (.lst Bs'), a8, a9, a10, a11, b12, a13, a14, a15]) (n + 2 * c)
  | 0, i, Bs, a12, n, hB, _, _ => ⟨Bs, a12, hB, rfl, rfl⟩
  | c + 1, i, Bs, a12, n, hB, hb, hn => by
    obtain ⟨r, hr, e1⟩ := e_one (ds := ds) (k := k) (n := n) (d := 0) (a := 1) (env := [.val .drw, .val .att, m2, m3, m4, m5, .val (.lst J), .own (.lst Bs), a8, a9, a10, a11, .val (.int (i : Nat)), a13, a14, a15]) (e := .var 6) (l := J) rfl rfl rfl hJ (by omega)
    obtain ⟨s, hs, e2⟩ := e_one (ds := ds) (k := k) (n := n + 1) (d := 0) (a := 1) (env := [.val .drw, .val .att, m2, m3, m4, m5, .val (.lst J), .own (.lst Bs), a8, a9, a10, a11, .val (.int (i : Nat)), a13, a14, a15]) (e := .var 6) (l := J) rfl rfl rfl hJ (by omega)
    have hB2 : BL J (Bs ++ [.lst [r, s]]) := fun b hb => by
      rcases List.mem_append.mp hb with hb | hb
      · exact hB b hb
      · rw [List.mem_singleton] at hb
        exact ⟨r, s, hb, hr, hs⟩
    obtain ⟨Bs2, b12, g1, g2, g3⟩ := more_loop (k := k) (m2 := m2) (m3 := m3) (m4 := m4) (m5 := m5) (a8 := a8) (a9 := a9) (a10 := a10) (a11 := a11) (a13 := a13) (a14 := a14) (a15 := a15) hJ c (i + 1) (Bs ++ [.lst [r, s]]) (.val (.int (i : Nat))) (n + 2) hB2 (by simp; omega) (by omega)
    refine ⟨Bs2, b12, g1, by rw [g2]; simp; omega, ?_⟩
    rw [show List.range' i (c + 1) = i :: List.range' (i + 1) c from rfl, List.map_cons, show n + 2 * (c + 1) = n + 2 + 2 * c from by omega]
    refine forL_nx (m := n + 2) ?_ g3
    refine seq_nx (m := n + 2) ?_ ex_skip
    rw [ex]
    show ((ev ((Q ds).tab (k + 1)) _ [.val .drw, .val .att, m2, m3, m4, m5, .val (.lst J), .own (.lst Bs), a8, a9, a10, a11, .val (.int (i : Nat)), a13, a14, a15] n).bind fun d n => if Bs.length < LIM then _ else _) = _
    rw [ev_lst (evs_cons e1 (evs_cons e2 rfl)), Res.bind_ok, if_pos (by simp only [LIM]; omega)]
    rfl
/-- two rows at unlike places -/
def apart : D → Bool
  | .lst [.tup [_, x, y, _], .tup [_, u, v, _]] => !D.eq (.tup [x, y]) (.tup [u, v])
  | _ => false
def bn (t : Nat) : Str := ("b" : Str) ++ Str.ofString (toString (t : Int))
/-- a bar's row: its ends are rows of J at unlike places -/
def RR (J : List D) (t : Nat) (r : D) : Prop := ∃ (i j : Nat) (s1 : Str) (x1 y1 : Int) (h1 s2 : Str) (x2 y2 : Int) (h2 w : Str), J[i]? = some (jrow s1 x1 y1 h1) ∧ J[j]? = some (jrow s2 x2 y2 h2) ∧ ¬ (x1 = x2 ∧ y1 = y2) ∧ w ∈ sorts ∧ r = .tup [.str (bn t), .str s1, .str s2, .str w]
def RL (J R : List D) : Prop := ∀ t r, R[t]? = some r → RR J t r
theorem apart_of {J : List D} (hJ : JL J) {b : D} (h : ∃ r s, b = .lst [r, s] ∧ r ∈ J ∧ s ∈ J) : ∃ (i j : Nat) (s1 : Str) (x1 y1 : Int) (h1 s2 : Str) (x2 y2 : Int) (h2 : Str), J[i]? = some (jrow s1 x1 y1 h1) ∧ J[j]? = some (jrow s2 x2 y2 h2) ∧ b = .lst [jrow s1 x1 y1 h1, jrow s2 x2 y2 h2] ∧ apart b = !decide (x1 = x2 ∧ y1 = y2) := by
  obtain ⟨r, s, rfl, h1, h2⟩ := h
  obtain ⟨i, hi⟩ := List.getElem?_of_mem h1
  obtain ⟨j, hj⟩ := List.getElem?_of_mem h2
  obtain ⟨s1, x1, y1, k1, -, rfl, -⟩ := (hJ i r hi).ex
  obtain ⟨s2, x2, y2, k2, -, rfl, -⟩ := (hJ j s hj).ex
  refine ⟨i, j, s1, x1, y1, k1, s2, x2, y2, k2, hi, hj, rfl, ?_⟩
  show (!D.eq (.tup [.int x1, .int y1]) (.tup [.int x2, .int y2])) = _
  congr 1
  simp only [D.eq, D.eqs, Bool.and_true]
  by_cases a : x1 = x2 <;> by_cases b : y1 = y2 <;> simp [a, b]
theorem cut30 {α : Type} (l : List α) : (cutL l none (some 30)).length ≤ 30 ∧ ∀ x ∈ cutL l none (some 30), x ∈ l := by
  refine ⟨?_, fun x hx => List.mem_of_mem_drop (List.mem_of_mem_take hx)⟩
  unfold cutL
  rw [List.length_take, List.length_drop]
  have : HT.sIx l.length l.length (some 30) ≤ 30 := by
    unfold HT.sIx
    simp
    first | omega | skip
  omega
theorem row_comp {k : Nat} {m2 m3 m4 m5 m6 a8 a9 a10 a11 a12 a13 a15 : Slot} {J Bs : List D} {W : List Str} (hW : W ≠ []) (hw : ∀ w ∈ W, w ∈ sorts) (hJ : JL J) (hB : BL J Bs) (ha : ∀ b ∈ Bs, apart b = true) (hb : Bs.length ≤ 30) (n : Nat) (hn : n < 2 ^ 38) :
    ∃ R, RL J R ∧ R.length = Bs.length ∧ ev ((Q ds).tab (k + 1)) (.comp (.tup (.cons (.bop .Add (.cst (.str "b")) (.blt .str (.cons (.var 8) E.nil))) (.cons (.idx (.idx (.idx (.var 7) (.var 8)) (.cst (.int 0))) (.cst (.int 0))) (.cons (.idx (.idx (.idx (.var 7) (.var 8)) (.cst (.int 1))) (.cst (.int 0))) (.cons (.call i__law_one (.cons (.var 14) (.cons (.var 0) (.cons (.var 1) E.nil)))) E.nil))))) (.nm 8) (.rng1 (.blt .len (.cons (.var 7) E.nil))) .nil) [.val .drw, .val .att, m2, m3, m4, m5, m6, .val (.lst Bs), a8, a9, a10, a11, a12, a13, .val (.lst (W.map .str)), a15] n = .ok (.lst R) (n + Bs.length) := by
  have hev : evi ((Q ds).tab (k + 1)) (.rng1 (.blt .len (.cons (.var 7) E.nil))) [.val .drw, .val .att, m2, m3, m4, m5, m6, .val (.lst Bs), a8, a9, a10, a11, a12, a13, .val (.lst (W.map .str)), a15] n = .ok ((List.range Bs.length).map fun j => .int (j : Nat)) n := by
    rw [evi, ev_blt1 (x := .lst Bs) (a := .var 7) (r := .int (Bs.length : Nat)) (m := n) rfl (f_lenl Bs), Res.bind_ok]
    dsimp only
    rw [rng_some (by omega) (by omega), Int.toNat_natCast]; rfl
  have key := mapR_inv (f := compF ((Q ds).tab (k + 1)) (.tup (.cons (.bop .Add (.cst (.str "b")) (.blt .str (.cons (.var 8) E.nil))) (.cons (.idx (.idx (.idx (.var 7) (.var 8)) (.cst (.int 0))) (.cst (.int 0))) (.cons (.idx (.idx (.idx (.var 7) (.var 8)) (.cst (.int 1))) (.cst (.int 0))) (.cons (.call i__law_one (.cons (.var 14) (.cons (.var 0) (.cons (.var 1) E.nil)))) E.nil))))) (.nm 8) .nil [.val .drw, .val .att, m2, m3, m4, m5, m6, .val (.lst Bs), a8, a9, a10, a11, a12, a13, .val (.lst (W.map .str)), a15])
    (Q := fun l n' => RL J l ∧ l.length = Bs.length ∧ n' = n + Bs.length) (fun i acc n' => RL J acc ∧ acc.length = i ∧ n' = n + i) ((List.range Bs.length).map fun j => .int (j : Nat)) 0 [] n ⟨fun t r e => by simp at e, rfl, rfl⟩ (fun j x acc n' hj p => by
      obtain ⟨p1, p2, rfl⟩ := p
      rw [List.getElem?_map] at hj
      obtain ⟨j', hj', rfl⟩ := Option.map_eq_some_iff.mp hj
      have hlt : j < Bs.length := by
        have := (List.getElem?_eq_some_iff.mp hj').1
        simpa using this
      have : j' = j := by rw [List.getElem?_range hlt] at hj'; exact (Option.some.inj hj').symm
      subst this
      have hbj : Bs[j']? = some Bs[j'] := List.getElem?_eq_getElem hlt
      have mb : Bs[j'] ∈ Bs := List.getElem_mem hlt
      obtain ⟨i1, i2, s1, x1, y1, h1, s2, x2, y2, h2, q1, q2, q3, q4⟩ := apart_of hJ (hB _ mb)
      have q5 := ha _ mb
      rw [q4] at q5
      rw [q3] at hbj
      obtain ⟨w, hw1, ew⟩ := e_oneS (ds := ds) (k := k) (n := n + (0 + j')) (d := 0) (a := 1) (env := [.val .drw, .val .att, m2, m3, m4, m5, m6, .val (.lst Bs), .val (.int (j' : Nat)), a9, a10, a11, a12, a13, .val (.lst (W.map .str)), a15]) (e := .var 14) (l := W) rfl rfl rfl hW (by omega)
      have e7 : ev ((Q ds).tab (k + 1)) (.idx (.var 7) (.var 8)) [.val .drw, .val .att, m2, m3, m4, m5, m6, .val (.lst Bs), .val (.int (j' : Nat)), a9, a10, a11, a12, a13, .val (.lst (W.map .str)), a15] (n + (0 + j')) = .ok (.lst [jrow s1 x1 y1 h1, jrow s2 x2 y2 h2]) (n + (0 + j')) := ev_idx (x := .lst Bs) (y := .int (j' : Nat)) rfl rfl (at_nat hbj)
      have es : bltV .str [.int (j' : Nat)] = some (.str (Str.ofString (toString ((j' : Nat) : Int)))) := by
        show (if ((j' : Nat) : Int).natAbs.log2 < 1920 then _ else none) = _
        rw [if_pos]
        rw [Int.natAbs_natCast]
        exact Nat.lt_of_le_of_lt (Nat.log2_le_self _) (by omega)
      have eb : binV .Add (.str "b") (.str (Str.ofString (toString ((j' : Nat) : Int)))) = some (.str (bn j')) := by
        show (if ("b" : Str).length + (Str.ofString (toString ((j' : Nat) : Int))).length ≤ LIM then _ else none) = _
        rw [if_pos]; · rfl
        have : (Str.ofString (toString ((j' : Nat) : Int))).length ≤ 40 := by
          have h30 : ∀ t : Nat, t < 30 → (Str.ofString (toString ((t : Nat) : Int))).length ≤ 40 := by decide +kernel
          exact h30 j' (by omega)
        have : ("b" : Str).length = 1 := by decide
        simp only [LIM]; omega
      have full : ev ((Q ds).tab (k + 1)) (.tup (.cons (.bop .Add (.cst (.str "b")) (.blt .str (.cons (.var 8) E.nil))) (.cons (.idx (.idx (.idx (.var 7) (.var 8)) (.cst (.int 0))) (.cst (.int 0))) (.cons (.idx (.idx (.idx (.var 7) (.var 8)) (.cst (.int 1))) (.cst (.int 0))) (.cons (.call i__law_one (.cons (.var 14) (.cons (.var 0) (.cons (.var 1) E.nil)))) E.nil))))) [.val .drw, .val .att, m2, m3, m4, m5, m6, .val (.lst Bs), .val (.int (j' : Nat)), a9, a10, a11, a12, a13, .val (.lst (W.map .str)), a15] (n + (0 + j')) = .ok (.tup [.str (bn j'), .str s1, .str s2, .str w]) (n + (0 + j') + 1) :=
        ev_tup (evs_cons (ev_bop (x := .str "b") rfl (ev_blt1 (x := .int (j' : Nat)) rfl es) eb) (evs_cons (ev_idx (y := .int 0) (ev_idx (y := .int 0) e7 rfl (at_0 _ _)) rfl (show idxV (jrow s1 x1 y1 h1) (.int 0) = some (.str s1) from at_0 _ _)) (evs_cons (ev_idx (y := .int 0) (ev_idx (y := .int 1) e7 rfl (at_1 _ _ _)) rfl (show idxV (jrow s2 x2 y2 h2) (.int 0) = some (.str s2) from at_0 _ _)) (evs_cons ew rfl))))
      refine P_of_eq (a := some (.tup [.str (bn j'), .str s1, .str s2, .str w])) (n := n + (0 + j') + 1) ?_ ⟨?_, ?_, by omega⟩
      · unfold compF
        show ((tv ((Q ds).tab (k + 1)) .nil _ _).bind _) = _
        rw [tv, Res.bind_ok, if_pos rfl]
        show ((ev ((Q ds).tab (k + 1)) _ [.val .drw, .val .att, m2, m3, m4, m5, m6, .val (.lst Bs), .val (.int (j' : Nat)), a9, a10, a11, a12, a13, .val (.lst (W.map .str)), a15] (n + (0 + j'))).bind _) = _
        rw [full]; rfl
      · intro t r hr
        show RR J t r
        have hr : (acc ++ [D.tup [.str (bn j'), .str s1, .str s2, .str w]])[t]? = some r := hr
        rcases Nat.lt_trichotomy t acc.length with c | c | c
        · rw [List.getElem?_append_left c] at hr; exact p1 t r hr
        · subst c
          rw [List.getElem?_append_right (Nat.le_refl _), Nat.sub_self] at hr
          cases hr
          refine ⟨i1, i2, s1, x1, y1, h1, s2, x2, y2, h2, w, q1, q2, ?_, hw w hw1, ?_⟩
          · intro z; rw [decide_eq_true z] at q5; cases q5
          · rw [p2, Nat.zero_add]
        · rw [List.getElem?_eq_none (by simp; omega)] at hr; cases hr
      · simp [p2]) (fun l n' p => by
      obtain ⟨p1, p2, p3⟩ := p
      rw [List.length_map, List.length_range] at p2 p3
      exact ⟨p1, by omega, by omega⟩)
  obtain ⟨R, n', e, h1, h2, h3⟩ := key.out
  simp only [List.nil_append] at h1 h2
  refine ⟨R, h1, h2, ?_⟩
  rw [ev_comp, hev, Res.bind_ok, e, Res.quiet_ok, Res.bind_ok, h3]
end Kx

set_option Elab.async false
set_option linter.all false
set_option maxRecDepth 100000
set_option maxHeartbeats 1000000
set_option exponentiation.threshold 10000
/-! A11: such a frame is right. -/
namespace Kx
open Py PySem
variable {ds : List Int}
theorem nm_nodup : nmL.Nodup := by decide +kernel
theorem nm_ok : ∀ s ∈ nmL, nameS s = true := by decide +kernel
theorem nm_len : ∀ s ∈ nmL, s.length ≤ 12 := by decide +kernel
theorem bn_ok : ∀ t : Nat, t < 30 → nameS (bn t) = true ∧ (bn t).length ≤ 12 := by decide +kernel
theorem bn_inj : ∀ t : Nat, t < 30 → ∀ u : Nat, u < 30 → bn t = bn u → t = u := by decide +kernel
theorem word_len : ∀ s ∈ holdW ++ sorts, s.length ≤ 12 := by decide +kernel
theorem nm_inj {i j : Nat} {s : Str} (h1 : nmL[i]? = some s) (h2 : nmL[j]? = some s) : i = j := by
  obtain ⟨l1, e1⟩ := List.getElem?_eq_some_iff.mp h1
  obtain ⟨l2, e2⟩ := List.getElem?_eq_some_iff.mp h2
  exact (List.getElem_inj nm_nodup).mp (e1.trans e2.symm)
theorem anyS_of {l : List Str} {s : Str} (h : s ∈ l) : anyS l (.str s) = true := by
  show (l.any fun y => y == s) = true
  rw [List.any_eq_true]; exact ⟨s, h, by simp⟩
theorem inR_of {x : Int} (h : -1000 ≤ x ∧ x ≤ 1000) : inR (.int x) (-1000) 1000 = true := by
  show (decide _ && decide _) = true
  rw [decide_eq_true h.1, decide_eq_true h.2]; rfl
theorem hasK_false {ks : List L2.Key} {k : L2.Key} (h : k ∉ ks) : hasK ks k = false := by
  unfold hasK
  rw [List.any_eq_false]
  intro x hx
  rw [decide_eq_true_eq]
  exact fun e => h (e ▸ hx)
theorem hasK_true {ks : List L2.Key} {k : L2.Key} (h : k ∈ ks) : hasK ks k = true := by
  unfold hasK
  rw [List.any_eq_true]
  exact ⟨k, h, by simp⟩
/-- the joints' keys are unlike -/
theorem keys_new {J pre suf : List D} {r : D} (hJ : JL J) (e : J = pre ++ r :: suf) : keyR r ∉ pre.map keyR := by
  intro m
  obtain ⟨q, hq, eq⟩ := List.mem_map.mp m
  obtain ⟨i, hi⟩ := List.getElem?_of_mem hq
  have li : i < pre.length := (List.getElem?_eq_some_iff.mp hi).1
  have h1 : J[i]? = some q := by rw [e, List.getElem?_append_left li]; exact hi
  have h2 : J[pre.length]? = some r := by rw [e, List.getElem?_append_right (Nat.le_refl _), Nat.sub_self]; rfl
  obtain ⟨s1, x1, y1, k1, a1, rfl, -⟩ := (hJ _ _ h1).ex
  obtain ⟨s2, x2, y2, k2, a2, rfl, -⟩ := (hJ _ _ h2).ex
  have : s1 = s2 := by injection eq
  subst this
  have := nm_inj a1 a2
  omega
theorem run_J {J : List D} (hJ : JL J) : ∀ (suf pre : List D), J = pre ++ suf → jRun suf (pre.map keyR) (pre.map plR) = (none, J.map keyR, J.map plR)
  | [], pre, e => by rw [List.append_nil] at e; subst e; rfl
  | r :: suf, pre, e => by
    have h2 : J[pre.length]? = some r := by rw [e, List.getElem?_append_right (Nat.le_refl _), Nat.sub_self]; rfl
    have kn := keys_new hJ e
    obtain ⟨s, x, y, h, a, rfl, b1, b2, b3⟩ := (hJ _ _ h2).ex
    have er : jErr (pre.map keyR) (jrow s x y h) = none := by
      unfold jrow
      rw [jErr_eq]
      have n1 : nameD (.str s) = true := nm_ok s (List.mem_of_getElem? a)
      have n2 : inK (pre.map keyR) (.str s) = false := hasK_false kn
      rw [n1, n2, inR_of b1, inR_of b2, anyS_of b3]; rfl
    rw [jRun, er]
    show jRun suf (pre.map keyR ++ [keyR (jrow s x y h)]) (pre.map plR ++ [plR (jrow s x y h)]) = _
    have := run_J hJ suf (pre ++ [jrow s x y h]) (by rw [e]; simp)
    rw [List.map_append, List.map_append] at this
    exact this
theorem dlook_J : ∀ (J : List D) (i : Nat) (r : D), (J.map keyR).Nodup → J[i]? = some r → dlook (J.map keyR) (J.map plR) (keyR r) = some (plR r)
  | [], i, r, _, e => by simp at e
  | a :: J, 0, r, _, e => by
    cases e
    rw [List.map_cons, List.map_cons, dlook, if_pos rfl]
  | a :: J, i + 1, r, nd, e => by
    rw [List.map_cons, List.nodup_cons] at nd
    have e : J[i]? = some r := by simpa using e
    have ne : ¬ keyR a = keyR r := fun q => nd.1 (by rw [q]; exact List.mem_map_of_mem (List.mem_of_getElem? e))
    rw [List.map_cons, List.map_cons, dlook, if_neg ne]
    exact dlook_J J i r nd.2 e
theorem keys_nodup {J : List D} (hJ : JL J) : ∀ (suf pre : List D), J = pre ++ suf → (pre.map keyR).Nodup → (J.map keyR).Nodup
  | [], pre, e, h => by rw [List.append_nil] at e; subst e; exact h
  | r :: suf, pre, e, h => by
    refine keys_nodup hJ suf (pre ++ [r]) (by rw [e]; simp) ?_
    rw [List.map_append, List.nodup_append]
    refine ⟨h, by simp, fun a ha b hb => ?_⟩
    rw [List.map_cons, List.map_nil, List.mem_singleton] at hb
    subst hb
    exact fun q => keys_new hJ e (q ▸ ha)
theorem run_B {J R : List D} (hJ : JL J) (hR : RL J R) (h30 : R.length ≤ 30) : ∀ (suf pre : List D), R = pre ++ suf → bRun suf (pre.map keyR) (J.map keyR) (J.map plR) = none
  | [], pre, e => rfl
  | r :: suf, pre, e => by
    have h2 : R[pre.length]? = some r := by rw [e, List.getElem?_append_right (Nat.le_refl _), Nat.sub_self]; rfl
    have hlt : pre.length < R.length := (List.getElem?_eq_some_iff.mp h2).1
    obtain ⟨i, j, s1, x1, y1, h1, s2, x2, y2, k2, w, a1, a2, a3, a4, rfl⟩ := hR _ _ h2
    have kn : (Sum.inr (bn pre.length) : L2.Key) ∉ pre.map keyR := by
      intro m
      obtain ⟨q, hq, eq⟩ := List.mem_map.mp m
      obtain ⟨t, ht⟩ := List.getElem?_of_mem hq
      have lt : t < pre.length := (List.getElem?_eq_some_iff.mp ht).1
      have ht2 : R[t]? = some q := by rw [e, List.getElem?_append_left lt]; exact ht
      obtain ⟨_, _, _, _, _, _, _, _, _, _, _, _, _, _, _, rfl⟩ := hR _ _ ht2
      have : bn t = bn pre.length := by injection eq
      have := bn_inj t (by omega) pre.length (by omega) this
      omega
    have nd := keys_nodup hJ J [] rfl .nil
    have d1 := dlook_J J i _ nd a1
    have d2 := dlook_J J j _ nd a2
    have er : bErr (pre.map keyR) (J.map keyR) (J.map plR) (.tup [.str (bn pre.length), .str s1, .str s2, .str w]) = none := by
      rw [bErr_eq]
      have n1 : nameD (.str (bn pre.length)) = true := (bn_ok _ (by omega)).1
      have n2 : inK (pre.map keyR) (.str (bn pre.length)) = false := hasK_false kn
      have n3 : inK (J.map keyR) (.str s1) = true := hasK_true (List.mem_map_of_mem (f := keyR) (List.mem_of_getElem? a1))
      have n4 : inK (J.map keyR) (.str s2) = true := hasK_true (List.mem_map_of_mem (f := keyR) (List.mem_of_getElem? a2))
      have l1 : lk (J.map keyR) (J.map plR) (.str s1) = .tup [.int x1, .int y1] := by
        show (dlook _ _ (.inr s1)).getD .non = _
        rw [show (Sum.inr s1 : L2.Key) = keyR (jrow s1 x1 y1 h1) from rfl, d1]; rfl
      have l2 : lk (J.map keyR) (J.map plR) (.str s2) = .tup [.int x2, .int y2] := by
        show (dlook _ _ (.inr s2)).getD .non = _
        rw [show (Sum.inr s2 : L2.Key) = keyR (jrow s2 x2 y2 k2) from rfl, d2]; rfl
      have ne : D.eq (.tup [.int x1, .int y1]) (.tup [.int x2, .int y2]) = false := by
        simp only [D.eq, D.eqs, Bool.and_true]
        by_cases q1 : x1 = x2
        · by_cases q2 : y1 = y2
          · exact absurd ⟨q1, q2⟩ a3
          · simp [q2]
        · simp [q1]
      rw [n1, n2, n3, n4, l1, l2, ne, anyS_of a4]; rfl
    rw [bRun, er]
    show bRun suf (pre.map keyR ++ [keyR (.tup [.str (bn pre.length), .str s1, .str s2, .str w])]) _ _ = _
    have := run_B hJ hR h30 suf (pre ++ [.tup [.str (bn pre.length), .str s1, .str s2, .str w]]) (by rw [e]; simp)
    rw [List.map_append] at this
    exact this
theorem all_get {l : List D} {g : D → Bool} (h : ∀ (t : Nat) r, l[t]? = some r → g r = true) : l.all g = true := by
  rw [List.all_eq_true]
  intro r hr
  obtain ⟨t, ht⟩ := List.getElem?_of_mem hr
  exact h t r ht
theorem okDs_get {l : List D} (h : ∀ (t : Nat) r, l[t]? = some r → okD r = true) : okDs l = true := by
  rw [okDs_iff]
  intro r hr
  obtain ⟨t, ht⟩ := List.getElem?_of_mem hr
  exact h t r ht
theorem ok_str {s : Str} (h : s.length ≤ 12) : okD (.str s) = true := by rw [okD, decide_eq_true_eq]; omega
theorem ok_frame {J R : List D} (hJ : JL J) (h2 : J.length ≤ 12) (hR : RL J R) (h30 : R.length ≤ 30) : okD (.tup [.tup J, .tup R]) = true := by
  have oj : okDs J = true := okDs_get fun t r hr => by
    obtain ⟨s, x, y, h, a, rfl, b1, b2, b3⟩ := (hJ t r hr).ex
    simp only [jrow, okD, okDs, Bool.and_true, Bool.true_and, Bool.and_eq_true, decide_eq_true_eq, List.length_cons, List.length_nil]
    have := nm_len s (List.mem_of_getElem? a)
    have := word_len h (List.mem_append.mpr (.inl b3))
    omega
  have ob : okDs R = true := okDs_get fun t r hr => by
    have hlt : t < R.length := (List.getElem?_eq_some_iff.mp hr).1
    obtain ⟨i, j, s1, x1, y1, h1, s2, x2, y2, k2, w, a1, a2, a3, a4, rfl⟩ := hR t r hr
    obtain ⟨_, _, _, _, c1, e1, -⟩ := (hJ _ _ a1).ex
    obtain ⟨_, _, _, _, c2, e2, -⟩ := (hJ _ _ a2).ex
    injection e1 with e1; injection e1 with e1; injection e1 with e1
    injection e2 with e2; injection e2 with e2; injection e2 with e2
    subst e1 e2
    simp only [okD, okDs, Bool.and_true, Bool.true_and, Bool.and_eq_true, decide_eq_true_eq, List.length_cons, List.length_nil]
    have := (bn_ok t (by omega)).2
    have := nm_len _ (List.mem_of_getElem? c1)
    have := nm_len _ (List.mem_of_getElem? c2)
    have := word_len w (List.mem_append.mpr (.inr a4))
    omega
  simp only [okD, okDs, oj, ob, Bool.and_true, Bool.and_eq_true, decide_eq_true_eq, List.length_cons, List.length_nil]
  omega
theorem due_frame {J R : List D} (hJ : JL J) (h1 : 1 ≤ J.length) (h2 : J.length ≤ 12) (hR : RL J R) (h30 : R.length ≤ 30) : dueM (.tup [.tup J, .tup R]) = none := by
  have f : formOk (.tup [.tup J, .tup R]) = true := by
    show (J.all row4 && R.all row4) = true
    rw [all_get (g := row4) (l := J) (fun t r hr => by obtain ⟨s, x, y, h, a, rfl, -⟩ := (hJ t r hr).ex; rfl), all_get (g := row4) (l := R) (fun t r hr => by obtain ⟨_, _, _, _, _, _, _, _, _, _, _, _, _, _, _, rfl⟩ := hR t r hr; rfl)]
    rfl
  unfold dueM
  rw [if_neg (by rw [f]; simp)]
  have m : (decide (1 ≤ J.length) && decide (J.length ≤ 12) && decide (R.length ≤ 30)) = true := by simp [h1, h2, h30]
  show (if _ then _ else _) = _
  rw [if_neg (by rw [m]; simp)]
  have e1 := run_J hJ J [] rfl
  have e1 : jRun J [] [] = (none, J.map keyR, J.map plR) := e1
  rw [e1]
  exact run_B hJ hR h30 R [] rfl
end Kx

set_option Elab.async false
set_option linter.all false
set_option maxRecDepth 100000
set_option maxHeartbeats 1000000
set_option exponentiation.threshold 10000
/-! A12: _law_frame. -/
namespace Kx
open Py PySem
variable {ds : List Int}
/-- a frame as the law makes it -/
structure LF (most : Int) (d : D) : Prop where
  ex : ∃ J R, d = .tup [.tup J, .tup R] ∧ JL J ∧ RL J R ∧ 1 ≤ J.length ∧ (J.length : Int) ≤ most ∧ R.length ≤ 30
theorem filter_apart {J Bs : List D} (hJ : JL J) (hB : BL J Bs) : ∀ b ∈ Bs.filter apart, apart b = true ∧ ∃ r s, b = .lst [r, s] ∧ r ∈ J ∧ s ∈ J := fun b hb => by
  rw [List.mem_filter] at hb
  exact ⟨hb.2, hB b hb.1⟩
theorem apart_tv {k n : Nat} {J : List D} {b : D} {env : Py.Env} (hJ : JL J) (h : ∃ r s, b = .lst [r, s] ∧ r ∈ J ∧ s ∈ J) (hs : slot env 13 = .val b) : tv ((Q ds).tab k) (.tru (.cmp .NotEq (.slc (.idx (.var 13) (.cst (.int 0))) (.opt (.cst (.int 1))) (.opt (.cst (.int 3)))) (.slc (.idx (.var 13) (.cst (.int 1))) (.opt (.cst (.int 1))) (.opt (.cst (.int 3)))))) env n = .ok (apart b) n := by
  obtain ⟨i, j, s1, x1, y1, h1, s2, x2, y2, h2, -, -, rfl, -⟩ := apart_of hJ h
  have e0 : ev ((Q ds).tab k) (.slc (.idx (.var 13) (.cst (.int 0))) (.opt (.cst (.int 1))) (.opt (.cst (.int 3)))) env n = .ok (.tup [.int x1, .int y1]) n := by
    rw [ev, ev, ev, hs]; rfl
  have e1 : ev ((Q ds).tab k) (.slc (.idx (.var 13) (.cst (.int 1))) (.opt (.cst (.int 1))) (.opt (.cst (.int 3)))) env n = .ok (.tup [.int x2, .int y2]) n := by
    rw [ev, ev, ev, hs]; rfl
  refine tv_tru (x := .bl _) (ev_cmp e0 e1 ?_) rfl
  rw [c_ne]
  unfold eqV
  rw [if_pos (by simp [D.pl, D.pls, D.dep, D.deps])]
  rfl
theorem q_law_frame {k n : Nat} {most : Int} (h1 : 1 ≤ most ∧ most ≤ 12) (hn : n < 2 ^ 36) : ∃ d n', LF most d ∧ n' ≤ n + 200 ∧ (Q ds).fn (k + 2) i__law_frame [.drw, .att, .int most] n = .ok d n' := by
  obtain ⟨c, c0, c1, ec⟩ := tk (T := (Q ds).tab (k + 1)) (n := n) (i := 0) (j := 1) (env := [.val .drw, .val .att, .val (.int most), .val (.lst (nmL.map .str)), .no, .no, .no, .no, .no, .no, .no, .no, .no, .no, .no, .no]) (m := .var 2) rfl rfl rfl (by omega) (by omega)
  obtain ⟨sp, hsp, es⟩ := e_oneI (ds := ds) (k := k) (n := n + 1) (d := 0) (a := 1) (env := [.val .drw, .val .att, .val (.int most), .val (.lst (nmL.map .str)), .val (.int (1 + c)), .no, .no, .no, .no, .no, .no, .no, .no, .no, .no, .no]) (e := (.lst (.cons (.cst (.int 2)) (.cons (.cst (.int 3)) (.cons (.cst (.int 8)) (.cons (.cst (.int 40)) (.cons (.cst (.int 1000)) E.nil))))))) (l := [2, 3, 8, 40, 1000]) rfl rfl rfl (by simp) (by omega)
  have hsp : 1 ≤ sp ∧ sp ≤ 1000 := by
    simp only [List.mem_cons, List.not_mem_nil, or_false] at hsp
    omega
  obtain ⟨J, Bs, b8, b9, b10, b11, b12, b13, n1, hJ, hl, hB, hb, hn1, e1⟩ := out_loop (ds := ds) (k := k) (m2 := .val (.int most)) (m4 := .val (.int (1 + c))) (a14 := .no) (a15 := .no) hsp (1 + c).toNat 0 [] [] .no .no .no .no .no .no (n + 2) (by omega) rfl (fun t r e => by simp at e) (fun b hb => by simp at hb) (by simp) (by omega)
  have l1 : evi ((Q ds).tab (k + 1)) (.rng1 (.var 4)) [.val .drw, .val .att, .val (.int most), .val (.lst (nmL.map .str)), .val (.int (1 + c)), .val (.int sp), .own (.lst []), .own (.lst []), .no, .no, .no, .no, .no, .no, .no, .no] (n + 2) = .ok ((List.range' 0 (1 + c).toNat).map fun j => .int (j : Nat)) (n + 2) := by
    rw [evi]
    show (Res.of (rngV 0 (1 + c)) (n + 2)) = _
    rw [rng_some (by omega) (by omega), range_map]; rfl
  have hJn : J ≠ [] := fun e => by rw [e] at hl; simp at hl; omega
  -- more bars
  obtain ⟨v, hv, e2⟩ := e_oneI (ds := ds) (k := k) (n := n1) (d := 0) (a := 1) (env := [.val .drw, .val .att, .val (.int most), .val (.lst (nmL.map .str)), .val (.int (1 + c)), .val (.int sp), .val (.lst J), .own (.lst Bs), b8, b9, b10, b11, b12, b13, .no, .no]) (e := (.lst (.cons (.cst (.int 0)) (.cons (.cst (.int 0)) (.cons (.cst (.int 1)) (.cons (.cst (.int 2)) (.cons (.cst (.int 5)) E.nil))))))) (l := [0, 0, 1, 2, 5]) rfl rfl rfl (by simp) (by omega)
  have hv : 0 ≤ v ∧ v ≤ 5 := by
    simp only [List.mem_cons, List.not_mem_nil, or_false] at hv
    omega
  have l2 : evi ((Q ds).tab (k + 1)) (.rng1 (.call i__law_one (.cons (.lst (.cons (.cst (.int 0)) (.cons (.cst (.int 0)) (.cons (.cst (.int 1)) (.cons (.cst (.int 2)) (.cons (.cst (.int 5)) E.nil)))))) (.cons (.var 0) (.cons (.var 1) E.nil))))) [.val .drw, .val .att, .val (.int most), .val (.lst (nmL.map .str)), .val (.int (1 + c)), .val (.int sp), .val (.lst J), .own (.lst Bs), b8, b9, b10, b11, b12, b13, .no, .no] n1 = .ok ((List.range' 0 v.toNat).map fun j => .int (j : Nat)) (n1 + 1) := by
    rw [evi, e2, Res.bind_ok]
    dsimp only
    rw [rng_some (by omega) (by omega), range_map]; rfl
  obtain ⟨Bs2, c12, hB2, hb2, e3⟩ := more_loop (ds := ds) (k := k) (m2 := .val (.int most)) (m3 := .val (.lst (nmL.map .str))) (m4 := .val (.int (1 + c))) (m5 := .val (.int sp)) (a8 := b8) (a9 := b9) (a10 := b10) (a11 := b11) (a13 := b13) (a14 := .no) (a15 := .no) hJn v.toNat 0 Bs b12 (n1 + 1) hB (by omega) (by omega)
  have fa := filter_apart hJ hB2
  have e4 : ev ((Q ds).tab (k + 1)) (.slc (.comp (.var 13) (.nm 13) (.seq (.var 7)) (.tru (.cmp .NotEq (.slc (.idx (.var 13) (.cst (.int 0))) (.opt (.cst (.int 1))) (.opt (.cst (.int 3)))) (.slc (.idx (.var 13) (.cst (.int 1))) (.opt (.cst (.int 1))) (.opt (.cst (.int 3))))))) .nil (.opt (.cst (.int 30)))) [.val .drw, .val .att, .val (.int most), .val (.lst (nmL.map .str)), .val (.int (1 + c)), .val (.int sp), .val (.lst J), .val (.lst Bs2), b8, b9, b10, b11, c12, b13, .no, .no] (n1 + 1 + 2 * v.toNat) = .ok (.lst (cutL (Bs2.filter apart) none (some 30))) (n1 + 1 + 2 * v.toNat) := by
    rw [ev, comp_filter (g := apart) (xs := Bs2) (i := 13) (it := .seq (.var 7)) rfl (by simp) (fun b hb => apart_tv hJ (hB2 b hb) rfl)]
    rfl
  obtain ⟨q30, qm⟩ := cut30 (Bs2.filter apart)
  generalize cutL (Bs2.filter apart) none (some 30) = B3 at e4 q30 qm
  -- turned round
  obtain ⟨q, q0, q1, eq⟩ := tk (T := (Q ds).tab (k + 1)) (n := n1 + 1 + 2 * v.toNat) (i := 0) (j := 1) (env := [.val .drw, .val .att, .val (.int most), .val (.lst (nmL.map .str)), .val (.int (1 + c)), .val (.int sp), .val (.lst J), .val (.lst B3), b8, b9, b10, b11, c12, b13, .no, .no]) (m := .cst (.int 3)) rfl rfl rfl (by decide) (by omega)
  have t5 : tv ((Q ds).tab (k + 1)) (.tru (.cmp .Eq (.take 0 1 (.cst (.int 3))) (.cst (.int 0)))) [.val .drw, .val .att, .val (.int most), .val (.lst (nmL.map .str)), .val (.int (1 + c)), .val (.int sp), .val (.lst J), .val (.lst B3), b8, b9, b10, b11, c12, b13, .no, .no] (n1 + 1 + 2 * v.toNat) = .ok (q == 0) (n1 + 1 + 2 * v.toNat + 1) := tv_tru (ev_cmp eq rfl (by rw [c_eq, e_int])) rfl
  have st5 : ∃ B4, (∀ b ∈ B4, b ∈ Bs2.filter apart) ∧ B4.length ≤ 30 ∧ ex ((Q ds).tab (k + 1)) (.ite (.tru (.cmp .Eq (.take 0 1 (.cst (.int 3))) (.cst (.int 0)))) (.seq (.set 7 (.rev (.var 7))) S.skip) S.skip) [.val .drw, .val .att, .val (.int most), .val (.lst (nmL.map .str)), .val (.int (1 + c)), .val (.int sp), .val (.lst J), .val (.lst B3), b8, b9, b10, b11, c12, b13, .no, .no] (n1 + 1 + 2 * v.toNat) = .ok (.nx [.val .drw, .val .att, .val (.int most), .val (.lst (nmL.map .str)), .val (.int (1 + c)), .val (.int sp), .val (.lst J), .val (.lst B4), b8, b9, b10, b11, c12, b13, .no, .no]) (n1 + 1 + 2 * v.toNat + 1) := by
    cases hq : q == 0 with
    | true =>
      rw [hq] at t5
      exact ⟨B3.reverse, fun b hb => qm b (by simpa using hb), by rw [List.length_reverse]; exact q30, ite_t t5 (seq_nx (ex_set (x := .lst B3.reverse) (m := n1 + 1 + 2 * v.toNat + 1) rfl) ex_skip)⟩
    | false =>
      rw [hq] at t5
      exact ⟨B3, qm, q30, ite_f t5 ex_skip⟩
  obtain ⟨B4, hm4, h30, e5⟩ := st5
  have h4 : ∀ b ∈ B4, apart b = true ∧ ∃ r s, b = .lst [r, s] ∧ r ∈ J ∧ s ∈ J := fun b hb => fa b (hm4 b hb)
  -- the sorts
  obtain ⟨W, hW, e6⟩ := e_one (ds := ds) (k := k) (n := n1 + 1 + 2 * v.toNat + 1) (d := 0) (a := 1) (env := [.val .drw, .val .att, .val (.int most), .val (.lst (nmL.map .str)), .val (.int (1 + c)), .val (.int sp), .val (.lst J), .val (.lst B4), b8, b9, b10, b11, c12, b13, .no, .no]) (e := (.lst (.cons (.lst (.cons (.cst (.str "bar")) E.nil)) (.cons (.lst (.cons (.cst (.str "bar")) (.cons (.cst (.str "bar")) (.cons (.cst (.str "rope")) (.cons (.cst (.str "strut")) E.nil))))) (.cons (.lst (.cons (.cst (.str "rope")) (.cons (.cst (.str "strut")) E.nil))) (.cons (.lst (.cons (.cst (.str "rope")) (.cons (.cst (.str "rope")) (.cons (.cst (.str "bar")) E.nil)))) E.nil)))))) (l := [.lst ((["bar"] : List Str).map .str), .lst ((["bar", "bar", "rope", "strut"] : List Str).map .str), .lst ((["rope", "strut"] : List Str).map .str), .lst ((["rope", "rope", "bar"] : List Str).map .str)]) rfl rfl rfl (by simp) (by omega)
  have hW2 : ∃ w : List Str, W = .lst (w.map .str) ∧ w ≠ [] ∧ ∀ x ∈ w, x ∈ sorts := by
    simp only [List.mem_cons, List.not_mem_nil, or_false] at hW
    rcases hW with h | h | h | h
    · exact ⟨["bar"], h, by simp, by simp⟩
    · exact ⟨["bar", "bar", "rope", "strut"], h, by simp, by simp⟩
    · exact ⟨["rope", "strut"], h, by simp, by simp⟩
    · exact ⟨["rope", "rope", "bar"], h, by simp, by simp⟩
  obtain ⟨w, rfl, hw, hws⟩ := hW2
  obtain ⟨R, hR, hRl, e7⟩ := row_comp (ds := ds) (k := k) (m2 := .val (.int most)) (m3 := .val (.lst (nmL.map .str))) (m4 := .val (.int (1 + c))) (m5 := .val (.int sp)) (m6 := .val (.lst J)) (a8 := b8) (a9 := b9) (a10 := b10) (a11 := b11) (a12 := c12) (a13 := b13) (a15 := .no) hw hws hJ (fun b hb => (h4 b hb).2) (fun b hb => (h4 b hb).1) h30 (n1 + 1 + 2 * v.toNat + 1 + 1) (by omega)
  refine ⟨.tup [.tup J, .tup R], _, ⟨J, R, rfl, hJ, hR, by omega, by omega, by omega⟩, ?_, run_f (d := d__law_frame) rfl (run_ret' rfl (m := n1 + 1 + 2 * v.toNat + 1 + 1 + B4.length) ?_)⟩
  · omega
  show ex ((Q ds).tab (k + 1)) d__law_frame.body [.val .drw, .val .att, .val (.int most), .no, .no, .no, .no, .no, .no, .no, .no, .no, .no, .no, .no, .no] n = _
  unfold d__law_frame
  exact seq_nx (ex_set (x := .lst (nmL.map .str)) (m := n) rfl) (seq_nx (ex_set (ev_bop rfl ec (b_add _ _))) (seq_nx (ex_set es) (seq_nx (m := n + 2) rfl (seq_nx (m := n + 2) rfl (seq_nx (ex_loop l1 e1) (seq_nx (m := n1) rfl (seq_nx (ex_loop l2 e3) (seq_nx (m := n1 + 1 + 2 * v.toNat) rfl (seq_nx (ex_set e4) (seq_nx e5 (seq_nx (ex_set e6) (seq_nx (ex_set e7) (seq_rt (ex_ret (ev_tup (evs_cons (ev_blt1 (x := .lst J) (r := .tup J) rfl rfl) (evs_cons (ev_blt1 (x := .lst R) (r := .tup R) rfl rfl) rfl)))))))))))))))))
end Kx

set_option Elab.async false
set_option linter.all false
set_option maxRecDepth 100000
set_option maxHeartbeats 1000000
set_option exponentiation.threshold 10000
/-! B1: k78: frames that are wrong. -/
namespace Kx
open Py PySem
variable {ds : List Int}
theorem jRun_app : ∀ (pre suf : List D) (ks : List L2.Key) (vs : List D) (ks' : List L2.Key) (vs' : List D), jRun pre ks vs = (none, ks', vs') → jRun (pre ++ suf) ks vs = jRun suf ks' vs'
  | [], suf, ks, vs, ks', vs', h => by cases h; rfl
  | r :: pre, suf, ks, vs, ks', vs', h => by
    rw [jRun] at h
    rw [List.cons_append, jRun]
    cases e : jErr ks r with
    | some x => rw [e] at h; cases h
    | none => rw [e] at h; exact jRun_app pre suf _ _ _ _ h
theorem bRun_app : ∀ (pre suf : List D) (ns ks : List L2.Key) (vs : List D), bRun pre ns ks vs = none → bRun (pre ++ suf) ns ks vs = bRun suf (ns ++ pre.map keyR) ks vs
  | [], suf, ns, ks, vs, h => by rw [List.map_nil, List.append_nil, List.nil_append]
  | r :: pre, suf, ns, ks, vs, h => by
    rw [bRun] at h
    rw [List.cons_append, bRun]
    cases e : bErr ns ks vs r with
    | some x => rw [e] at h; cases h
    | none =>
      rw [e] at h
      show bRun (pre ++ suf) (ns ++ [keyR r]) ks vs = _
      rw [bRun_app pre suf _ _ _ h, List.map_cons, List.append_assoc]; rfl
section
variable {J R : List D}
theorem run_J0 (hJ : JL J) : jRun J [] [] = (none, J.map keyR, J.map plR) := run_J hJ J [] rfl
theorem row4_J (hJ : JL J) : J.all row4 = true := all_get fun t r hr => by
  obtain ⟨s, x, y, h, a, rfl, -⟩ := (hJ t r hr).ex
  rfl
theorem row4_R (hR : RL J R) : R.all row4 = true := all_get fun t r hr => by
  obtain ⟨_, _, _, _, _, _, _, _, _, _, _, _, _, _, _, rfl⟩ := hR t r hr
  rfl
theorem okJ (hJ : JL J) : ∀ r ∈ J, okD r = true := fun r hr => by
  obtain ⟨t, ht⟩ := List.getElem?_of_mem hr
  obtain ⟨s, x, y, h, a, rfl, b1, b2, b3⟩ := (hJ t r ht).ex
  simp only [jrow, okD, okDs, Bool.and_true, Bool.true_and, Bool.and_eq_true, decide_eq_true_eq, List.length_cons, List.length_nil]
  have := nm_len s (List.mem_of_getElem? a)
  have := word_len h (List.mem_append.mpr (.inl b3))
  omega
theorem okR (hJ : JL J) (h2 : J.length ≤ 12) (hR : RL J R) (h30 : R.length ≤ 30) : ∀ r ∈ R, okD r = true := fun r hr => okD_mem (okD_tup (okD_mem (okD_tup (ok_frame hJ h2 hR h30)) (d := .tup R) (by simp))) hr
theorem okTup {l : List D} (h : ∀ d ∈ l, okD d = true) (hl : l.length ≤ 1000) : okD (.tup l) = true := by
  rw [okD, okDs_iff.mpr h, decide_eq_true hl]; rfl
theorem okAll2 {a b : D} (h1 : okD a = true) (h2 : okD b = true) : okD (.tup [a, b]) = true := okTup (fun d hd => by
  simp only [List.mem_cons, List.not_mem_nil, or_false] at hd
  rcases hd with q | q <;> subst q <;> assumption) (by simp)
theorem ok4 {a b c d : D} (h1 : okD a = true) (h2 : okD b = true) (h3 : okD c = true) (h4 : okD d = true) : okD (.tup [a, b, c, d]) = true := okTup (fun x hx => by
  simp only [List.mem_cons, List.not_mem_nil, or_false] at hx
  rcases hx with q | q | q | q <;> subst q <;> assumption) (by simp)
/-- v is wrong for the reason r -/
structure Wr (v : D) (r : Str) : Prop where
  due : dueM v = some r
  ok : okD v = true
theorem due_form {v : D} (h : formOk v = false) : dueM v = some ("form" : Str) := by
  unfold dueM
  rw [if_pos h]
theorem due_many {js bs : List D} (h1 : js.all row4 = true) (h2 : bs.all row4 = true) (h : ¬ (1 ≤ js.length ∧ js.length ≤ 12 ∧ bs.length ≤ 30)) : dueM (.tup [.tup js, .tup bs]) = some ("many" : Str) := by
  have e : (decide (1 ≤ js.length) && decide (js.length ≤ 12) && decide (bs.length ≤ 30)) = false := by
    rw [Bool.eq_false_iff]
    intro q
    simp only [Bool.and_eq_true, decide_eq_true_eq] at q
    exact h ⟨q.1.1, q.1.2, q.2⟩
  unfold dueM
  rw [if_neg (by simp only [formOk, rowsOk, h1, h2]; decide)]
  dsimp only
  rw [if_pos e]
theorem due_run {js bs : List D} (h1 : js.all row4 = true) (h2 : bs.all row4 = true) (h : 1 ≤ js.length ∧ js.length ≤ 12 ∧ bs.length ≤ 30) : dueM (.tup [.tup js, .tup bs]) = match jRun js [] [] with
    | (some e, _, _) => some e
    | (none, ks, vs) => bRun bs [] ks vs := by
  have e : ¬ (decide (1 ≤ js.length) && decide (js.length ≤ 12) && decide (bs.length ≤ 30)) = false := by
    rw [decide_eq_true h.1, decide_eq_true h.2.1, decide_eq_true h.2.2]; decide
  unfold dueM
  rw [if_neg (by simp only [formOk, rowsOk, h1, h2]; decide)]
  dsimp only
  rw [if_neg e]
  all_goals (rcases jRun js [] [] with ⟨_ | e, ks, vs⟩ <;> rfl)
/-- a joint more, that is wrong -/
theorem due_joint (hJ : JL J) (hR : RL J R) (hj : 1 ≤ J.length ∧ J.length ≤ 10) (h30 : R.length ≤ 30) {r : D} {x : Str} (h4 : row4 r = true) (hr : okD r = true) (he : jErr (J.map keyR) r = some x) : Wr (.tup [.tup (J ++ [r]), .tup R]) x := by
  refine ⟨?_, okAll2 (okTup (fun d hd => ?_) (by rw [List.length_append, List.length_singleton]; omega)) (okTup (okR hJ (by omega) hR h30) (by omega))⟩
  · rw [due_run (by rw [List.all_append, row4_J hJ]; simp [h4]) (row4_R hR) (by rw [List.length_append, List.length_singleton]; omega)]
    rw [jRun_app J [r] [] [] _ _ (run_J0 hJ), jRun, he]
  · rcases List.mem_append.mp hd with hd | hd
    · exact okJ hJ d hd
    · rw [List.mem_singleton] at hd; subst hd; exact hr
theorem RL.pre (hR : RL J R) {R' : List D} {n : Nat} (h : R' = R.take n) : RL J R' := fun t r e => by
  subst h
  rw [List.getElem?_take] at e
  split at e
  · exact hR t r e
  · cases e
/-- a bar more, that is wrong -/
theorem due_bar (hJ : JL J) (hR : RL J R) (hj : 1 ≤ J.length ∧ J.length ≤ 10) (h29 : R.length ≤ 29) {r : D} {x : Str} (h4 : row4 r = true) (hr : okD r = true) (he : bErr (R.map keyR) (J.map keyR) (J.map plR) r = some x) : Wr (.tup [.tup J, .tup (R ++ [r])]) x := by
  refine ⟨?_, okAll2 (okTup (okJ hJ) (by omega)) (okTup (fun d hd => ?_) (by rw [List.length_append, List.length_singleton]; omega))⟩
  · rw [due_run (row4_J hJ) (by rw [List.all_append, row4_R hR]; simp [h4]) (by rw [List.length_append, List.length_singleton]; omega)]
    rw [run_J0 hJ]
    dsimp only
    have rb : bRun R [] (J.map keyR) (J.map plR) = none := run_B hJ hR (by omega) R [] rfl
    rw [bRun_app R [r] [] _ _ rb, bRun, List.nil_append, he]
  · rcases List.mem_append.mp hd with hd | hd
    · exact okR hJ (by omega) hR (by omega) d hd
    · rw [List.mem_singleton] at hd; subst hd; exact hr
theorem newJ (hJ : JL J) {s : Str} (h : s ∉ nmL) : inK (J.map keyR) (.str s) = false := hasK_false fun m => by
  obtain ⟨r, hr, e⟩ := List.mem_map.mp m
  obtain ⟨t, ht⟩ := List.getElem?_of_mem hr
  obtain ⟨s', x, y, k, a, rfl, -⟩ := (hJ t r ht).ex
  have : s' = s := by injection e
  subst this
  exact h (List.mem_of_getElem? a)
theorem bn_new : ∀ t : Nat, t < 30 → bn t ≠ "new" := by decide +kernel
theorem newB (hR : RL J R) (h : R.length ≤ 30) : inK (R.map keyR) (.str "new") = false := hasK_false fun m => by
  obtain ⟨r, hr, e⟩ := List.mem_map.mp m
  obtain ⟨t, ht⟩ := List.getElem?_of_mem hr
  have lt : t < R.length := (List.getElem?_eq_some_iff.mp ht).1
  obtain ⟨_, _, _, _, _, _, _, _, _, _, _, _, _, _, _, rfl⟩ := hR t r ht
  have : bn t = "new" := by injection e
  exact bn_new t (by omega) this
theorem new_name : nameS "new" = true := by decide +kernel
theorem new_nm : ("new" : Str) ∉ nmL := by decide +kernel
theorem odd_name : ∀ s ∈ (["", "1a", "xxxxxxxxxxxxx", "a-b"] : List Str), nameS s = false := by decide +kernel
/-- joint -/
theorem w_name {o h : D} (hJ : JL J) (hR : RL J R) (hj : 1 ≤ J.length ∧ J.length ≤ 10) (h30 : R.length ≤ 30) (ho : okD o = true) (hn : nameD o = false) : Wr (.tup [.tup (J ++ [.tup [o, .int 0, .int 0, .str "free"]]), .tup R]) "joint" :=
  due_joint hJ hR hj h30 rfl (ok4 ho rfl rfl (by decide +kernel)) (by rw [jErr_eq, hn]; rfl)
theorem w_place {o : D} (hJ : JL J) (hR : RL J R) (hj : 1 ≤ J.length ∧ J.length ≤ 10) (h30 : R.length ≤ 30) (ho : okD o = true) (hn : inR o (-1000) 1000 = false) : Wr (.tup [.tup (J ++ [.tup [.str "new", o, .int 0, .str "free"]]), .tup R]) "place" :=
  due_joint hJ hR hj h30 rfl (ok4 (by decide +kernel) ho rfl (by decide +kernel)) (by
    have e : nameD (.str "new") = true := new_name
    rw [jErr_eq, e, newJ hJ new_nm, hn]; rfl)
theorem w_hold {o : D} (hJ : JL J) (hR : RL J R) (hj : 1 ≤ J.length ∧ J.length ≤ 10) (h30 : R.length ≤ 30) (ho : okD o = true) (hn : anyS holdW o = false) : Wr (.tup [.tup (J ++ [.tup [.str "new", .int 0, .int 0, o]]), .tup R]) "hold" :=
  due_joint hJ hR hj h30 rfl (ok4 (by decide +kernel) rfl rfl ho) (by
    have e : nameD (.str "new") = true := new_name
    have e2 : inR (.int 0) (-1000) 1000 = true := inR_of (by omega)
    rw [jErr_eq, e, newJ hJ new_nm, e2, hn]; rfl)
theorem w_bar {o : D} {s : Str} (hJ : JL J) (hR : RL J R) (hj : 1 ≤ J.length ∧ J.length ≤ 10) (h29 : R.length ≤ 29) (hs : s ∈ nmL) (ho : okD o = true) (hn : nameD o = false) : Wr (.tup [.tup J, .tup (R ++ [.tup [o, .str s, .str s, .str "bar"]])]) "bar" :=
  due_bar hJ hR hj h29 rfl (ok4 ho (ok_str (nm_len s hs)) (ok_str (nm_len s hs)) (by decide +kernel)) (by rw [bErr_eq, hn]; rfl)
theorem w_ends {o : D} {s : Str} {i : Nat} {x y : Int} {h : Str} (hJ : JL J) (hR : RL J R) (hj : 1 ≤ J.length ∧ J.length ≤ 10) (h29 : R.length ≤ 29) (hi : J[i]? = some (jrow s x y h)) (hs : s ∈ nmL) (ho : okD o = true) (hn : inK (J.map keyR) o = false ∨ o = .str s) : Wr (.tup [.tup J, .tup (R ++ [.tup [.str "new", .str s, o, .str "bar"]])]) "ends" :=
  due_bar hJ hR hj h29 rfl (ok4 (by decide +kernel) (ok_str (nm_len s hs)) ho (by decide +kernel)) (by
    have e : nameD (.str "new") = true := new_name
    have e1 : inK (J.map keyR) (.str s) = true := hasK_true (List.mem_map_of_mem (f := keyR) (List.mem_of_getElem? hi))
    rw [bErr_eq, e, newB hR (by omega), e1]
    rcases hn with hn | rfl
    · rw [hn]; rfl
    · rw [e1]
      have l1 : lk (J.map keyR) (J.map plR) (.str s) = .tup [.int x, .int y] := by
        show (dlook _ _ (.inr s)).getD .non = _
        rw [show (Sum.inr s : L2.Key) = keyR (jrow s x y h) from rfl, dlook_J J i _ (keys_nodup hJ J [] rfl .nil) hi]; rfl
      rw [l1]
      have : D.eq (.tup [.int x, .int y]) (.tup [.int x, .int y]) = true := by simp [D.eq, D.eqs]
      rw [this]; rfl)
theorem w_twice {j : D} {J' : List D} (e : J = j :: J') (hJ : JL J) (hR : RL J R) (hj : 1 ≤ J.length ∧ J.length ≤ 10) (h30 : R.length ≤ 30) : Wr (.tup [.tup [j, j], .tup R]) "joint" := by
  obtain ⟨s, x, y, h, a, rfl, b1, b2, b3⟩ := (hJ 0 j (by rw [e]; rfl)).ex
  have oj := okJ hJ _ (by rw [e]; exact List.mem_cons_self)
  refine ⟨?_, okAll2 (okAll2 oj oj) (okTup (okR hJ (by omega) hR h30) (by omega))⟩
  rw [due_run rfl (row4_R hR) ⟨by simp, by simp, h30⟩]
  have n1 : nameD (.str s) = true := nm_ok s (List.mem_of_getElem? a)
  have e1 : jErr [] (jrow s x y h) = none := by
    unfold jrow
    rw [jErr_eq, n1, inR_of b1, inR_of b2, anyS_of b3]; rfl
  have e2 : jErr [keyR (jrow s x y h)] (jrow s x y h) = some "joint" := by
    have : inK [keyR (jrow s x y h)] (.str s) = true := hasK_true (by rw [List.mem_singleton]; rfl)
    unfold jrow at this ⊢
    rw [jErr_eq, this, Bool.not_true, Bool.and_false]; rfl
  rw [jRun, e1]
  dsimp only
  rw [jRun, List.nil_append, e2]
  rfl
end
end Kx

set_option Elab.async false
set_option linter.all false
set_option maxRecDepth 100000
set_option maxHeartbeats 1000000
set_option exponentiation.threshold 10000
/-! B2: k78: each function raises what check raises. (Printed by mk78.py.) -/
namespace Kx
open Py PySem
variable {ds : List Int}
theorem ex_exprE {T : Tab} {e : E} {env : Py.Env} {n m : Nat} {x : Exn} (h : ev T e env n = .exc x m) : ex T (.expr e) env n = .exc x m := by rw [ex, h]; rfl
theorem ex_setE {T : Tab} {e : E} {env : Py.Env} {n m i : Nat} {x : Exn} (h : ev T e env n = .exc x m) : ex T (.set i e) env n = .exc x m := by rw [ex, h]; rfl
theorem evs_consV {T : Tab} {a b : E} {env : Py.Env} {n m : Nat} {x : D} {e : Exn} (h1 : ev T a env n = .ok x n) (h2 : evs T b env n = .exc e m) : evs T (.cons a b) env n = .exc e m := by rw [evs, h1, Res.bind_ok, h2]; rfl
section
variable {v : D} {r : Str} (h : Wr v r)
include h
theorem x_check {k n : Nat} : (Q ds).fn (k + 4) i_check [v] n = .exc (eC r) n := by rw [q_check h.ok, h.due]; rfl
theorem x_trouble {k n : Nat} : (Q ds).fn (k + 5) i_trouble [v] n = .exc (eC r) n := run_f (d := d_trouble) rfl (run_exc' rfl (seq_ex (ex_exprE (ev_call (l := [v]) rfl (x_check h)))))
theorem x_demand_drawing {k n : Nat} : (Q ds).fn (k + 5) i_demand_drawing [v] n = .exc (eC r) n := run_f (d := d_demand_drawing) rfl (run_exc' rfl (seq_ex (ex_exprE (ev_call (l := [v]) rfl (x_check h)))))
theorem x_faces {k n : Nat} : (Q ds).fn (k + 6) i_faces [v] n = .exc (eC r) n := run_f (d := d_faces) rfl (run_exc' rfl (seq_ex (ex_exprE (ev_call (l := [v]) rfl (x_demand_drawing h)))))
theorem x_outer_face {k n : Nat} : (Q ds).fn (k + 6) i_outer_face [v] n = .exc (eC r) n := run_f (d := d_outer_face) rfl (run_exc' rfl (seq_ex (ex_exprE (ev_call (l := [v]) rfl (x_demand_drawing h)))))
theorem x_sides {k n : Nat} : (Q ds).fn (k + 6) i_sides [v] n = .exc (eC r) n := run_f (d := d_sides) rfl (run_exc' rfl (seq_ex (ex_exprE (ev_call (l := [v]) rfl (x_demand_drawing h)))))
theorem x_stresses {k n : Nat} : (Q ds).fn (k + 6) i_stresses [v] n = .exc (eC r) n := run_f (d := d_stresses) rfl (run_exc' rfl (seq_ex (ex_exprE (ev_call (l := [v]) rfl (x_demand_drawing h)))))
theorem x_planes {k n : Nat} {a1 : D} : (Q ds).fn (k + 6) i_planes [v, a1] n = .exc (eC r) n := run_f (d := d_planes) rfl (run_exc' rfl (seq_ex (ex_exprE (ev_call (l := [v]) rfl (x_demand_drawing h)))))
theorem x_accept_planes {k n : Nat} {a1 a2 : D} : (Q ds).fn (k + 6) i_accept_planes [v, a1, a2] n = .exc (eC r) n := run_f (d := d_accept_planes) rfl (run_exc' rfl (seq_ex (ex_exprE (ev_call (l := [v]) rfl (x_demand_drawing h)))))
theorem x_heights {k n : Nat} {a1 : D} : (Q ds).fn (k + 7) i_heights [v, a1] n = .exc (eC r) n := run_f (d := d_heights) rfl (run_exc' rfl (seq_ex (ex_setE (ev_call (l := [v, a1]) rfl (x_planes h)))))
theorem x_reciprocal {k n : Nat} {a1 : D} : (Q ds).fn (k + 7) i_reciprocal [v, a1] n = .exc (eC r) n := run_f (d := d_reciprocal) rfl (run_exc' rfl (seq_ex (ex_setE (ev_call (l := [v, a1]) rfl (x_planes h)))))
theorem x_forces_under {k n : Nat} {a1 : D} : (Q ds).fn (k + 6) i_forces_under [v, a1] n = .exc (eC r) n := run_f (d := d_forces_under) rfl (run_exc' rfl (seq_ex (ex_exprE (ev_call (l := [v]) rfl (x_demand_drawing h)))))
theorem x_forces_across {k n : Nat} {a1 : D} : (Q ds).fn (k + 6) i_forces_across [v, a1] n = .exc (eC r) n := run_f (d := d_forces_across) rfl (run_exc' rfl (seq_ex (ex_exprE (ev_call (l := [v]) rfl (x_demand_drawing h)))))
theorem x_can_fit {k n : Nat} {a1 : D} : (Q ds).fn (k + 5) i_can_fit [v, a1] n = .exc (eC r) n := run_f (d := d_can_fit) rfl (run_exc' rfl (seq_ex (ex_exprE (ev_call (l := [v]) rfl (x_check h)))))
theorem x_accept_can_fit {k n : Nat} {a1 a2 : D} : (Q ds).fn (k + 5) i_accept_can_fit [v, a1, a2] n = .exc (eC r) n := run_f (d := d_accept_can_fit) rfl (run_exc' rfl (seq_ex (ex_exprE (ev_call (l := [v]) rfl (x_check h)))))
theorem x_hurtless {k n : Nat} : (Q ds).fn (k + 5) i_hurtless [v] n = .exc (eC r) n := run_f (d := d_hurtless) rfl (run_exc' rfl (seq_ex (ex_exprE (ev_call (l := [v]) rfl (x_check h)))))
theorem x_fewest_anew {k n : Nat} {a1 : D} : (Q ds).fn (k + 5) i_fewest_anew [v, a1] n = .exc (eC r) n := run_f (d := d_fewest_anew) rfl (run_exc' rfl (seq_ex (ex_exprE (ev_call (l := [v]) rfl (x_check h)))))
theorem x_accept_fewest_anew {k n : Nat} {a1 a2 : D} : (Q ds).fn (k + 5) i_accept_fewest_anew [v, a1, a2] n = .exc (eC r) n := run_f (d := d_accept_fewest_anew) rfl (run_exc' rfl (seq_ex (ex_exprE (ev_call (l := [v]) rfl (x_check h)))))
theorem x_misfit_forces {k n : Nat} {a1 a2 : D} : (Q ds).fn (k + 5) i_misfit_forces [v, a1, a2] n = .exc (eC r) n := run_f (d := d_misfit_forces) rfl (run_exc' rfl (seq_ex (ex_exprE (ev_call (l := [v]) rfl (x_check h)))))
theorem x_accept_misfit_forces {k n : Nat} {a1 a2 a3 : D} : (Q ds).fn (k + 5) i_accept_misfit_forces [v, a1, a2, a3] n = .exc (eC r) n := run_f (d := d_accept_misfit_forces) rfl (run_exc' rfl (seq_ex (ex_exprE (ev_call (l := [v]) rfl (x_check h)))))
theorem x_misfit_energy {k n : Nat} {a1 a2 : D} : (Q ds).fn (k + 6) i_misfit_energy [v, a1, a2] n = .exc (eC r) n := run_f (d := d_misfit_energy) rfl (run_exc' rfl (seq_ex (ex_retE (ev_callE (evs_consV (x := a1) rfl (evs_consE (ev_call (l := [v, a1, a2]) rfl (x_misfit_forces h))))))))
theorem x_answers {k n : Nat} {a1 a2 : D} : (Q ds).fn (k + 5) i_answers [v, a1, a2] n = .exc (eC r) n := run_f (d := d_answers) rfl (run_exc' rfl (seq_ex (ex_exprE (ev_call (l := [v]) rfl (x_check h)))))
theorem x_demand_work {k n : Nat} {a1 : D} : (Q ds).fn (k + 5) i_demand_work [v, a1] n = .exc (eC r) n := run_f (d := d_demand_work) rfl (run_exc' rfl (seq_ex (ex_exprE (ev_call (l := [v]) rfl (x_check h)))))
theorem x_stand_table {k n : Nat} {a1 : D} : (Q ds).fn (k + 6) i_stand_table [v, a1] n = .exc (eC r) n := run_f (d := d_stand_table) rfl (run_exc' rfl (seq_ex (ex_exprE (ev_call (l := [v, a1]) rfl (x_demand_work h)))))
theorem x_down_table {k n : Nat} {a1 a2 : D} : (Q ds).fn (k + 6) i_down_table [v, a1, a2] n = .exc (eC r) n := run_f (d := d_down_table) rfl (run_exc' rfl (seq_ex (ex_exprE (ev_call (l := [v, a1]) rfl (x_demand_work h)))))
theorem x_accept_down_table {k n : Nat} {a1 a2 a3 : D} : (Q ds).fn (k + 6) i_accept_down_table [v, a1, a2, a3] n = .exc (eC r) n := run_f (d := d_accept_down_table) rfl (run_exc' rfl (seq_ex (ex_exprE (ev_call (l := [v, a1]) rfl (x_demand_work h)))))
theorem x_way_down {k n : Nat} {a1 a2 : D} : (Q ds).fn (k + 6) i_way_down [v, a1, a2] n = .exc (eC r) n := run_f (d := d_way_down) rfl (run_exc' rfl (seq_ex (ex_exprE (ev_call (l := [v, a1]) rfl (x_demand_work h)))))
theorem x_accept_way_down {k n : Nat} {a1 a2 a3 : D} : (Q ds).fn (k + 6) i_accept_way_down [v, a1, a2, a3] n = .exc (eC r) n := run_f (d := d_accept_way_down) rfl (run_exc' rfl (seq_ex (ex_exprE (ev_call (l := [v, a1]) rfl (x_demand_work h)))))
theorem x_first_to_go {k n : Nat} {a1 a2 : D} : (Q ds).fn (k + 6) i_first_to_go [v, a1, a2] n = .exc (eC r) n := run_f (d := d_first_to_go) rfl (run_exc' rfl (seq_ex (ex_exprE (ev_call (l := [v, a1]) rfl (x_demand_work h)))))
theorem x_fewest_at_once {k n : Nat} {a1 : D} : (Q ds).fn (k + 6) i_fewest_at_once [v, a1] n = .exc (eC r) n := run_f (d := d_fewest_at_once) rfl (run_exc' rfl (seq_ex (ex_exprE (ev_call (l := [v, a1]) rfl (x_demand_work h)))))
theorem x_first_fall {k n : Nat} {a1 a2 : D} : (Q ds).fn (k + 6) i_first_fall [v, a1, a2] n = .exc (eC r) n := run_f (d := d_first_fall) rfl (run_exc' rfl (seq_ex (ex_exprE (ev_call (l := [v, a1]) rfl (x_demand_work h)))))
theorem x_demand_all {k n : Nat} {a1 a2 : D} : (Q ds).fn (k + 5) i_demand_all [v, a1, a2] n = .exc (eC r) n := run_f (d := d_demand_all) rfl (run_exc' rfl (seq_ex (ex_exprE (ev_call (l := [v]) rfl (x_check h)))))
theorem x_count_slower {k n : Nat} {a1 a2 a3 : D} : (Q ds).fn (k + 6) i_count_slower [v, a1, a2, a3] n = .exc (eC r) n := run_f (d := d_count_slower) rfl (run_exc' rfl (seq_ex (ex_exprE (ev_call (l := [v, a1, a2]) rfl (x_demand_all h)))))
theorem x_accept_slower {k n : Nat} {a1 a2 a3 a4 : D} : (Q ds).fn (k + 6) i_accept_slower [v, a1, a2, a3, a4] n = .exc (eC r) n := run_f (d := d_accept_slower) rfl (run_exc' rfl (seq_ex (ex_exprE (ev_call (l := [v, a1, a2]) rfl (x_demand_all h)))))
theorem x_slowest_below {k n : Nat} {a1 a2 : D} : (Q ds).fn (k + 6) i_slowest_below [v, a1, a2] n = .exc (eC r) n := run_f (d := d_slowest_below) rfl (run_exc' rfl (seq_ex (ex_exprE (ev_call (l := [v, a1, a2]) rfl (x_demand_all h)))))
theorem x_quotient {k n : Nat} {a1 a2 a3 : D} : (Q ds).fn (k + 6) i_quotient [v, a1, a2, a3] n = .exc (eC r) n := run_f (d := d_quotient) rfl (run_exc' rfl (seq_ex (ex_exprE (ev_call (l := [v, a1, a2]) rfl (x_demand_all h)))))
theorem x_is_swinging {k n : Nat} {a1 a2 a3 a4 : D} : (Q ds).fn (k + 6) i_is_swinging [v, a1, a2, a3, a4] n = .exc (eC r) n := run_f (d := d_is_swinging) rfl (run_exc' rfl (seq_ex (ex_exprE (ev_call (l := [v, a1, a2]) rfl (x_demand_all h)))))
theorem x_best_of {k n : Nat} {a1 a2 a3 : D} : (Q ds).fn (k + 6) i_best_of [v, a1, a2, a3] n = .exc (eC r) n := run_f (d := d_best_of) rfl (run_exc' rfl (seq_ex (ex_exprE (ev_call (l := [v, a1, a2]) rfl (x_demand_all h)))))
theorem x_lifted {k n : Nat} : (Q ds).fn (k + 5) i_lifted [v] n = .exc (eC r) n := run_f (d := d_lifted) rfl (run_exc' rfl (seq_ex (ex_exprE (ev_call (l := [v]) rfl (x_check h)))))
end
theorem x_called_0 {v : D} {r : Str} (h : Wr v r) {k n : Nat} (w : Nat) (hw : w < 18) : (Q ds).fn (k + 8) i__law_called_0 [.int (w : Nat), v] n = .exc (eC r) n := by
  refine run_f (d := d__law_called_0) rfl (run_exc' rfl ?_)
  show ex ((Q ds).tab (k + 7)) d__law_called_0.body [.val (.int (w : Nat)), .val v] n = _
  unfold d__law_called_0
  have t : ∀ j : Int, tv ((Q ds).tab (k + 7)) (.tru (.cmp .Eq (.var 0) (.cst (.int j)))) [.val (.int (w : Nat)), .val v] n = .ok ((w : Int) == j) n := fun j => tv_tru (ev_cmp rfl rfl (by rw [c_eq, e_int])) rfl
  have c : w = 0 ∨ w = 1 ∨ w = 2 ∨ w = 3 ∨ w = 4 ∨ w = 5 ∨ w = 6 ∨ w = 7 ∨ w = 8 ∨ w = 9 ∨ w = 10 ∨ w = 11 ∨ w = 12 ∨ w = 13 ∨ w = 14 ∨ w = 15 ∨ w = 16 ∨ w = 17 := by omega
  rcases c with q | q | q | q | q | q | q | q | q | q | q | q | q | q | q | q | q | q <;> subst q
  · exact seq_ex (ite_t (t 0) (seq_ex (ex_exprE (ev_call (l := [v]) rfl (x_trouble (k := k + 2) h)))))
  · exact seq_ex (ite_f (t 0) (seq_ex (ite_t (t 1) (seq_ex (ex_exprE (ev_call (l := [v]) rfl (x_faces (k := k + 1) h)))))))
  · exact seq_ex (ite_f (t 0) (seq_ex (ite_f (t 1) (seq_ex (ite_t (t 2) (seq_ex (ex_exprE (ev_call (l := [v]) rfl (x_outer_face (k := k + 1) h)))))))))
  · exact seq_ex (ite_f (t 0) (seq_ex (ite_f (t 1) (seq_ex (ite_f (t 2) (seq_ex (ite_t (t 3) (seq_ex (ex_exprE (ev_call (l := [v]) rfl (x_sides (k := k + 1) h)))))))))))
  · exact seq_ex (ite_f (t 0) (seq_ex (ite_f (t 1) (seq_ex (ite_f (t 2) (seq_ex (ite_f (t 3) (seq_ex (ite_t (t 4) (seq_ex (ex_exprE (ev_call (l := [v]) rfl (x_stresses (k := k + 1) h)))))))))))))
  · exact seq_ex (ite_f (t 0) (seq_ex (ite_f (t 1) (seq_ex (ite_f (t 2) (seq_ex (ite_f (t 3) (seq_ex (ite_f (t 4) (seq_ex (ite_t (t 5) (seq_ex (ex_exprE (ev_call (l := [v, .non]) rfl (x_planes (k := k + 1) h)))))))))))))))
  · exact seq_ex (ite_f (t 0) (seq_ex (ite_f (t 1) (seq_ex (ite_f (t 2) (seq_ex (ite_f (t 3) (seq_ex (ite_f (t 4) (seq_ex (ite_f (t 5) (seq_ex (ite_t (t 6) (seq_ex (ex_exprE (ev_call (l := [v, .non, .non]) rfl (x_accept_planes (k := k + 1) h)))))))))))))))))
  · exact seq_ex (ite_f (t 0) (seq_ex (ite_f (t 1) (seq_ex (ite_f (t 2) (seq_ex (ite_f (t 3) (seq_ex (ite_f (t 4) (seq_ex (ite_f (t 5) (seq_ex (ite_f (t 6) (seq_ex (ite_t (t 7) (seq_ex (ex_exprE (ev_call (l := [v, .non]) rfl (x_heights (k := k + 0) h)))))))))))))))))))
  · exact seq_ex (ite_f (t 0) (seq_ex (ite_f (t 1) (seq_ex (ite_f (t 2) (seq_ex (ite_f (t 3) (seq_ex (ite_f (t 4) (seq_ex (ite_f (t 5) (seq_ex (ite_f (t 6) (seq_ex (ite_f (t 7) (seq_ex (ite_t (t 8) (seq_ex (ex_exprE (ev_call (l := [v, .non]) rfl (x_reciprocal (k := k + 0) h)))))))))))))))))))))
  · exact seq_ex (ite_f (t 0) (seq_ex (ite_f (t 1) (seq_ex (ite_f (t 2) (seq_ex (ite_f (t 3) (seq_ex (ite_f (t 4) (seq_ex (ite_f (t 5) (seq_ex (ite_f (t 6) (seq_ex (ite_f (t 7) (seq_ex (ite_f (t 8) (seq_ex (ite_t (t 9) (seq_ex (ex_exprE (ev_call (l := [v, .non]) rfl (x_forces_under (k := k + 1) h)))))))))))))))))))))))
  · exact seq_ex (ite_f (t 0) (seq_ex (ite_f (t 1) (seq_ex (ite_f (t 2) (seq_ex (ite_f (t 3) (seq_ex (ite_f (t 4) (seq_ex (ite_f (t 5) (seq_ex (ite_f (t 6) (seq_ex (ite_f (t 7) (seq_ex (ite_f (t 8) (seq_ex (ite_f (t 9) (seq_ex (ite_t (t 10) (seq_ex (ex_exprE (ev_call (l := [v, .non]) rfl (x_forces_across (k := k + 1) h)))))))))))))))))))))))))
  · exact seq_ex (ite_f (t 0) (seq_ex (ite_f (t 1) (seq_ex (ite_f (t 2) (seq_ex (ite_f (t 3) (seq_ex (ite_f (t 4) (seq_ex (ite_f (t 5) (seq_ex (ite_f (t 6) (seq_ex (ite_f (t 7) (seq_ex (ite_f (t 8) (seq_ex (ite_f (t 9) (seq_ex (ite_f (t 10) (seq_ex (ite_t (t 11) (seq_ex (ex_exprE (ev_call (l := [v, .non]) rfl (x_can_fit (k := k + 2) h)))))))))))))))))))))))))))
  · exact seq_ex (ite_f (t 0) (seq_ex (ite_f (t 1) (seq_ex (ite_f (t 2) (seq_ex (ite_f (t 3) (seq_ex (ite_f (t 4) (seq_ex (ite_f (t 5) (seq_ex (ite_f (t 6) (seq_ex (ite_f (t 7) (seq_ex (ite_f (t 8) (seq_ex (ite_f (t 9) (seq_ex (ite_f (t 10) (seq_ex (ite_f (t 11) (seq_ex (ite_t (t 12) (seq_ex (ex_exprE (ev_call (l := [v, .non, .non]) rfl (x_accept_can_fit (k := k + 2) h)))))))))))))))))))))))))))))
  · exact seq_ex (ite_f (t 0) (seq_ex (ite_f (t 1) (seq_ex (ite_f (t 2) (seq_ex (ite_f (t 3) (seq_ex (ite_f (t 4) (seq_ex (ite_f (t 5) (seq_ex (ite_f (t 6) (seq_ex (ite_f (t 7) (seq_ex (ite_f (t 8) (seq_ex (ite_f (t 9) (seq_ex (ite_f (t 10) (seq_ex (ite_f (t 11) (seq_ex (ite_f (t 12) (seq_ex (ite_t (t 13) (seq_ex (ex_exprE (ev_call (l := [v]) rfl (x_hurtless (k := k + 2) h)))))))))))))))))))))))))))))))
  · exact seq_ex (ite_f (t 0) (seq_ex (ite_f (t 1) (seq_ex (ite_f (t 2) (seq_ex (ite_f (t 3) (seq_ex (ite_f (t 4) (seq_ex (ite_f (t 5) (seq_ex (ite_f (t 6) (seq_ex (ite_f (t 7) (seq_ex (ite_f (t 8) (seq_ex (ite_f (t 9) (seq_ex (ite_f (t 10) (seq_ex (ite_f (t 11) (seq_ex (ite_f (t 12) (seq_ex (ite_f (t 13) (seq_ex (ite_t (t 14) (seq_ex (ex_exprE (ev_call (l := [v, .non]) rfl (x_fewest_anew (k := k + 2) h)))))))))))))))))))))))))))))))))
  · exact seq_ex (ite_f (t 0) (seq_ex (ite_f (t 1) (seq_ex (ite_f (t 2) (seq_ex (ite_f (t 3) (seq_ex (ite_f (t 4) (seq_ex (ite_f (t 5) (seq_ex (ite_f (t 6) (seq_ex (ite_f (t 7) (seq_ex (ite_f (t 8) (seq_ex (ite_f (t 9) (seq_ex (ite_f (t 10) (seq_ex (ite_f (t 11) (seq_ex (ite_f (t 12) (seq_ex (ite_f (t 13) (seq_ex (ite_f (t 14) (seq_ex (ite_t (t 15) (seq_ex (ex_exprE (ev_call (l := [v, .non, .non]) rfl (x_accept_fewest_anew (k := k + 2) h)))))))))))))))))))))))))))))))))))
  · exact seq_ex (ite_f (t 0) (seq_ex (ite_f (t 1) (seq_ex (ite_f (t 2) (seq_ex (ite_f (t 3) (seq_ex (ite_f (t 4) (seq_ex (ite_f (t 5) (seq_ex (ite_f (t 6) (seq_ex (ite_f (t 7) (seq_ex (ite_f (t 8) (seq_ex (ite_f (t 9) (seq_ex (ite_f (t 10) (seq_ex (ite_f (t 11) (seq_ex (ite_f (t 12) (seq_ex (ite_f (t 13) (seq_ex (ite_f (t 14) (seq_ex (ite_f (t 15) (seq_ex (ite_t (t 16) (seq_ex (ex_exprE (ev_call (l := [v, .non, .non]) rfl (x_misfit_forces (k := k + 2) h)))))))))))))))))))))))))))))))))))))
  · exact seq_ex (ite_f (t 0) (seq_ex (ite_f (t 1) (seq_ex (ite_f (t 2) (seq_ex (ite_f (t 3) (seq_ex (ite_f (t 4) (seq_ex (ite_f (t 5) (seq_ex (ite_f (t 6) (seq_ex (ite_f (t 7) (seq_ex (ite_f (t 8) (seq_ex (ite_f (t 9) (seq_ex (ite_f (t 10) (seq_ex (ite_f (t 11) (seq_ex (ite_f (t 12) (seq_ex (ite_f (t 13) (seq_ex (ite_f (t 14) (seq_ex (ite_f (t 15) (seq_ex (ite_f (t 16) (seq_ex (ite_t (t 17) (seq_ex (ex_exprE (ev_call (l := [v, .non, .non, .non]) rfl (x_accept_misfit_forces (k := k + 2) h)))))))))))))))))))))))))))))))))))))))
theorem x_called_1 {v : D} {r : Str} (h : Wr v r) {k n : Nat} (w : Nat) (hw : w < 17) : (Q ds).fn (k + 8) i__law_called_1 [.int (w : Nat), v] n = .exc (eC r) n := by
  refine run_f (d := d__law_called_1) rfl (run_exc' rfl ?_)
  show ex ((Q ds).tab (k + 7)) d__law_called_1.body [.val (.int (w : Nat)), .val v] n = _
  unfold d__law_called_1
  have t : ∀ j : Int, tv ((Q ds).tab (k + 7)) (.tru (.cmp .Eq (.var 0) (.cst (.int j)))) [.val (.int (w : Nat)), .val v] n = .ok ((w : Int) == j) n := fun j => tv_tru (ev_cmp rfl rfl (by rw [c_eq, e_int])) rfl
  have c : w = 0 ∨ w = 1 ∨ w = 2 ∨ w = 3 ∨ w = 4 ∨ w = 5 ∨ w = 6 ∨ w = 7 ∨ w = 8 ∨ w = 9 ∨ w = 10 ∨ w = 11 ∨ w = 12 ∨ w = 13 ∨ w = 14 ∨ w = 15 ∨ w = 16 := by omega
  rcases c with q | q | q | q | q | q | q | q | q | q | q | q | q | q | q | q | q <;> subst q
  · exact seq_ex (ite_t (t 0) (seq_ex (ex_exprE (ev_call (l := [v, .non, .non]) rfl (x_misfit_energy (k := k + 1) h)))))
  · exact seq_ex (ite_f (t 0) (seq_ex (ite_t (t 1) (seq_ex (ex_exprE (ev_call (l := [v, .non, .non]) rfl (x_answers (k := k + 2) h)))))))
  · exact seq_ex (ite_f (t 0) (seq_ex (ite_f (t 1) (seq_ex (ite_t (t 2) (seq_ex (ex_exprE (ev_call (l := [v, .non]) rfl (x_stand_table (k := k + 1) h)))))))))
  · exact seq_ex (ite_f (t 0) (seq_ex (ite_f (t 1) (seq_ex (ite_f (t 2) (seq_ex (ite_t (t 3) (seq_ex (ex_exprE (ev_call (l := [v, .non, .non]) rfl (x_down_table (k := k + 1) h)))))))))))
  · exact seq_ex (ite_f (t 0) (seq_ex (ite_f (t 1) (seq_ex (ite_f (t 2) (seq_ex (ite_f (t 3) (seq_ex (ite_t (t 4) (seq_ex (ex_exprE (ev_call (l := [v, .non, .non, .non]) rfl (x_accept_down_table (k := k + 1) h)))))))))))))
  · exact seq_ex (ite_f (t 0) (seq_ex (ite_f (t 1) (seq_ex (ite_f (t 2) (seq_ex (ite_f (t 3) (seq_ex (ite_f (t 4) (seq_ex (ite_t (t 5) (seq_ex (ex_exprE (ev_call (l := [v, .non, .non]) rfl (x_way_down (k := k + 1) h)))))))))))))))
  · exact seq_ex (ite_f (t 0) (seq_ex (ite_f (t 1) (seq_ex (ite_f (t 2) (seq_ex (ite_f (t 3) (seq_ex (ite_f (t 4) (seq_ex (ite_f (t 5) (seq_ex (ite_t (t 6) (seq_ex (ex_exprE (ev_call (l := [v, .non, .non, .non]) rfl (x_accept_way_down (k := k + 1) h)))))))))))))))))
  · exact seq_ex (ite_f (t 0) (seq_ex (ite_f (t 1) (seq_ex (ite_f (t 2) (seq_ex (ite_f (t 3) (seq_ex (ite_f (t 4) (seq_ex (ite_f (t 5) (seq_ex (ite_f (t 6) (seq_ex (ite_t (t 7) (seq_ex (ex_exprE (ev_call (l := [v, .non, .non]) rfl (x_first_to_go (k := k + 1) h)))))))))))))))))))
  · exact seq_ex (ite_f (t 0) (seq_ex (ite_f (t 1) (seq_ex (ite_f (t 2) (seq_ex (ite_f (t 3) (seq_ex (ite_f (t 4) (seq_ex (ite_f (t 5) (seq_ex (ite_f (t 6) (seq_ex (ite_f (t 7) (seq_ex (ite_t (t 8) (seq_ex (ex_exprE (ev_call (l := [v, .non]) rfl (x_fewest_at_once (k := k + 1) h)))))))))))))))))))))
  · exact seq_ex (ite_f (t 0) (seq_ex (ite_f (t 1) (seq_ex (ite_f (t 2) (seq_ex (ite_f (t 3) (seq_ex (ite_f (t 4) (seq_ex (ite_f (t 5) (seq_ex (ite_f (t 6) (seq_ex (ite_f (t 7) (seq_ex (ite_f (t 8) (seq_ex (ite_t (t 9) (seq_ex (ex_exprE (ev_call (l := [v, .non, .non]) rfl (x_first_fall (k := k + 1) h)))))))))))))))))))))))
  · exact seq_ex (ite_f (t 0) (seq_ex (ite_f (t 1) (seq_ex (ite_f (t 2) (seq_ex (ite_f (t 3) (seq_ex (ite_f (t 4) (seq_ex (ite_f (t 5) (seq_ex (ite_f (t 6) (seq_ex (ite_f (t 7) (seq_ex (ite_f (t 8) (seq_ex (ite_f (t 9) (seq_ex (ite_t (t 10) (seq_ex (ex_exprE (ev_call (l := [v, .non, .non, .non]) rfl (x_count_slower (k := k + 1) h)))))))))))))))))))))))))
  · exact seq_ex (ite_f (t 0) (seq_ex (ite_f (t 1) (seq_ex (ite_f (t 2) (seq_ex (ite_f (t 3) (seq_ex (ite_f (t 4) (seq_ex (ite_f (t 5) (seq_ex (ite_f (t 6) (seq_ex (ite_f (t 7) (seq_ex (ite_f (t 8) (seq_ex (ite_f (t 9) (seq_ex (ite_f (t 10) (seq_ex (ite_t (t 11) (seq_ex (ex_exprE (ev_call (l := [v, .non, .non, .non, .non]) rfl (x_accept_slower (k := k + 1) h)))))))))))))))))))))))))))
  · exact seq_ex (ite_f (t 0) (seq_ex (ite_f (t 1) (seq_ex (ite_f (t 2) (seq_ex (ite_f (t 3) (seq_ex (ite_f (t 4) (seq_ex (ite_f (t 5) (seq_ex (ite_f (t 6) (seq_ex (ite_f (t 7) (seq_ex (ite_f (t 8) (seq_ex (ite_f (t 9) (seq_ex (ite_f (t 10) (seq_ex (ite_f (t 11) (seq_ex (ite_t (t 12) (seq_ex (ex_exprE (ev_call (l := [v, .non, .non]) rfl (x_slowest_below (k := k + 1) h)))))))))))))))))))))))))))))
  · exact seq_ex (ite_f (t 0) (seq_ex (ite_f (t 1) (seq_ex (ite_f (t 2) (seq_ex (ite_f (t 3) (seq_ex (ite_f (t 4) (seq_ex (ite_f (t 5) (seq_ex (ite_f (t 6) (seq_ex (ite_f (t 7) (seq_ex (ite_f (t 8) (seq_ex (ite_f (t 9) (seq_ex (ite_f (t 10) (seq_ex (ite_f (t 11) (seq_ex (ite_f (t 12) (seq_ex (ite_t (t 13) (seq_ex (ex_exprE (ev_call (l := [v, .non, .non, .non]) rfl (x_quotient (k := k + 1) h)))))))))))))))))))))))))))))))
  · exact seq_ex (ite_f (t 0) (seq_ex (ite_f (t 1) (seq_ex (ite_f (t 2) (seq_ex (ite_f (t 3) (seq_ex (ite_f (t 4) (seq_ex (ite_f (t 5) (seq_ex (ite_f (t 6) (seq_ex (ite_f (t 7) (seq_ex (ite_f (t 8) (seq_ex (ite_f (t 9) (seq_ex (ite_f (t 10) (seq_ex (ite_f (t 11) (seq_ex (ite_f (t 12) (seq_ex (ite_f (t 13) (seq_ex (ite_t (t 14) (seq_ex (ex_exprE (ev_call (l := [v, .non, .non, .non, .non]) rfl (x_is_swinging (k := k + 1) h)))))))))))))))))))))))))))))))))
  · exact seq_ex (ite_f (t 0) (seq_ex (ite_f (t 1) (seq_ex (ite_f (t 2) (seq_ex (ite_f (t 3) (seq_ex (ite_f (t 4) (seq_ex (ite_f (t 5) (seq_ex (ite_f (t 6) (seq_ex (ite_f (t 7) (seq_ex (ite_f (t 8) (seq_ex (ite_f (t 9) (seq_ex (ite_f (t 10) (seq_ex (ite_f (t 11) (seq_ex (ite_f (t 12) (seq_ex (ite_f (t 13) (seq_ex (ite_f (t 14) (seq_ex (ite_t (t 15) (seq_ex (ex_exprE (ev_call (l := [v, .non, .non, .non]) rfl (x_best_of (k := k + 1) h)))))))))))))))))))))))))))))))))))
  · exact seq_ex (ite_f (t 0) (seq_ex (ite_f (t 1) (seq_ex (ite_f (t 2) (seq_ex (ite_f (t 3) (seq_ex (ite_f (t 4) (seq_ex (ite_f (t 5) (seq_ex (ite_f (t 6) (seq_ex (ite_f (t 7) (seq_ex (ite_f (t 8) (seq_ex (ite_f (t 9) (seq_ex (ite_f (t 10) (seq_ex (ite_f (t 11) (seq_ex (ite_f (t 12) (seq_ex (ite_f (t 13) (seq_ex (ite_f (t 14) (seq_ex (ite_f (t 15) (seq_ex (ite_t (t 16) (seq_ex (ex_exprE (ev_call (l := [v]) rfl (x_lifted (k := k + 2) h)))))))))))))))))))))))))))))))))))))
end Kx

set_option Elab.async false
set_option linter.all false
set_option maxRecDepth 100000
set_option maxHeartbeats 1000000
set_option exponentiation.threshold 10000
/-! B3: k78: what the law is told; the rows of wrong frames. -/
namespace Kx
open Py PySem
variable {ds : List Int}
theorem x_told {v : D} {r : Str} (h : Wr v r) {k n : Nat} (w : Nat) (hw : w < 35) : (Q ds).fn (k + 9) i__law_told [.int (w : Nat), v] n = .ok (.str r) n := by
  refine run_f (d := d__law_told) rfl (run_ret' rfl ?_)
  show ex ((Q ds).tab (k + 8)) d__law_told.body [.val (.int (w : Nat)), .val v, .no] n = _
  unfold d__law_told
  refine seq_rt (tri_exc (x := eC r) (m := n) ?_ rfl rfl)
  have t : tv ((Q ds).tab (k + 8)) (.tru (.cmp .Lt (.var 0) (.cst (.int 18)))) [.val (.int (w : Nat)), .val v, .no] n = .ok (decide ((w : Int) < 18)) n := tv_tru (ev_cmp rfl rfl (c_lt _ _)) rfl
  by_cases c : w < 18
  · rw [decide_eq_true (by omega)] at t
    exact seq_ex (ite_t t (seq_ex (ex_exprE (ev_call (l := [.int (w : Nat), v]) rfl (x_called_0 h w c)))))
  · rw [decide_eq_false (by omega)] at t
    refine seq_ex (ite_f t (seq_ex (ex_exprE (ev_call (l := [.int ((w - 18 : Nat) : Nat), v]) ?_ (x_called_1 h (w - 18) (by omega))))))
    refine evs_cons (ev_bop (x := .int (w : Nat)) (y := .int 18) (m := n) rfl rfl ?_) rfl
    show some (D.int ((w : Int) - 18)) = _
    congr 2
    omega
/-- a row of the law: a wrong frame and why -/
def WP (d : D) : Prop := ∃ v r, d = .tup [v, .str r] ∧ Wr v r
abbrev wE (J R : List D) (nm : D) (l : List D) (s7 s8 : Slot) : Py.Env := [.val (.tup [.tup J, .tup R]), .val .drw, .val .att, .val (.tup J), .val (.tup R), .val nm, .own (.lst l), s7, s8]
theorem wr_loop {k n : Nat} {J R : List D} {nm : D} {e : E} {s8 : Slot} : ∀ (xs l : List D) (s7 : Slot), (∀ x ∈ xs, ∀ l, ∃ d, ev ((Q ds).tab k) e (wE J R nm l (.val x) s8) n = .ok d n ∧ WP d) → (∀ d ∈ l, WP d) → l.length + xs.length ≤ 900 →
    ∃ l' s7', (∀ d ∈ l', WP d) ∧ l'.length = l.length + xs.length ∧ forL (fun x env n => match (Tg.nm 7).bind x env with
      | some env => ex ((Q ds).tab k) (.seq (.app 6 e) S.skip) env n
      | none => .bad) xs (wE J R nm l s7 s8) n = .ok (.nx (wE J R nm l' s7' s8)) n
  | [], l, s7, _, hl, _ => ⟨l, s7, hl, by simp, rfl⟩
  | x :: xs, l, s7, h, hl, hn => by
    rw [List.length_cons] at hn
    obtain ⟨d, e1, wd⟩ := h x List.mem_cons_self l
    obtain ⟨l', s7', h1, h2, h3⟩ := wr_loop (k := k) (n := n) (J := J) (R := R) (nm := nm) (e := e) (s8 := s8) xs (l ++ [d]) (.val x) (fun y hy => h y (List.mem_cons_of_mem _ hy)) (fun y hy => by
      rcases List.mem_append.mp hy with hy | hy
      · exact hl y hy
      · rw [List.mem_singleton] at hy; subst hy; exact wd) (by rw [List.length_append, List.length_singleton]; omega)
    refine ⟨l', s7', h1, by rw [h2, List.length_append, List.length_singleton, List.length_cons]; omega, ?_⟩
    refine forL_nx (env' := wE J R nm (l ++ [d]) (.val x) s8) (m := n) ?_ h3
    show ex _ _ (wE J R nm l (.val x) s8) n = _
    refine seq_nx (m := n) ?_ ex_skip
    rw [ex]
    show ((ev ((Q ds).tab k) e (wE J R nm l (.val x) s8) n).bind fun d n => if l.length < LIM then _ else _) = _
    rw [e1, Res.bind_ok, if_pos (by simp only [LIM]; omega)]
    rfl
theorem loopW {k n : Nat} {J R : List D} {nm : D} {e it : E} {s7 s8 : Slot} {xs l : List D} (hi : ev ((Q ds).tab k) it (wE J R nm l s7 s8) n = .ok (.lst xs) n) (h : ∀ x ∈ xs, ∀ l, ∃ d, ev ((Q ds).tab k) e (wE J R nm l (.val x) s8) n = .ok d n ∧ WP d) (hl : ∀ d ∈ l, WP d) (hn : l.length + xs.length ≤ 900) :
    ∃ l' s7', (∀ d ∈ l', WP d) ∧ l'.length = l.length + xs.length ∧ ex ((Q ds).tab k) (.loop (.nm 7) (.seq it) (.seq (.app 6 e) S.skip)) (wE J R nm l s7 s8) n = .ok (.nx (wE J R nm l' s7' s8)) n := by
  obtain ⟨l', s7', h1, h2, h3⟩ := wr_loop (ds := ds) (k := k) (n := n) (e := e) xs l s7 h hl hn
  exact ⟨l', s7', h1, h2, ex_loop (xs := xs) (m := n) (by rw [evi, hi, Res.bind_ok]; rfl) h3⟩
theorem cut_take {l : List D} {k : Nat} : cutL l none (some (k : Int)) = l.take k := by
  unfold cutL
  rw [HT.sIx_none, HT.sIx_nat, List.drop_zero, Nat.sub_zero]
  rcases Nat.le_total k l.length with h | h
  · rw [Nat.min_eq_left h]
  · rw [Nat.min_eq_right h, List.take_length, List.take_of_length_le h]
theorem cat_some2 {a b : List D} (h : a.length + b.length ≤ 5000) : cat a b = some (a ++ b) := by
  unfold cat
  rw [if_pos (by simp only [LIM]; omega)]
theorem ev_cat {T : Tab} {env : Py.Env} {n m k : Nat} {a b : E} {x y : List D} (ha : ev T a env n = .ok (.tup x) m) (hb : ev T b env m = .ok (.tup y) k) (hl : x.length + y.length ≤ 5000) : ev T (.bop .Add a b) env n = .ok (.tup (x ++ y)) k :=
  ev_bop ha hb (by rw [bt_add, cat_some2 hl]; rfl)
theorem ex_own {T : Tab} {e : E} {env : Py.Env} {n m i : Nat} {l : List D} (h : ev T e env n = .ok (.lst l) m) : ex T (.own i e) env n = .ok (.nx (env.set i (.own (.lst l)))) m := by rw [ex, h]; rfl
theorem ev_addJ {T : Tab} {env : Py.Env} {n : Nat} {q : E} {J r : List D} (h : slot env 3 = .val (.tup J)) (hJ : J.length ≤ 11) (hq : evs T q env n = .ok r n) : ev T (.bop .Add (.slc (.var 3) .nil (.opt (.cst (.int 11)))) (.tup (.cons (.tup q) E.nil))) env n = .ok (.tup (J ++ [.tup r])) n := by
  refine ev_cat (x := J) (y := [.tup r]) (m := n) ?_ (ev_tup (evs_cons (ev_tup hq) rfl)) (by simp; omega)
  have e : ev T (.var 3) env n = .ok (.tup J) n := by rw [ev, h]
  rw [ev, e]
  show Res.ok (D.tup (cutL J none (some 11))) n = _
  rw [show (11 : Int) = ((11 : Nat) : Int) from rfl, cut_take, List.take_of_length_le hJ]
theorem ev_addR {T : Tab} {env : Py.Env} {n : Nat} {q : E} {R r : List D} (h : slot env 8 = .val (.tup R)) (hR : R.length ≤ 30) (hq : evs T q env n = .ok r n) : ev T (.bop .Add (.var 8) (.tup (.cons (.tup q) E.nil))) env n = .ok (.tup (R ++ [.tup r])) n := by
  refine ev_cat (x := R) (y := [.tup r]) (m := n) ?_ (ev_tup (evs_cons (ev_tup hq) rfl)) (by simp; omega)
  rw [ev, h]
def GoalW (T : Tab) (S : S) (env : Py.Env) (n : Nat) : Prop := ∃ d, WP d ∧ ex T S env n = .ok (.ret d) (n + 1)
theorem stepW {k n : Nat} {J R : List D} {nm : D} {e it : E} {s7 s8 : Slot} {xs l : List D} {rest : S} (hi : ev ((Q ds).tab k) it (wE J R nm l s7 s8) n = .ok (.lst xs) n) (h : ∀ x ∈ xs, ∀ l, ∃ d, ev ((Q ds).tab k) e (wE J R nm l (.val x) s8) n = .ok d n ∧ WP d) (hl : ∀ d ∈ l, WP d) (hn : l.length + xs.length ≤ 900)
    (next : ∀ l' s7', (∀ d ∈ l', WP d) → l'.length = l.length + xs.length → GoalW ((Q ds).tab k) rest (wE J R nm l' s7' s8) n) : GoalW ((Q ds).tab k) (.seq (.loop (.nm 7) (.seq it) (.seq (.app 6 e) S.skip)) rest) (wE J R nm l s7 s8) n := by
  obtain ⟨l', s7', h1, h2, h3⟩ := loopW (ds := ds) hi h hl hn
  obtain ⟨d, wd, e⟩ := next l' s7' h1 h2
  exact ⟨d, wd, seq_nx h3 e⟩
theorem stepS {T : Tab} {u rest : S} {env env' : Py.Env} {n : Nat} (h : ex T u env n = .ok (.nx env') n) (next : GoalW T rest env' n) : GoalW T (.seq u rest) env n := by
  obtain ⟨d, wd, e⟩ := next
  exact ⟨d, wd, seq_nx h e⟩
end Kx

set_option Elab.async false
set_option linter.all false
set_option maxRecDepth 100000
set_option maxHeartbeats 1000000
set_option exponentiation.threshold 10000
/-! B4: k78: _law_wrong. -/
namespace Kx
open Py PySem
variable {ds : List Int}
section
variable {J R : List D} {s : Str} {i : Nat} {x y : Int} {h : Str}
theorem ne_nm {o : Str} (hs : s ∈ nmL) (ho : o ∉ nmL) : cmpV .NotEq (.str o) (.str s) = some true := by
  rw [c_ne, e_str]
  have : o ≠ s := fun e => ho (e ▸ hs)
  rw [beq_false_of_ne this]; rfl
theorem odd_nm : ∀ o ∈ (["", "1a", "xxxxxxxxxxxxx", "a-b", "zz"] : List Str), o ∉ nmL := by decide +kernel
theorem mulx : binV .Mult (.str "x") (.int 13) = some (.str "xxxxxxxxxxxxx") := by rfl
theorem odd_len : ∀ o ∈ (["", "1a", "xxxxxxxxxxxxx", "a-b", "zz", "0", "loose", "q", "bar", "form", "many", "ab"] : List Str), okD (.str o) = true := by decide +kernel
theorem wp {v : D} {r : Str} (h : Wr v r) : WP (.tup [v, .str r]) := ⟨v, r, rfl, h⟩
/-- the rows before the loops -/
theorem rows_ok (hJ : JL J) (hR : RL J R) (hj : 1 ≤ J.length ∧ J.length ≤ 10) (h30 : R.length ≤ 30) (hs : s ∈ nmL) : ∀ d ∈ ([.tup [.non, .str "form"], .tup [.int 5, .str "form"], .tup [.str "ab", .str "form"], .tup [.tup [.tup J], .str "form"], .tup [.tup [.tup J, .tup R, .tup []], .str "form"], .tup [.tup [.tup J, .non], .str "form"], .tup [.tup [.tup (J ++ [.tup [.str s, .int 0, .int 0]]), .tup R], .str "form"],
    .tup [.tup [.tup [], .tup []], .str "many"], .tup [.tup [.tup (List.replicate 13 J).flatten, .tup R], .str "many"], .tup [.tup [.tup J, .tup (List.replicate 31 [D.tup [.str "q", .str s, .str s, .str "bar"]]).flatten], .str "many"]] : List D), WP d := by
  have oJ : okD (.tup J) = true := okTup (okJ hJ) (by omega)
  have oR : okD (.tup R) = true := okTup (okR hJ (by omega) hR h30) (by omega)
  have os : okD (.str s) = true := ok_str (nm_len s hs)
  have o0 : okD (.tup []) = true := rfl
  intro d hd
  simp only [List.mem_cons, List.not_mem_nil, or_false] at hd
  rcases hd with q | q | q | q | q | q | q | q | q | q <;> subst q
  · exact wp ⟨due_form rfl, rfl⟩
  · exact wp ⟨due_form rfl, rfl⟩
  · exact wp ⟨due_form rfl, by decide +kernel⟩
  · exact wp ⟨due_form rfl, okTup (fun d hd => by rw [List.mem_singleton] at hd; subst hd; exact oJ) (by simp)⟩
  · exact wp ⟨due_form rfl, okTup (fun d hd => by
      simp only [List.mem_cons, List.not_mem_nil, or_false] at hd
      rcases hd with q | q | q <;> subst q <;> assumption) (by simp)⟩
  · exact wp ⟨due_form (by simp only [formOk, rowsOk, Bool.and_false]), okAll2 oJ rfl⟩
  · refine wp ⟨due_form (by simp [formOk, rowsOk, row4]), okAll2 (okTup (fun d hd => ?_) (by rw [List.length_append, List.length_singleton]; omega)) oR⟩
    rcases List.mem_append.mp hd with hd | hd
    · exact okJ hJ d hd
    · rw [List.mem_singleton] at hd; subst hd
      exact okTup (fun d hd => by
        simp only [List.mem_cons, List.not_mem_nil, or_false] at hd
        rcases hd with q | q | q <;> subst q <;> first | exact os | rfl) (by simp)
  · exact wp ⟨due_many rfl rfl (by simp), okAll2 o0 o0⟩
  · have hl : ((List.replicate 13 J).flatten).length = 13 * J.length := by
      simp
      omega
    refine wp ⟨due_many ?_ (row4_R hR) (by omega), okAll2 (okTup (fun d hd => ?_) (by omega)) oR⟩
    · rw [List.all_eq_true]
      intro r hr
      obtain ⟨l, h1, h2⟩ := List.mem_flatten.mp hr
      rw [(List.mem_replicate.mp h1).2] at h2
      exact List.all_eq_true.mp (row4_J hJ) r h2
    · obtain ⟨l, h1, h2⟩ := List.mem_flatten.mp hd
      rw [(List.mem_replicate.mp h1).2] at h2
      exact okJ hJ d h2
  · have hl : ((List.replicate 31 [D.tup [.str "q", .str s, .str s, .str "bar"]]).flatten).length = 31 := by simp
    have hm : ∀ d ∈ (List.replicate 31 [D.tup [.str "q", .str s, .str s, .str "bar"]]).flatten, d = D.tup [.str "q", .str s, .str s, .str "bar"] := fun d hd => by
      obtain ⟨l, h1, h2⟩ := List.mem_flatten.mp hd
      rw [(List.mem_replicate.mp h1).2, List.mem_singleton] at h2
      exact h2
    refine wp ⟨due_many (row4_J hJ) ?_ (by omega), okAll2 oJ (okTup (fun d hd => ?_) (by omega))⟩
    · rw [List.all_eq_true]
      intro r hr
      rw [hm r hr]; rfl
    · rw [hm d hd]
      exact ok4 (odd_len _ (by simp)) os os (odd_len _ (by simp))
theorem oneL {l : List D} {J : List D} (e : l = J.take 1) (h : 1 ≤ J.length) : ∃ j J', J = j :: J' ∧ l = [j] := by
  cases J with
  | nil => simp at h
  | cons j J' => exact ⟨j, J', rfl, by rw [e]; rfl⟩
theorem wrong_rest {k n : Nat} (hJ : JL J) (hR : RL J R) (hj : 1 ≤ J.length ∧ J.length ≤ 10) (h30 : R.length ≤ 30) (hi : J[i]? = some (jrow s x y h)) (hs : s ∈ nmL) (hn : n < 2 ^ 39) {L : List D} (hL : ∀ d ∈ L, WP d) (h10 : L.length = 10) :
    GoalW ((Q ds).tab (k + 1)) (.seq (.loop (.nm 7) (.seq (.lst (.cons (.var 5) (.cons (.cst (.str "")) (.cons (.cst (.str "1a")) (.cons (.bop .Mult (.cst (.str "x")) (.cst (.int 13))) (.cons (.cst .non) (.cons (.cst (.int 5)) (.cons (.cst (.str "a-b")) E.nil))))))))) (.seq (.app 6 (.tup (.cons (.tup (.cons (.ite (.tru (.cmp .NotEq (.var 7) (.var 5))) (.bop .Add (.slc (.var 3) .nil (.opt (.cst (.int 11)))) (.tup (.cons (.tup (.cons (.var 7) (.cons (.cst (.int 0)) (.cons (.cst (.int 0)) (.cons (.cst (.str "free")) E.nil))))) E.nil))) (.bop .Add (.slc (.var 3) .nil (.opt (.cst (.int 1)))) (.slc (.var 3) .nil (.opt (.cst (.int 1)))))) (.cons (.var 4) E.nil))) (.cons (.cst (.str "joint")) E.nil)))) S.skip)) (.seq (.loop (.nm 7) (.seq (.lst (.cons (.cst (.int 1001)) (.cons (.neg (.cst (.int 1001))) (.cons (.cst .non) (.cons (.cst (.bl true)) (.cons (.cst (.str "0")) E.nil))))))) (.seq (.app 6 (.tup (.cons (.tup (.cons (.bop .Add (.slc (.var 3) .nil (.opt (.cst (.int 11)))) (.tup (.cons (.tup (.cons (.cst (.str "new")) (.cons (.var 7) (.cons (.cst (.int 0)) (.cons (.cst (.str "free")) E.nil))))) E.nil))) (.cons (.var 4) E.nil))) (.cons (.cst (.str "place")) E.nil)))) S.skip)) (.seq (.loop (.nm 7) (.seq (.lst (.cons (.cst (.str "loose")) (.cons (.cst (.str "")) (.cons (.cst .non) (.cons (.cst (.int 5)) E.nil)))))) (.seq (.app 6 (.tup (.cons (.tup (.cons (.bop .Add (.slc (.var 3) .nil (.opt (.cst (.int 11)))) (.tup (.cons (.tup (.cons (.cst (.str "new")) (.cons (.cst (.int 0)) (.cons (.cst (.int 0)) (.cons (.var 7) E.nil))))) E.nil))) (.cons (.var 4) E.nil))) (.cons (.cst (.str "hold")) E.nil)))) S.skip)) (.seq (.set 8 (.slc (.var 4) .nil (.opt (.cst (.int 29))))) (.seq (.loop (.nm 7) (.seq (.lst (.cons (.cst (.str "")) (.cons (.cst (.str "1a")) (.cons (.cst .non) (.cons (.cst (.int 5)) E.nil)))))) (.seq (.app 6 (.tup (.cons (.tup (.cons (.var 3) (.cons (.bop .Add (.var 8) (.tup (.cons (.tup (.cons (.var 7) (.cons (.var 5) (.cons (.var 5) (.cons (.cst (.str "bar")) E.nil))))) E.nil))) E.nil))) (.cons (.cst (.str "bar")) E.nil)))) S.skip)) (.seq (.loop (.nm 7) (.seq (.lst (.cons (.cst (.str "zz")) (.cons (.cst (.str "")) (.cons (.cst .non) (.cons (.var 5) E.nil)))))) (.seq (.app 6 (.tup (.cons (.tup (.cons (.var 3) (.cons (.bop .Add (.var 8) (.tup (.cons (.tup (.cons (.cst (.str "new")) (.cons (.var 5) (.cons (.var 7) (.cons (.cst (.str "bar")) E.nil))))) E.nil))) E.nil))) (.cons (.cst (.str "ends")) E.nil)))) S.skip)) (.seq (.frz 6) (.seq (.ret (.call i__law_one (.cons (.var 6) (.cons (.var 1) (.cons (.var 2) E.nil))))) S.skip)))))))) (wE J R (.str s) L .no .no) n := by
  have os : okD (.str s) = true := ok_str (nm_len s hs)
  have ns : ∀ o : Str, o ∈ (["", "1a", "xxxxxxxxxxxxx", "a-b", "zz"] : List Str) → o ∉ nmL := odd_nm
  -- joint
  refine stepW (xs := [.str s, .str "", .str "1a", .str "xxxxxxxxxxxxx", .non, .int 5, .str "a-b"]) ?_ (fun o ho l => ?_) hL (by rw [h10]; simp) fun L1 s71 hL1 h11 => ?_
  · exact ev_lst (evs_cons rfl (evs_cons rfl (evs_cons rfl (evs_cons (ev_bop (x := .str "x") (y := .int 13) rfl rfl mulx) (evs_cons rfl (evs_cons rfl (evs_cons rfl rfl)))))))
  · have odd : okD o = true → nameD o = false → cmpV .NotEq o (.str s) = some true → ∃ d, ev ((Q ds).tab (k + 1)) (.tup (.cons (.tup (.cons (.ite (.tru (.cmp .NotEq (.var 7) (.var 5))) (.bop .Add (.slc (.var 3) .nil (.opt (.cst (.int 11)))) (.tup (.cons (.tup (.cons (.var 7) (.cons (.cst (.int 0)) (.cons (.cst (.int 0)) (.cons (.cst (.str "free")) E.nil))))) E.nil))) (.bop .Add (.slc (.var 3) .nil (.opt (.cst (.int 1)))) (.slc (.var 3) .nil (.opt (.cst (.int 1)))))) (.cons (.var 4) E.nil))) (.cons (.cst (.str "joint")) E.nil))) (wE J R (.str s) l (.val o) .no) n = .ok d n ∧ WP d := fun o1 o2 o3 =>
      ⟨_, ev_tup (evs_cons (ev_tup (evs_cons (ev_ite_t (m := n) (tv_tru (ev_cmp (x := o) (y := .str s) rfl rfl o3) rfl) (ev_addJ (J := J) (r := [o, .int 0, .int 0, .str "free"]) rfl (by omega) rfl)) (evs_cons rfl rfl))) (evs_cons rfl rfl)), wp (w_name (h := .non) hJ hR hj h30 o1 o2)⟩
    simp only [List.mem_cons, List.not_mem_nil, or_false] at ho
    rcases ho with q | q | q | q | q | q | q <;> subst q
    · obtain ⟨j, J', eJ, e1⟩ := oneL (l := J.take 1) rfl hj.1
      have sl : ev ((Q ds).tab (k + 1)) (.slc (.var 3) .nil (.opt (.cst (.int 1)))) (wE J R (.str s) l (.val (.str s)) .no) n = .ok (.tup [j]) n := by
        show Res.ok (D.tup (cutL J none (some 1))) n = _
        rw [show (1 : Int) = ((1 : Nat) : Int) from rfl, cut_take, e1]
      exact ⟨_, ev_tup (evs_cons (ev_tup (evs_cons (ev_ite_f (m := n) (tv_tru (ev_cmp (x := .str s) (y := .str s) rfl rfl (q := false) (by rw [c_ne, e_str]; simp)) rfl) (ev_cat (x := [j]) (y := [j]) sl sl (by simp))) (evs_cons rfl rfl))) (evs_cons rfl rfl)), wp (w_twice eJ hJ hR hj h30)⟩
    · exact odd (odd_len _ (by simp)) (odd_name _ (by simp)) (ne_nm hs (ns _ (by simp)))
    · exact odd (odd_len _ (by simp)) (odd_name _ (by simp)) (ne_nm hs (ns _ (by simp)))
    · exact odd (odd_len _ (by simp)) (odd_name _ (by simp)) (ne_nm hs (ns _ (by simp)))
    · exact odd rfl rfl rfl
    · exact odd rfl rfl rfl
    · exact odd (odd_len _ (by simp)) (odd_name _ (by simp)) (ne_nm hs (ns _ (by simp)))
  -- place
  refine stepW (xs := [.int 1001, .int (-1001), .non, .bl true, .str "0"]) rfl (fun o ho l => ?_) hL1 (by rw [h11, h10]; simp) fun L2 s72 hL2 h12 => ?_
  · have c : okD o = true ∧ inR o (-1000) 1000 = false := by
      simp only [List.mem_cons, List.not_mem_nil, or_false] at ho
      rcases ho with q | q | q | q | q <;> subst q <;> first | exact ⟨rfl, rfl⟩ | exact ⟨odd_len _ (by simp), rfl⟩ | exact ⟨rfl, by decide⟩
    exact ⟨_, ev_tup (evs_cons (ev_tup (evs_cons (ev_addJ (J := J) (r := [.str "new", o, .int 0, .str "free"]) rfl (by omega) rfl) (evs_cons rfl rfl))) (evs_cons rfl rfl)), wp (w_place hJ hR hj h30 c.1 c.2)⟩
  -- hold
  refine stepW (xs := [.str "loose", .str "", .non, .int 5]) rfl (fun o ho l => ?_) hL2 (by rw [h12, h11, h10]; simp) fun L3 s73 hL3 h13 => ?_
  · have c : okD o = true ∧ anyS holdW o = false := by
      simp only [List.mem_cons, List.not_mem_nil, or_false] at ho
      rcases ho with q | q | q | q <;> subst q <;> first | exact ⟨rfl, rfl⟩ | exact ⟨odd_len _ (by simp), by decide +kernel⟩
    exact ⟨_, ev_tup (evs_cons (ev_tup (evs_cons (ev_addJ (J := J) (r := [.str "new", .int 0, .int 0, o]) rfl (by omega) rfl) (evs_cons rfl rfl))) (evs_cons rfl rfl)), wp (w_hold hJ hR hj h30 c.1 c.2)⟩
  -- bars
  have hR2 : RL J (R.take 29) := RL.pre hR rfl
  have h29 : (R.take 29).length ≤ 29 := by rw [List.length_take]; omega
  refine stepS (env' := wE J R (.str s) L3 s73 (.val (.tup (R.take 29)))) ?_ ?_
  · refine ex_set (x := .tup (R.take 29)) ?_
    show Res.ok (D.tup (cutL R none (some 29))) n = _
    rw [show (29 : Int) = ((29 : Nat) : Int) from rfl, cut_take]
  generalize R.take 29 = R2 at hR2 h29
  have eb : ∀ {l : List D} {r : Str} {q : E} {row : List D} {s7 : Slot}, evs ((Q ds).tab (k + 1)) q (wE J R (.str s) l s7 (.val (.tup R2))) n = .ok row n → ev ((Q ds).tab (k + 1)) (.tup (.cons (.tup (.cons (.var 3) (.cons (.bop .Add (.var 8) (.tup (.cons (.tup q) E.nil))) E.nil))) (.cons (.cst (.str r)) E.nil))) (wE J R (.str s) l s7 (.val (.tup R2))) n = .ok (.tup [.tup [.tup J, .tup (R2 ++ [.tup row])], .str r]) n := fun e =>
    ev_tup (evs_cons (ev_tup (evs_cons rfl (evs_cons (ev_addR rfl (by omega) e) rfl))) (evs_cons rfl rfl))
  refine stepW (xs := [.str "", .str "1a", .non, .int 5]) rfl (fun o ho l => ?_) hL3 (by rw [h13, h12, h11, h10]; simp) fun L4 s74 hL4 h14 => ?_
  · have c : okD o = true ∧ nameD o = false := by
      simp only [List.mem_cons, List.not_mem_nil, or_false] at ho
      rcases ho with q | q | q | q <;> subst q <;> first | exact ⟨rfl, rfl⟩ | exact ⟨odd_len _ (by simp), odd_name _ (by simp)⟩
    exact ⟨_, eb (row := [o, .str s, .str s, .str "bar"]) rfl, wp (w_bar hJ hR2 hj h29 hs c.1 c.2)⟩
  refine stepW (xs := [.str "zz", .str "", .non, .str s]) rfl (fun o ho l => ?_) hL4 (by rw [h14, h13, h12, h11, h10]; simp) fun L5 s75 hL5 h15 => ?_
  · have c : okD o = true ∧ (inK (J.map keyR) o = false ∨ o = .str s) := by
      simp only [List.mem_cons, List.not_mem_nil, or_false] at ho
      rcases ho with q | q | q | q <;> subst q
      · exact ⟨odd_len _ (by simp), .inl (newJ hJ (ns _ (by simp)))⟩
      · exact ⟨odd_len _ (by simp), .inl (newJ hJ (ns _ (by simp)))⟩
      · exact ⟨rfl, .inl rfl⟩
      · exact ⟨os, .inr rfl⟩
    exact ⟨_, eb (row := [.str "new", .str s, o, .str "bar"]) rfl, wp (w_ends hJ hR2 hj h29 hi hs c.1 c.2)⟩
  refine stepS (env' := [.val (.tup [.tup J, .tup R]), .val .drw, .val .att, .val (.tup J), .val (.tup R), .val (.str s), .val (.lst L5), s75, .val (.tup R2)]) rfl ?_
  obtain ⟨d, hd, e⟩ := e_one (ds := ds) (k := k) (n := n) (d := 1) (a := 2) (env := [.val (.tup [.tup J, .tup R]), .val .drw, .val .att, .val (.tup J), .val (.tup R), .val (.str s), .val (.lst L5), s75, .val (.tup R2)]) (e := .var 6) (l := L5) rfl rfl rfl (fun q => by rw [q] at h15; simp at h15) (by omega)
  exact ⟨d, hL5 d hd, seq_rt (ex_ret e)⟩
theorem q_law_wrong {k n : Nat} (hJ : JL J) (hR : RL J R) (hj : 1 ≤ J.length ∧ J.length ≤ 10) (h30 : R.length ≤ 30) (hn : n < 2 ^ 38) : ∃ v r, Wr v r ∧ (Q ds).fn (k + 2) i__law_wrong [.tup [.tup J, .tup R], .drw, .att] n = .ok (.tup [v, .str r]) (n + 1 + 1) := by
  obtain ⟨j, j0, j1, e1⟩ := tk (T := (Q ds).tab (k + 1)) (n := n) (i := 1) (j := 2) (env := [.val (.tup [.tup J, .tup R]), .val .drw, .val .att, .val (.tup J), .val (.tup R), .no, .no, .no, .no]) (m := .blt .len (.cons (.var 3) E.nil)) (v := (J.length : Int)) rfl rfl rfl (by omega) (by omega)
  obtain ⟨r, hr, er⟩ := atI_mem (l := J) j0 j1
  obtain ⟨i, hi⟩ := List.getElem?_of_mem hr
  obtain ⟨s, x, y, h, a, rfl, -⟩ := (hJ i r hi).ex
  have hs : s ∈ nmL := List.mem_of_getElem? a
  obtain ⟨d, ⟨v, r, rfl, w⟩, e⟩ := wrong_rest (ds := ds) (k := k) (n := n + 1) hJ hR hj h30 hi hs (by omega) (rows_ok hJ hR hj h30 hs) (by simp)
  refine ⟨v, r, w, run_f (d := d__law_wrong) rfl (run_ret' rfl ?_)⟩
  show ex ((Q ds).tab (k + 1)) d__law_wrong.body [.val (.tup [.tup J, .tup R]), .val .drw, .val .att, .no, .no, .no, .no, .no, .no] n = _
  unfold d__law_wrong
  refine seq_nx (env' := [.val (.tup [.tup J, .tup R]), .val .drw, .val .att, .val (.tup J), .val (.tup R), .no, .no, .no, .no]) (m := n) rfl ?_
  refine seq_nx (ex_set (x := .str s) (m := n + 1) (ev_idx (y := .int 0) (ev_idx (x := .tup J) (y := .int j) rfl e1 er) rfl (at_0 _ _))) ?_
  have en : ∀ {e : E} {s6 s7 s8 : Slot} {w : D}, ev ((Q ds).tab (k + 1)) e [.val (.tup [.tup J, .tup R]), .val .drw, .val .att, .val (.tup J), .val (.tup R), .val (.str s), s6, s7, s8] (n + 1) = .ok w (n + 1) → ev ((Q ds).tab (k + 1)) (.tup (.cons e (.cons (.cst (.str "form")) E.nil))) [.val (.tup [.tup J, .tup R]), .val .drw, .val .att, .val (.tup J), .val (.tup R), .val (.str s), s6, s7, s8] (n + 1) = .ok (.tup [w, .str "form"]) (n + 1) := fun e => ev_tup (evs_cons e rfl)
  have em : ∀ {e : E} {s6 s7 s8 : Slot} {w : D}, ev ((Q ds).tab (k + 1)) e [.val (.tup [.tup J, .tup R]), .val .drw, .val .att, .val (.tup J), .val (.tup R), .val (.str s), s6, s7, s8] (n + 1) = .ok w (n + 1) → ev ((Q ds).tab (k + 1)) (.tup (.cons e (.cons (.cst (.str "many")) E.nil))) [.val (.tup [.tup J, .tup R]), .val .drw, .val .att, .val (.tup J), .val (.tup R), .val (.str s), s6, s7, s8] (n + 1) = .ok (.tup [w, .str "many"]) (n + 1) := fun e => ev_tup (evs_cons e rfl)
  refine seq_nx (env' := [.val (.tup [.tup J, .tup R]), .val .drw, .val .att, .val (.tup J), .val (.tup R), .val (.str s), .own (.lst [.tup [.non, .str "form"], .tup [.int 5, .str "form"], .tup [.str "ab", .str "form"], .tup [.tup [.tup J], .str "form"], .tup [.tup [.tup J, .tup R, .tup []], .str "form"], .tup [.tup [.tup J, .non], .str "form"], .tup [.tup [.tup (J ++ [.tup [.str s, .int 0, .int 0]]), .tup R], .str "form"]]), .no, .no]) (m := n + 1) (ex_own (l := [.tup [.non, .str "form"], .tup [.int 5, .str "form"], .tup [.str "ab", .str "form"], .tup [.tup [.tup J], .str "form"], .tup [.tup [.tup J, .tup R, .tup []], .str "form"], .tup [.tup [.tup J, .non], .str "form"], .tup [.tup [.tup (J ++ [.tup [.str s, .int 0, .int 0]]), .tup R], .str "form"]]) ?_) ?_
  · refine ev_lst (evs_cons (en rfl) (evs_cons (en rfl) (evs_cons (en rfl) (evs_cons (en rfl) (evs_cons (en ?_) (evs_cons (en rfl) (evs_cons (en ?_) rfl)))))))
    · exact ev_cat (x := [.tup J, .tup R]) (y := [.tup []]) (m := n + 1) rfl rfl (by simp)
    · exact ev_tup (evs_cons (ev_cat (x := J) (y := [.tup [.str s, .int 0, .int 0]]) (m := n + 1) rfl rfl (by simp; omega)) (evs_cons rfl rfl))
  refine seq_nx (env' := wE J R (.str s) _ .no .no) (m := n + 1) (ex_own (ev_bop (m := n + 1) (x := .lst _) (y := .lst [.tup [.tup [.tup [], .tup []], .str "many"], .tup [.tup [.tup (List.replicate 13 J).flatten, .tup R], .str "many"], .tup [.tup [.tup J, .tup (List.replicate 31 [D.tup [.str "q", .str s, .str s, .str "bar"]]).flatten], .str "many"]]) rfl ?_ ?_)) e
  · refine ev_lst (evs_cons (em rfl) (evs_cons (em ?_) (evs_cons (em ?_) rfl)))
    · refine ev_tup (evs_cons (ev_bop (x := .tup J) (y := .int 13) (m := n + 1) rfl rfl ?_) (evs_cons rfl rfl))
      show (repT J 13).map D.tup = _
      unfold repT
      rw [if_pos ⟨by decide, by decide, fun q => by rw [q] at hj; simp at hj, by omega⟩]; rfl
    · exact ev_tup (evs_cons rfl (evs_cons (ev_bop (x := .tup [.tup [.str "q", .str s, .str s, .str "bar"]]) (y := .int 31) (m := n + 1) rfl rfl rfl) rfl))
  · rw [bl_add, cat_some2 (by simp)]; rfl
end
end Kx

set_option Elab.async false
set_option linter.all false
set_option maxRecDepth 100000
set_option maxHeartbeats 1000000
set_option exponentiation.threshold 10000
/-! B5: k78: the law. -/
namespace Kx
open Py PySem
variable {ds : List Int}
def turnB : S := (.seq (.setT (.t2 (.nm 5) (.nm 6)) (.call i__law_wrong (.cons (.var 3) (.cons (.var 1) (.cons (.var 2) E.nil))))) (.seq (.ite (.tru (.cmp .NotEq (.comp (.var 7) (.nm 7) (.rng1 (.cst (.int 35))) (.tru (.cmp .NotEq (.call i__law_told (.cons (.var 7) (.cons (.var 5) E.nil))) (.var 6)))) (.lst E.nil))) (.seq (.ret (.cst (.bl false))) S.skip) S.skip) S.skip))
abbrev lE (v : D) (s4 s5 s6 s7 : Slot) : Py.Env := [.no, .val .drw, .val .att, .val v, s4, s5, s6, s7]
theorem turn_ok {k n : Nat} {J R : List D} {x : D} {s5 s6 s7 : Slot} (hJ : JL J) (hR : RL J R) (hj : 1 ≤ J.length ∧ J.length ≤ 10) (h30 : R.length ≤ 30) (hn : n < 2 ^ 38) : ∃ s5' s6', ex ((Q ds).tab (k + 9)) turnB (lE (.tup [.tup J, .tup R]) (.val x) s5 s6 s7) n = .ok (.nx (lE (.tup [.tup J, .tup R]) (.val x) s5' s6' s7)) (n + 1 + 1) := by
  obtain ⟨v, r, w, e1⟩ := q_law_wrong (ds := ds) (k := k + 7) (n := n) hJ hR hj h30 hn
  refine ⟨.val v, .val (.str r), ?_⟩
  unfold turnB
  refine seq_nx (env' := lE (.tup [.tup J, .tup R]) (.val x) (.val v) (.val (.str r)) s7) (m := n + 1 + 1) ?_ ?_
  · rw [ex, ev_call (l := [.tup [.tup J, .tup R], .drw, .att]) (m := n) rfl e1]; rfl
  have e2 := comp_filter (T := (Q ds).tab (k + 9)) (env := lE (.tup [.tup J, .tup R]) (.val x) (.val v) (.val (.str r)) s7) (n := n + 1 + 1) (m := n + 1 + 1) (i := 7) (it := .rng1 (.cst (.int 35))) (cond := .tru (.cmp .NotEq (.call i__law_told (.cons (.var 7) (.cons (.var 5) E.nil))) (.var 6))) (xs := (List.range 35).map fun j => .int (j : Nat)) (g := fun _ => false) (by
    show (Res.of (rngV 0 35) _) = _
    rw [rng_some (by omega) (by omega)]; rfl) (by simp) (fun q hq => by
      obtain ⟨j, hj, rfl⟩ := List.mem_map.mp hq
      have hj : j < 35 := List.mem_range.mp hj
      refine tv_tru (x := .bl false) (ev_cmp (x := .str r) (y := .str r) (m := n + 1 + 1) (ev_call (l := [.int (j : Nat), v]) rfl (x_told w j hj)) rfl ?_) rfl
      rw [c_ne, e_str]; simp)
  have e3 : (List.filter (fun _ => false) ((List.range 35).map fun j => D.int (j : Nat))) = [] := by simp
  rw [e3] at e2
  exact seq_nx (ite_f (tv_tru (x := .bl false) (ev_cmp e2 (y := .lst []) (k := n + 1 + 1) rfl rfl) rfl) ex_skip) ex_skip
theorem law_loop {k : Nat} {J R : List D} (hJ : JL J) (hR : RL J R) (hj : 1 ≤ J.length ∧ J.length ≤ 10) (h30 : R.length ≤ 30) : ∀ (xs : List D) (n : Nat) (s4 s5 s6 s7 : Slot), n + 2 * xs.length < 2 ^ 38 →
    ∃ s4' s5' s6', forL (fun x env n => match (Tg.nm 4).bind x env with
      | some env => ex ((Q ds).tab (k + 9)) turnB env n
      | none => .bad) xs (lE (.tup [.tup J, .tup R]) s4 s5 s6 s7) n = .ok (.nx (lE (.tup [.tup J, .tup R]) s4' s5' s6' s7)) (n + 2 * xs.length)
  | [], n, s4, s5, s6, s7, _ => ⟨s4, s5, s6, rfl⟩
  | x :: xs, n, s4, s5, s6, s7, hn => by
    rw [List.length_cons] at hn
    obtain ⟨a5, a6, e1⟩ := turn_ok (ds := ds) (k := k) (n := n) (x := x) (s5 := s5) (s6 := s6) (s7 := s7) hJ hR hj h30 (by omega)
    obtain ⟨b4, b5, b6, e2⟩ := law_loop (k := k) hJ hR hj h30 xs (n + 1 + 1) (.val x) a5 a6 s7 (by omega)
    refine ⟨b4, b5, b6, ?_⟩
    rw [List.length_cons, show n + 2 * (xs.length + 1) = n + 1 + 1 + 2 * xs.length from by omega]
    exact forL_nx e1 e2
theorem holds : ∀ ds : List Int, (∀ d ∈ ds, 0 ≤ d ∧ d < 2 ^ 31) → ∃ n, Py.ex ((Kx.z.prg.at ds).tab 60) Kx.z.bl (Py.lawEnv Kx.z.tl.N.length) 0 = .ok (.ret (.bl true)) n := by
  intro ds _
  show ∃ n, ex ((Q ds).tab (51 + 9)) bl [.no, .val .drw, .val .att, .no, .no, .no, .no, .no] 0 = _
  obtain ⟨v, n1, lf, h1, e2⟩ := q_law_frame (ds := ds) (k := 58) (n := 0) (most := 10) (by omega) (by omega)
  obtain ⟨J, R, rfl, hJ, hR, j1, j2, h30⟩ := lf.ex
  have e3 : ev ((Q ds).tab (51 + 9)) (.call i__law_frame (.cons (.var 1) (.cons (.var 2) (.cons (.cst (.int 10)) E.nil)))) [.no, .val .drw, .val .att, .no, .no, .no, .no, .no] 0 = .ok (.tup [.tup J, .tup R]) n1 := ev_call (l := [.drw, .att, .int 10]) rfl e2
  obtain ⟨s4', s5', s6', e4⟩ := law_loop (ds := ds) (k := 51) hJ hR ⟨j1, by omega⟩ h30 ((List.range 4).map fun j => .int (j : Nat)) n1 .no .no .no .no (by simp only [List.length_map, List.length_range]; omega)
  refine ⟨n1 + 2 * ((List.range 4).map fun j => D.int (j : Nat)).length, ?_⟩
  unfold bl
  refine seq_nx (ex_set e3) ?_
  refine seq_nx (ex_loop (xs := (List.range 4).map fun j => .int (j : Nat)) (m := n1) ?_ e4) (seq_rt (ex_ret rfl))
  show (Res.of (rngV 0 4) n1) = _
  rw [rng_some (by omega) (by omega)]; rfl
end Kx


set_option Elab.async false
set_option linter.all false
set_option maxRecDepth 100000
set_option maxHeartbeats 0
open PySem PySem.W PySem.Calls PyProof.Rows in
theorem PySem.Challenge.cw_firmwrought_k78_whole_wrong_frames_in_gr_holds : PySem.Challenge.rw_firmwrought_k78_whole_wrong_frames_in_gr.Holds := by
  refine Kx.fin_head ?hc
  case hc =>
    refine Py.walk_G (l := PySem.Challenge.rw_firmwrought_k78_whole_wrong_frames_in_gr) (n := 63) (k := 60 + 3) (x := "script") rfl (by decide) (by kernel_rfl) ⟨rfl, by decide, by decide⟩ ?F
    intro w mg fa h Y G hmg0
    obtain ⟨K, X, c⟩ := Y
    have hmg : mg ("law" : PySem.Str) = some (.ref fa) := by
      have e : (HandSHeadRun.topDef (OpenLaw.row PySem.Challenge.rw_firmwrought_k78_whole_wrong_frames_in_gr).prog 187).name = ("law" : PySem.Str) := by kernel_rfl
      rw [← e]
      exact hmg0
    obtain ⟨k1, fd, bd, hF⟩ := Py.law_of (P := (PySem.Challenge.rw_firmwrought_k78_whole_wrong_frames_in_gr).prog) (w := w) Kx.ok c X G (by decide +kernel) rfl 60 Kx.holds
    have e := hmg.symm.trans k1
    cases e
    exact ⟨K, fd, Py.spLaw K, X, bd, fun H a ns _ _ hS => ⟨⟨a, ns, rfl, hS⟩, fun _ => rfl⟩, fun base _ _ => hF base⟩

