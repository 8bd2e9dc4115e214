import PyProof.Rows.All
import Wide.All
import OpenK.AllK
import Wide.FinOn
import KE.SortData
import KE.DataMinMax
import HandS.ForMost
import HandS.ForExc
import HandS.Wide
import HandS.WideMore
import HandS.TupAny
import HandS.TupMul
import HandS.Zip
import HandS.Rev
import HandS.Flow
import HandS.Style
import HandS.Conv
import HandS.IsInst
import HandS.Deep
import HandS.DictComp
import HandS.SortInts
import HandS.Flt
import HandS.Strs
import KE.GoesEnum
import KE.GoesMore
import HandS.Iter
import KE.GoesZip
import HandS.WordsDict
import HandS.Comp
import HandS.Defaults
import HandS.EndBits
import HandS.HeadHook2
import HandS.Head2
import HandS.HeadEnd
import HandS.Words
import PyProof.StrLawsIn
import PySem.Challenge.RW_leaprows_k56_common_places
set_option Elab.async false
set_option autoImplicit false
set_option linter.all false
/-! Ev: a small interpreter over the model's data (own text). -/
namespace Lp
open PySem

abbrev D := PyData
inductive Er where
  | bad
  | ex (c : Str) (xs : List D)
abbrev R (A : Type) := Except Er A
def bad {A : Type} : R A := .error .bad
def gd {A : Type} (b : Bool) (x : R A) : R A := match b with
  | true => x
  | false => bad
def ofO {A : Type} (o : Option A) : R A := match o with
  | some a => .ok a
  | none => bad

/-- a slot: nothing, a value for good, a list or dict of one's own, the list or dict that was lent -/
inductive Sl where
  | un
  | fz (d : D)
  | ow (d : D)
  | io (d : D)
abbrev En := List Sl
def En.at (v : En) (i : Nat) : Sl := v.getD i .un

/-! ### values -/
def lim : Nat := 16777216
def isTup : D → Bool
  | .tuple _ => true
  | _ => false
def isLst : D → Bool
  | .list _ => true
  | _ => false
def ownable : D → Bool
  | .list _ => true
  | .dict _ => true
  | _ => false
def tru : D → R Bool
  | .none => .ok false
  | .bool b => .ok b
  | .int i => .ok (i != 0)
  | .str s => gd (decide (s.length ≤ lim)) (.ok ((s.length : Int) != 0))
  | .list xs => .ok (!xs.isEmpty)
  | .tuple xs => .ok (!xs.isEmpty)
  | .dict _ => bad
def b2n : Bool → Int
  | true => 1
  | false => 0
/-- lists, n times -/
def rep {A : Type} (xs : List A) (k : Int) : List A := (List.replicate k.toNat xs).flatten
def bin : Operator → D → D → R D
  | .Add, .int a, .int b => .ok (.int (a + b))
  | .Add, .int a, .bool b => .ok (.int (a + b2n b))
  | .Add, .bool a, .bool b => .ok (.int (b2n a + b2n b))
  | .Add, .str a, .str b => gd (decide (a.length + b.length ≤ lim)) (.ok (.str (a ++ b)))
  | .Add, .list a, .list b => gd (decide (a.length + b.length ≤ lim)) (.ok (.list (a ++ b)))
  | .Add, .tuple a, .tuple b => gd (decide (a.length + b.length ≤ lim)) (.ok (.tuple (a ++ b)))
  | .Sub, .int a, .int b => .ok (.int (a - b))
  | .Mult, .int a, .int b => gd (decide (a.natAbs.log2 + b.natAbs.log2 < 1000000)) (.ok (.int (a * b)))
  | .Mult, .list a, .int k => gd (decide (-(2 ^ 63) ≤ k) && decide (k < 2 ^ 63) && decide (a.length * k.toNat ≤ lim)) (.ok (.list (rep a k)))
  | .Mult, .str a, .int k => gd (decide (0 ≤ k) && decide (k < 1000000) && decide (a.length * k.toNat ≤ lim)) (.ok (.str (Txt.mul a k)))
  | .FloorDiv, .int a, .int b => if 0 < b then gd (decide (b.natAbs.log2 < 9000)) (.ok (.int (a / b))) else gd (decide (b ≠ 0) && decide (b.natAbs < 1073741824)) (.ok (.int (a.fdiv b)))
  | .Mod, .int a, .int b => gd (decide (0 < b)) (.ok (.int (a % b)))
  | .Pow, .int a, .int b => gd (decide (0 ≤ b) && decide (b ≤ 1000000) && decide (a.natAbs < 2 ^ 64)) (.ok (.int (a ^ b.toNat)))
  | .LShift, .int a, .int b => gd (decide (0 ≤ b) && decide (b ≤ 1000000) && decide (a.natAbs < 2 ^ 64)) (.ok (.int (a * 2 ^ b.toNat)))
  | .RShift, .int a, .int b => gd (decide (0 ≤ b)) (.ok (.int (a / 2 ^ b.toNat)))
  | .BitAnd, .int a, .int b => .ok (.int (Builtin.bitAnd a b))
  | .BitOr, .int a, .int b => .ok (.int (Builtin.bitOr a b))
  | _, _, _ => bad
/-- == is asked of such data alone -/
def shp (d : D) : Bool := SeqAt.shaped d
def isN : D → Bool
  | .none => true
  | _ => false
def ordG (a b : D) : Bool := W.alike a b && !isN a && decide (min a.depth b.depth ≤ 64)
def cmp : CmpOp → D → D → R Bool
  | .Eq, a, b => gd (shp a && shp b) (.ok (PyData.eqv a b))
  | .NotEq, a, b => gd (shp a && shp b) (.ok (!PyData.eqv a b))
  | .Lt, a, b => gd (ordG a b) (.ok (W.dataLt a b))
  | .LtE, a, b => gd (ordG a b) (.ok (!W.dataLt b a))
  | .Gt, a, b => gd (ordG a b) (.ok (W.dataLt b a))
  | .GtE, a, b => gd (ordG a b) (.ok (!W.dataLt a b))
  | .Is, .bool a, .bool b => .ok (a == b)
  | .IsNot, .bool a, .bool b => .ok (!(a == b))
  | .Is, a, b => gd (isN b) (.ok (isN a))
  | .IsNot, a, b => gd (isN b) (.ok (!isN a))
  | .In, x, .list ys => gd (shp x && shp (.list ys)) (.ok (ys.any fun z => PyData.eqv z x))
  | .NotIn, x, .list ys => gd (shp x && shp (.list ys)) (.ok (!ys.any fun z => PyData.eqv z x))
  | .In, x, .tuple ys => gd (shp x && shp (.tuple ys)) (.ok (ys.any fun z => PyData.eqv z x))
  | .NotIn, x, .tuple ys => gd (shp x && shp (.tuple ys)) (.ok (!ys.any fun z => PyData.eqv z x))
  | .In, .str x, .str y => .ok (!(Builtin.Str.occurrences y x 0 y.length 1).isEmpty)
  | .NotIn, .str x, .str y => .ok (!(!(Builtin.Str.occurrences y x 0 y.length 1).isEmpty))
  | _, _, _ => bad
/-- the place of an index -/
def ixAt (n : Nat) (i : Int) : Option Nat := if 0 ≤ i then (if i < n then some i.toNat else none) else if -(n : Int) ≤ i then some (i + n).toNat else none
def pick {A : Type} (xs : List A) (i : Int) : R A := ofO ((ixAt xs.length i).bind fun j => xs[j]?)
def sub : D → D → R D
  | .list xs, .int i => pick xs i
  | .tuple xs, .int i => pick xs i
  | .str z, .int i => gd (decide (z.length ≤ lim)) ((pick z.cps.toList i).map fun c => .str ⟨#[c]⟩)
  | _, _ => bad
/-- a slice's end -/
def cutAt (n d : Nat) : Option Int → Nat
  | none => d
  | some i => if i < 0 then (i + n).toNat else min i.toNat n
def cut {A : Type} (xs : List A) (lo hi : Option Int) : List A := (xs.drop (cutAt xs.length 0 lo)).take (cutAt xs.length xs.length hi - cutAt xs.length 0 lo)
def cutD : D → Option Int → Option Int → R D
  | .list xs, lo, hi => .ok (.list (cut xs lo hi))
  | .tuple xs, lo, hi => .ok (.tuple (cut xs lo hi))
  | .str z, lo, hi => gd (decide (z.length ≤ lim)) (.ok (.str ⟨(cut z.cps.toList lo hi).toArray⟩))
  | _, _, _ => bad
def rev : D → R D
  | .list xs => .ok (.list xs.reverse)
  | .tuple xs => .ok (.tuple xs.reverse)
  | .str z => gd (decide (z.length ≤ lim)) (.ok (.str ⟨z.cps.toList.reverse.toArray⟩))
  | _ => bad
def intsD : List D → Option (List Int)
  | [] => some []
  | .int i :: r => (intsD r).map (i :: ·)
  | _ :: _ => none
def boolsD : List D → Option (List Bool)
  | [] => some []
  | .bool i :: r => (boolsD r).map (i :: ·)
  | _ :: _ => none
def strsD : List D → Option (List Str)
  | [] => some []
  | .str i :: r => (strsD r).map (i :: ·)
  | _ :: _ => none
/-- all alike one that may be put in order -/
def alikes : List D → Bool
  | [] => true
  | x :: r => (x :: r).all fun y => (x :: r).all fun z => W.alike y z
def sortG (xs : List D) : Bool := alikes xs && decide (xs.length ≤ lim) && decide (PyData.depthAll xs ≤ 64) &&
  ((xs.all fun d => match d with
    | .tuple (_ :: _) => true
    | _ => false) || xs.all fun d => !isN d && !isTup d)
def sortD (xs : List D) : R D := gd (sortG xs) (.ok (.list (xs.mergeSort (W.dataLe false id))))
inductive Ty where
  | int | bool | tuple | list | str
def isTy : Ty → D → Bool
  | .int, .int _ => true
  | .int, .bool _ => true
  | .bool, .bool _ => true
  | .tuple, .tuple _ => true
  | .list, .list _ => true
  | .str, .str _ => true
  | _, _ => false
inductive Blt where
  | len | abs | min | max | sum | sorted | list | tuple | int | all | any | str | range
def seqOf : D → R (List D)
  | .list xs => .ok xs
  | .tuple xs => .ok xs
  | _ => bad
def bestG (xs : List D) : Bool := alikes xs && (xs.all fun d => !isN d && !ownable d) && decide (PyData.depthAll xs ≤ 64)
def rangeN (a b : Int) : List D := (List.range (b - a).toNat).map fun k => .int (a + (k : Nat))
def rangeOk (a b : Int) : Bool := decide (-(2 ^ 62) ≤ a) && decide (a < 2 ^ 62) && decide (-(2 ^ 62) ≤ b) && decide (b < 2 ^ 62)
def bLen : D → R D
  | .list xs => .ok (.int xs.length)
  | .tuple xs => .ok (.int xs.length)
  | .str s => gd (decide (s.length ≤ lim)) (.ok (.int s.length))
  | _ => bad
def bAbs : D → R D
  | .int i => .ok (.int (if i < 0 then -i else i))
  | _ => bad
def bMax2 : D → D → R D
  | .int i, .int j => .ok (.int (if j > i then j else i))
  | _, _ => bad
def bMin2 : D → D → R D
  | .int i, .int j => .ok (.int (if j < i then j else i))
  | _, _ => bad
def bMaxL : List D → R D
  | x :: xs => gd (bestG (x :: xs)) (.ok (W.maxD x xs))
  | [] => bad
def bMinL : List D → R D
  | x :: xs => gd (bestG (x :: xs)) (.ok (W.minD x xs))
  | [] => bad
def onSeq (f : List D → R D) : D → R D
  | .list xs => f xs
  | .tuple xs => f xs
  | _ => bad
def onLst (f : List D → R D) : D → R D
  | .list xs => f xs
  | _ => bad
def bTuple : D → R D
  | .list xs => .ok (.tuple xs)
  | .tuple xs => .ok (.tuple xs)
  | _ => bad
def bInt : D → R D
  | .int i => .ok (.int i)
  | .bool b => .ok (.int (b2n b))
  | _ => bad
def bSum (xs : List D) : R D := ofO ((intsD xs).map fun ns => .int ns.sum)
def bAll (xs : List D) : R D := ofO ((boolsD xs).map fun bs => .bool (bs.all id))
def bAny (xs : List D) : R D := ofO ((boolsD xs).map fun bs => .bool (bs.any id))
def blt1 : Blt → D → R D
  | .len, d => bLen d
  | .abs, d => bAbs d
  | .max, d => onSeq bMaxL d
  | .min, d => onSeq bMinL d
  | .sum, d => onSeq bSum d
  | .sorted, d => onSeq sortD d
  | .list, d => onSeq (fun xs => .ok (.list xs)) d
  | .tuple, d => bTuple d
  | .int, d => bInt d
  | .all, d => onLst bAll d
  | .any, d => onLst bAny d
  | _, _ => bad
def blt2 : Blt → D → D → R D
  | .max, d, e => bMax2 d e
  | .min, d, e => bMin2 d e
  | _, _, _ => bad
def blt3 : Blt → D → D → D → R D
  | .max, .int i, .int j, .int k => .ok (.int (if k > (if j > i then j else i) then k else (if j > i then j else i)))
  | .min, .int i, .int j, .int k => .ok (.int (if k < (if j < i then j else i) then k else (if j < i then j else i)))
  | _, _, _, _ => bad
def blt : Blt → List D → R D
  | f, [d] => blt1 f d
  | f, [d, e] => blt2 f d e
  | f, [d, e, g] => blt3 f d e g
  | _, _ => bad
/-- the first place of an equal one -/
def findAt (x : D) : Nat → List D → Option Nat
  | _, [] => none
  | n, z :: r => if PyData.eqv z x then some n else findAt x (n + 1) r
inductive Mt where
  | index | count | join
def mt : Mt → D → List D → R D
  | .index, .list ys, [x] => gd (shp x && shp (.list ys)) (ofO ((findAt x 0 ys).map fun (n : Nat) => .int n))
  | .index, .tuple ys, [x] => gd (shp x && shp (.tuple ys)) (ofO ((findAt x 0 ys).map fun (n : Nat) => .int n))
  | .count, .list ys, [x] => gd (shp x && shp (.list ys)) (.ok (.int (ys.countP fun z => PyData.eqv z x : Nat)))
  | .count, .tuple ys, [x] => gd (shp x && shp (.tuple ys)) (.ok (.int (ys.countP fun z => PyData.eqv z x : Nat)))
  | .count, .str a, [.str b] => .ok (.int (Txt.count a b))
  | .join, .str a, [.list ys] => (ofO (strsD ys)).bind fun ss => gd (decide ((ss.map (·.length)).sum + ss.length * a.length ≤ 16777216)) (.ok (.str (Txt.join a ss)))
  | _, _, _ => bad

/-! ### the trees -/
inductive Tg where
  | nm (i : Nat)
  | tp (ts : List Tg)
mutual
inductive E where
  | var (i : Nat)
  | cst (d : D)
  | bin (op : Operator) (a b : E)
  | neg (a : E)
  | not (a : E)
  | cmp (op : CmpOp) (a b : E)
  | cmp2 (op op' : CmpOp) (a b c : E)
  | and (a b : E)
  | or (a b : E)
  | ite (c a b : E)
  | tup (es : List E)
  | lst (es : List E)
  | sub (a i : E)
  | cut (a : E) (lo hi : Option E)
  | rev (a : E)
  | isa (a : E) (ts : List Ty)
  | blt (f : Blt) (es : List E)
  | mt (m : Mt) (o : E) (es : List E)
  | call (f : Nat) (io : Option Nat) (es : List E)
  | comp (x : E) (t : Tg) (it : It) (c : Option E)
  | comp2 (x : E) (t : Tg) (it : It) (t2 : Tg) (it2 : It)
  | ndist (x : E) (t : Tg) (it : It)
  | lrg (a : E)
  | pop (i : Nat)
inductive It where
  | seq (e : E)
  | rng (es : List E)
  | enm (e : E)
  | zip (a b : E)
end
inductive S where
  | asg (t : Tg) (e : E)
  | par (is : List Nat) (es : List E)
  | app (i : Nat) (e : E)
  | put (i : Nat) (k e : E)
  | aug (i : Nat) (op : Operator) (e : E)
  | augIx (i : Nat) (k : E) (op : Operator) (e : E)
  | ite (c : E) (a b : List S)
  | whl (c : E) (b : List S)
  | for_ (t : Tg) (it : It) (b : List S)
  | ret (e : E)
  | retN
  | exp (e : E)
  | pas
  | stop
structure Fd where
  io : Bool
  np : Nat
  ns : Nat
  body : List S
inductive Fl where
  | nx
  | rt (d : D)

/-! ### its run -/
mutual
def Tg.own : Tg → List Nat
  | .nm i => [i]
  | .tp ts => Tg.owns ts
def Tg.owns : List Tg → List Nat
  | [] => []
  | t :: r => Tg.own t ++ Tg.owns r
end
def wipeE (v : En) : List Nat → En
  | [] => v
  | i :: r => (wipeE v r).set i .un
/-- the slots at is as they were in v0 -/
def backE (v0 v : En) : List Nat → En
  | [] => v
  | i :: r => (backE v0 v r).set i (v0.at i)
def notIo : Sl → Bool
  | .io _ => false
  | _ => true
def setV (v : En) (i : Nat) (s : Sl) : R En := gd (decide (i < v.length) && notIo (v.at i)) (.ok (v.set i s))
mutual
def asgT : Tg → D → En → R En
  | .nm i, d, v => setV v i (.fz d)
  | .tp ts, .list ds, v => asgTs ts ds v
  | .tp ts, .tuple ds, v => asgTs ts ds v
  | .tp _, _, _ => bad
def asgTs : List Tg → List D → En → R En
  | [], [], v => .ok v
  | t :: ts, d :: ds, v => (asgT t d v).bind fun v1 => asgTs ts ds v1
  | _, _, _ => bad
end
/-- what a name gives: for good -/
def getV (v : En) (i : Nat) : R (D × En) := match v.at i with
  | .fz d => .ok (d, v)
  | .ow d => .ok (d, v.set i (.fz d))
  | _ => bad
def peekV (v : En) (i : Nat) : R D := match v.at i with
  | .fz d => .ok d
  | .ow d => .ok d
  | .io d => .ok d
  | _ => bad
/-- an operand: read at once, or (a list of one's own) when all stand -/
abbrev Lz := Sum Nat D
def Lz.get (v : En) : Lz → R D
  | .inl i => peekV v i
  | .inr d => .ok d
def lzV (v : En) (i : Nat) : R (Lz × En) := match v.at i with
  | .fz d => .ok (.inr d, v)
  | .ow _ => .ok (.inl i, v)
  | .io _ => .ok (.inl i, v)
  | .un => bad
def Lz.gets (v : En) : List Lz → R (List D)
  | [] => .ok []
  | z :: r => (z.get v).bind fun d => (Lz.gets v r).map (d :: ·)
def sign1 (c : Nat) : D := .str ⟨#[c]⟩
def itemsOf : D → R (List D)
  | .list xs => .ok xs
  | .tuple xs => .ok xs
  | .str s => .ok (s.cps.toList.map sign1)
  | _ => bad
/-- the numbers of range(a, b, c) -/
def rangeC (a b c : Int) : List D := (List.range (Builtin.Range.rangeSize a b c).toNat).map fun k => .int (a + (k : Nat) * c)
def rangeItems : List D → R (List D)
  | [.int b] => gd (rangeOk 0 b) (.ok (rangeN 0 b))
  | [.int a, .int b] => gd (rangeOk a b) (.ok (rangeN a b))
  | [.int a, .int b, .int c] => gd (decide (c ≠ 0) && decide (c.natAbs < 1073741824) && Builtin.Range.small a b c) (.ok (rangeC a b c))
  | _ => bad
def enumFrom : Nat → List D → List D
  | _, [] => []
  | n, d :: r => .tuple [.int n, d] :: enumFrom (n + 1) r
def zipD : List D → List D → List D
  | x :: xs, y :: ys => .tuple [x, y] :: zipD xs ys
  | _, _ => []
def zipOf : D → D → R (List D)
  | .list xs, .list ys => .ok (zipD xs ys)
  | .tuple xs, .tuple ys => .ok (zipD xs ys)
  | .tuple xs, .list ys => .ok (zipD xs ys)
  | .list xs, .tuple ys => .ok (zipD xs ys)
  | _, _ => bad
abbrev Cf := Nat → Option D → List D → R (D × Option D)
def callE (cf : Cf) (f : Nat) (io : Option Nat) (ds : List D) (v : En) : R (D × En) := match io with
  | none => (cf f none ds).map fun r => (r.1, v)
  | some i => match v.at i with
    | .ow c => (cf f (some c) ds).bind fun r => (ofO r.2).map fun c' => (r.1, v.set i (.ow c'))
    | .io c => (cf f (some c) ds).bind fun r => (ofO r.2).map fun c' => (r.1, v.set i (.io c'))
    | _ => bad
def rdy (io : Option Nat) (v : En) : Bool := match io with
  | none => true
  | some i => match v.at i with
    | .ow _ => true
    | .io _ => true
    | _ => false
def mapE (f : D → En → R (Option D × En)) : List D → En → R (List D × En)
  | [], v => .ok ([], v)
  | d :: ds, v => (f d v).bind fun r => (mapE f ds r.2).map fun q => (match r.1 with
    | some x => x :: q.1
    | none => q.1, q.2)
def mapE2 (f : D → En → R (List D × En)) : List D → En → R (List D × En)
  | [], v => .ok ([], v)
  | d :: ds, v => (f d v).bind fun r => (mapE2 f ds r.2).map fun q => (r.1 ++ q.1, q.2)
def nubI : List Int → List Int → List Int
  | acc, [] => acc
  | acc, x :: r => if acc.contains x then nubI acc r else nubI (acc ++ [x]) r
def okBack (v : En) (is : List Nat) : Bool := is.all fun i => match v.at i with
  | .un => true
  | .fz _ => true
  | _ => false
/-- an operand: r is the tree's own run -/
def lzOf (a : E) (r : En → R (D × En)) (v : En) : R (Lz × En) := match a with
  | .var i => lzV v i
  | _ => (r v).map fun x => (.inr x.1, x.2)
/-- two operands -/
def two (a b : E) (ra rb : En → R (D × En)) (v : En) (k : D → D → En → R (D × En)) : R (D × En) :=
  (lzOf a ra v).bind fun x => (lzOf b rb x.2).bind fun y => (x.1.get y.2).bind fun p => (y.1.get y.2).bind fun q => k p q y.2
def one (a : E) (ra : En → R (D × En)) (v : En) (k : D → En → R (D × En)) : R (D × En) :=
  (lzOf a ra v).bind fun x => (x.1.get x.2).bind fun p => k p x.2
def truOf (r : R (D × En)) : R (Bool × En) := r.bind fun x => (tru x.1).map fun b => (b, x.2)
/-- the list or dict of a slot that may be changed -/
def ownAt (v : En) (i : Nat) : R D := match v.at i with
  | .ow d => .ok d
  | .io d => .ok d
  | _ => bad
def putAt (v : En) (i : Nat) (d : D) : En := match v.at i with
  | .io _ => v.set i (.io d)
  | _ => v.set i (.ow d)
/-- the last of a list, and what is left -/
def popD : D → R (D × D)
  | .list xs => match xs.getLast? with
    | some y => .ok (y, .list xs.dropLast)
    | none => bad
  | _ => bad
/-- list(range(n)) -/
def lrgD : D → R D
  | .int n => gd (rangeOk 0 n && decide (n.toNat ≤ 16777216)) (.ok (.list (rangeN 0 n)))
  | _ => bad
mutual
/-- a value for good -/
def ev (cf : Cf) : E → En → R (D × En)
  | .var i, v => getV v i
  | .cst d, v => .ok (d, v)
  | .bin op a b, v => two a b (ev cf a) (ev cf b) v fun p q v' => (bin op p q).map fun d => (d, v')
  | .neg a, v => one a (ev cf a) v fun p v' => match p with
    | .int i => .ok (.int (-i), v')
    | _ => bad
  | .not a, v => (truOf (ev cf a v)).map fun x => (.bool (!x.1), x.2)
  | .cmp op a b, v => two a b (ev cf a) (ev cf b) v fun p q v' => (cmp op p q).map fun d => (.bool d, v')
  | .cmp2 op op' a b c, v => (lzOf a (ev cf a) v).bind fun x => (lzOf b (ev cf b) x.2).bind fun y => (x.1.get y.2).bind fun p => (y.1.get y.2).bind fun q => (cmp op p q).bind fun d =>
    match d with
    | true => (lzOf c (ev cf c) y.2).bind fun z => (y.1.get z.2).bind fun q' => (z.1.get z.2).bind fun r => (cmp op' q' r).map fun d' => (.bool d', z.2)
    | false => .ok (.bool false, y.2)
  | .and a b, v => (ev cf a v).bind fun x => (tru x.1).bind fun t => match t with
    | true => ev cf b x.2
    | false => .ok x
  | .or a b, v => (ev cf a v).bind fun x => (tru x.1).bind fun t => match t with
    | false => ev cf b x.2
    | true => .ok x
  | .ite c a b, v => (truOf (ev cf c v)).bind fun x => match x.1 with
    | true => ev cf a x.2
    | false => ev cf b x.2
  | .tup es, v => (evs cf es v).map fun x => (.tuple x.1, x.2)
  | .lst es, v => (evs cf es v).map fun x => (.list x.1, x.2)
  | .sub a i, v => two a i (ev cf a) (ev cf i) v fun p q v' => (sub p q).map fun d => (d, v')
  | .cut a lo hi, v => (lzOf a (ev cf a) v).bind fun x => (evo cf lo x.2).bind fun y => (evo cf hi y.2).bind fun z => (x.1.get z.2).bind fun p => (cutD p y.1 z.1).map fun d => (d, z.2)
  | .rev a, v => one a (ev cf a) v fun p v' => (rev p).map fun d => (d, v')
  | .isa a ts, v => one a (ev cf a) v fun p v' => .ok (.bool (ts.any fun t => isTy t p), v')
  | .blt f es, v => (lzs cf es v).bind fun x => (Lz.gets x.2 x.1).bind fun ds => (blt f ds).map fun d => (d, x.2)
  | .mt m o es, v => (ev cf o v).bind fun y => (lzs cf es y.2).bind fun x => (Lz.gets x.2 x.1).bind fun ds => (mt m y.1 ds).map fun d => (d, x.2)
  | .call f io es, v => gd (rdy io v) ((evs cf es v).bind fun x => callE cf f io x.1 x.2)
  | .comp e t it c, v => (its cf it v).bind fun x => gd (okBack x.2 t.own) ((mapE (fun d v1 => (asgT t d (wipeE v1 t.own)).bind fun v2 => (tests cf c v2).bind fun b => match b.1 with
      | true => (ev cf e b.2).map fun y => (some y.1, y.2)
      | false => .ok (none, b.2)) x.1 x.2).bind fun r => gd (decide (r.1.length ≤ lim)) (.ok (.list r.1, backE x.2 r.2 t.own)))
  | .comp2 e t it t2 it2, v => (its cf it v).bind fun x => gd (okBack x.2 (t.own ++ t2.own)) ((mapE2 (fun d v1 => (asgT t d (wipeE v1 (t.own ++ t2.own))).bind fun v2 => (its cf it2 v2).bind fun x2 =>
      mapE (fun d2 v3 => (asgT t2 d2 (wipeE v3 t2.own)).bind fun v4 => (ev cf e v4).map fun y => (some y.1, y.2)) x2.1 x2.2) x.1 x.2).bind fun r => gd (decide (r.1.length ≤ lim)) (.ok (.list r.1, backE x.2 r.2 (t.own ++ t2.own))))
  | .ndist e t it, v => (its cf it v).bind fun x => gd (okBack x.2 t.own) ((mapE (fun d v1 => (asgT t d (wipeE v1 t.own)).bind fun v2 => (ev cf e v2).map fun y => (some y.1, y.2)) x.1 x.2).bind fun r =>
    (ofO (intsD r.1)).bind fun ns => gd (decide (r.1.length ≤ lim)) (.ok (.int (nubI [] ns).length, backE x.2 r.2 t.own)))
  | .lrg a, v => (ev cf a v).bind fun x => (lrgD x.1).map fun d => (d, x.2)
  | .pop i, v => gd (rdy (some i) v) ((ownAt v i).bind fun d => (popD d).map fun p => (p.1, putAt v i p.2))
def evs (cf : Cf) : List E → En → R (List D × En)
  | [], v => .ok ([], v)
  | e :: r, v => (ev cf e v).bind fun x => (evs cf r x.2).map fun y => (x.1 :: y.1, y.2)
def evo (cf : Cf) : Option E → En → R (Option Int × En)
  | none, v => .ok (none, v)
  | some e, v => (ev cf e v).bind fun x => match x.1 with
    | .int i => .ok (some i, x.2)
    | _ => bad
def lzs (cf : Cf) : List E → En → R (List Lz × En)
  | [], v => .ok ([], v)
  | e :: r, v => (lzOf e (ev cf e) v).bind fun x => (lzs cf r x.2).map fun y => (x.1 :: y.1, y.2)
def tests (cf : Cf) : Option E → En → R (Bool × En)
  | none, v => .ok (true, v)
  | some e, v => truOf (ev cf e v)
def its (cf : Cf) : It → En → R (List D × En)
  | .seq e, v => (ev cf e v).bind fun x => (itemsOf x.1).map fun ds => (ds, x.2)
  | .rng es, v => (evs cf es v).bind fun x => (rangeItems x.1).map fun ds => (ds, x.2)
  | .enm e, v => (ev cf e v).bind fun x => (seqOf x.1).map fun ds => (enumFrom 0 ds, x.2)
  | .zip a b, v => (ev cf a v).bind fun x => (ev cf b x.2).bind fun y => (zipOf x.1 y.1).map fun ds => (ds, y.2)
end
def test (cf : Cf) (e : E) (v : En) : R (Bool × En) := truOf (ev cf e v)
/-- a tree whose list (or dict) is a new one -/
def isNew : E → Bool
  | .lst _ => true
  | .comp _ _ _ _ => true
  | .comp2 _ _ _ _ _ => true
  | .cut _ _ _ => true
  | .rev _ => true
  | .blt .sorted _ => true
  | .blt .list _ => true
  | .blt .range _ => true
  | .lrg _ => true
  | .bin _ _ _ => true
  | _ => false
def held (e : E) (d : D) : Sl := if isNew e && ownable d then .ow d else .fz d
def setAll : List Nat → List E → List D → En → R En
  | i :: is, e :: es, d :: ds, v => (setV v i (held e d)).bind fun v1 => setAll is es ds v1
  | [], [], [], v => .ok v
  | _, _, _, _ => bad
def store : D → D → D → R D
  | .list xs, .int k, x => ofO ((ixAt xs.length k).map fun j => .list (xs.set j x))
  | _, _, _ => bad
def appD : D → D → R D
  | .list xs, x => gd (decide (xs.length < lim)) (.ok (.list (xs ++ [x])))
  | _, _ => bad
def ibin : Operator → D → D → R D
  | .Add, .int a, .int b => .ok (.int (a + b))
  | .Sub, .int a, .int b => .ok (.int (a - b))
  | .FloorDiv, .int a, .int b => gd (decide (0 < b) && decide (b < 1073741824)) (.ok (.int (a / b)))
  | _, _, _ => bad
/-- while, so many turns at most -/
def whlN (c : En → R (Bool × En)) (b : En → R (Fl × En)) : Nat → En → Option (R (Fl × En))
  | 0, _ => none
  | n + 1, v => match c v with
    | .error e => some (.error e)
    | .ok (false, v') => some (.ok (.nx, v'))
    | .ok (true, v') => match b v' with
      | .error e => some (.error e)
      | .ok (.rt d, v2) => some (.ok (.rt d, v2))
      | .ok (.nx, v2) => whlN c b n v2
open Classical in
noncomputable def whl (c : En → R (Bool × En)) (b : En → R (Fl × En)) (v : En) : R (Fl × En) :=
  if h : ∃ n r, whlN c b n v = some r then h.choose_spec.choose else bad
def forL (b : D → En → R (Fl × En)) : List D → En → R (Fl × En)
  | [], v => .ok (.nx, v)
  | d :: ds, v => (b d v).bind fun r => match r.1 with
    | .nx => forL b ds r.2
    | .rt x => .ok (.rt x, r.2)
mutual
noncomputable def ex (cf : Cf) : S → En → R (Fl × En)
  | .asg t e, v => (ev cf e v).bind fun x => (asgT t x.1 x.2).map fun v' => (.nx, v')
  | .par is es, v => (evs cf es v).bind fun x => (setAll is es x.1 x.2).map fun v' => (.nx, v')
  | .app i e, v => gd (rdy (some i) v) ((ev cf e v).bind fun x => (ownAt x.2 i).bind fun d => (appD d x.1).map fun d' => (.nx, putAt x.2 i d'))
  | .put i k e, v => (ev cf e v).bind fun x => gd (rdy (some i) x.2) ((ev cf k x.2).bind fun y => (ownAt y.2 i).bind fun d => (store d y.1 x.1).map fun d' => (.nx, putAt y.2 i d'))
  | .aug i op e, v => (peekV v i).bind fun p => (ev cf e v).bind fun x => (ibin op p x.1).bind fun d => (setV x.2 i (.fz d)).map fun v' => (.nx, v')
  | .augIx i k op e, v => gd (rdy (some i) v) ((ev cf k v).bind fun y => (ownAt y.2 i).bind fun d => (sub d y.1).bind fun p => (ev cf e y.2).bind fun x => (ibin op p x.1).bind fun q =>
      (ownAt x.2 i).bind fun d' => (store d' y.1 q).map fun d2 => (.nx, putAt x.2 i d2))
  | .ite c a b, v => (test cf c v).bind fun x => match x.1 with
    | true => exs cf a x.2
    | false => exs cf b x.2
  | .whl c b, v => whl (fun v => test cf c v) (fun v => exs cf b v) v
  | .for_ t it b, v => (its cf it v).bind fun x => forL (fun d v1 => (asgT t d v1).bind fun v2 => exs cf b v2) x.1 x.2
  | .ret e, v => (ev cf e v).map fun x => (.rt x.1, x.2)
  | .retN, v => .ok (.rt .none, v)
  | .exp e, v => (ev cf e v).map fun x => (.nx, x.2)
  | .pas, v => .ok (.nx, v)
  | .stop, _ => bad
noncomputable def exs (cf : Cf) : List S → En → R (Fl × En)
  | [], v => .ok (.nx, v)
  | s :: r, v => (ex cf s v).bind fun x => match x.1 with
    | .nx => exs cf r x.2
    | .rt d => .ok (.rt d, x.2)
end
/-- a def's body, its parameters told -/
def begin_ (fd : Fd) (c : Option D) (ds : List D) : En := (match c with
  | some d => [.io d]
  | none => []) ++ ds.map .fz ++ List.replicate (fd.ns - fd.np) .un
def ioAt : En → Option D
  | .io d :: _ => some d
  | _ => none
def flD : Fl → D
  | .rt d => d
  | .nx => .none
noncomputable def runF (cf : Cf) (fd : Fd) (c : Option D) (ds : List D) : R (D × Option D) :=
  gd (fd.io == c.isSome && ds.length + (if fd.io then 1 else 0) == fd.np && decide (fd.np ≤ fd.ns)) ((exs cf fd.body (begin_ fd c ds)).map fun r => (flD r.1, ioAt r.2))
abbrev Tab := Nat → Option Fd
noncomputable def callF (T : Tab) : Nat → Cf
  | 0 => fun _ _ _ => bad
  | n + 1 => fun f c ds => match T f with
    | some fd => runF (callF T n) fd c ds
    | none => bad
end Lp

set_option Elab.async false
set_option linter.all false
set_option autoImplicit false
set_option maxRecDepth 100000
set_option maxHeartbeats 4000000
namespace Lp
open PySem PySem.Spec L2

/-! ### the relation -/
mutual
/-- a value is such data: lists and tuples that the heap tells -/
inductive Rp (H : Hp) : V → D → Prop
  | non : Rp H .non .none
  | bl (b : Bool) : Rp H (.bl b) (.bool b)
  | int (i : Int) : Rp H (.int i) (.int i)
  | str (x : Str) : Rp H (.str x) (.str x)
  | lst {a : Addr} {xs : List V} {ds : List D} : Rd H a (.lst xs) → RpAll H xs ds → Rp H (.ref a) (.list ds)
  | tup {a : Addr} {o : Obj} {xs : List V} {ds : List D} : H a = some (.frz o (.tup xs)) → o.dict = none → RpAll H xs ds → Rp H (.ref a) (.tuple ds)
inductive RpAll (H : Hp) : List V → List D → Prop
  | nil : RpAll H [] []
  | cons {v : V} {vs : List V} {d : D} {ds : List D} : Rp H v d → RpAll H vs ds → RpAll H (v :: vs) (d :: ds)
end
theorem rd_mono {H H' : Hp} {a : Addr} {u : HO} (e : Same H H') (h : Rd H a u) : Rd H' a u := by
  rcases h with h | ⟨o, h⟩
  · exact .inl (e _ _ h)
  · exact .inr ⟨o, e _ _ h⟩
mutual
theorem rp_mono {H H' : Hp} (e : Same H H') : ∀ {v : V} {d : D}, Rp H v d → Rp H' v d
  | _, _, .non => .non
  | _, _, .bl b => .bl b
  | _, _, .int i => .int i
  | _, _, .str x => .str x
  | _, _, .lst h a => .lst (rd_mono e h) (rpAll_mono e a)
  | _, _, .tup h n a => .tup (e _ _ h) n (rpAll_mono e a)
theorem rpAll_mono {H H' : Hp} (e : Same H H') : ∀ {vs : List V} {ds : List D}, RpAll H vs ds → RpAll H' vs ds
  | _, _, .nil => .nil
  | _, _, .cons h t => .cons (rp_mono e h) (rpAll_mono e t)
end
mutual
theorem rp_dp (K : PySem.W.Frag) {H : Hp} : ∀ {v : V} {d : D}, Rp H v d → Dp K H v d
  | _, _, .non => .non
  | _, _, .bl b => .bl b
  | _, _, .int i => .int i
  | _, _, .str x => .str x
  | _, _, .lst h a => .lst (.inl h) (rpAll_dp K a)
  | _, _, .tup h _ a => .tup (.inl (.inr ⟨_, h⟩)) (rpAll_dp K a)
theorem rpAll_dp (K : PySem.W.Frag) {H : Hp} : ∀ {vs : List V} {ds : List D}, RpAll H vs ds → DpAll K H vs ds
  | _, _, .nil => .nil
  | _, _, .cons h t => .cons (rp_dp K h) (rpAll_dp K t)
end
theorem RpAll.len {H : Hp} : ∀ {vs : List V} {ds : List D}, RpAll H vs ds → vs.length = ds.length
  | _, _, .nil => rfl
  | _, _, .cons _ t => congrArg (· + 1) (RpAll.len t)
theorem RpAll.get {H : Hp} : ∀ {vs : List V} {ds : List D} {i : Nat} {d : D}, RpAll H vs ds → ds[i]? = some d → ∃ v, vs[i]? = some v ∧ Rp H v d
  | _, _, _, _, .nil, e => by simp at e
  | _, _, 0, _, .cons r _, e => by simp at e; subst e; exact ⟨_, rfl, r⟩
  | _, _, i + 1, _, .cons _ t, e => by
    obtain ⟨v, h1, h2⟩ := RpAll.get (i := i) t (by simpa using e)
    exact ⟨v, by simpa using h1, h2⟩
theorem RpAll.app {H : Hp} : ∀ {vs ws : List V} {ds es : List D}, RpAll H vs ds → RpAll H ws es → RpAll H (vs ++ ws) (ds ++ es)
  | _, _, _, _, .nil, s => s
  | _, _, _, _, .cons r t, s => .cons r (RpAll.app t s)
theorem RpAll.drop {H : Hp} : ∀ {vs : List V} {ds : List D} (n : Nat), RpAll H vs ds → RpAll H (vs.drop n) (ds.drop n)
  | _, _, 0, r => r
  | _, _, n + 1, .nil => .nil
  | _, _, n + 1, .cons _ t => RpAll.drop n t
theorem RpAll.take {H : Hp} : ∀ {vs : List V} {ds : List D} (n : Nat), RpAll H vs ds → RpAll H (vs.take n) (ds.take n)
  | _, _, 0, _ => .nil
  | _, _, n + 1, .nil => .nil
  | _, _, n + 1, .cons r t => .cons r (RpAll.take n t)
theorem RpAll.rev {H : Hp} : ∀ {vs : List V} {ds : List D}, RpAll H vs ds → RpAll H vs.reverse ds.reverse
  | _, _, .nil => .nil
  | _, _, .cons r t => by simp only [List.reverse_cons]; exact (RpAll.rev t).app (.cons r .nil)
theorem RpAll.set {H : Hp} {v : V} {d : D} (r : Rp H v d) : ∀ {vs : List V} {ds : List D} (i : Nat), RpAll H vs ds → RpAll H (vs.set i v) (ds.set i d)
  | _, _, _, .nil => .nil
  | _, _, 0, .cons _ t => .cons r t
  | _, _, i + 1, .cons q t => .cons q (RpAll.set r i t)
theorem RpAll.rep {H : Hp} {vs : List V} {ds : List D} (h : RpAll H vs ds) : ∀ k : Nat, RpAll H (List.replicate k vs).flatten (List.replicate k ds).flatten
  | 0 => .nil
  | k + 1 => by simp only [List.replicate_succ, List.flatten_cons]; exact h.app (RpAll.rep h k)
/-- a new object's content -/
inductive Ob (Hf : Hp) : HO → D → Prop where
  | lst {xs : List V} {ds : List D} : RpAll Hf xs ds → Ob Hf (.lst xs) (.list ds)
  | tup {o : Obj} {xs : List V} {ds : List D} : o.dict = none → RpAll Hf xs ds → Ob Hf (.frz o (.tup xs)) (.tuple ds)
/-- .. that may be changed -/
inductive Own (Hf : Hp) : HO → D → Prop where
  | lst {xs : List V} {ds : List D} : RpAll Hf xs ds → Own Hf (.lst xs) (.list ds)
theorem own_mono {H H' : Hp} (e : Same H H') {o : HO} {d : D} (h : Own H o d) : Own H' o d := by
  cases h with
  | lst a => exact .lst (rpAll_mono e a)
theorem Own.ob {H : Hp} {o : HO} {d : D} (h : Own H o d) : Ob H o d := by
  cases h with
  | lst a => exact .lst a
theorem Ob.rp {Hf H : Hp} {o : HO} {d : D} {a : Addr} (h : Ob Hf o d) (s : Same Hf H) (e : H a = some o) : Rp H (.ref a) d := by
  cases h with
  | lst x => exact .lst (.inl e) (rpAll_mono s x)
  | tup n x => exact .tup e n (rpAll_mono s x)
theorem ob_mono {H H' : Hp} (e : Same H H') {o : HO} {d : D} (h : Ob H o d) : Ob H' o d := by
  cases h with
  | lst a => exact .lst (rpAll_mono e a)
  | tup n a => exact .tup n (rpAll_mono e a)
theorem Ob.own {H : Hp} {o : HO} {d : D} (h : Ob H o d) (e : ownable d = true) : Own H o d := by
  cases h with
  | lst a => exact .lst a
  | tup n a => cases e
/-- an operand: for good, or as it stands -/
def RpO (Hf H : Hp) (x : V) (d : D) : Prop := Rp Hf x d ∨ ∃ a o, x = .ref a ∧ H a = some o ∧ Own Hf o d
theorem RpO.rp {Hf H : Hp} {x : V} {d : D} (h : RpO Hf H x d) (s : Same Hf H) : Rp H x d := by
  rcases h with h | ⟨a, o, rfl, e, w⟩
  · exact rp_mono s h
  · exact w.ob.rp s e
theorem RpO.list {Hf H : Hp} {x : V} {ds : List D} (h : RpO Hf H x (.list ds)) (s : Same Hf H) : ∃ a xs, x = .ref a ∧ Rd H a (.lst xs) ∧ RpAll Hf xs ds := by
  rcases h with h | ⟨a, o, rfl, e, w⟩
  · cases h with
    | lst r q => exact ⟨_, _, rfl, rd_mono s r, q⟩
  · cases w with
    | lst q => exact ⟨_, _, rfl, .inl e, q⟩
theorem RpO.tuple {Hf H : Hp} {x : V} {ds : List D} (h : RpO Hf H x (.tuple ds)) (s : Same Hf H) : ∃ a xs, x = .ref a ∧ Rd H a (.tup xs) ∧ RpAll Hf xs ds := by
  rcases h with h | ⟨a, o, rfl, e, w⟩
  · cases h with
    | tup r n q => exact ⟨_, _, rfl, .inr ⟨_, s _ _ r⟩, q⟩
  · cases w
theorem RpO.tuple0 {Hf H : Hp} {x : V} {ds : List D} (h : RpO Hf H x (.tuple ds)) (s : Same Hf H) : ∃ a xs o, x = .ref a ∧ H a = some (.frz o (.tup xs)) ∧ o.dict = none ∧ RpAll Hf xs ds := by
  rcases h with h | ⟨a, o, rfl, e, w⟩
  · cases h with
    | tup r n q => exact ⟨_, _, _, rfl, s _ _ r, n, q⟩
  · cases w
theorem RpO.int {Hf H : Hp} {x : V} {i : Int} (h : RpO Hf H x (.int i)) : x = .int i := by
  rcases h with h | ⟨a, o, rfl, e, w⟩
  · cases h; rfl
  · cases w
theorem RpO.bool {Hf H : Hp} {x : V} {i : Bool} (h : RpO Hf H x (.bool i)) : x = .bl i := by
  rcases h with h | ⟨a, o, rfl, e, w⟩
  · cases h; rfl
  · cases w
theorem RpO.str {Hf H : Hp} {x : V} {i : Str} (h : RpO Hf H x (.str i)) : x = .str i := by
  rcases h with h | ⟨a, o, rfl, e, w⟩
  · cases h; rfl
  · cases w
theorem RpO.none {Hf H : Hp} {x : V} (h : RpO Hf H x .none) : x = .non := by
  rcases h with h | ⟨a, o, rfl, e, w⟩
  · cases h; rfl
  · cases w

def SltR (io : Option Addr) (Hf C : Hp) (σ : St) (H : Hp) (i : Nat) : Sl → Prop
  | .un => True
  | .fz d => ∃ v, σ[i]? = some (some v) ∧ Rp Hf v d
  | .ow d => ∃ a o, σ[i]? = some (some (.ref a)) ∧ io ≠ some a ∧ Hf a = none ∧ C a = none ∧ H a = some o ∧ Own Hf o d
  | .io d => ∃ a o, σ[i]? = some (some (.ref a)) ∧ io = some a ∧ Hf a = none ∧ C a = none ∧ H a = some o ∧ Own Hf o d
def isOw : Sl → Bool
  | .ow _ => true
  | _ => false
def isIo : Sl → Bool
  | .io _ => true
  | _ => false
structure Rel (io : Option Addr) (Hf C : Hp) (σ : St) (H : Hp) (v : En) : Prop where
  le : Same Hf H
  lc : Same C H
  ap : ∀ a, Hf a = none ∨ C a = none
  sl : ∀ i, SltR io Hf C σ H i (v.at i)
  inj : ∀ i j a, isOw (v.at i) = true → isOw (v.at j) = true → σ[i]? = some (some (.ref a)) → σ[j]? = some (some (.ref a)) → i = j
  ioj : ∀ i j, isIo (v.at i) = true → isIo (v.at j) = true → i = j
  len : v.length = σ.length
  ioh : ∀ a, io = some a → H a ≠ none

theorem upd_some {H : Hp} {p a : Addr} {o : HO} (h : H a ≠ none) : upd H p o a ≠ none := by
  unfold upd
  split
  · exact fun e => nomatch e
  · exact h
theorem at_set_same {v : En} {i : Nat} {s : Sl} (h : i < v.length) : En.at (v.set i s) i = s := by
  unfold En.at
  simp [List.getD, h]
theorem at_set_ne {v : En} {i j : Nat} {s : Sl} (h : j ≠ i) : En.at (v.set i s) j = v.at j := by
  unfold En.at
  simp [List.getD, List.getElem?_set_ne (Ne.symm h)]
theorem at_lt {v : En} {i : Nat} (h : v.at i ≠ .un) : i < v.length := by
  by_cases q : i < v.length
  · exact q
  · exfalso
    apply h
    unfold En.at
    simp [List.getD, List.getElem?_eq_none (Nat.le_of_not_lt q)]

section
variable {io : Option Addr} {Hf Hf' C : Hp} {σ : St} {H H' : Hp} {v : En}
theorem SltR.mono {i : Nat} {s : Sl} (h : SltR io Hf C σ H i s) (e : Same Hf Hf') (hn : ∀ a o, H a = some o → Hf a = none → C a = none → (isOw s = true ∨ isIo s = true) → σ[i]? = some (some (.ref a)) → H' a = some o ∧ Hf' a = none) : SltR io Hf' C σ H' i s := by
  cases s with
  | un => trivial
  | fz d => obtain ⟨v, a, b⟩ := h; exact ⟨v, a, rp_mono e b⟩
  | ow d =>
    obtain ⟨a, o, h1, h2, h3, h4, h5, h6⟩ := h
    obtain ⟨q1, q2⟩ := hn a o h5 h3 h4 (.inl rfl) h1
    exact ⟨a, o, h1, h2, q2, h4, q1, own_mono e h6⟩
  | io d =>
    obtain ⟨a, o, h1, h2, h3, h4, h5, h6⟩ := h
    obtain ⟨q1, q2⟩ := hn a o h5 h3 h4 (.inr rfl) h1
    exact ⟨a, o, h1, h2, q2, h4, q1, own_mono e h6⟩
/-- a new object, for good -/
theorem Rel.add (r : Rel io Hf C σ H v) {p : Addr} {o : HO} (hp : H p = none) : Rel io (upd Hf p o) C σ (upd H p o) v ∧ Same Hf (upd Hf p o) := by
  have hf : Hf p = none := r.le.free hp
  have hc : C p = none := r.lc.free hp
  have sm : Same Hf (upd Hf p o) := fun b u e => by rw [upd_ne (ne_of_none e hf)]; exact e
  refine ⟨⟨fun b u e => ?_, fun b u e => ?_, fun a => ?_, fun i => ?_, r.inj, r.ioj, r.len, fun a e => upd_some (r.ioh a e)⟩, sm⟩
  · by_cases hb : b = p
    · subst hb; rw [upd_same] at e ⊢; exact e
    · rw [upd_ne hb] at e ⊢; exact r.le _ _ e
  · rw [upd_ne (ne_of_none e hc)]; exact r.lc _ _ e
  · by_cases hb : a = p
    · subst hb; exact .inr hc
    · rw [upd_ne hb]; exact r.ap a
  · refine (r.sl i).mono sm fun a u e1 e2 e3 _ _ => ?_
    have hb : a ≠ p := ne_of_none e1 hp
    rw [upd_ne hb, upd_ne hb]
    exact ⟨e1, e2⟩
/-- a new object, not yet for good -/
theorem Rel.more (r : Rel io Hf C σ H v) {p : Addr} {o : HO} (hp : H p = none) : Rel io Hf C σ (upd H p o) v := by
  have hf : Hf p = none := r.le.free hp
  have hc : C p = none := r.lc.free hp
  refine ⟨fun b u e => ?_, fun b u e => ?_, r.ap, fun i => ?_, r.inj, r.ioj, r.len, fun a e => upd_some (r.ioh a e)⟩
  · rw [upd_ne (ne_of_none e hf)]; exact r.le _ _ e
  · rw [upd_ne (ne_of_none e hc)]; exact r.lc _ _ e
  · refine (r.sl i).mono (Same.refl _) fun a u e1 e2 e3 _ _ => ?_
    rw [upd_ne (ne_of_none e1 hp)]
    exact ⟨e1, e2⟩
/-- p is nobody's -/
structure Free (io : Option Addr) (Hf C : Hp) (σ : St) (v : En) (p : Addr) : Prop where
  f : Hf p = none
  c : C p = none
  o : io ≠ some p
  n : ∀ i, (isOw (v.at i) = true ∨ isIo (v.at i) = true) → σ[i]? ≠ some (some (.ref p))
theorem Rel.free_new (r : Rel io Hf C σ H v) {p : Addr} (hp : H p = none) : Free io Hf C σ v p := by
  refine ⟨r.le.free hp, r.lc.free hp, fun e => r.ioh p e hp, fun i hi e => ?_⟩
  have s := r.sl i
  cases q : v.at i with
  | un => rw [q] at hi; rcases hi with z | z <;> cases z
  | fz d => rw [q] at hi; rcases hi with z | z <;> cases z
  | ow d =>
    rw [q] at s
    obtain ⟨a, o, h1, h2, h3, h4, h5, h6⟩ := s
    rw [h1] at e; cases e; rw [hp] at h5; cases h5
  | io d =>
    rw [q] at s
    obtain ⟨a, o, h1, h2, h3, h4, h5, h6⟩ := s
    rw [h1] at e; cases e; rw [hp] at h5; cases h5
/-- an object that was nobody's, for good -/
theorem Rel.keep (r : Rel io Hf C σ H v) {p : Addr} {o : HO} (F : Free io Hf C σ v p) (e : H p = some o) : Rel io (upd Hf p o) C σ H v ∧ Same Hf (upd Hf p o) := by
  have sm : Same Hf (upd Hf p o) := fun b u q => by rw [upd_ne (ne_of_none q F.f)]; exact q
  refine ⟨⟨fun b u q => ?_, r.lc, fun a => ?_, fun i => ?_, r.inj, r.ioj, r.len, r.ioh⟩, sm⟩
  · by_cases hb : b = p
    · subst hb; rw [upd_same] at q; rw [e]; exact q
    · rw [upd_ne hb] at q; exact r.le _ _ q
  · by_cases hb : a = p
    · subst hb; exact .inr F.c
    · rw [upd_ne hb]; exact r.ap a
  · refine (r.sl i).mono sm fun a u e1 e2 e3 hs he => ?_
    have hb : a ≠ p := fun z => F.n i hs (z ▸ he)
    rw [upd_ne hb]
    exact ⟨e1, e2⟩
end
end Lp

set_option Elab.async false
set_option linter.all false
set_option autoImplicit false
set_option maxRecDepth 100000
set_option maxHeartbeats 4000000
namespace Lp
open PySem PySem.Spec L2

/-! ### readings of results -/
theorem gd_ok {A : Type} {b : Bool} {x : R A} {a : A} (h : gd b x = .ok a) : b = true ∧ x = .ok a := by
  cases b with
  | true => exact ⟨rfl, h⟩
  | false => cases h
theorem bind_ok {A B : Type} {x : R A} {f : A → R B} {b : B} (h : x.bind f = .ok b) : ∃ a, x = .ok a ∧ f a = .ok b := by
  cases x with
  | error e => cases h
  | ok a => exact ⟨a, rfl, h⟩
theorem map_ok {A B : Type} {x : R A} {f : A → B} {b : B} (h : x.map f = .ok b) : ∃ a, x = .ok a ∧ f a = b := by
  cases x with
  | error e => cases h
  | ok a => exact ⟨a, rfl, Except.ok.inj h⟩
theorem ofO_ok {A : Type} {o : Option A} {a : A} (h : ofO o = .ok a) : o = some a := by
  cases o with
  | none => cases h
  | some b => exact congrArg some (Except.ok.inj h)
theorem ok_inj {A : Type} {a b : A} (h : (.ok a : R A) = .ok b) : a = b := Except.ok.inj h
theorem lim_eq : lim = sizeLine := sizeLine_eq.symm
theorem and3 {a b c : Bool} (h : (a && b && c) = true) : a = true ∧ b = true ∧ c = true := by
  simp only [Bool.and_eq_true] at h
  exact ⟨h.1.1, h.1.2, h.2⟩

/-! ### what an operation leaves -/
inductive RpOs (Hf H : Hp) : List V → List D → Prop
  | nil : RpOs Hf H [] []
  | cons {v : V} {vs : List V} {d : D} {ds : List D} : RpO Hf H v d → RpOs Hf H vs ds → RpOs Hf H (v :: vs) (d :: ds)
theorem RpO.good {Hf H : Hp} {x : V} {d : D} (h : RpO Hf H x d) (n : ownable d = false) : Rp Hf x d := by
  rcases h with h | ⟨a, o, rfl, e, w⟩
  · exact h
  · cases w; cases n
theorem RpAll.nil_l {H : Hp} {ds : List D} (h : RpAll H [] ds) : ds = [] := by cases h; rfl
def Res (Hf H : Hp) (d : D) (x : V) (H' : Hp) : Prop := (H' = H ∧ Rp Hf x d ∧ ownable d = false) ∨ ∃ p o, x = .ref p ∧ H p = none ∧ H' = upd H p o ∧ Ob Hf o d
theorem Res.fin {io : Option Addr} {Hf C : Hp} {σ : L2.St} {H H' : Hp} {v : En} {d : D} {x : V} (r : Rel io Hf C σ H v) (h : Res Hf H d x H') : ∃ Hf', Rel io Hf' C σ H' v ∧ Same Hf Hf' ∧ Rp Hf' x d := by
  rcases h with ⟨rfl, h, _⟩ | ⟨p, o, rfl, hp, rfl, h⟩
  · exact ⟨Hf, r, Same.refl _, h⟩
  · obtain ⟨r', s⟩ := r.add (o := o) hp
    exact ⟨_, r', s, h.rp s upd_same⟩
/-- an operation of two values that does as g does of data -/
def OpD (X : Cx) (f : Value → Value → Sem Value) (g : D → D → R D) : Prop :=
  OpR X f fun x y H Q => ∃ Hf p q d, Same Hf H ∧ RpO Hf H x p ∧ RpO Hf H y q ∧ g p q = .ok d ∧ ∀ z H', Res Hf H d z H' → Q z H'
def UnD (X : Cx) (f : Value → Sem Value) (g : D → R D) : Prop :=
  UnR X f fun x H Q => ∃ Hf p d, Same Hf H ∧ RpO Hf H x p ∧ g p = .ok d ∧ ∀ z H', Res Hf H d z H' → Q z H'
def CallD (X : Cx) (f : Value) (g : List D → R D) : Prop :=
  CallR X f fun xs H Q => ∃ Hf ps d, Same Hf H ∧ RpOs Hf H xs ps ∧ g ps = .ok d ∧ ∀ z H', Res Hf H d z H' → Q z H'

section
variable {X : Cx}
theorem Inv.rdL {pins : List (Addr × Obj)} {σ : L2.St} {H : Hp} {s : Shared} {l : Addr} {xs : List V} (I : Inv X pins σ H s) (h : Rd H l (.lst xs)) :
    xs.length ≤ sizeLine ∧ ∃ (its : List Value) (n : Nat), Vals xs its ∧ xs.length = its.length ∧ s.heap.get? l = some { cls := .type "list", data := .seq its.toArray n } := by
  obtain ⟨z, its, n, r, e⟩ := h.ok I.hok
  exact ⟨z, its, n, r, r.length, e⟩
theorem catL {pins : List (Addr × Obj)} {s : Shared} {σ : L2.St} {H : Hp} {l b : Addr} {xs zs : List V} {Q : VK} (I : Inv X pins σ H s) (h1 : Rd H l (.lst xs)) (h2 : Rd H b (.lst zs)) (hz : xs.length + zs.length ≤ sizeLine)
    (q : ∀ p, H p = none → Q (.ref p) (upd H p (.lst (xs ++ zs)))) : wpAny (model X.prog X.w) X.A (binaryOp .Add (.ref l) (.ref b)) (EP X pins σ Q) X.xe s := by
  obtain ⟨_, i1, n1, r1, e1, g1⟩ := Inv.rdL I h1
  obtain ⟨_, i2, n2, r2, e2, g2⟩ := Inv.rdL I h2
  refine PySem.P.add_list g1 g2 ?_ (by simp only [List.size_toArray]; omega)
  rw [show i1.toArray ++ i2.toArray = (i1 ++ i2).toArray by simp]
  exact ⟨.ref _, _, I.lnew (t' := s.toks) (r1.append r2) (by simp only [List.length_append]; omega), rfl, q _ I.fresh⟩
abbrev tupO (us : List Value) : Obj := { cls := .type "tuple", data := .seq us.toArray }
theorem Inv.tnew {pins : List (Addr × Obj)} {σ : L2.St} {H : Hp} {s : Shared} {xs : List V} {us : List Value} {t' : Nat} (I : Inv X pins σ H s) (rv : Vals xs us) (hz : xs.length ≤ sizeLine) :
    Inv X pins σ (upd H s.heap.objs.size (.frz (tupO us) (.tup xs))) { s with heap := s.heap.push (tupO us), toks := t' } :=
  I.laid (fun _ _ q => Heap.get?_push_of_some _ q) (Nat.le_refl _) ⟨Heap.get?_push_size _ rfl, hz, us, rv, PyProof.Rows.IsTup.new _ _⟩
theorem catT {pins : List (Addr × Obj)} {s : Shared} {σ : L2.St} {H : Hp} {l b : Addr} {xs zs : List V} {Q : VK} (I : Inv X pins σ H s) (h1 : Rd H l (.tup xs)) (h2 : Rd H b (.tup zs)) (hz : xs.length + zs.length ≤ sizeLine)
    (q0 : xs = [] → Q (.ref b) H) (q1 : zs = [] → Q (.ref l) H) (q : ∀ p o, o.dict = none → H p = none → Q (.ref p) (upd H p (.frz o (.tup (xs ++ zs))))) : wpAny (model X.prog X.w) X.A (binaryOp .Add (.ref l) (.ref b)) (EP X pins σ Q) X.xe s := by
  obtain ⟨i1, r1, g1, _⟩ := I.tuple (.inl h1)
  obtain ⟨i2, r2, g2, _⟩ := I.tuple (.inl h2)
  by_cases e0 : xs = []
  · subst e0
    cases r1
    exact cat_tup0 g1 g2 ⟨.ref b, H, I, rfl, q0 rfl⟩
  · refine HT.cat_tup g1 g2 (fun z => e0 (r1.nil_iff.mp z)) (fun z => ⟨.ref l, H, I, rfl, q1 (r2.nil_iff.mp z)⟩) (fun z => ?_) (by rw [← r1.length, ← r2.length]; exact hz)
    exact ⟨.ref _, _, Inv.tnew (t' := s.toks) I (r1.append r2) (by rw [List.length_append]; exact hz), rfl, q _ (tupO (i1 ++ i2)) rfl I.fresh⟩
theorem opD_add : OpD X (binaryOp .Add) (bin .Add) := by
  intro pins s σ H x y v u Q I rx ry ⟨Hf, p, q, d, sm, hp, hq, e, k⟩
  cases p with
  | int i =>
    have ex := hp.int
    cases q with
    | int j =>
      have ey := hq.int
      cases ok_inj e
      exact op_add pins s σ H x y v u Q I rx ry ⟨i, j, ex, ey, k _ _ (.inl ⟨rfl, .int _, rfl⟩)⟩
    | bool j =>
      have ey := hq.bool
      cases ok_inj e
      refine op_add_ib pins s σ H x y v u Q I rx ry ⟨i, j, ex, ey, ?_⟩
      have z : b2n j = PyProof.Rows.b2i j := by cases j <;> rfl
      rw [← z]
      exact k _ _ (.inl ⟨rfl, .int _, rfl⟩)
    | _ => cases e
  | bool i =>
    cases q with
    | bool j =>
      have ex := hp.bool
      have ey := hq.bool
      cases ok_inj e
      subst ex; subst ey
      cases rx; cases ry
      have z : ∀ j : Bool, b2n j = PyProof.Rows.b2i j := fun j => by cases j <;> rfl
      exact PyProof.Rows.add_bool ⟨.int (b2n i + b2n j), H, I.tok _, ⟨_, by rw [z, z]⟩, k _ _ (.inl ⟨rfl, .int _, rfl⟩)⟩
    | _ => cases e
  | str i =>
    cases q with
    | str j =>
      have ex := hp.str
      have ey := hq.str
      obtain ⟨g1, g2⟩ := gd_ok e
      cases ok_inj g2
      exact op_add_str pins s σ H x y v u Q I rx ry ⟨i, j, ex, ey, by rw [← lim_eq]; exact of_decide_eq_true g1, k _ _ (.inl ⟨rfl, .str _, rfl⟩)⟩
    | _ => cases e
  | list ds =>
    cases q with
    | list es =>
      obtain ⟨a, xs, rfl, ha, pa⟩ := hp.list sm
      obtain ⟨b, ys, rfl, hb, pb⟩ := hq.list sm
      obtain ⟨g1, g2⟩ := gd_ok e
      cases ok_inj g2
      cases rx; cases ry
      have h1 := of_decide_eq_true g1
      rw [lim_eq, ← pa.len, ← pb.len] at h1
      exact catL I ha hb h1 fun p hp' => k _ _ (.inr ⟨p, _, rfl, hp', rfl, .lst (pa.app pb)⟩)
    | _ => cases e
  | tuple ds =>
    cases q with
    | tuple es =>
      obtain ⟨a, xs, rfl, ha, pa⟩ := hp.tuple sm
      obtain ⟨b, ys, rfl, hb, pb⟩ := hq.tuple sm
      obtain ⟨g1, g2⟩ := gd_ok e
      cases ok_inj g2
      have h1 := of_decide_eq_true g1
      rw [lim_eq, ← pa.len, ← pb.len] at h1
      cases rx; cases ry
      refine catT I ha hb h1 (fun e0 => ?_) (fun e1 => ?_) (fun p o ho hp' => ?_)
      · subst e0
        rw [pa.nil_l] at k
        exact k _ _ (.inl ⟨rfl, hq.good rfl, rfl⟩)
      · subst e1
        rw [pb.nil_l, List.append_nil] at k
        exact k _ _ (.inl ⟨rfl, hp.good rfl, rfl⟩)
      · exact k _ _ (.inr ⟨p, _, rfl, hp', rfl, .tup ho (pa.app pb)⟩)
    | _ => cases e
  | _ => cases q <;> cases e
/-- an operation of two ints -/
theorem opD_int {f : Value → Value → Sem Value} {g : D → D → R D} {C : Int → Int → Prop} {h : Int → Int → Int} (ho : OpR X f (rI C fun i j => .int (h i j)))
    (hg : ∀ p q d, g p q = .ok d → ∃ i j, p = .int i ∧ q = .int j ∧ C i j ∧ d = .int (h i j)) : OpD X f g := by
  intro pins s σ H x y v u Q I rx ry ⟨Hf, p, q, d, sm, hp, hq, e, k⟩
  obtain ⟨i, j, rfl, rfl, c, rfl⟩ := hg p q d e
  exact ho pins s σ H x y v u Q I rx ry ⟨i, j, hp.int, hq.int, c, k _ _ (.inl ⟨rfl, .int _, rfl⟩)⟩
theorem opD_int0 {f : Value → Value → Sem Value} {g : D → D → R D} {h : Int → Int → Int} (ho : OpR X f (rI0 fun i j => .int (h i j)))
    (hg : ∀ p q d, g p q = .ok d → ∃ i j, p = .int i ∧ q = .int j ∧ d = .int (h i j)) : OpD X f g := by
  intro pins s σ H x y v u Q I rx ry ⟨Hf, p, q, d, sm, hp, hq, e, k⟩
  obtain ⟨i, j, rfl, rfl, rfl⟩ := hg p q d e
  exact ho pins s σ H x y v u Q I rx ry ⟨i, j, hp.int, hq.int, k _ _ (.inl ⟨rfl, .int _, rfl⟩)⟩
theorem opD_sub : OpD X (binaryOp .Sub) (bin .Sub) := opD_int0 op_sub fun p q d e => by
  cases p <;> cases q <;> first
    | (cases ok_inj e; exact ⟨_, _, rfl, rfl, rfl⟩)
    | cases e
theorem opD_and : OpD X (binaryOp .BitAnd) (bin .BitAnd) := opD_int0 op_and fun p q d e => by
  cases p <;> cases q <;> first
    | (cases ok_inj e; exact ⟨_, _, rfl, rfl, rfl⟩)
    | cases e
theorem opD_or : OpD X (binaryOp .BitOr) (bin .BitOr) := opD_int0 op_or fun p q d e => by
  cases p <;> cases q <;> first
    | (cases ok_inj e; exact ⟨_, _, rfl, rfl, rfl⟩)
    | cases e
theorem opD_fdiv : OpD X (binaryOp .FloorDiv) (bin .FloorDiv) := by
  intro pins s σ H x y v u Q I rx ry ⟨Hf, p, q, d, sm, hp, hq, e, k⟩
  have go : ∀ i j : Int, p = .int i → q = .int j → wpAny (model X.prog X.w) X.A (binaryOp .FloorDiv v u) (EP X pins σ Q) X.xe s := by
    intro i j ei ej
    subst ei ej
    have e : (if 0 < j then gd (decide (j.natAbs.log2 < 9000)) (.ok (.int (i / j))) else gd (decide (j ≠ 0) && decide (j.natAbs < 1073741824)) (.ok (PyData.int (i.fdiv j)))) = .ok d := e
    by_cases h : 0 < j
    · rw [if_pos h] at e
      obtain ⟨g1, g2⟩ := gd_ok e
      cases ok_inj g2
      exact op_fdivW pins s σ H x y v u Q I rx ry ⟨i, j, hp.int, hq.int, ⟨h, of_decide_eq_true g1⟩, k _ _ (.inl ⟨rfl, .int _, rfl⟩)⟩
    · rw [if_neg h] at e
      obtain ⟨g1, g2⟩ := gd_ok e
      cases ok_inj g2
      simp only [Bool.and_eq_true, decide_eq_true_eq] at g1
      exact op_fdivN pins s σ H x y v u Q I rx ry ⟨i, j, hp.int, hq.int, ⟨g1.1, g1.2⟩, k _ _ (.inl ⟨rfl, .int _, rfl⟩)⟩
  cases p with
  | int i =>
    cases q with
    | int j => exact go i j rfl rfl
    | _ => cases e
  | _ => cases q <;> cases e
theorem opD_mod : OpD X (binaryOp .Mod) (bin .Mod) := opD_int op_mod fun p q d e => by
  cases p <;> cases q <;> first
    | (obtain ⟨g1, g2⟩ := gd_ok e
       cases ok_inj g2
       exact ⟨_, _, rfl, rfl, of_decide_eq_true g1, rfl⟩)
    | cases e
theorem opD_pow : OpD X (binaryOp .Pow) (bin .Pow) := opD_int op_pow fun p q d e => by
  cases p <;> cases q <;> first
    | (obtain ⟨g1, g2⟩ := gd_ok e
       cases ok_inj g2
       simp only [Bool.and_eq_true, decide_eq_true_eq] at g1
       exact ⟨_, _, rfl, rfl, ⟨g1.1.1, g1.1.2, g1.2⟩, rfl⟩)
    | cases e
theorem opD_shl : OpD X (binaryOp .LShift) (bin .LShift) := opD_int op_shl fun p q d e => by
  cases p <;> cases q <;> first
    | (obtain ⟨g1, g2⟩ := gd_ok e
       cases ok_inj g2
       simp only [Bool.and_eq_true, decide_eq_true_eq] at g1
       exact ⟨_, _, rfl, rfl, ⟨g1.1.1, g1.1.2, g1.2⟩, rfl⟩)
    | cases e
theorem opD_shr : OpD X (binaryOp .RShift) (bin .RShift) := opD_int op_shr fun p q d e => by
  cases p <;> cases q <;> first
    | (obtain ⟨g1, g2⟩ := gd_ok e
       cases ok_inj g2
       exact ⟨_, _, rfl, rfl, of_decide_eq_true g1, rfl⟩)
    | cases e
theorem repL {pins : List (Addr × Obj)} {s : Shared} {σ : L2.St} {H : Hp} {l : Addr} {xs : List V} {i : Int} {t : Tok} {Q : VK} (I : Inv X pins σ H s) (h0 : Rd H l (.lst xs)) (g1 : -(2 ^ 63) ≤ i) (g2 : i < 2 ^ 63) (gz : xs.length * i.toNat ≤ sizeLine)
    (q : ∀ p, H p = none → Q (.ref p) (upd H p (.lst (List.replicate i.toNat xs).flatten))) : wpAny (model X.prog X.w) X.A (binaryOp .Mult (.ref l) (.int i t)) (EP X pins σ Q) X.xe s := by
  obtain ⟨_, ii, m, rr, el, g⟩ := Inv.rdL I h0
  have z1 : ii.toArray.size * i.toNat ≤ sizeLine := by simp only [List.size_toArray]; rw [← el]; exact gz
  have z2 : ¬ ii.toArray.size * i.toNat > (2 ^ 63 - 1) / 8 := by
    have q1 : (sizeLine : Nat) ≤ (2 ^ 63 - 1) / 8 := by decide
    exact fun z => absurd (Nat.lt_of_lt_of_le z z1) (Nat.not_lt.mpr q1)
  have z3 : ¬ (!Builtin.List.listFitsIndex i) = true := by rw [fitsIndex_both g1 g2]; decide
  have z4 : ¬ Builtin.List.listTooLong (ii.toArray.size * i.toNat) = true := by rw [notLongL z1]; decide
  have z5 : (List.replicate (if ii.toArray.isEmpty = true then 0 else i.toNat) ii.toArray).foldl (fun u w => u ++ w) #[] = ((List.replicate i.toNat ii).flatten).toArray := by
    have z6 : ∀ k : Nat, (List.replicate k ii.toArray).foldl (fun u w => u ++ w) #[] = ((List.replicate k ii).flatten).toArray := fun k => by
      have z7 := foldl_rep ii k []
      simpa using z7
    rw [z6]
    cases ii with
    | nil => simp
    | cons y r => rw [if_neg (by simp)]
  refine wpAny_binaryOp_repeat_ref (T := "list") (U := "int") (by decide) ⟨_, g, rfl⟩ (fun s' => typeIs_int s' i t) noFill_list_mul F.fills_int_mul F.slot_int_rmul repeat_list F.slot_int_index.lookup ?_
  refine call_meets F.slot_int_rmul (typeIs_int s i t) F.entry_int_rmul (F.args_int_rmul_2 _ _) (int___rmul___int_list i t l ii.toArray m) ⟨g, rfl, ⟨_, g, rfl⟩, ?_⟩
  refine call_meets F.slot_list_mul ⟨_, g, rfl⟩ F.entry_list_mul (F.args_list_mul_2 _ _) (AutoListH.list___mul___list_int_3 l ii.toArray m i t z3 z2 z4) ⟨g, ?_⟩
  rw [z5]
  exact ⟨.ref _, _, I.lnew (t' := s.toks) (rr.rep i.toNat) (by rw [PyProof.Rows.lm_len_rep_flat, Nat.mul_comm]; exact gz), rfl, q _ I.fresh⟩
theorem opD_mul : OpD X (binaryOp .Mult) (bin .Mult) := by
  intro pins s σ H x y v u Q I rx ry ⟨Hf, p, q, d, sm, hp, hq, e, k⟩
  cases p with
  | int i =>
    cases q with
    | int j =>
      obtain ⟨g1, g2⟩ := gd_ok e
      cases ok_inj g2
      exact op_mulW pins s σ H x y v u Q I rx ry ⟨i, j, hp.int, hq.int, (show i.natAbs.log2 + j.natAbs.log2 < 1000000 from of_decide_eq_true g1), k _ _ (.inl ⟨rfl, .int _, rfl⟩)⟩
    | _ => cases e
  | list ds =>
    cases q with
    | int i =>
      obtain ⟨a, xs, rfl, ha, pa⟩ := hp.list sm
      obtain ⟨g1, g2⟩ := gd_ok e
      cases ok_inj g2
      have ey := hq.int
      subst ey
      cases rx
      obtain ⟨t, rfl⟩ := ry
      obtain ⟨g1, g3, g4⟩ := and3 g1
      have g4 := of_decide_eq_true g4
      rw [lim_eq, ← pa.len] at g4
      exact repL I ha (of_decide_eq_true g1) (of_decide_eq_true g3) g4 fun p hp' => k _ _ (.inr ⟨p, _, rfl, hp', rfl, .lst (pa.rep _)⟩)
    | _ => cases e
  | str z =>
    cases q with
    | int i =>
      obtain ⟨g1, g2⟩ := gd_ok e
      cases ok_inj g2
      obtain ⟨g1, g3, g4⟩ := and3 g1
      have g1 := of_decide_eq_true g1
      have g3 := of_decide_eq_true g3
      have g4 := of_decide_eq_true g4
      rw [lim_eq] at g4
      have ex := hp.str
      have ey := hq.int
      subst ex
      subst ey
      obtain ⟨t, rfl⟩ := rx
      obtain ⟨t2, rfl⟩ := ry
      have hok : MulOk z i := by
        refine ⟨?_, fun h1 _ => ?_, fun h1 _ => ?_⟩
        · rw [decide_eq_false (by omega), decide_eq_false (by omega)]; rfl
        · have hm : (z.length : Int) * i ≤ 16777216 := by
            have hi : i = (i.toNat : Int) := by omega
            have : ((z.length * i.toNat : Nat) : Int) ≤ 16777216 := by
              have := sizeLine_eq
              omega
            rw [hi]
            simpa using this
          have := Int.le_ediv_of_mul_le (c := i) (by omega) (show (z.length : Int) * i ≤ 2 ^ 63 - 1 by omega)
          omega
        · unfold Builtin.Str.tooLong
          rw [decide_eq_false (by omega)]
      exact SB.mul hok fun t' k' => ⟨.str _, H, I.tok k', ⟨t', rfl⟩, k _ _ (.inl ⟨rfl, .str _, rfl⟩)⟩
    | _ => cases e
  | _ => cases q <;> cases e
theorem opD : ∀ op : Operator, OpD X (binaryOp op) (bin op)
  | .Add => opD_add
  | .Sub => opD_sub
  | .Mult => opD_mul
  | .FloorDiv => opD_fdiv
  | .Mod => opD_mod
  | .Pow => opD_pow
  | .LShift => opD_shl
  | .RShift => opD_shr
  | .BitAnd => opD_and
  | .BitOr => opD_or
  | .Div | .BitXor | .MatMult => by
    intro pins s σ H x y v u Q I rx ry ⟨Hf, p, q, d, sm, hp, hq, e, k⟩
    cases p <;> cases q <;> cases e
end
end Lp

set_option Elab.async false
set_option linter.all false
set_option autoImplicit false
set_option maxRecDepth 100000
set_option maxHeartbeats 4000000
/-! ### sorted(tuple) -/
namespace LpS
open PySem PySem.Calls PyProof.Rows PySem.W
variable {prog : Program} {w : World} {A : Around} {E : Value → Shared → Prop} {s : Shared}
theorem collect_tup {l : Addr} {vs : List Value} {Q : List Value → Shared → Prop} (hl : s.heap.IsTuple l vs.toArray) (hz : vs.length ≤ sizeLine)
    (h : Q vs { s with heap := (s.heap.push (seqObj "list" #[] 0)).update s.heap.objs.size (Obj.mapSeq (· ++ vs.toArray)) }) : wpAny (model prog w) A (collect (.ref l)) Q E s := by
  obtain ⟨o, g, gc, n, gd⟩ := id hl
  unfold collect
  refine wpAny_bind (wpAny_runValue (codeAny_builtin entry_proto_collect' ?_))
  show wpAny _ _ (do again (.builtin "list.__iadd__" ⟨[← newList [], .ref l], []⟩)) _ _ s
  refine wpAny_bind (wpAny_newList (wpAny_pure ⟨Code.quiet_builtin _ (by decide +kernel), codeAny_builtin entry_list_iadd' ?_⟩))
  show wpAny _ _ (Builtin.List.listExtendWith (.ref s.heap.objs.size) (.ref l) (.ref s.heap.objs.size)) _ _ { s with heap := s.heap.push (seqObj "list" #[] 0) }
  unfold Builtin.List.listExtendWith
  have g' : (s.heap.push (seqObj "list" #[] 0)).get? l = some o := Heap.get?_push_of_some _ g
  refine wpAny_bind (wpAny_typeOf (T := "tuple") ⟨o, g', gc⟩ ?_)
  have ht : (Value.type "tuple" == Value.type "tuple") = true := by rfl
  rw [if_pos (by rw [ht]; simp)]
  refine wpAny_bind (listItems_at g' gd ?_)
  refine wpAny_bind (listItems_at (xs := #[]) (n := 0) (Heap.get?_push_size _ rfl) rfl ?_)
  rw [if_neg (by simp)]
  refine wpAny_bind (listUpdate_at (xs := #[]) (n := 0) (Heap.get?_push_size _ rfl) rfl ?_ (Nat.zero_le _) (by show (#[] ++ vs.toArray).size ≤ sizeLine + 1; simp only [Array.size_append, List.size_toArray, List.length_nil]; omega))
  refine wpAny_pure ?_
  show wpAny (model prog w) A (do
      let o ← load s.heap.objs.size
      match o.data with
      | .seq xs _ => pure xs.toList
      | _ => unsupported "internal:collect") Q E { s with heap := (s.heap.push (seqObj "list" #[] 0)).update s.heap.objs.size (Obj.mapSeq (· ++ vs.toArray)) }
  refine wpAny_bind (wpAny_load (get?_update_seq (Heap.get?_push_size _ rfl) _) ?_)
  show wpAny _ _ (pure ((#[] : Array Value) ++ vs.toArray).toList) Q E _
  rw [show ((#[] : Array Value) ++ vs.toArray).toList = vs by simp]
  exact wpAny_pure h
theorem sorted_tup {l : Addr} {vs : List Value} {Q : Value → Shared → Prop} (hl : s.heap.IsTuple l vs.toArray) (hL : vs.length ≤ sizeLine)
    (body : ∀ E' : Value → Shared → Prop, wpAny (model prog w) A.in1.in1 (Builtin.«list.sort» ⟨[.ref (s.heap.objs.size + 1)], []⟩) (fun f s' => f = .done (.ret .none) ∧ Q (.ref (s.heap.objs.size + 1)) s') E' { s with heap := copyHeap s.heap vs }) :
    wpAny (model prog w) A (call (.builtin "sorted") [.ref l]) Q E s := by
  refine call_function_entry_kw kind_sorted plain_sorted entry_sorted (args_sorted1 _) ?_
  unfold Builtin.«sorted»
  refine wpAny_bind (m := checkCount "sorted" 1 1 _) (wpAny_pure ?_)
  refine wpAny_bind (collect_tup hl hL ?_)
  refine wpAny_bind (wpAny_newList ?_ hL)
  have z : ((s.heap.push (seqObj "list" #[] 0)).update s.heap.objs.size (Obj.mapSeq (· ++ vs.toArray))).objs.size = s.heap.objs.size + 1 := by
    rw [Heap.size_update, size_push']
  show wpAny _ _ _ _ _ { s with heap := copyHeap s.heap vs }
  rw [z]
  refine wpAny_bind (wpAny_holding (wpAny_call_entry_kw slot_list_sort ⟨_, copyHeap_at s.heap vs, rfl⟩ entry_list_sort ?body (args_list_sort _)))
  case body =>
    show wpAny (model prog w) A.in1.in1 (Builtin.«list.sort» ⟨[.ref (s.heap.objs.size + 1)], []⟩) _ _ _
    refine wpAny_mono (body _) (fun f s' hf => ?_) fun _ _ e => e
    obtain ⟨rfl, hq⟩ := hf
    exact ⟨_, rfl, wpAny_pure ⟨_, rfl, hq⟩⟩
/-- sorted(t) of a tuple of alike data -/
theorem sorted_tup_data {β : Type} {R : Value → β → Prop} {enc : β → PyData} {vs : List Value} {bs : List β} {l : Addr} {Q : Value → Shared → Prop} (hl : s.heap.IsTuple l vs.toArray) (e : EachIs R vs bs) (er : EachIs (fun v b => ∃ as, Reads s.heap v (enc b) as) vs bs) (hal : AllAlike (bs.map enc)) (hk : Sortable (bs.map enc)) (hL : bs.length ≤ sizeLine)
    (hu : ∀ b, b ∈ bs → A.units + 2 + (enc b).depth < cLine) (h : ∀ out, out.length = bs.length → EachIs R out (bs.mergeSort (dataLe false enc)) → Q (.ref (s.heap.objs.size + 1)) { s with heap := sortedAll s.heap vs (List.toArray out) }) :
    wpAny (model prog w) A (call (.builtin "sorted") [.ref l]) Q E s := by
  have er' : EachIs (fun v b => ∃ as, Reads (sortingHeap (copyHeap s.heap vs) (s.heap.objs.size + 1) vs) v (enc b) as) vs bs := er.mono fun _ _ ⟨as, r⟩ => ⟨as, PyProof.Rows.Reads.keeps (fun _ _ => sorting_copy_old) r⟩
  have hL' : vs.length ≤ sizeLine := by rw [e.length]; exact hL
  refine sorted_tup hl hL' fun E' => ?_
  refine list_sort_vals (s := { s with heap := copyHeap s.heap vs }) (copyHeap_at s.heap vs) (SortsAt.data (s := { s with heap := sortingHeap (copyHeap s.heap vs) (s.heap.objs.size + 1) vs }) (each_map (R := fun v d => ∃ as, Reads (sortingHeap (copyHeap s.heap vs) (s.heap.objs.size + 1) vs) v d as) enc er') hal hk ?_) hL' ⟨rfl, h _ ?_ ?_⟩
  · intro d hd
    obtain ⟨b, hb, rfl⟩ := List.mem_map.mp hd
    exact hu b hb
  · rw [sortVals_length false rfl]; exact e.length
  · exact sortVals_data false e er' hal
end LpS

set_option Elab.async false
set_option linter.all false
set_option autoImplicit false
set_option maxRecDepth 100000
set_option maxHeartbeats 4000000
namespace Lp
open PySem PySem.Spec L2

/-! ### comparisons -/
section
variable {X : Cx}
theorem rd_seqL {K : PySem.W.Frag} {H : Hp} {a : Addr} {xs : List V} (h : Rd H a (.lst xs)) : SqL K H a xs := .inl h
theorem rd_seqT {K : PySem.W.Frag} {H : Hp} {a : Addr} {xs : List V} (h : Rd H a (.tup xs)) : SqT K H a xs := .inl h
theorem shp_and {p q : D} (h : (shp p && shp q) = true) : SeqAt.shaped p = true ∧ SeqAt.shaped q = true := by
  rw [Bool.and_eq_true] at h
  exact h
theorem isN_iff {p : D} (h : isN p = false) : p ≠ .none := fun e => by subst e; cases h
theorem isN_none {p : D} (h : isN p = true) : p = .none := by cases p <;> first | rfl | cases h
def cmpD (op : CmpOp) (p q : D) : R D := (cmp op p q).map .bool
theorem opD_ord {op : CmpOp} {g : D → D → Bool} (hr : ∀ (pins : List (Addr × Obj)) (s : Shared) (σ : L2.St) (H : Hp) (Q : VK) (a b : Value) (p q : D) (as bs : List Addr), Inv X pins σ H s → Reads s.heap a p as → Reads s.heap b q bs → W.alike p q = true → p ≠ .none → X.A.units + min p.depth q.depth < cLine →
      Q (.bl (g p q)) H → wpAny (model X.prog X.w) X.A (compareOp op a b) (EP X pins σ Q) X.xe s)
    (hu : X.A.units + 65 < cLine) (hc : ∀ p q, cmp op p q = gd (ordG p q) (.ok (g p q))) : OpD X (compareOp op) (cmpD op) := by
  intro pins s σ H x y v u Q I rx ry ⟨Hf, p, q, d, sm, hp, hq, e, k⟩
  unfold cmpD at e
  rw [hc] at e
  obtain ⟨b, e1, e2⟩ := map_ok e
  obtain ⟨g1, g2⟩ := gd_ok e1
  cases ok_inj g2
  subst e2
  unfold ordG at g1
  simp only [Bool.and_eq_true, decide_eq_true_eq, Bool.not_eq_true'] at g1
  obtain ⟨as, r1⟩ := Dp.reads I p x v (rp_dp X.K (hp.rp sm)) rx
  obtain ⟨bs, r2⟩ := Dp.reads I q y u (rp_dp X.K (hq.rp sm)) ry
  exact hr pins s σ H Q v u p q as bs I r1 r2 g1.1.1 (isN_iff g1.1.2) (by omega) (k _ _ (.inl ⟨rfl, .bl _, rfl⟩))
theorem opD_lt (hu : X.A.units + 65 < cLine) : OpD X (compareOp .Lt) (cmpD .Lt) := opD_ord (g := fun p q => W.dataLt p q) (fun pins s σ H Q a b p q as bs I r1 r2 g1 g2 g3 k => PySem.W.lt_data r1 r2 g1 g2 g3 ⟨.bl _, H, I, rfl, k⟩) hu fun p q => by cases p <;> cases q <;> rfl
theorem opD_le (hu : X.A.units + 65 < cLine) : OpD X (compareOp .LtE) (cmpD .LtE) := opD_ord (g := fun p q => !W.dataLt q p) (fun pins s σ H Q a b p q as bs I r1 r2 g1 g2 g3 k => PySem.W.le_data r1 r2 g1 g2 g3 ⟨.bl _, H, I, rfl, k⟩) hu fun p q => by cases p <;> cases q <;> rfl
theorem opD_gt (hu : X.A.units + 65 < cLine) : OpD X (compareOp .Gt) (cmpD .Gt) := opD_ord (g := fun p q => W.dataLt q p) (fun pins s σ H Q a b p q as bs I r1 r2 g1 g2 g3 k => PySem.W.gt_data r1 r2 g1 g2 g3 ⟨.bl _, H, I, rfl, k⟩) hu fun p q => by cases p <;> cases q <;> rfl
theorem opD_ge (hu : X.A.units + 65 < cLine) : OpD X (compareOp .GtE) (cmpD .GtE) := opD_ord (g := fun p q => !W.dataLt p q) (fun pins s σ H Q a b p q as bs I r1 r2 g1 g2 g3 k => PySem.W.ge_data r1 r2 g1 g2 g3 ⟨.bl _, H, I, rfl, k⟩) hu fun p q => by cases p <;> cases q <;> rfl
theorem opD_eq (hu : X.A.units + 65 < cLine) : OpD X (compareOp .Eq) (cmpD .Eq) := by
  intro pins s σ H x y v u Q I rx ry ⟨Hf, p, q, d, sm, hp, hq, e, k⟩
  obtain ⟨b, e1, e2⟩ := map_ok e
  have e1 : gd (shp p && shp q) (.ok (PyData.eqv p q)) = .ok b := by rw [← e1]; cases p <;> cases q <;> rfl
  obtain ⟨g1, g2⟩ := gd_ok e1
  cases ok_inj g2
  subst e2
  obtain ⟨s1, s2⟩ := shp_and g1
  exact op_eqD (by omega) pins s σ H x y v u Q I rx ry ⟨p, q, rp_dp X.K (hp.rp sm), rp_dp X.K (hq.rp sm), s1, s2, k _ _ (.inl ⟨rfl, .bl _, rfl⟩)⟩
theorem opD_ne (hu : X.A.units + 65 < cLine) : OpD X (compareOp .NotEq) (cmpD .NotEq) := by
  intro pins s σ H x y v u Q I rx ry ⟨Hf, p, q, d, sm, hp, hq, e, k⟩
  obtain ⟨b, e1, e2⟩ := map_ok e
  have e1 : gd (shp p && shp q) (.ok (!PyData.eqv p q)) = .ok b := by rw [← e1]; cases p <;> cases q <;> rfl
  obtain ⟨g1, g2⟩ := gd_ok e1
  cases ok_inj g2
  subst e2
  obtain ⟨s1, s2⟩ := shp_and g1
  exact op_neD (by omega) pins s σ H x y v u Q I rx ry ⟨p, q, rp_dp X.K (hp.rp sm), rp_dp X.K (hq.rp sm), s1, s2, k _ _ (.inl ⟨rfl, .bl _, rfl⟩)⟩
theorem rp_non {H : Hp} {x : V} {p : D} (h : Rp H x p) : decide (x = .non) = isN p := by
  cases h <;> simp [isN]
theorem opD_is : OpD X (compareOp .Is) (cmpD .Is) := by
  intro pins s σ H x y v u Q I rx ry ⟨Hf, p, q, d, sm, hp, hq, e, k⟩
  obtain ⟨b, e1, e2⟩ := map_ok e
  by_cases hb : (match p, q with
    | .bool _, .bool _ => true
    | _, _ => false) = true
  · cases p with
    | bool a =>
      cases q with
      | bool c =>
        cases ok_inj e1
        subst e2
        have z : (a == c) = decide (a = c) := by cases a <;> cases c <;> rfl
        refine op_isBl pins s σ H x y v u Q I rx ry ⟨a, c, hp.bool, hq.bool, ?_⟩
        rw [← z]
        exact k _ _ (.inl ⟨rfl, .bl _, rfl⟩)
      | _ => cases hb
    | _ => cases hb
  have e1 : gd (isN q) (.ok (isN p)) = .ok b := by rw [← e1]; cases p <;> cases q <;> first | rfl | exact absurd rfl hb
  obtain ⟨g1, g2⟩ := gd_ok e1
  cases ok_inj g2
  subst e2
  have eq := isN_none g1
  subst eq
  exact op_isN pins s σ H x y v u Q I rx ry ⟨hq.none, by rw [rp_non (hp.rp sm)]; exact k _ _ (.inl ⟨rfl, .bl _, rfl⟩)⟩
theorem opD_isnot : OpD X (compareOp .IsNot) (cmpD .IsNot) := by
  intro pins s σ H x y v u Q I rx ry ⟨Hf, p, q, d, sm, hp, hq, e, k⟩
  obtain ⟨b, e1, e2⟩ := map_ok e
  by_cases hb : (match p, q with
    | .bool _, .bool _ => true
    | _, _ => false) = true
  · cases p with
    | bool a =>
      cases q with
      | bool c =>
        cases ok_inj e1
        subst e2
        have z : (a == c) = decide (a = c) := by cases a <;> cases c <;> rfl
        refine op_notBl pins s σ H x y v u Q I rx ry ⟨a, c, hp.bool, hq.bool, ?_⟩
        rw [← z]
        exact k _ _ (.inl ⟨rfl, .bl _, rfl⟩)
      | _ => cases hb
    | _ => cases hb
  have e1 : gd (isN q) (.ok (!isN p)) = .ok b := by rw [← e1]; cases p <;> cases q <;> first | rfl | exact absurd rfl hb
  obtain ⟨g1, g2⟩ := gd_ok e1
  cases ok_inj g2
  subst e2
  have eq := isN_none g1
  subst eq
  exact op_notN pins s σ H x y v u Q I rx ry ⟨hq.none, by rw [rp_non (hp.rp sm)]; exact k _ _ (.inl ⟨rfl, .bl _, rfl⟩)⟩
theorem opD_in (hu : X.A.units + 65 < cLine) : OpD X (compareOp .In) (cmpD .In) := by
  intro pins s σ H x y v u Q I rx ry ⟨Hf, p, q, d, sm, hp, hq, e, k⟩
  obtain ⟨b, e1, e2⟩ := map_ok e
  subst e2
  cases q with
  | list ys =>
    have e1 : gd (shp p && shp (.list ys)) (.ok (ys.any fun z => PyData.eqv z p)) = .ok b := by rw [← e1]; cases p <;> rfl
    obtain ⟨g1, g2⟩ := gd_ok e1
    cases ok_inj g2
    obtain ⟨s1, s2⟩ := shp_and g1
    exact op_inD hu pins s σ H x y v u Q I rx ry ⟨p, ys, rp_dp X.K (hp.rp sm), rp_dp X.K (hq.rp sm), s1, s2, k _ _ (.inl ⟨rfl, .bl _, rfl⟩)⟩
  | tuple ys =>
    have e1 : gd (shp p && shp (.tuple ys)) (.ok (ys.any fun z => PyData.eqv z p)) = .ok b := by rw [← e1]; cases p <;> rfl
    obtain ⟨g1, g2⟩ := gd_ok e1
    cases ok_inj g2
    obtain ⟨s1, s2⟩ := shp_and g1
    obtain ⟨as, r1⟩ := Dp.reads I p x v (rp_dp X.K (hp.rp sm)) rx
    obtain ⟨bs, r2⟩ := Dp.reads I (.tuple ys) y u (rp_dp X.K (hq.rp sm)) ry
    exact SeqAt.in_tuple_reads r2 r1 (SeqAt.canLay_of_shaped s2) (SeqAt.canLay_of_shaped s1) (PyProof.Rows.room_in_shaped s1 hu) ⟨.bl _, H, I, rfl, k _ _ (.inl ⟨rfl, .bl _, rfl⟩)⟩
  | str j =>
    cases p with
    | str i =>
      cases ok_inj e1
      exact op_in_str pins s σ H x y v u Q I rx ry ⟨i, j, hp.str, hq.str, k _ _ (.inl ⟨rfl, .bl _, rfl⟩)⟩
    | _ => cases e1
  | _ => cases p <;> cases e1
theorem opD_notin (hu : X.A.units + 65 < cLine) : OpD X (compareOp .NotIn) (cmpD .NotIn) := by
  intro pins s σ H x y v u Q I rx ry ⟨Hf, p, q, d, sm, hp, hq, e, k⟩
  obtain ⟨b, e1, e2⟩ := map_ok e
  subst e2
  cases q with
  | list ys =>
    have e1 : gd (shp p && shp (.list ys)) (.ok (!ys.any fun z => PyData.eqv z p)) = .ok b := by rw [← e1]; cases p <;> rfl
    obtain ⟨g1, g2⟩ := gd_ok e1
    cases ok_inj g2
    obtain ⟨s1, s2⟩ := shp_and g1
    exact op_notInD hu pins s σ H x y v u Q I rx ry ⟨p, ys, rp_dp X.K (hp.rp sm), rp_dp X.K (hq.rp sm), s1, s2, k _ _ (.inl ⟨rfl, .bl _, rfl⟩)⟩
  | tuple ys =>
    have e1 : gd (shp p && shp (.tuple ys)) (.ok (!ys.any fun z => PyData.eqv z p)) = .ok b := by rw [← e1]; cases p <;> rfl
    obtain ⟨g1, g2⟩ := gd_ok e1
    cases ok_inj g2
    obtain ⟨s1, s2⟩ := shp_and g1
    obtain ⟨as, r1⟩ := Dp.reads I p x v (rp_dp X.K (hp.rp sm)) rx
    obtain ⟨bs, r2⟩ := Dp.reads I (.tuple ys) y u (rp_dp X.K (hq.rp sm)) ry
    exact SeqAt.notIn_tuple_reads r2 r1 (SeqAt.canLay_of_shaped s2) (SeqAt.canLay_of_shaped s1) (PyProof.Rows.room_in_shaped s1 hu) ⟨.bl _, H, I, rfl, k _ _ (.inl ⟨rfl, .bl _, rfl⟩)⟩
  | str j =>
    cases p with
    | str i =>
      cases ok_inj e1
      exact op_notIn_str pins s σ H x y v u Q I rx ry ⟨i, j, hp.str, hq.str, k _ _ (.inl ⟨rfl, .bl _, rfl⟩)⟩
    | _ => cases e1
  | _ => cases p <;> cases e1
theorem opD_cmp (hu : X.A.units + 65 < cLine) : ∀ op : CmpOp, OpD X (compareOp op) (cmpD op)
  | .Eq => opD_eq hu
  | .NotEq => opD_ne hu
  | .Lt => opD_lt hu
  | .LtE => opD_le hu
  | .Gt => opD_gt hu
  | .GtE => opD_ge hu
  | .Is => opD_is
  | .IsNot => opD_isnot
  | .In => opD_in hu
  | .NotIn => opD_notin hu

/-! ### items, slices -/
theorem ixAt_eq (n : Nat) (i : Int) : ixAt n i = ixN n i := rfl
theorem pick_at {xs : List V} {ds : List D} {Hf : Hp} {i : Int} {d : D} (a : RpAll Hf xs ds) (e : pick ds i = .ok d) : ∃ v, atI xs i = some v ∧ Rp Hf v d := by
  have h := ofO_ok e
  unfold atI
  rw [a.len, ← ixAt_eq]
  cases q : ixAt ds.length i with
  | none => rw [q] at h; cases h
  | some j =>
    rw [q] at h
    exact a.get h
def IxD (X : Cx) (g : D → D → R D) : Prop :=
  IxR X fun x y H Q => ∃ Hf p q d, Same Hf H ∧ RpO Hf H x p ∧ RpO Hf H y q ∧ g p q = .ok d ∧ ∀ z, Rp Hf z d → Q z H
theorem ixD : IxD X sub := by
  intro value slice pins s σ H x y v u Q I rx ry ⟨Hf, p, q, d, sm, hp, hq, e, k⟩ hs
  cases q with
  | int i =>
    cases p with
    | list ds =>
      obtain ⟨a, xs, rfl, ha, pa⟩ := hp.list sm
      obtain ⟨w, h1, h2⟩ := pick_at pa e
      exact ix_list value slice pins s σ H _ y v u Q I rx ry ⟨a, xs, i, w, rfl, hq.int, rd_seqL ha, h1, k _ h2⟩ hs
    | tuple ds =>
      obtain ⟨a, xs, rfl, ha, pa⟩ := hp.tuple sm
      obtain ⟨w, h1, h2⟩ := pick_at pa e
      exact ix_tup value slice pins s σ H _ y v u Q I rx ry ⟨a, xs, i, w, rfl, hq.int, rd_seqT ha, h1, k _ h2⟩ hs
    | str z =>
      obtain ⟨g1, g2⟩ := gd_ok e
      obtain ⟨c, g3, g4⟩ := map_ok g2
      subst g4
      refine ix_str value slice pins s σ H x y v u Q I rx ry ⟨z, i, c, hp.str, hq.int, by rw [← lim_eq]; exact of_decide_eq_true g1, ?_, k _ (.str _)⟩ hs
      have h := ofO_ok g3
      exact h
    | _ => cases e
  | _ => cases p <;> cases e
theorem cutAt_eq (n d : Nat) (o : Option Int) : cutAt n d o = HT.sIx n d o := by cases o <;> rfl
theorem cut_V {xs : List V} {ds : List D} {Hf : Hp} (a : RpAll Hf xs ds) (lo hi : Option Int) : RpAll Hf (cutV xs lo hi) (cut ds lo hi) := by
  unfold cutV cut
  rw [a.len, cutAt_eq, cutAt_eq]
  exact (a.drop _).take _
def SlD (X : Cx) (g : D → Option Int → Option Int → R D) : Prop :=
  SlR X fun x lo hi H Q => ∃ Hf p d, Same Hf H ∧ RpO Hf H x p ∧ g p lo hi = .ok d ∧ ∀ z H', Res Hf H d z H' → Q z H'
end
end Lp

set_option Elab.async false
set_option linter.all false
set_option autoImplicit false
set_option maxRecDepth 100000
set_option maxHeartbeats 4000000
namespace Lp
open PySem PySem.Spec L2
section
variable {X : Cx}
theorem cut_whole {ds : List D} {lo hi : Option Int} (h : HT.sIx ds.length 0 lo = 0 ∧ HT.sIx ds.length ds.length hi = ds.length) : cut ds lo hi = ds := by
  unfold cut
  rw [cutAt_eq, cutAt_eq, h.1, h.2]
  simp
theorem slD : SlD X cutD := by
  intro pins s σ H x v vl vu lo hi sl Q I rx hs pl pu ⟨Hf, p, d, sm, hp, e, k⟩
  cases p with
  | list ds =>
    obtain ⟨a, xs, rfl, ha, pa⟩ := hp.list sm
    cases ok_inj e
    exact sl_list pins s σ H _ v vl vu lo hi sl Q I rx hs pl pu ⟨a, xs, rfl, rd_seqL ha, fun p hp' => k _ _ (.inr ⟨p, _, rfl, hp', rfl, .lst (cut_V pa lo hi)⟩)⟩
  | tuple ds =>
    obtain ⟨a, xs, rfl, ha, pa⟩ := hp.tuple sm
    cases ok_inj e
    cases rx
    obtain ⟨its, r, ht, hz⟩ := I.tuple (.inl ha)
    have hlen : its.toArray.size = xs.length := by rw [List.size_toArray]; exact r.length.symm
    refine ⟨"tuple", _, PyProof.Rows.slot_tuple_getitem.lookup, ht.typeIs, ?_⟩
    by_cases w : HT.sIx xs.length 0 lo = 0 ∧ HT.sIx xs.length xs.length hi = xs.length
    · have z := w
      rw [pa.len] at z
      rw [cut_whole z] at k
      exact getItem_tuple_whole ht hs pl pu (by rw [hlen]; exact w) ⟨.ref a, H, I, rfl, k _ _ (.inl ⟨rfl, hp.good rfl, rfl⟩)⟩
    · refine HT.getItem_tuple_cut ht hs pl pu (by rw [hlen]; exact w) ?_ (by rw [hlen]; exact hz)
      rw [hlen]
      exact ⟨.ref _, _, Inv.tnew (t' := s.toks) (xs := cutV xs lo hi) I ((r.drop _).take _) (Nat.le_trans (cutV_length xs lo hi) hz), rfl, k _ _ (.inr ⟨_, _, rfl, I.fresh, rfl, .tup rfl (cut_V pa lo hi)⟩)⟩
  | str z =>
    obtain ⟨g1, g2⟩ := gd_ok e
    cases ok_inj g2
    refine sl_str pins s σ H x v vl vu lo hi sl Q I rx hs pl pu ⟨z, hp.str, by rw [← lim_eq]; exact of_decide_eq_true g1, ?_⟩
    have z1 : (⟨(cut z.cps.toList lo hi).toArray⟩ : Str) = cutS z lo hi := by
      unfold cut cutS
      rw [cutAt_eq, cutAt_eq, Array.length_toList]
      rfl
    rw [z1] at k
    exact k _ _ (.inl ⟨rfl, .str _, rfl⟩)
  | _ => cases e

/-! ### built-ins -/
theorem blt_cases3 {f : Blt} {ps : List D} {d : D} (e : blt f ps = .ok d) : (∃ p, ps = [p] ∧ blt1 f p = .ok d) ∨ (∃ p q, ps = [p, q] ∧ blt2 f p q = .ok d) ∨ ∃ p q r, ps = [p, q, r] ∧ blt3 f p q r = .ok d := by
  rcases ps with _ | ⟨p, _ | ⟨q, _ | ⟨r, _ | ⟨r2, ps⟩⟩⟩⟩
  · cases e
  · exact .inl ⟨p, rfl, e⟩
  · exact .inr (.inl ⟨p, q, rfl, e⟩)
  · exact .inr (.inr ⟨p, q, r, rfl, e⟩)
  · cases e
theorem blt_cases {f : Blt} {ps : List D} {d : D} (e : blt f ps = .ok d) (h1 : f ≠ .max := by intro h; cases h) (h2 : f ≠ .min := by intro h; cases h) : (∃ p, ps = [p] ∧ blt1 f p = .ok d) ∨ ∃ p q, ps = [p, q] ∧ blt2 f p q = .ok d := by
  rcases blt_cases3 e with h | h | ⟨p, q, r, rfl, h⟩
  · exact .inl h
  · exact .inr h
  · unfold blt3 at h
    split at h
    · exact absurd rfl h1
    · exact absurd rfl h2
    · cases h
theorem nu_min3 (i j k : Int) : nuMin3 (.int i) (.int j) (.int k) = some (.int (if k < (if j < i then j else i) then k else (if j < i then j else i))) := by
  have l : ∀ a c : Int, nuLt (.int a) (.int c) = some (decide (a < c)) := fun _ _ => rfl
  unfold nuMin3 nuMin2
  rw [l]
  by_cases h : j < i
  · simp only [h, decide_true, Option.map_some, Option.bind_some, if_true, l]
    by_cases h2 : k < j
    · simp [h2]
    · simp [h2]
  · simp only [h, decide_false, Option.map_some, Option.bind_some, Bool.false_eq_true, if_false, l]
    by_cases h2 : k < i
    · simp [h2]
    · simp [h2]
theorem nu_max3 (i j k : Int) : nuMax3 (.int i) (.int j) (.int k) = some (.int (if k > (if j > i then j else i) then k else (if j > i then j else i))) := by
  have l : ∀ a c : Int, nuLt (.int a) (.int c) = some (decide (a < c)) := fun _ _ => rfl
  unfold nuMax3 nuMax2
  rw [l]
  by_cases h : i < j
  · have h' : j > i := h
    simp only [h, h', decide_true, Option.map_some, Option.bind_some, if_true, l]
    by_cases h2 : j < k
    · simp [h2]
    · simp [h2]
  · have h' : ¬ j > i := h
    simp only [h, h', decide_false, Option.map_some, Option.bind_some, Bool.false_eq_true, if_false, l]
    by_cases h2 : i < k
    · simp [h2]
    · simp [h2]
theorem RpOs.three {Hf H : Hp} {xs : List V} {p q r : D} (h : RpOs Hf H xs [p, q, r]) : ∃ x y z, xs = [x, y, z] ∧ RpO Hf H x p ∧ RpO Hf H y q ∧ RpO Hf H z r := by
  cases h with
  | cons a t =>
    cases t with
    | cons b t => cases t with
      | cons c t => cases t; exact ⟨_, _, _, rfl, a, b, c⟩
theorem RpOs.one {Hf H : Hp} {xs : List V} {p : D} (h : RpOs Hf H xs [p]) : ∃ x, xs = [x] ∧ RpO Hf H x p := by
  cases h with
  | cons a t => cases t; exact ⟨_, rfl, a⟩
theorem RpOs.two {Hf H : Hp} {xs : List V} {p q : D} (h : RpOs Hf H xs [p, q]) : ∃ x y, xs = [x, y] ∧ RpO Hf H x p ∧ RpO Hf H y q := by
  cases h with
  | cons a t =>
    obtain ⟨y, rfl, b⟩ := t.one
    exact ⟨_, y, rfl, a, b⟩
theorem seq_of {Hf H : Hp} {x : V} {p : D} {ds : List D} (sm : Same Hf H) (h : RpO Hf H x p) (e : p = .list ds ∨ p = .tuple ds) : ∃ a xs, x = .ref a ∧ (Rd H a (.lst xs) ∨ Rd H a (.tup xs)) ∧ RpAll Hf xs ds := by
  rcases e with rfl | rfl
  · obtain ⟨a, xs, rfl, ha, pa⟩ := h.list sm
    exact ⟨a, xs, rfl, .inl ha, pa⟩
  · obtain ⟨a, xs, rfl, ha, pa⟩ := h.tuple sm
    exact ⟨a, xs, rfl, .inr ha, pa⟩
theorem callD_len : CallD X (.builtin "len") (blt .len) := by
  intro pins s σ H xs us Q I r ⟨Hf, ps, d, sm, hp, e, k⟩
  have go : ∀ (x : V) (n : Nat), xs = [x] → LenV X.K x H n → d = .int n → wpAny (model X.prog X.w) X.A (call (.builtin "len") us) (EP X pins σ Q) X.xe s := fun x n ex hl ed => by
    subst ed
    exact call_len pins s σ H xs us Q I r ⟨x, n, ex, hl, k _ _ (.inl ⟨rfl, .int _, rfl⟩)⟩
  rcases blt_cases e with ⟨p, rfl, e⟩ | ⟨p, q, rfl, e⟩
  · obtain ⟨x, rfl, hx⟩ := hp.one
    cases p with
    | list ds =>
      obtain ⟨a, ys, rfl, ha, pa⟩ := hx.list sm
      exact go _ ds.length rfl (.inl ⟨ys, rd_seqL ha, pa.len.symm⟩) (ok_inj e).symm
    | tuple ds =>
      obtain ⟨a, ys, rfl, ha, pa⟩ := hx.tuple sm
      exact go _ ds.length rfl (.inr ⟨ys, rd_seqT ha, pa.len.symm⟩) (ok_inj e).symm
    | str z =>
      obtain ⟨g1, g2⟩ := gd_ok e
      have ex := hx.str
      subst ex
      exact go _ z.length rfl ⟨by rw [← lim_eq]; exact of_decide_eq_true g1, rfl⟩ (ok_inj g2).symm
    | _ => cases e
  · cases e
theorem callD_abs : CallD X (.builtin "abs") (blt .abs) := by
  intro pins s σ H xs us Q I r ⟨Hf, ps, d, sm, hp, e, k⟩
  rcases blt_cases e with ⟨p, rfl, e⟩ | ⟨p, q, rfl, e⟩
  · obtain ⟨x, rfl, hx⟩ := hp.one
    cases p with
    | int i =>
      cases ok_inj e
      exact call_abs pins s σ H _ us Q I r ⟨i, by rw [hx.int], k _ _ (.inl ⟨rfl, .int _, rfl⟩)⟩
    | _ => cases e
  · cases e
/-- the items, as the library reads them -/
theorem RpAll.reads {pins : List (Addr × Obj)} {σ : L2.St} {H : Hp} {s : Shared} (I : Inv X pins σ H s) {xs : List V} {ds : List D} {us : List Value} (a : RpAll H xs ds) (r : Vals xs us) : ∃ as, ReadsAll s.heap us ds as := Dp.readsAll I ds xs us (rpAll_dp X.K a) r
theorem alikes_ok {ds : List D} (h : alikes ds = true) : ∀ x ∈ ds, ∀ y ∈ ds, W.alike x y = true := by
  cases ds with
  | nil => intro x hx; cases hx
  | cons d r =>
    have q : ∀ x ∈ d :: r, ∀ y ∈ d :: r, W.alike x y = true := by
      have h' : ((d :: r).all fun y => (d :: r).all fun z => W.alike y z) = true := h
      intro x hx y hy
      exact List.all_eq_true.mp (List.all_eq_true.mp h' x hx) y hy
    exact q
theorem best_ok {x : D} {xs : List D} (h : bestG (x :: xs) = true) : W.AlikeAll (x :: xs) ∧ PyData.depthAll (x :: xs) ≤ 64 := by
  unfold bestG at h
  obtain ⟨h1, h2, h3⟩ := and3 h
  refine ⟨⟨alikes_ok h1, fun y hy => ?_⟩, of_decide_eq_true h3⟩
  have q := List.all_eq_true.mp h2 y hy
  simp only [Bool.and_eq_true, Bool.not_eq_true'] at q
  exact isN_iff q.1
theorem best_no {xs : List D} (h : bestG xs = true) {y : D} (hy : y ∈ xs) : ownable y = false := by
  unfold bestG at h
  obtain ⟨h1, h2, h3⟩ := and3 h
  have q := List.all_eq_true.mp h2 y hy
  simp only [Bool.and_eq_true, Bool.not_eq_true'] at q
  exact q.2
/-- the best item is one of them, for good -/
theorem best_at {pins : List (Addr × Obj)} {σ : L2.St} {Hf H : Hp} {s : Shared} (I : Inv X pins σ H s) (sm : Same Hf H) {xs : List V} {ds : List D} {us : List Value} {i : Nat} {v : Value} {h' : Heap} {tk : Nat} {m : D} {bs : List Addr} (a : RpAll Hf xs ds) (r : Vals xs us) (hm : m ∈ ds) (hal : ∀ x ∈ ds, ∀ y ∈ ds, W.alike x y = true)
    (hv : us[i]? = some v) (rd : Reads h' v m bs) (hk : ∀ b o, s.heap.get? b = some o → h'.get? b = some o) : ∃ y, RelV y v ∧ Rp Hf y m := by
  have hi : i < ds.length := by
    have := (List.getElem?_eq_some_iff.mp hv).1
    rw [← a.len, r.length]; exact this
  obtain ⟨y, hy, py⟩ := a.get (List.getElem?_eq_getElem hi)
  obtain ⟨u, hu, ru⟩ := r.get hy
  rw [hv] at hu
  cases hu
  obtain ⟨as, rs⟩ := Dp.reads I ds[i] y v (rp_dp X.K (rp_mono sm py)) ru
  have e := PySem.W.alike_unique _ _ v _ _ (hal _ (List.getElem_mem hi) _ hm) (PyProof.Rows.Reads.keeps hk rs) rd
  exact ⟨y, ru, e ▸ py⟩
theorem minD_mem (x : D) : ∀ xs : List D, W.minD x xs ∈ x :: xs := by
  intro xs
  unfold W.minD
  induction xs generalizing x with
  | nil => simp
  | cons y r ih =>
    simp only [List.foldl_cons]
    have q := ih (if W.dataLt y x then y else x)
    rcases List.mem_cons.mp q with e | e
    · rw [e]; split <;> simp
    · exact List.mem_cons_of_mem _ (List.mem_cons_of_mem _ e)
theorem maxD_mem (x : D) : ∀ xs : List D, W.maxD x xs ∈ x :: xs := by
  intro xs
  unfold W.maxD
  induction xs generalizing x with
  | nil => simp
  | cons y r ih =>
    simp only [List.foldl_cons]
    have q := ih (if W.dataLt x y then y else x)
    rcases List.mem_cons.mp q with e | e
    · rw [e]; split <;> simp
    · exact List.mem_cons_of_mem _ (List.mem_cons_of_mem _ e)
theorem Inv.rdT {pins : List (Addr × Obj)} {σ : L2.St} {H : Hp} {s : Shared} {l : Addr} {xs : List V} (I : Inv X pins σ H s) (h : Rd H l (.tup xs)) : ∃ its : List Value, Vals xs its ∧ PyProof.Rows.IsTup s.heap l its.toArray ∧ xs.length ≤ sizeLine := I.tuple (.inl h)
theorem best_run {f : String} (hf : f = "max" ∨ f = "min") (hu : X.A.units + 70 < cLine) (hc : X.calm = true) {pins : List (Addr × Obj)} {s : Shared} {σ : L2.St} {Hf H : Hp} {x : V} {y : D} {ys : List D} {us : List Value} {Q : VK} (I : Inv X pins σ H s) (sm : Same Hf H) (r : Vals [x] us) (p : D) (hp : RpO Hf H x p)
    (hpe : p = .list (y :: ys) ∨ p = .tuple (y :: ys)) (g : bestG (y :: ys) = true) (k : ∀ z H', Res Hf H (if f = "max" then W.maxD y ys else W.minD y ys) z H' → Q z H') : wpAny (model X.prog X.w) X.A (call (.builtin f) us) (EP X pins σ Q) X.xe s := by
  obtain ⟨hal, hd⟩ := best_ok g
  obtain ⟨u, rfl, ru⟩ := vals1 r
  have hh := I.ok.hd hc
  have room : X.A.units + 1 + PyData.depthAll (y :: ys) < cLine := by omega
  rcases hpe with rfl | rfl
  · obtain ⟨a, xs, rfl, ha, pa⟩ := hp.list sm
    cases ru
    obtain ⟨_, its, n, rv, _, e⟩ := Inv.rdL I ha
    obtain ⟨as, hr⟩ := (rpAll_mono sm pa).reads I rv
    have hl : s.heap.IsList a its.toArray := ⟨_, e, rfl, _, rfl⟩
    rcases hf with rfl | rfl
    · refine PySem.W.max_list_data hh hl (by simpa using hr) hal room fun i v h' tk bs hv rd hk => ?_
      obtain ⟨z, rz, pz⟩ := best_at (tk := tk) I sm pa rv (maxD_mem y ys) hal.1 (by simpa using hv) rd hk
      exact ⟨z, H, I.kept hk, rz, k _ _ (.inl ⟨rfl, pz, best_no g (by first | exact maxD_mem _ _ | exact minD_mem _ _)⟩)⟩
    · refine PySem.W.min_list_data hh hl (by simpa using hr) hal room fun i v h' tk bs hv rd hk => ?_
      obtain ⟨z, rz, pz⟩ := best_at (tk := tk) I sm pa rv (minD_mem y ys) hal.1 (by simpa using hv) rd hk
      exact ⟨z, H, I.kept hk, rz, k _ _ (.inl ⟨rfl, pz, best_no g (by first | exact maxD_mem _ _ | exact minD_mem _ _)⟩)⟩
  · obtain ⟨a, xs, rfl, ha, pa⟩ := hp.tuple sm
    cases ru
    obtain ⟨its, rv, ht, _⟩ := Inv.rdT I ha
    obtain ⟨as, hr⟩ := (rpAll_mono sm pa).reads I rv
    rcases hf with rfl | rfl
    · refine PySem.W.max_tuple_data hh ht (by simpa using hr) hal room fun i v h' tk bs hv rd hk => ?_
      obtain ⟨z, rz, pz⟩ := best_at (tk := tk) I sm pa rv (maxD_mem y ys) hal.1 (by simpa using hv) rd hk
      exact ⟨z, H, I.kept hk, rz, k _ _ (.inl ⟨rfl, pz, best_no g (by first | exact maxD_mem _ _ | exact minD_mem _ _)⟩)⟩
    · refine PySem.W.min_tuple_data hh ht (by simpa using hr) hal room fun i v h' tk bs hv rd hk => ?_
      obtain ⟨z, rz, pz⟩ := best_at (tk := tk) I sm pa rv (minD_mem y ys) hal.1 (by simpa using hv) rd hk
      exact ⟨z, H, I.kept hk, rz, k _ _ (.inl ⟨rfl, pz, best_no g (by first | exact maxD_mem _ _ | exact minD_mem _ _)⟩)⟩
theorem callD_max (hu : X.A.units + 70 < cLine) (hc : X.calm = true) : CallD X (.builtin "max") (blt .max) := by
  intro pins s σ H xs us Q I r ⟨Hf, ps, d, sm, hp, e, k⟩
  rcases blt_cases3 e with ⟨p, rfl, e⟩ | ⟨p, p2, rfl, e⟩ | ⟨p, p2, p3, rfl, e⟩
  · obtain ⟨x, rfl, hx⟩ := hp.one
    cases p with
    | list ds =>
      cases ds with
      | nil => cases e
      | cons y ys =>
        obtain ⟨g1, g2⟩ := gd_ok e
        cases ok_inj g2
        exact best_run (.inl rfl) hu hc I sm r _ hx (.inl rfl) g1 (by simpa using k)
    | tuple ds =>
      cases ds with
      | nil => cases e
      | cons y ys =>
        obtain ⟨g1, g2⟩ := gd_ok e
        cases ok_inj g2
        exact best_run (.inl rfl) hu hc I sm r _ hx (.inr rfl) g1 (by simpa using k)
    | _ => cases e
  · obtain ⟨x, y, rfl, hx, hy⟩ := hp.two
    cases p <;> cases p2 <;> first
      | (cases ok_inj e; exact call_max2 hc pins s σ H _ us Q I r ⟨_, _, by rw [hx.int, hy.int], k _ _ (.inl ⟨rfl, .int _, rfl⟩)⟩)
      | cases e
  · obtain ⟨x, y, z, rfl, hx, hy, hz⟩ := hp.three
    cases p <;> cases p2 <;> cases p3 <;> first
      | (cases ok_inj e; exact call_max3Nu hc pins s σ H _ us Q I r ⟨_, _, _, _, by rw [hx.int, hy.int, hz.int], nu_max3 _ _ _, k _ _ (.inl ⟨rfl, .int _, rfl⟩)⟩)
      | cases e
theorem callD_min (hu : X.A.units + 70 < cLine) (hc : X.calm = true) : CallD X (.builtin "min") (blt .min) := by
  intro pins s σ H xs us Q I r ⟨Hf, ps, d, sm, hp, e, k⟩
  rcases blt_cases3 e with ⟨p, rfl, e⟩ | ⟨p, p2, rfl, e⟩ | ⟨p, p2, p3, rfl, e⟩
  · obtain ⟨x, rfl, hx⟩ := hp.one
    cases p with
    | list ds =>
      cases ds with
      | nil => cases e
      | cons y ys =>
        obtain ⟨g1, g2⟩ := gd_ok e
        cases ok_inj g2
        exact best_run (.inr rfl) hu hc I sm r _ hx (.inl rfl) g1 (by simpa using k)
    | tuple ds =>
      cases ds with
      | nil => cases e
      | cons y ys =>
        obtain ⟨g1, g2⟩ := gd_ok e
        cases ok_inj g2
        exact best_run (.inr rfl) hu hc I sm r _ hx (.inr rfl) g1 (by simpa using k)
    | _ => cases e
  · obtain ⟨x, y, rfl, hx, hy⟩ := hp.two
    cases p <;> cases p2 <;> first
      | (cases ok_inj e; exact call_min2 hc pins s σ H _ us Q I r ⟨_, _, by rw [hx.int, hy.int], k _ _ (.inl ⟨rfl, .int _, rfl⟩)⟩)
      | cases e
  · obtain ⟨x, y, z, rfl, hx, hy, hz⟩ := hp.three
    cases p <;> cases p2 <;> cases p3 <;> first
      | (cases ok_inj e; exact call_min3Nu hc pins s σ H _ us Q I r ⟨_, _, _, _, by rw [hx.int, hy.int, hz.int], nu_min3 _ _ _, k _ _ (.inl ⟨rfl, .int _, rfl⟩)⟩)
      | cases e
theorem intsD_ok {Hf : Hp} : ∀ {xs : List V} {ds : List D} {ns : List Int}, RpAll Hf xs ds → intsD ds = some ns → xs = ns.map V.int
  | _, _, _, .nil, e => by cases e; rfl
  | _, _, _, .cons (d := .int i) (ds := r) h t, e => by
    cases h
    unfold intsD at e
    cases q : intsD r with
    | none => rw [q] at e; cases e
    | some ms =>
      rw [q] at e
      cases e
      rw [intsD_ok t q]
      rfl
  | _, _, _, .cons (d := .none) h t, e => by cases e
  | _, _, _, .cons (d := .bool _) h t, e => by cases e
  | _, _, _, .cons (d := .str _) h t, e => by cases e
  | _, _, _, .cons (d := .list _) h t, e => by cases e
  | _, _, _, .cons (d := .tuple _) h t, e => by cases e
  | _, _, _, .cons (d := .dict _) h t, e => by cases e
theorem boolsD_ok {Hf : Hp} : ∀ {xs : List V} {ds : List D} {ns : List Bool}, RpAll Hf xs ds → boolsD ds = some ns → xs = ns.map V.bl
  | _, _, _, .nil, e => by cases e; rfl
  | _, _, _, .cons (d := .bool i) (ds := r) h t, e => by
    cases h
    unfold boolsD at e
    cases q : boolsD r with
    | none => rw [q] at e; cases e
    | some ms =>
      rw [q] at e
      cases e
      rw [boolsD_ok t q]
      rfl
  | _, _, _, .cons (d := .none) h t, e => by cases e
  | _, _, _, .cons (d := .int _) h t, e => by cases e
  | _, _, _, .cons (d := .str _) h t, e => by cases e
  | _, _, _, .cons (d := .list _) h t, e => by cases e
  | _, _, _, .cons (d := .tuple _) h t, e => by cases e
  | _, _, _, .cons (d := .dict _) h t, e => by cases e
theorem sum_tup {pins : List (Addr × Obj)} {s : Shared} {σ : L2.St} {H : Hp} {a : Addr} {ns : List Int} {Q : VK} (hc : X.calm = true) (I : Inv X pins σ H s) (h : Rd H a (.tup (ns.map V.int))) (q : Q (.int ns.sum) H) : wpAny (model X.prog X.w) X.A (call (.builtin "sum") [.ref a]) (EP X pins σ Q) X.xe s := by
  obtain ⟨its, rv, ht, _⟩ := Inv.rdT I h
  obtain ⟨xs, e⟩ := rv.ints.allInts.items
  have hn : numsOf (intItems xs).toList = ns := by rw [← e]; exact rv.ints.numsOf
  rw [nums_intItems] at hn
  rw [e] at ht
  refine PySem.W.ktm_sumG (I.ok.hd hc) ht fun h' tk t' hk => ?_
  refine ⟨.int ns.sum, H, I.kept hk, ⟨t', ?_⟩, q⟩
  rw [preSum_eq, List.take_of_length_le (by simp), hn]
theorem callD_sum (hc : X.calm = true) : CallD X (.builtin "sum") (blt .sum) := by
  intro pins s σ H xs us Q I r ⟨Hf, ps, d, sm, hp, e, k⟩
  rcases blt_cases e with ⟨p, rfl, e⟩ | ⟨p, q, rfl, e⟩
  · obtain ⟨x, rfl, hx⟩ := hp.one
    cases p with
    | list ds =>
      have e2 := ofO_ok e
      obtain ⟨ns, e3, e4⟩ := Option.map_eq_some_iff.mp e2
      subst e4
      obtain ⟨a, ys, rfl, ha, pa⟩ := hx.list sm
      rw [intsD_ok pa e3] at ha
      exact cr_sum hc pins s σ H _ us Q I r ⟨a, ns, rfl, rd_seqL ha, k _ _ (.inl ⟨rfl, .int _, rfl⟩)⟩
    | tuple ds =>
      have e2 := ofO_ok e
      obtain ⟨ns, e3, e4⟩ := Option.map_eq_some_iff.mp e2
      subst e4
      obtain ⟨a, ys, rfl, ha, pa⟩ := hx.tuple sm
      rw [intsD_ok pa e3] at ha
      rw [Vals.ref1 r]
      exact sum_tup hc I ha (k _ _ (.inl ⟨rfl, .int _, rfl⟩))
    | _ => cases e
  · cases e
theorem callD_all (hc : X.calm = true) : CallD X (.builtin "all") (blt .all) := by
  intro pins s σ H xs us Q I r ⟨Hf, ps, d, sm, hp, e, k⟩
  rcases blt_cases e with ⟨p, rfl, e⟩ | ⟨p, q, rfl, e⟩
  · obtain ⟨x, rfl, hx⟩ := hp.one
    cases p with
    | list ds =>
      have e2 := ofO_ok e
      obtain ⟨ns, e3, e4⟩ := Option.map_eq_some_iff.mp e2
      subst e4
      obtain ⟨a, ys, rfl, ha, pa⟩ := hx.list sm
      rw [boolsD_ok pa e3] at ha
      exact cr_all hc pins s σ H _ us Q I r ⟨a, ns, rfl, rd_seqL ha, k _ _ (.inl ⟨rfl, .bl _, rfl⟩)⟩
    | _ => cases e
  · cases e
theorem callD_any (hc : X.calm = true) : CallD X (.builtin "any") (blt .any) := by
  intro pins s σ H xs us Q I r ⟨Hf, ps, d, sm, hp, e, k⟩
  rcases blt_cases e with ⟨p, rfl, e⟩ | ⟨p, q, rfl, e⟩
  · obtain ⟨x, rfl, hx⟩ := hp.one
    cases p with
    | list ds =>
      have e2 := ofO_ok e
      obtain ⟨ns, e3, e4⟩ := Option.map_eq_some_iff.mp e2
      subst e4
      obtain ⟨a, ys, rfl, ha, pa⟩ := hx.list sm
      rw [boolsD_ok pa e3] at ha
      exact cr_any hc pins s σ H _ us Q I r ⟨a, ns, rfl, rd_seqL ha, k _ _ (.inl ⟨rfl, .bl _, rfl⟩)⟩
    | _ => cases e
  · cases e
theorem callD_list : CallD X (.type "list") (blt .list) := by
  intro pins s σ H xs us Q I r ⟨Hf, ps, d, sm, hp, e, k⟩
  rcases blt_cases e with ⟨p, rfl, e⟩ | ⟨p, q, rfl, e⟩
  · obtain ⟨x, rfl, hx⟩ := hp.one
    cases p with
    | list ds =>
      obtain ⟨a, ys, rfl, ha, pa⟩ := hx.list sm
      cases ok_inj e
      exact call_list_of pins s σ H _ us Q I r ⟨a, ys, rfl, .inl (rd_seqL ha), fun l hl => k _ _ (.inr ⟨l, _, rfl, hl, rfl, .lst pa⟩)⟩
    | tuple ds =>
      obtain ⟨a, ys, rfl, ha, pa⟩ := hx.tuple sm
      cases ok_inj e
      exact call_list_of pins s σ H _ us Q I r ⟨a, ys, rfl, .inr (rd_seqT ha), fun l hl => k _ _ (.inr ⟨l, _, rfl, hl, rfl, .lst pa⟩)⟩
    | _ => cases e
  · cases e
theorem callD_tuple : CallD X (.type "tuple") (blt .tuple) := by
  intro pins s σ H xs us Q I r ⟨Hf, ps, d, sm, hp, e, k⟩
  rcases blt_cases e with ⟨p, rfl, e⟩ | ⟨p, q, rfl, e⟩
  · obtain ⟨x, rfl, hx⟩ := hp.one
    cases p with
    | list ds =>
      obtain ⟨a, ys, rfl, ha, pa⟩ := hx.list sm
      cases ok_inj e
      obtain ⟨u, rfl, ru⟩ := vals1 r
      cases ru
      obtain ⟨hz, its, n, rv, el, g⟩ := Inv.rdL I ha
      refine call_tuple_list ⟨_, g, rfl, _, rfl⟩ (fun h' kp => ?_) (by rw [List.size_toArray, ← el, sizeLine_eq] at *; omega)
      have I1 : Inv X pins σ H { s with heap := h' } := I.kept (t' := s.toks) kp
      exact ⟨.ref _, _, Inv.tnew (t' := s.toks) I1 rv hz, rfl, k _ _ (.inr ⟨_, _, rfl, I1.fresh, rfl, .tup rfl pa⟩)⟩
    | tuple ds =>
      obtain ⟨a, ys, rfl, ha, pa⟩ := hx.tuple sm
      cases ok_inj e
      exact call_tuple_of pins s σ H _ us Q I r ⟨a, ys, rfl, .inr ⟨rd_seqT ha, k _ _ (.inl ⟨rfl, hx.good rfl, rfl⟩)⟩⟩
    | _ => cases e
  · cases e
theorem callD_int : CallD X (.type "int") (blt .int) := by
  intro pins s σ H xs us Q I r ⟨Hf, ps, d, sm, hp, e, k⟩
  rcases blt_cases e with ⟨p, rfl, e⟩ | ⟨p, q, rfl, e⟩
  · obtain ⟨x, rfl, hx⟩ := hp.one
    cases p with
    | int i =>
      cases ok_inj e
      exact call_int1 pins s σ H _ us Q I r (.inl ⟨i, by rw [hx.int], k _ _ (.inl ⟨rfl, .int _, rfl⟩)⟩)
    | bool i =>
      cases ok_inj e
      refine call_int1 pins s σ H _ us Q I r (.inr ⟨i, by rw [hx.bool], ?_⟩)
      have z : (if i = true then (1 : Int) else 0) = b2n i := by cases i <;> rfl
      rw [z]
      exact k _ _ (.inl ⟨rfl, .int _, rfl⟩)
    | _ => cases e
  · cases e
end
end Lp

set_option Elab.async false
set_option linter.all false
set_option autoImplicit false
set_option maxRecDepth 100000
set_option maxHeartbeats 4000000
namespace Lp
open PySem PySem.Spec L2
section
variable {X : Cx}
/-! ### sorted -/
def Stands (Hf : Hp) (v : Value) (d : D) : Prop := ∃ x, RelV x v ∧ Rp Hf x d
theorem stands_all {Hf : Hp} : ∀ {xs : List V} {ds : List D} {us : List Value}, RpAll Hf xs ds → Vals xs us → PySem.W.EachIs (Stands Hf) us ds
  | _, _, _, .nil, .nil => .nil
  | _, _, _, .cons h t, .cons r q => .cons ⟨_, r, h⟩ (stands_all t q)
theorem all_stands {Hf : Hp} : ∀ {us : List Value} {ds : List D}, PySem.W.EachIs (Stands Hf) us ds → ∃ xs, Vals xs us ∧ RpAll Hf xs ds
  | _, _, .nil => ⟨[], .nil, .nil⟩
  | _, _, .cons ⟨x, r, h⟩ t => by
    obtain ⟨xs, q, a⟩ := all_stands t
    exact ⟨x :: xs, .cons r q, .cons h a⟩
theorem sort_ok {ds : List D} (h : sortG ds = true) : PySem.W.AllAlike (ds.map id) ∧ PySem.W.Sortable (ds.map id) ∧ ds.length ≤ sizeLine ∧ PyData.depthAll ds ≤ 64 := by
  unfold sortG at h
  simp only [Bool.and_eq_true, decide_eq_true_eq, Bool.or_eq_true] at h
  obtain ⟨⟨⟨h1, h2⟩, h3⟩, h4⟩ := h
  rw [List.map_id]
  refine ⟨fun x hx y hy => alikes_ok h1 x hx y hy, ?_, by rw [← lim_eq]; exact h2, h3⟩
  rcases h4 with h4 | h4
  · left
    intro d hd
    have q := List.all_eq_true.mp h4 d hd
    cases d with
    | tuple l =>
      cases l with
      | nil => cases q
      | cons x r => exact ⟨x, r, rfl⟩
    | _ => cases q
  · right
    intro d hd
    have q := List.all_eq_true.mp h4 d hd
    simp only [Bool.and_eq_true, Bool.not_eq_true'] at q
    refine ⟨isN_iff q.1, fun xs e => ?_⟩
    rw [e] at q
    cases q.2
theorem depth_mem : ∀ {ds : List D} {d : D}, d ∈ ds → d.depth ≤ PyData.depthAll ds
  | x :: r, d, h => by
    unfold PyData.depthAll
    rcases List.mem_cons.mp h with e | e
    · rw [e]; omega
    · have := depth_mem e; omega
theorem callD_sorted (hu : X.A.units + 70 < cLine) : CallD X (.builtin "sorted") (blt .sorted) := by
  intro pins s σ H xs us Q I r ⟨Hf, ps, d, sm, hp, e, k⟩
  rcases blt_cases e with ⟨p, rfl, e⟩ | ⟨p, q, rfl, e⟩
  · obtain ⟨x, rfl, hx⟩ := hp.one
    have fin : ∀ (ds : List D) (its out : List Value), RpAll Hf (List.map id []) [] → sortG ds = true → d = .list (ds.mergeSort (W.dataLe false id)) → PySem.W.EachIs (Stands Hf) out (ds.mergeSort (W.dataLe false id)) → out.length = ds.length →
        EP X pins σ Q (.ref (s.heap.objs.size + 1)) { s with heap := PyProof.Rows.sortedAll s.heap its (List.toArray out) } := fun ds its out _ g ed eo hl => by
      obtain ⟨_, _, hL, _⟩ := sort_ok g
      obtain ⟨ys, rv, pa⟩ := all_stands eo
      obtain ⟨ep, he'⟩ := PyProof.Rows.sortedAll_at s.heap its out.toArray
      have hz : ys.length ≤ sizeLine := by rw [rv.length, hl]; exact hL
      refine ⟨.ref _, upd H (s.heap.objs.size + 1) (.lst ys), I.laid (t' := s.toks) (fun _ _ => PyProof.Rows.sortedAll_old) (Nat.le_succ _) ⟨hz, out, ep, rv, he'⟩, rfl, ?_⟩
      subst ed
      exact k _ _ (.inr ⟨_, _, rfl, I.hok.fresh (Nat.le_succ _), rfl, .lst pa⟩)
    cases p with
    | list ds =>
      obtain ⟨g1, g2⟩ := gd_ok e
      obtain ⟨h1, h2, hL, hd⟩ := sort_ok g1
      obtain ⟨a, ys, rfl, ha, pa⟩ := hx.list sm
      obtain ⟨_, its, n, rv, el, g⟩ := Inv.rdL I ha
      rw [Vals.ref1 r]
      obtain ⟨as, hr⟩ := (rpAll_mono sm pa).reads I rv
      have er := PySem.W.readsAll_each (h := s.heap) (id : D → PyData) (bs := ds) (by rw [List.map_id]; exact hr)
      exact PySem.W.sorted_data (enc := id) (bs := ds) ⟨_, g, rfl, _, rfl⟩ (stands_all pa rv) er h1 h2 hL (fun b hb => by have := depth_mem hb; show X.A.units + 2 + b.depth < cLine; omega) fun out hl eo => fin ds its out .nil g1 (ok_inj g2).symm eo hl
    | tuple ds =>
      obtain ⟨g1, g2⟩ := gd_ok e
      obtain ⟨h1, h2, hL, hd⟩ := sort_ok g1
      obtain ⟨a, ys, rfl, ha, pa⟩ := hx.tuple sm
      obtain ⟨its, rv, ht, _⟩ := Inv.rdT I ha
      rw [Vals.ref1 r]
      obtain ⟨as, hr⟩ := (rpAll_mono sm pa).reads I rv
      have er := PySem.W.readsAll_each (h := s.heap) (id : D → PyData) (bs := ds) (by rw [List.map_id]; exact hr)
      exact LpS.sorted_tup_data (enc := id) (bs := ds) ht (stands_all pa rv) er h1 h2 hL (fun b hb => by have := depth_mem hb; show X.A.units + 2 + b.depth < cLine; omega) fun out hl eo => fin ds its out .nil g1 (ok_inj g2).symm eo hl
    | _ => cases e
  · cases e

/-! ### isinstance -/
def tyN : Ty → String
  | .int => "int"
  | .bool => "bool"
  | .tuple => "tuple"
  | .list => "list"
  | .str => "str"
def dTy : D → String
  | .none => "NoneType"
  | .bool _ => "bool"
  | .int _ => "int"
  | .str _ => "str"
  | .list _ => "list"
  | .tuple _ => "tuple"
  | .dict _ => "dict"
theorem rp_ty {H : Hp} {x : V} {d : D} (K : PySem.W.Frag) (h : Rp H x d) : TyX K H x (.type (dTy d)) := by
  cases h with
  | non => exact .base .non
  | bl b => exact .base (.bl b)
  | int i => exact .base (.int i)
  | str z => exact .base (.str z)
  | lst r _ =>
    rcases r with r | ⟨o, r⟩
    · exact .base (.lst r)
    · exact .base (.frz r)
  | tup r _ _ => exact .fTuple r
theorem kit_one (K : PySem.W.Frag) : ∀ (d : D) (t : Ty), (∀ kvs, d ≠ .dict kvs) → PySem.W.kitOne K (.type (dTy d)) (.type (tyN t)) = some (isTy t d)
  | .none, .int, _ => kit_ty (show kitB "NoneType" "int" = some false by decide +kernel)
  | .none, .bool, _ => kit_ty (show kitB "NoneType" "bool" = some false by decide +kernel)
  | .none, .tuple, _ => kit_ty (show kitB "NoneType" "tuple" = some false by decide +kernel)
  | .none, .list, _ => kit_ty (show kitB "NoneType" "list" = some false by decide +kernel)
  | .none, .str, _ => kit_ty (show kitB "NoneType" "str" = some false by decide +kernel)
  | .bool _, .int, _ => kit_ty (show kitB "bool" "int" = some true by decide +kernel)
  | .bool _, .bool, _ => kit_ty (show kitB "bool" "bool" = some true by decide +kernel)
  | .bool _, .tuple, _ => kit_ty (show kitB "bool" "tuple" = some false by decide +kernel)
  | .bool _, .list, _ => kit_ty (show kitB "bool" "list" = some false by decide +kernel)
  | .bool _, .str, _ => kit_ty (show kitB "bool" "str" = some false by decide +kernel)
  | .int _, .int, _ => kit_ty (show kitB "int" "int" = some true by decide +kernel)
  | .int _, .bool, _ => kit_ty (show kitB "int" "bool" = some false by decide +kernel)
  | .int _, .tuple, _ => kit_ty (show kitB "int" "tuple" = some false by decide +kernel)
  | .int _, .list, _ => kit_ty (show kitB "int" "list" = some false by decide +kernel)
  | .int _, .str, _ => kit_ty (show kitB "int" "str" = some false by decide +kernel)
  | .str _, .int, _ => kit_ty (show kitB "str" "int" = some false by decide +kernel)
  | .str _, .bool, _ => kit_ty (show kitB "str" "bool" = some false by decide +kernel)
  | .str _, .tuple, _ => kit_ty (show kitB "str" "tuple" = some false by decide +kernel)
  | .str _, .list, _ => kit_ty (show kitB "str" "list" = some false by decide +kernel)
  | .str _, .str, _ => kit_ty (show kitB "str" "str" = some true by decide +kernel)
  | .list _, .int, _ => kit_ty (show kitB "list" "int" = some false by decide +kernel)
  | .list _, .bool, _ => kit_ty (show kitB "list" "bool" = some false by decide +kernel)
  | .list _, .tuple, _ => kit_ty (show kitB "list" "tuple" = some false by decide +kernel)
  | .list _, .list, _ => kit_ty (show kitB "list" "list" = some true by decide +kernel)
  | .list _, .str, _ => kit_ty (show kitB "list" "str" = some false by decide +kernel)
  | .tuple _, .int, _ => kit_ty (show kitB "tuple" "int" = some false by decide +kernel)
  | .tuple _, .bool, _ => kit_ty (show kitB "tuple" "bool" = some false by decide +kernel)
  | .tuple _, .tuple, _ => kit_ty (show kitB "tuple" "tuple" = some true by decide +kernel)
  | .tuple _, .list, _ => kit_ty (show kitB "tuple" "list" = some false by decide +kernel)
  | .tuple _, .str, _ => kit_ty (show kitB "tuple" "str" = some false by decide +kernel)
  | .dict kvs, _, h => absurd rfl (h kvs)
theorem rp_nodict {H : Hp} {x : V} {d : D} (h : Rp H x d) : ∀ kvs, d ≠ .dict kvs := fun kvs e => by subst e; cases h
theorem kit_any (K : PySem.W.Frag) (d : D) (hd : ∀ kvs, d ≠ .dict kvs) : ∀ ts : List Ty, PySem.W.kitAny K (.type (dTy d)) (ts.map fun t => .type (tyN t)) = some (ts.any fun t => isTy t d)
  | [] => rfl
  | t :: r => by
    refine kitAny_cons (kit_one K d t hd) (fun e => ?_) fun e => ?_
    · simp only [List.any_cons, e, Bool.false_or]
      exact kit_any K d hd r
    · simp [List.any_cons, e]

/-! ### index -/
theorem find_at : ∀ {ds : List D} {x : D} {n m : Nat}, findAt x n ds = some m → ∃ j z, m = n + j ∧ ds[j]? = some z ∧ PyData.eqv z x = true ∧ ∀ i z', i < j → ds[i]? = some z' → PyData.eqv z' x = false
  | [], _, _, _, h => by cases h
  | z :: r, x, n, m, h => by
    unfold findAt at h
    by_cases e : PyData.eqv z x = true
    · rw [if_pos e] at h
      cases h
      exact ⟨0, z, rfl, rfl, e, fun i z' hi => absurd hi (Nat.not_lt_zero _)⟩
    · rw [if_neg e] at h
      obtain ⟨j, w, h1, h2, h3, h4⟩ := find_at h
      refine ⟨j + 1, w, by omega, by simpa using h2, h3, fun i z' hi hz => ?_⟩
      cases i with
      | zero =>
        have : z = z' := by simpa using hz
        rw [← this]
        simpa using e
      | succ i => exact h4 i z' (by omega) (by simpa using hz)
theorem index_tup (hu : X.A.units + 65 < cLine) {pins : List (Addr × Obj)} {s : Shared} {σ : L2.St} {H : Hp} {a : Addr} {xs : List V} {ds : List D} {y : V} {d z : D} {u : Value} {j : Nat} {Q : VK} (I : Inv X pins σ H s) (ha : Rd H a (.tup xs)) (pa : RpAll H xs ds) (hy : Rp H y d) (ry : RelV y u)
    (s1 : SeqAt.shaped d = true) (s2 : SeqAt.shaped (.tuple ds) = true) (hz : ds[j]? = some z) (e1 : PyData.eqv z d = true) (e2 : ∀ i z', i < j → ds[i]? = some z' → PyData.eqv z' d = false) (q : Q (.int (j : Nat)) H) :
    wpAny (model X.prog X.w) X.A (call (.builtin "tuple.index") [.ref a, u]) (EP X pins σ Q) X.xe s := by
  obtain ⟨bs, r1⟩ := Dp.reads I d y u (rp_dp X.K hy) ry
  obtain ⟨its, rv, ⟨⟨cls, dd, dt, sl⟩, ho, hc, n, hd⟩, hlen⟩ := Inv.rdT I ha
  simp only at hc hd
  subst hc hd
  obtain ⟨as, h4⟩ := pa.reads I rv
  have hn : its.length = ds.length := SeqAt.ReadsAll.length ds its as h4
  have hlay : PyData.canLayAll0 ds = true := SeqAt.canLay_of_shaped s2
  have hmap : its.map (SeqAt.readOf s.heap) = ds := SeqAt.readsAll_map ds its as hlay h4
  obtain ⟨hjd, _⟩ := List.getElem?_eq_some_iff.mp hz
  have at_ : ∀ (m : Nat) (hm : m < its.toArray.size) (z' : PyData), ds[m]? = some z' → SeqAt.readOf s.heap its.toArray[m] = z' := by
    intro m hm z' hz'
    have hml : m < its.length := by simpa using hm
    rw [← hmap, List.getElem?_map, List.getElem?_eq_getElem hml] at hz'
    simpa using hz'
  have hj : j < its.toArray.size := by simp only [List.size_toArray]; omega
  refine call_meets PySem.F.slot_tuple_index ⟨_, ho, rfl⟩ PySem.F.entry_tuple_index (PySem.F.args_tuple_index_2 _ _)
    (TI.tuple_indexAt a its.toArray n dd sl u (fun w => PyData.eqv (SeqAt.readOf s.heap w) d) j hj ?_ ?_) ⟨ho, SeqAt.items_eqAt (vs := its.toArray) (by simpa using h4) r1 hlay (SeqAt.canLay_of_shaped s1) (PyProof.Rows.room_in_shaped s1 hu), ⟨.int (j : Nat), H, I.tok _, ⟨_, rfl⟩, q⟩⟩
  · show PyData.eqv (SeqAt.readOf s.heap its.toArray[j]) d = true
    rw [at_ j hj z hz]
    exact e1
  · intro m hm hmj
    have hmd : m < ds.length := by omega
    show PyData.eqv (SeqAt.readOf s.heap its.toArray[m]) d = false
    rw [at_ m hm _ (List.getElem?_eq_getElem hmd)]
    exact e2 m _ hmj (List.getElem?_eq_getElem hmd)
end
end Lp

set_option Elab.async false
set_option linter.all false
set_option autoImplicit false
set_option maxRecDepth 100000
set_option maxHeartbeats 4000000
namespace Lp
open PySem PySem.Spec L2 PyProof.Rows
/-! ### a tuple, a text from the end -/
section
variable {prog : Program} {w : World} {A : Around} {E : Value → Shared → Prop} {s : Shared}
theorem adj_rev' (n : Nat) : Builtin.Slice.sliceAdjust none none (-1) (n : Int) = ((n : Int) - 1, -1) := rfl
theorem places_rev (n : Nat) : Builtin.Slice.slicePlaces ((n : Int) - 1) (-1) (-1) = n := by
  unfold Builtin.Slice.slicePlaces
  rw [if_neg (by omega)]
  by_cases h : (n : Int) - 1 > -1
  · rw [if_pos h, show (-(-1) : Int) = 1 by omega, Int.ediv_one]; omega
  · rw [if_neg h]; omega
theorem applied_rev {sl : Addr} {vl vu vs : Value} {n : Nat} {Q : Int × Int × Nat → Shared → Prop} (hs : s.heap.IsSliceOf sl vl vu vs) (pl : IsPart vl none) (pu : IsPart vu none) (ps : IsPart vs (some (-1)))
    (h : Q ((n : Int) - 1, -1, n) s) : wpAny (model prog w) A (Builtin.Slice.sliceApplied (.ref sl) (pure (n : Int))) Q E s := by
  obtain ⟨os, hos, hcs, hds⟩ := id hs
  unfold Builtin.Slice.sliceApplied Builtin.Slice.sliceFields
  refine wpAny_bind (wpAny_bind (wpAny_field hos hds (x := vl) rfl (wpAny_bind (wpAny_field hos hds (x := vu) rfl (wpAny_bind (wpAny_field hos hds (x := vs) rfl (wpAny_pure ?_)))))))
  refine wpAny_bind (HT.slicePart_ ps ?_)
  show wpAny _ _ (if ((-1 : Int) == 0) = true then _ else _) _ _ s
  rw [if_neg (by decide)]
  refine wpAny_bind (HT.slicePart_ pl (wpAny_bind (HT.slicePart_ pu (wpAny_bind (wpAny_pure ?_)))))
  show wpAny _ _ (match Builtin.Slice.sliceAdjust none none (-1) (n : Int) with | (lo, hi) => pure (lo, (-1 : Int), Builtin.Slice.slicePlaces lo hi (-1))) _ _ s
  rw [adj_rev' n]
  show wpAny _ _ (pure ((n : Int) - 1, (-1 : Int), Builtin.Slice.slicePlaces ((n : Int) - 1) (-1) (-1))) _ _ s
  rw [places_rev]
  exact wpAny_pure h
theorem pickA {A : Type} (xs : Array A) : ((List.range xs.size).filterMap fun (m : Nat) => xs[xs.size - 1 - m]?) = xs.toList.reverse := by
  have e : ∀ n : Nat, n ≤ xs.size → ((List.range n).filterMap fun (m : Nat) => xs[xs.size - 1 - m]?) = xs.toList.reverse.take n := by
    intro n
    induction n with
    | zero => intro _; rfl
    | succ n ih =>
      intro h
      rw [List.range_succ, List.filterMap_append, ih (by omega), List.take_add_one]
      congr 1
      have hl : xs.size - 1 - n < xs.size := by omega
      rw [List.filterMap_cons, List.filterMap_nil, Array.getElem?_eq_getElem hl]
      rw [List.getElem?_eq_getElem (by simp; omega)]
      simp
  rw [e xs.size (Nat.le_refl _)]
  exact List.take_of_length_le (by simp)
theorem pick_rev (xs : Array Value) : ((List.range xs.size).filterMap fun (m : Nat) => xs[((xs.size : Int) - 1 + (m : Int) * (-1)).toNat]?).toArray = xs.toList.reverse.toArray := by
  rw [← pickA xs]
  congr 1
  congr 1
  funext m
  rw [show ((xs.size : Int) - 1 + (m : Int) * (-1)).toNat = xs.size - 1 - m by omega]
theorem getItem_tuple_rev {t sl : Addr} {items : Array Value} {vl vu vs : Value} {Q : Value → Shared → Prop} (ht : IsTup s.heap t items) (hs : s.heap.IsSliceOf sl vl vu vs) (pl : IsPart vl none) (pu : IsPart vu none) (ps : IsPart vs (some (-1)))
    (h : Q (.ref s.heap.objs.size) { s with heap := s.heap.push { cls := .type "tuple", data := .seq items.toList.reverse.toArray } })
    (hsz : items.size ≤ sizeLine) : wpAny (model prog w) A (getItem (.ref t) (.ref sl)) Q E s := by
  have htake : sizeOk (.seq items.toList.reverse.toArray) := by
    show items.toList.reverse.toArray.size ≤ sizeLine
    rw [List.size_toArray, List.length_reverse, Array.length_toList]
    exact hsz
  obtain ⟨os, hos, hcs, hds⟩ := id hs
  have hTs : s.TypeIs (.ref sl) "slice" := ⟨os, hos, hcs⟩
  unfold getItem
  try with_reducible refine wpAny_holding ?_
  first | refine wpAny_bind (wpAny_pure ?_) | skip
  refine wpAny_bind (wpAny_sequenceKey ht.typeIs (by decide) ?_)
  refine wpAny_bind (wpAny_callSpecial?_slot (name := Str.ofString "__getitem__") ht.typeIs slot_tuple_getitem
    (wpAny_call_entry slot_tuple_getitem ht.typeIs entry_tuple_getitem ?_ (args_tuple_getitem _ _)))
  show wpAny _ _ (Builtin.Tuple.tupleItemsOf (.ref t) >>= _) _ _ s
  refine wpAny_bind (tupleItemsOf_ ht ?_)
  refine wpAny_bind (wpAny_typeOf hTs ?_)
  rw [if_pos (by decide)]
  refine wpAny_bind (applied_rev hs pl pu ps ?_)
  have hno : ¬ ((((items.size : Int) - 1) == 0 && (-1 : Int) == 1 && items.size == items.size) = true) := by
    intro q
    rw [Bool.and_eq_true, Bool.and_eq_true] at q
    exact absurd q.1.2 (by decide)
  show wpAny _ _ (if (((items.size : Int) - 1) == 0 && (-1 : Int) == 1 && items.size == items.size) = true then _ else _) _ _ s
  rw [if_neg hno, pick_rev]
  first
    | exact wpAny_bind (m := Builtin.Tuple.tupleExact _) (wpAny_newObj_type (wpAny_pure ⟨_, rfl, wpAny_pure h⟩) htake)
    | exact wpAny_bind (m := Builtin.Tuple.tupleExact _) (wpAny_newObj_type (wpAny_bind (wpAny_pure (wpAny_pure ⟨_, rfl, wpAny_pure h⟩))) htake)
    | exact wpAny_bind (wpAny_bind (m := Builtin.Tuple.tupleExact _) (wpAny_newObj_type (wpAny_pure (wpAny_pure ⟨_, rfl, wpAny_pure h⟩)) htake))
    | exact wpAny_bind (wpAny_bind (m := Builtin.Tuple.tupleExact _) (wpAny_newObj_type (wpAny_pure ⟨_, rfl, wpAny_pure h⟩) htake))
end
/-! ### a text's signs from the end -/
theorem str_idx_rev (n : Nat) : Builtin.Str.strSliceIndices none none (-1) n = (List.range n).map fun k => n - 1 - k := by
  show sliceRange ((n : Int) - 1) (-1) (-1) = _
  exact PySem.W.krv_sliceRange n
section
variable {X : Cx}
theorem rvD {pins : List (Addr × Obj)} {s : Shared} {σ : L2.St} {H : Hp} {x : V} {v vl vu vs : Value} {sl : Addr} {Q : VK} (I : Inv X pins σ H s) (rx : RelV x v) (hs : s.heap.IsSliceOf sl vl vu vs) (pl : IsPart vl none) (pu : IsPart vu none) (ps : IsPart vs (some (-1)))
    (h : ∃ Hf p d, Same Hf H ∧ RpO Hf H x p ∧ rev p = .ok d ∧ ∀ z H', Res Hf H d z H' → Q z H') :
    ∃ T id, typeLookup (.type T) "__getitem__" = pure (some (.builtin id)) ∧ s.TypeIs v T ∧ wpAny (model X.prog X.w) X.A (getItem v (.ref sl)) (EP X pins σ Q) X.xe s := by
  obtain ⟨Hf, p, d, sm, hp, e, k⟩ := h
  cases p with
  | list ds =>
    obtain ⟨a, xs, rfl, ha, pa⟩ := hp.list sm
    cases ok_inj e
    cases rx
    obtain ⟨its, r, ht, hz⟩ := I.list (rd_seqL ha)
    have hlen := r.length
    refine ⟨"list", _, PySem.slot_list_getitem.lookup, ht.isList.typeIs, ?_⟩
    refine wpAny_getItem_list_slice ht.isList hs pl pu ps (by decide) ?_ (by rw [List.size_toArray]; omega)
    rw [PySem.W.krv_pick]
    refine ⟨.ref _, _, I.laid (t' := s.toks) (o := .lst xs.reverse) (fun b ob q => Heap.get?_push_of_some _ q) (Nat.le_refl _) ?_, rfl, k _ _ (.inr ⟨_, _, rfl, I.fresh, rfl, .lst pa.rev⟩)⟩
    exact ⟨by rw [List.length_reverse]; exact hz, _, 0, r.reverse, Heap.get?_push_size _ rfl⟩
  | tuple ds =>
    obtain ⟨a, xs, rfl, ha, pa⟩ := hp.tuple sm
    cases ok_inj e
    cases rx
    obtain ⟨its, r, ht, hz⟩ := I.tuple (.inl ha)
    have hlen : its.toArray.size = xs.length := by rw [List.size_toArray]; exact r.length.symm
    refine ⟨"tuple", _, PyProof.Rows.slot_tuple_getitem.lookup, ht.typeIs, ?_⟩
    refine getItem_tuple_rev ht hs pl pu ps ?_ (by rw [hlen]; exact hz)
    exact ⟨.ref _, _, Inv.tnew (t' := s.toks) (xs := xs.reverse) I r.reverse (by rw [List.length_reverse]; exact hz), rfl, k _ _ (.inr ⟨_, _, rfl, I.fresh, rfl, .tup rfl pa.rev⟩)⟩
  | str z =>
    obtain ⟨g1, g2⟩ := gd_ok e
    cases ok_inj g2
    have g1 := of_decide_eq_true g1
    rw [lim_eq] at g1
    have ex := hp.str
    subst ex
    obtain ⟨t, rfl⟩ := rx
    obtain ⟨os, hos, hcs, hds⟩ := hs
    cases pl
    cases pu
    obtain ⟨st, rfl, e2⟩ := IsPart.raw ps
    refine ⟨"str", _, F.slot_str_getitem.lookup, typeIs_str _ _ _, ?_⟩
    have h1 : (st.map (·.1)) = some (-1) := e2
    refine wpAny_getItem_str_slice (l := none) (u := none) (st := st) ⟨os, hos, hcs, hds⟩ (by rw [h1]; rfl) ?_
    have hsm : sliceMade z t none none st = Made.str ⟨z.cps.toList.reverse.toArray⟩ := by
      unfold sliceMade slicePicked
      rw [h1]
      show (if ((-1 : Int) == 1 && (Builtin.Str.strSliceIndices none none (-1) z.length).length == z.length) = true then Made.val (.str z t) else Made.str ⟨((Builtin.Str.strSliceIndices none none (-1) z.length).filterMap (z.cps[·]?)).toArray⟩) = _
      rw [if_neg (by rw [show ((-1 : Int) == 1) = false by decide]; simp), str_idx_rev, List.filterMap_map]
      congr 2
      exact congrArg List.toArray (pickA z.cps)
    rw [hsm]
    exact ⟨by show (z.cps.toList.reverse.toArray).size ≤ _; simp only [List.size_toArray, List.length_reverse, Array.length_toList]; exact g1, .str _, H, I.tok _, ⟨_, rfl⟩, k _ _ (.inl ⟨rfl, .str _, rfl⟩)⟩
  | _ => cases e
def tRv (te : TE) : TE := fun σ H Q => te σ H fun x H1 => ∃ Hf p d, Same Hf H1 ∧ RpO Hf H1 x p ∧ rev p = .ok d ∧ ∀ z H', Res Hf H1 d z H' → Q z H'
theorem pe_rv {e : Expr} {te : TE} {k : Nat} {p1 p2 p3 pos : Pos} (he : PE X e te) : PE X (.Subscript e (.Slice none none (some (.UnaryOp .USub (.Constant (.int 1) k p1) p2)) p3) pos) (tRv te) := by
  refine ⟨fun pins s σ H Q I h => ?_⟩
  refine Subscript_ (thn (he.run pins s σ H _ I h) fun v s1 ⟨x, H1, I1, r1, q1⟩ => ?_)
  have hst : PO X (some (.UnaryOp .USub (.Constant (.int 1) k p1) p2)) (tPart (tUn (rU fun i => .int (-i)) (tC (.int 1)))) := po_some (pe_un un_neg pe_int)
  refine wpAny_Slice (thn (po_none.run pins s1 σ H1 (fun o H2 => o = none ∧ H2 = H1) I1 ⟨rfl, rfl⟩) fun vl s2 ⟨l, H2, I2, pl, el, e2⟩ => ?_)
  subst el e2
  refine thn (po_none.run pins s2 σ H2 (fun o H3 => o = none ∧ H3 = H2) I2 ⟨rfl, rfl⟩) fun vu s3 ⟨u, H3, I3, pu, eu, e3⟩ => ?_
  subst eu e3
  refine thn (hst.run pins s3 σ H3 (fun o H4 => o = some (-1) ∧ H4 = H3) I3 ⟨1, rfl, -1, rfl, rfl, rfl⟩) fun vs s4 ⟨o, H4, I4, ps, eo, e4⟩ => ?_
  subst eo e4
  have I5 : Inv X pins σ H4 { s4 with heap := s4.heap.push { cls := .type "slice", data := .fields #[vl, vu, vs] } } := I4.kept (t' := s4.toks) fun b ob q => Heap.get?_push_of_some _ q
  obtain ⟨T, id, hT, ht, hg⟩ := rvD (s := { s4 with heap := s4.heap.push { cls := .type "slice", data := .fields #[vl, vu, vs] } }) (sl := s4.heap.objs.size) I5 r1 (Heap.IsSliceOf.new ..) pl pu ps q1
  show wpAny (model X.prog X.w) X.A (subscriptTail e (.Slice none none (some (.UnaryOp .USub (.Constant (.int 1) k p1) p2)) p3) v (.ref s4.heap.objs.size)) (EP X pins σ Q) X.xe { s4 with heap := s4.heap.push { cls := .type "slice", data := .fields #[vl, vu, vs] } }
  exact tail_any (ops := [v, .ref s4.heap.objs.size]) ht hT hg (by with_unfolding_all rfl)
end
end Lp

set_option Elab.async false
set_option linter.all false
set_option autoImplicit false
set_option maxRecDepth 100000
set_option maxHeartbeats 4000000
namespace Lp
open PySem PySem.Spec L2

/-! ### readings -/
theorem imp_E {X : Cx} {e : Expr} {t t' : TE} (h : PE X e t) (w : ∀ σ H Q, t' σ H Q → t σ H Q) : PE X e t' := ⟨fun pins s σ H Q I q => h.run pins s σ H Q I (w σ H Q q)⟩
theorem imp_T {X : Cx} {e : Expr} {t t' : TT} (h : PT X e t) (w : ∀ σ H Q, t' σ H Q → t σ H Q) : PT X e t' := ⟨fun pins s σ H Q I q => h.run pins s σ H Q I (w σ H Q q)⟩
theorem imp_W {X : Cx} {e : Expr} {t t' : TT} (h : PW X e t) (w : ∀ σ H Q, t' σ H Q → t σ H Q) : PW X e t' := ⟨fun wh pins s σ H Q I q => h.run wh pins s σ H Q I (w σ H Q q)⟩
theorem imp_A {X : Cx} {es : List Expr} {t t' : TA} (h : PA X es t) (w : ∀ σ H Q, t' σ H Q → t σ H Q) : PA X es t' := ⟨fun pos pins s σ H Q I q => h.run pos pins s σ H Q I (w σ H Q q)⟩
theorem imp_O {X : Cx} {e : Option Expr} {t t' : TO} (h : PO X e t) (w : ∀ σ H Q, t' σ H Q → t σ H Q) : PO X e t' := ⟨fun pins s σ H Q I q => h.run pins s σ H Q I (w σ H Q q)⟩
/-- a value for good -/
def tE (f : En → R (D × En)) : TE := fun σ H Q => ∃ io Hf C v d v', Rel io Hf C σ H v ∧ f v = .ok (d, v') ∧ ∀ x H' Hf', Rel io Hf' C σ H' v' → Same Hf Hf' → Rp Hf' x d → Q x H'
def NewR (io : Option Addr) (Hf C : Hp) (σ : L2.St) (H : Hp) (v : En) (x : V) (d : D) : Prop := (ownable d = false ∧ Rp Hf x d) ∨ ∃ p o, x = .ref p ∧ H p = some o ∧ Own Hf o d ∧ Free io Hf C σ v p
/-- .. or a list that is nobody's -/
def tN (f : En → R (D × En)) : TE := fun σ H Q => ∃ io Hf C v d v', Rel io Hf C σ H v ∧ f v = .ok (d, v') ∧ ∀ x H' Hf', Rel io Hf' C σ H' v' → Same Hf Hf' → NewR io Hf' C σ H' v' x d → Q x H'
def ZR (Hf : Hp) (σ : L2.St) (x : V) : Lz → Prop
  | .inl i => σ[i]? = some (some x)
  | .inr d => Rp Hf x d
/-- an operand -/
def tZ (f : En → R (Lz × En)) : TE := fun σ H Q => ∃ io Hf C v z v', Rel io Hf C σ H v ∧ f v = .ok (z, v') ∧ ∀ x H' Hf', Rel io Hf' C σ H' v' → Same Hf Hf' → ZR Hf' σ x z → Q x H'
def tT (f : En → R (Bool × En)) : TT := fun σ H Q => ∃ io Hf C v b v', Rel io Hf C σ H v ∧ f v = .ok (b, v') ∧ ∀ H' Hf', Rel io Hf' C σ H' v' → Same Hf Hf' → Q b H'
def tA (f : En → R (List D × En)) : TA := fun σ H Q => ∃ io Hf C v ds v', Rel io Hf C σ H v ∧ f v = .ok (ds, v') ∧ ∀ xs H' Hf', Rel io Hf' C σ H' v' → Same Hf Hf' → RpAll Hf' xs ds → Q xs H'
inductive ZRs (Hf : Hp) (σ : L2.St) : List V → List Lz → Prop
  | nil : ZRs Hf σ [] []
  | cons {x : V} {xs : List V} {z : Lz} {zs : List Lz} : ZR Hf σ x z → ZRs Hf σ xs zs → ZRs Hf σ (x :: xs) (z :: zs)
def tZs (f : En → R (List Lz × En)) : TA := fun σ H Q => ∃ io Hf C v zs v', Rel io Hf C σ H v ∧ f v = .ok (zs, v') ∧ ∀ xs H' Hf', Rel io Hf' C σ H' v' → Same Hf Hf' → ZRs Hf' σ xs zs → Q xs H'
theorem ZR.mono {Hf Hf' : Hp} {σ : L2.St} {x : V} {z : Lz} (s : Same Hf Hf') (h : ZR Hf σ x z) : ZR Hf' σ x z := by
  cases z with
  | inl i => exact h
  | inr d => exact rp_mono s h
theorem ZRs.mono {Hf Hf' : Hp} {σ : L2.St} (s : Same Hf Hf') : ∀ {xs : List V} {zs : List Lz}, ZRs Hf σ xs zs → ZRs Hf' σ xs zs
  | _, _, .nil => .nil
  | _, _, .cons h t => .cons (h.mono s) (ZRs.mono s t)
section
variable {io : Option Addr} {Hf Hf' C : Hp} {σ : L2.St} {H H' : Hp} {v : En}
theorem slot_rp {i : Nat} {s : Sl} {d : D} {x : V} (r : SltR io Hf C σ H i s) (e : (match s with | .fz d => (.ok d : R D) | .ow d => .ok d | .io d => .ok d | _ => bad) = .ok d) (hx : σ[i]? = some (some x)) : RpO Hf H x d := by
  cases s with
  | un => cases e
  | fz d0 =>
    obtain ⟨y, h1, h2⟩ := r
    rw [h1] at hx; cases hx
    cases ok_inj e
    exact .inl h2
  | ow d0 =>
    obtain ⟨a, o, h1, h2, h3, h4, h5, h6⟩ := r
    rw [h1] at hx; cases hx
    cases ok_inj e
    exact .inr ⟨a, o, rfl, h5, h6⟩
  | io d0 =>
    obtain ⟨a, o, h1, h2, h3, h4, h5, h6⟩ := r
    rw [h1] at hx; cases hx
    cases ok_inj e
    exact .inr ⟨a, o, rfl, h5, h6⟩
theorem slot_val {i : Nat} {s : Sl} (r : SltR io Hf C σ H i s) (h : s ≠ .un) : ∃ x, σ[i]? = some (some x) := by
  cases s with
  | un => exact absurd rfl h
  | fz d0 => obtain ⟨y, h1, h2⟩ := r; exact ⟨_, h1⟩
  | ow d0 => obtain ⟨a, o, h1, _⟩ := r; exact ⟨_, h1⟩
  | io d0 => obtain ⟨a, o, h1, _⟩ := r; exact ⟨_, h1⟩
theorem ZR.get {x : V} {z : Lz} {d : D} (r : Rel io Hf C σ H v) (h : ZR Hf σ x z) (e : z.get v = .ok d) : RpO Hf H x d := by
  cases z with
  | inl i => exact slot_rp (r.sl i) (show peekV v i = .ok d from e) h
  | inr d0 => cases ok_inj e; exact .inl h
theorem ZRs.gets (r : Rel io Hf C σ H v) : ∀ {xs : List V} {zs : List Lz} {ds : List D}, ZRs Hf σ xs zs → Lz.gets v zs = .ok ds → RpOs Hf H xs ds
  | _, _, _, .nil, e => by cases ok_inj e; exact .nil
  | _, _, _, .cons h t, e => by
    obtain ⟨d, e1, e2⟩ := bind_ok e
    obtain ⟨ds, e3, e4⟩ := map_ok e2
    subst e4
    exact .cons (h.get r e1) (ZRs.gets r t e3)
/-- one's own list, from now on for good -/
theorem Rel.freeze (r : Rel io Hf C σ H v) {i : Nat} {d : D} (e : v.at i = .ow d) : ∃ x Hf', σ[i]? = some (some x) ∧ Rel io Hf' C σ H (v.set i (.fz d)) ∧ Same Hf Hf' ∧ Rp Hf' x d := by
  have s := r.sl i
  rw [e] at s
  obtain ⟨a, o, h1, h2, h3, h4, h5, h6⟩ := s
  have hi : i < v.length := at_lt (by rw [e]; exact fun z => nomatch z)
  have sm : Same Hf (upd Hf a o) := fun b u q => by rw [upd_ne (ne_of_none q h3)]; exact q
  have rp : Rp (upd Hf a o) (.ref a) d := h6.ob.rp sm upd_same
  refine ⟨.ref a, upd Hf a o, h1, ⟨fun b u q => ?_, r.lc, fun b => ?_, fun j => ?_, fun j k b hj hk p q => ?_, fun j k hj hk => ?_, ?_, r.ioh⟩, sm, rp⟩
  · by_cases hb : b = a
    · subst hb; rw [upd_same] at q; rw [h5]; exact q
    · rw [upd_ne hb] at q; exact r.le _ _ q
  · by_cases hb : b = a
    · subst hb; exact .inr h4
    · rw [upd_ne hb]; exact r.ap b
  · by_cases hj : j = i
    · subst hj
      rw [at_set_same hi]
      exact ⟨.ref a, h1, rp⟩
    · rw [at_set_ne hj]
      have sj := r.sl j
      refine sj.mono sm fun b u q1 q2 q3 hs he => ?_
      have hb : b ≠ a := fun z => by
        subst z
        rcases hs with hs | hs
        · exact hj (r.inj j i b hs (by rw [e]; rfl) he h1)
        · cases w : v.at j with
          | io d' =>
            rw [w] at sj
            obtain ⟨a', o', g1, g2, _⟩ := sj
            rw [g1] at he; cases he
            exact h2 g2
          | _ => rw [w] at hs; cases hs
      rw [upd_ne hb]
      exact ⟨q1, q2⟩
  · by_cases ji : j = i
    · subst ji; rw [at_set_same hi] at hj; cases hj
    · by_cases ki : k = i
      · subst ki; rw [at_set_same hi] at hk; cases hk
      · rw [at_set_ne ji] at hj; rw [at_set_ne ki] at hk; exact r.inj j k b hj hk p q
  · by_cases ji : j = i
    · subst ji; rw [at_set_same hi] at hj; cases hj
    · by_cases ki : k = i
      · subst ki; rw [at_set_same hi] at hk; cases hk
      · rw [at_set_ne ji] at hj; rw [at_set_ne ki] at hk; exact r.ioj j k hj hk
  · rw [List.length_set]; exact r.len
theorem Res.new {d : D} {x : V} (r : Rel io Hf C σ H v) (h : Res Hf H d x H') : ∃ Hf', Rel io Hf' C σ H' v ∧ Same Hf Hf' ∧ NewR io Hf' C σ H' v x d := by
  rcases h with ⟨rfl, h, e⟩ | ⟨p, o, rfl, hp, rfl, h⟩
  · exact ⟨Hf, r, Same.refl _, .inl ⟨e, h⟩⟩
  · by_cases q : ownable d = true
    · exact ⟨Hf, r.more hp, Same.refl _, .inr ⟨p, o, rfl, upd_same, h.own q, r.free_new hp⟩⟩
    · obtain ⟨r', s⟩ := r.add (o := o) hp
      exact ⟨_, r', s, .inl ⟨by simpa using q, h.rp s upd_same⟩⟩
theorem NewR.good {d : D} {x : V} (r : Rel io Hf C σ H v) (h : NewR io Hf C σ H v x d) : ∃ Hf', Rel io Hf' C σ H v ∧ Same Hf Hf' ∧ Rp Hf' x d := by
  rcases h with ⟨_, h⟩ | ⟨p, o, rfl, e, w, F⟩
  · exact ⟨Hf, r, Same.refl _, h⟩
  · obtain ⟨r', s⟩ := r.keep F e
    exact ⟨_, r', s, w.ob.rp s upd_same⟩
end
section
variable {X : Cx} {a b c e : Expr} {pos : Pos}
theorem eN {f : En → R (D × En)} (h : PE X e (tN f)) : PE X e (tE f) := imp_E h fun σ H Q ⟨io, Hf, C, v, d, v', r, e, k⟩ => ⟨io, Hf, C, v, d, v', r, e, fun x H' Hf' r' s n => by
  obtain ⟨Hf2, r2, s2, p⟩ := n.good r'
  exact k x H' Hf2 r2 (s.trans s2) p⟩
theorem eZ {f : En → R (D × En)} (h : PE X e (tE f)) : PE X e (tZ fun v => (f v).map fun x => (.inr x.1, x.2)) := imp_E h fun σ H Q ⟨io, Hf, C, v, z, v', r, e, k⟩ => by
  obtain ⟨⟨d, v1⟩, e1, e2⟩ := map_ok e
  cases e2
  exact ⟨io, Hf, C, v, d, _, r, e1, fun x H' Hf' r' s p => k x H' Hf' r' s p⟩
theorem var_E {i : Nat} (h : PE X e (tVar i)) : PE X e (tE fun v => getV v i) := imp_E h fun σ H Q ⟨io, Hf, C, v, d, v', r, e, k⟩ => by
  have e : getV v i = .ok (d, v') := e
  unfold getV at e
  split at e
  · rename_i d0 h0
    cases ok_inj e
    have s := r.sl i
    rw [h0] at s
    obtain ⟨x, h1, h2⟩ := s
    exact ⟨x, h1, k x H Hf r (Same.refl _) h2⟩
  · rename_i d0 h0
    cases ok_inj e
    obtain ⟨x, Hf', h1, h2, h3, h4⟩ := r.freeze h0
    exact ⟨x, h1, k x H Hf' h2 h3 h4⟩
  · cases e
theorem var_Z {i : Nat} (h : PE X e (tVar i)) : PE X e (tZ fun v => lzV v i) := imp_E h fun σ H Q ⟨io, Hf, C, v, z, v', r, e, k⟩ => by
  have e : lzV v i = .ok (z, v') := e
  unfold lzV at e
  have s := r.sl i
  split at e
  · rename_i d0 h0
    cases ok_inj e
    rw [h0] at s
    obtain ⟨x, h1, h2⟩ := s
    exact ⟨x, h1, k x H Hf r (Same.refl _) h2⟩
  · rename_i d0 h0
    cases ok_inj e
    rw [h0] at s
    obtain ⟨x, h1⟩ := slot_val s (fun z => nomatch z)
    exact ⟨x, h1, k x H Hf r (Same.refl _) h1⟩
  · rename_i d0 h0
    cases ok_inj e
    rw [h0] at s
    obtain ⟨x, h1⟩ := slot_val s (fun z => nomatch z)
    exact ⟨x, h1, k x H Hf r (Same.refl _) h1⟩
  · cases e
theorem cst_E {w : V} {d : D} (h : PE X e (tC w)) (hd : ∀ Hf, Rp Hf w d) : PE X e (tE fun v => .ok (d, v)) := imp_E h fun σ H Q ⟨io, Hf, C, v, d', v', r, e, k⟩ => by
  cases ok_inj e
  exact k w H Hf r (Same.refl _) (hd _)

/-! ### two operands -/
def op2 (fa fb : En → R (Lz × En)) (g : D → D → R D) (v : En) : R (D × En) :=
  (fa v).bind fun x => (fb x.2).bind fun y => (x.1.get y.2).bind fun p => (y.1.get y.2).bind fun q => (g p q).map fun d => (d, y.2)
theorem op2_imp {fa fb : En → R (Lz × En)} {g : D → D → R D} {P : Hp → Hp → D → V → Hp → Prop} {σ : L2.St} {H : Hp} {Q : VK} {T : Option Addr → Hp → Hp → L2.St → Hp → En → V → D → Prop}
    (hP : ∀ {io Hf C σ H v d x H'}, Rel io Hf C σ H v → P Hf H d x H' → ∃ Hf', Rel io Hf' C σ H' v ∧ Same Hf Hf' ∧ T io Hf' C σ H' v x d)
    (h : ∃ io Hf C v d v', Rel io Hf C σ H v ∧ op2 fa fb g v = .ok (d, v') ∧ ∀ x H' Hf', Rel io Hf' C σ H' v' → Same Hf Hf' → T io Hf' C σ H' v' x d → Q x H') :
    tOp (fun x y H Q => ∃ Hf p q d, Same Hf H ∧ RpO Hf H x p ∧ RpO Hf H y q ∧ g p q = .ok d ∧ ∀ z H', P Hf H d z H' → Q z H') (tZ fa) (tZ fb) σ H Q := by
  obtain ⟨io, Hf, C, v, d, v', r, e, k⟩ := h
  obtain ⟨⟨za, va⟩, e1, e⟩ := bind_ok e
  obtain ⟨⟨zb, vb⟩, e2, e⟩ := bind_ok e
  obtain ⟨p, e3, e⟩ := bind_ok e
  obtain ⟨q, e4, e⟩ := bind_ok e
  obtain ⟨d', e5, e⟩ := map_ok e
  cases e
  refine ⟨io, Hf, C, v, za, va, r, e1, fun x H1 Hf1 r1 s1 h1 => ⟨io, Hf1, C, va, zb, vb, r1, e2, fun y H2 Hf2 r2 s2 h2 => ⟨Hf2, p, q, d, r2.le, (h1.mono s2).get r2 e3, h2.get r2 e4, e5, fun z H' hr => ?_⟩⟩⟩
  obtain ⟨Hf3, r3, s3, t3⟩ := hP r2 hr
  exact k z H' Hf3 r3 ((s1.trans s2).trans s3) t3
theorem bin_N {op : Operator} {fa fb : En → R (Lz × En)} (ha : PE X a (tZ fa)) (hb : PE X b (tZ fb)) : PE X (.BinOp a op b pos) (tN (op2 fa fb (bin op))) :=
  imp_E (pe_op (opD op) ha hb) fun σ H Q h => op2_imp (T := NewR) (fun r p => Res.new r p) h
theorem cmp_N {op : CmpOp} {fa fb : En → R (Lz × En)} (hu : X.A.units + 65 < cLine) (hm : behindInMarks op b = false) (ha : PE X a (tZ fa)) (hb : PE X b (tZ fb)) : PE X (.Compare a [op] [b] pos) (tN (op2 fa fb (cmpD op))) :=
  imp_E (pe_cmpR (opD_cmp hu op) ha hb hm) fun σ H Q h => op2_imp (T := NewR) (fun r p => Res.new r p) h
theorem sub_E {fa fb : En → R (Lz × En)} (hs : PlainIx b) (ha : PE X a (tZ fa)) (hb : PE X b (tZ fb)) : PE X (.Subscript a b pos) (tE (op2 fa fb Lp.sub)) :=
  imp_E (pe_ix ixD ha hb hs) fun σ H Q h => by
    have z := op2_imp (P := fun Hf H d x H' => H' = H ∧ Rp Hf x d) (T := fun io Hf C σ H v x d => Rp Hf x d) (fun r p => ⟨_, by rw [p.1]; exact r, Same.refl _, p.2⟩) h
    obtain ⟨io, Hf, C, v, za, va, r, e1, z⟩ := z
    refine ⟨io, Hf, C, v, za, va, r, e1, fun x H1 Hf1 r1 s1 h1 => ?_⟩
    obtain ⟨io, Hf, C, v, zb, vb, r, e2, z⟩ := z x H1 Hf1 r1 s1 h1
    refine ⟨io, Hf, C, v, zb, vb, r, e2, fun y H2 Hf2 r2 s2 h2 => ?_⟩
    obtain ⟨Hf, p, q, d, w1, w2, w3, w4, w5⟩ := z y H2 Hf2 r2 s2 h2
    exact ⟨Hf, p, q, d, w1, w2, w3, w4, fun z hz => w5 z _ ⟨rfl, hz⟩⟩
theorem bool_of {Hf : Hp} {x : V} {b : Bool} (h : Rp Hf x (.bool b)) : x = .bl b := by cases h; rfl
theorem int_of {Hf : Hp} {x : V} {b : Int} (h : Rp Hf x (.int b)) : x = .int b := by cases h; rfl
def chn (fa fb fc : En → R (Lz × En)) (g g' : D → D → R Bool) (v : En) : R (D × En) :=
  (fa v).bind fun x => (fb x.2).bind fun y => (x.1.get y.2).bind fun p => (y.1.get y.2).bind fun q => (g p q).bind fun d =>
    match d with
    | true => (fc y.2).bind fun z => (y.1.get z.2).bind fun q' => (z.1.get z.2).bind fun r => (g' q' r).map fun d' => (.bool d', z.2)
    | false => .ok (.bool false, y.2)
theorem res_bool {Hf H H' : Hp} {x : V} {b : Bool} (h : Res Hf H (.bool b) x H') : H' = H ∧ x = .bl b := by
  rcases h with ⟨rfl, h, _⟩ | ⟨p, o, rfl, hp, rfl, h⟩
  · exact ⟨rfl, bool_of h⟩
  · cases h
theorem cmp2_E {op op' : CmpOp} {fa fb fc : En → R (Lz × En)} (hu : X.A.units + 65 < cLine) (hm : lastMarks [op, op'] [b, c] = false) (ha : PE X a (tZ fa)) (hb : PE X b (tZ fb)) (hc : PE X c (tZ fc)) :
    PE X (.Compare a [op, op'] [b, c] pos) (tE (chn fa fb fc (cmp op) (cmp op'))) :=
  imp_E (pe_chain (opD_cmp hu op) (opD_cmp hu op') ha hb hc hm) fun σ H Q ⟨io, Hf, C, v, d, v', r, e, k⟩ => by
    obtain ⟨⟨za, va⟩, e1, e⟩ := bind_ok e
    obtain ⟨⟨zb, vb⟩, e2, e⟩ := bind_ok e
    obtain ⟨p, e3, e⟩ := bind_ok e
    obtain ⟨q, e4, e⟩ := bind_ok e
    obtain ⟨d', e5, e⟩ := bind_ok e
    refine ⟨io, Hf, C, v, za, va, r, e1, fun x H1 Hf1 r1 s1 h1 => ⟨io, Hf1, C, va, zb, vb, r1, e2, fun y H2 Hf2 r2 s2 h2 => ⟨Hf2, p, q, .bool d', r2.le, (h1.mono s2).get r2 e3, h2.get r2 e4, by unfold cmpD; rw [e5]; rfl, fun z H' hr => ?_⟩⟩⟩
    obtain ⟨rfl, rfl⟩ := res_bool hr
    refine ⟨d', rfl, ?_⟩
    cases d' with
    | false =>
      cases ok_inj e
      exact k _ _ Hf2 r2 (s1.trans s2) (.bl _)
    | true =>
      obtain ⟨⟨zc, vc⟩, e6, e⟩ := bind_ok e
      obtain ⟨q', e7, e⟩ := bind_ok e
      obtain ⟨t, e8, e⟩ := bind_ok e
      obtain ⟨d2, e9, e⟩ := map_ok e
      cases e
      refine ⟨io, Hf2, C, _, zc, _, r2, e6, fun w H4 Hf4 r4 s4 h4 => ⟨Hf4, q', t, .bool d2, r4.le, (h2.mono s4).get r4 e7, h4.get r4 e8, by unfold cmpD; rw [e9]; rfl, fun z H' hr => ?_⟩⟩
      obtain ⟨rfl, rfl⟩ := res_bool hr
      exact k _ _ Hf4 r4 ((s1.trans s2).trans s4) (.bl _)

/-! ### one operand -/
def op1 (fa : En → R (Lz × En)) (g : D → R D) (v : En) : R (D × En) := (fa v).bind fun x => (x.1.get x.2).bind fun p => (g p).map fun d => (d, x.2)
def negD : D → R D
  | .int i => .ok (.int (-i))
  | _ => bad
theorem neg_E {fa : En → R (Lz × En)} (ha : PE X a (tZ fa)) : PE X (.UnaryOp .USub a pos) (tE (op1 fa negD)) :=
  imp_E (pe_un un_neg ha) fun σ H Q ⟨io, Hf, C, v, d, v', r, e, k⟩ => by
    obtain ⟨⟨za, va⟩, e1, e⟩ := bind_ok e
    obtain ⟨p, e2, e⟩ := bind_ok e
    obtain ⟨d', e3, e⟩ := map_ok e
    cases e
    refine ⟨io, Hf, C, v, za, va, r, e1, fun x H1 Hf1 r1 s1 h1 => ?_⟩
    have hp := h1.get r1 e2
    cases p with
    | int i =>
      cases ok_inj e3
      exact ⟨i, hp.int, k _ _ Hf1 r1 s1 (.int _)⟩
    | _ => cases e3
/-- one that is not changed by being read -/
theorem revL_N {fa : En → R (Lz × En)} {k0 : Nat} {p1 p2 p3 : Pos} (ha : PE X a (tZ fa)) : PE X (.Subscript a (.Slice none none (some (.UnaryOp .USub (.Constant (.int 1) k0 p1) p2)) p3) pos) (tN (op1 fa rev)) :=
  imp_E (pe_rv ha) fun σ H Q ⟨io, Hf, C, v, d, v', r, e, k⟩ => by
    obtain ⟨⟨za, va⟩, e1, e⟩ := bind_ok e
    obtain ⟨p, e2, e⟩ := bind_ok e
    obtain ⟨d', e3, e⟩ := map_ok e
    cases e
    refine ⟨io, Hf, C, v, za, va, r, e1, fun x H1 Hf1 r1 s1 h1 => ⟨Hf1, p, d, r1.le, h1.get r1 e2, e3, fun z H' hr => ?_⟩⟩
    obtain ⟨Hf2, r2, s2, n2⟩ := Res.new r1 hr
    exact k _ _ Hf2 r2 (s1.trans s2) n2

/-! ### truth -/
theorem tru_V {K : PySem.W.Frag} {Hf H : Hp} {x : V} {d : D} {b : Bool} (s : Same Hf H) (h : Rp Hf x d) (e : tru d = .ok b) : TruV K x H b := by
  cases h with
  | non => cases ok_inj e; exact rfl
  | bl c => cases ok_inj e; exact rfl
  | int i => cases ok_inj e; exact rfl
  | str z =>
    obtain ⟨g1, g2⟩ := gd_ok e
    exact ⟨by rw [← lim_eq]; exact of_decide_eq_true g1, (ok_inj g2).symm⟩
  | lst r q =>
    refine .inl ⟨_, rd_seqL (rd_mono s r), ?_⟩
    rw [← ok_inj e]
    cases q <;> rfl
  | tup r n q =>
    refine .inr (.inl ⟨_, rd_seqT (.inr ⟨_, s _ _ r⟩), ?_⟩)
    rw [← ok_inj e]
    cases q <;> rfl
theorem truth_T {f : En → R (D × En)} (ha : PE X a (tE f)) (he : ∀ whole, isTrue a X.env whole = (do let v ← whole; standAt a.pos; holding [v] (truthy v))) : PT X a (tT fun v => truOf (f v)) :=
  imp_T (pt_truth ha he) fun σ H Q ⟨io, Hf, C, v, b, v', r, e, k⟩ => by
    obtain ⟨⟨d, v1⟩, e1, e⟩ := bind_ok e
    obtain ⟨b', e2, e⟩ := map_ok e
    cases e
    exact ⟨io, Hf, C, v, d, _, r, e1, fun x H' Hf' r' s p => ⟨b, tru_V r'.le p e2, k _ _ r' s⟩⟩
theorem not_E {f : En → R (D × En)} (ha : PE X a (tE f)) : PE X (.UnaryOp .Not a pos) (tE fun v => (truOf (f v)).map fun x => (.bool (!x.1), x.2)) :=
  imp_E (pe_notT ha) fun σ H Q ⟨io, Hf, C, v, d, v', r, e, k⟩ => by
    obtain ⟨⟨b, v2⟩, e1, e⟩ := map_ok e
    cases e
    obtain ⟨⟨d, v1⟩, e2, e3⟩ := bind_ok e1
    obtain ⟨b', e4, e5⟩ := map_ok e3
    cases e5
    exact ⟨io, Hf, C, v, d, _, r, e2, fun x H' Hf' r' s p => ⟨b, tru_V r'.le p e4, k _ _ _ r' s (.bl _)⟩⟩
theorem not_T {f : En → R (Bool × En)} (ha : PT X a (tT f)) : PT X (.UnaryOp .Not a pos) (tT fun v => (f v).map fun x => (!x.1, x.2)) :=
  imp_T (pt_not ha) fun σ H Q ⟨io, Hf, C, v, d, v', r, e, k⟩ => by
    obtain ⟨⟨b, v2⟩, e1, e⟩ := map_ok e
    cases e
    exact ⟨io, Hf, C, v, b, _, r, e1, fun H' Hf' r' s => k _ _ r' s⟩
def andF (f g : En → R (D × En)) (v : En) : R (D × En) := (f v).bind fun x => (tru x.1).bind fun t => match t with
    | true => g x.2
    | false => .ok x
def orF (f g : En → R (D × En)) (v : En) : R (D × En) := (f v).bind fun x => (tru x.1).bind fun t => match t with
    | false => g x.2
    | true => .ok x
theorem and_E {f g : En → R (D × En)} {rest : List Expr} (ha : PE X a (tE f)) (hb : PE X (.BoolOp .And (b :: rest) pos) (tE g)) : PE X (.BoolOp .And (a :: b :: rest) pos) (tE (andF f g)) :=
  imp_E (pe_andT ha hb) fun σ H Q ⟨io, Hf, C, v, d, v', r, e, k⟩ => by
    obtain ⟨⟨d1, v1⟩, e1, e⟩ := bind_ok e
    obtain ⟨b', e2, e⟩ := bind_ok e
    refine ⟨io, Hf, C, v, d1, _, r, e1, fun x H' Hf' r' s p => ⟨b', tru_V r'.le p e2, ?_⟩⟩
    cases b' with
    | true => exact ⟨io, Hf', C, _, _, _, r', e, fun x2 H2 Hf2 r2 s2 p2 => k _ _ _ r2 (s.trans s2) p2⟩
    | false => cases ok_inj e; exact k _ _ _ r' s p
theorem or_E {f g : En → R (D × En)} {rest : List Expr} (ha : PE X a (tE f)) (hb : PE X (.BoolOp .Or (b :: rest) pos) (tE g)) : PE X (.BoolOp .Or (a :: b :: rest) pos) (tE (orF f g)) :=
  imp_E (pe_orT ha hb) fun σ H Q ⟨io, Hf, C, v, d, v', r, e, k⟩ => by
    obtain ⟨⟨d1, v1⟩, e1, e⟩ := bind_ok e
    obtain ⟨b', e2, e⟩ := bind_ok e
    refine ⟨io, Hf, C, v, d1, _, r, e1, fun x H' Hf' r' s p => ⟨b', tru_V r'.le p e2, ?_⟩⟩
    cases b' with
    | false => exact ⟨io, Hf', C, _, _, _, r', e, fun x2 H2 Hf2 r2 s2 p2 => k _ _ _ r2 (s.trans s2) p2⟩
    | true => cases ok_inj e; exact k _ _ _ r' s p
theorem and_W {f g : En → R (Bool × En)} {rest : List Expr} (ha : PT X a (tT f)) (hb : PW X (.BoolOp .And (b :: rest) pos) (tT g)) : PW X (.BoolOp .And (a :: b :: rest) pos) (tT fun v => (f v).bind fun x => match x.1 with
    | true => g x.2
    | false => .ok x) :=
  imp_W (pw_and ha hb) fun σ H Q ⟨io, Hf, C, v, d, v', r, e, k⟩ => by
    obtain ⟨⟨b', v1⟩, e1, e⟩ := bind_ok e
    refine ⟨io, Hf, C, v, b', _, r, e1, fun H' Hf' r' s => ?_⟩
    cases b' with
    | true => exact ⟨io, Hf', C, _, _, _, r', e, fun H2 Hf2 r2 s2 => k _ _ r2 (s.trans s2)⟩
    | false => cases ok_inj e; exact k _ _ r' s
theorem or_W {f g : En → R (Bool × En)} {rest : List Expr} (ha : PT X a (tT f)) (hb : PW X (.BoolOp .Or (b :: rest) pos) (tT g)) : PW X (.BoolOp .Or (a :: b :: rest) pos) (tT fun v => (f v).bind fun x => match x.1 with
    | false => g x.2
    | true => .ok x) :=
  imp_W (pw_or ha hb) fun σ H Q ⟨io, Hf, C, v, d, v', r, e, k⟩ => by
    obtain ⟨⟨b', v1⟩, e1, e⟩ := bind_ok e
    refine ⟨io, Hf, C, v, b', _, r, e1, fun H' Hf' r' s => ?_⟩
    cases b' with
    | false => exact ⟨io, Hf', C, _, _, _, r', e, fun H2 Hf2 r2 s2 => k _ _ r2 (s.trans s2)⟩
    | true => cases ok_inj e; exact k _ _ r' s
theorem ite_E {fc : En → R (Bool × En)} {f g : En → R (D × En)} (hc : PT X c (tT fc)) (ha : PE X a (tE f)) (hb : PE X b (tE g)) : PE X (.IfExp c a b pos) (tE fun v => (fc v).bind fun x => match x.1 with
    | true => f x.2
    | false => g x.2) :=
  imp_E (pe_ifExp hc ha hb) fun σ H Q ⟨io, Hf, C, v, d, v', r, e, k⟩ => by
    obtain ⟨⟨b', v1⟩, e1, e⟩ := bind_ok e
    refine ⟨io, Hf, C, v, b', _, r, e1, fun H' Hf' r' s => ?_⟩
    cases b' with
    | false => exact ⟨io, Hf', C, _, _, _, r', e, fun x2 H2 Hf2 r2 s2 p2 => k _ _ _ r2 (s.trans s2) p2⟩
    | true => exact ⟨io, Hf', C, _, _, _, r', e, fun x2 H2 Hf2 r2 s2 p2 => k _ _ _ r2 (s.trans s2) p2⟩
/-- a test that is a value -/
theorem bool_T {f : En → R (D × En)} {g : En → R (Bool × En)} (h : PT X a (tT g)) (e : ∀ v, truOf (f v) = g v) : PT X a (tT fun v => truOf (f v)) := by
  have z : (fun v => truOf (f v)) = g := funext e
  rw [z]
  exact h

/-! ### several -/
theorem nil_A : PA X [] (tA fun v => .ok ([], v)) := imp_A pa_nil fun σ H Q ⟨io, Hf, C, v, d, v', r, e, k⟩ => by
  cases ok_inj e
  exact k [] H Hf r (Same.refl _) .nil
def cnsF (f : En → R (D × En)) (g : En → R (List D × En)) (v : En) : R (List D × En) := (f v).bind fun x => (g x.2).map fun y => (x.1 :: y.1, y.2)
theorem cons_A {f : En → R (D × En)} {g : En → R (List D × En)} {es : List Expr} (hs : starEach (e :: es) X.env = (false, eval e X.env) :: starEach es X.env) (ha : PE X e (tE f)) (hb : PA X es (tA g)) : PA X (e :: es) (tA (cnsF f g)) :=
  imp_A (pa_cons ha hb hs) fun σ H Q ⟨io, Hf, C, v, d, v', r, e, k⟩ => by
    obtain ⟨⟨d1, v1⟩, e1, e⟩ := bind_ok e
    obtain ⟨⟨d2, v2⟩, e2, e⟩ := map_ok e
    cases e
    exact ⟨io, Hf, C, v, d1, _, r, e1, fun x H' Hf' r' s p => ⟨io, Hf', C, _, _, _, r', e2, fun xs H2 Hf2 r2 s2 p2 => k _ _ _ r2 (s.trans s2) (.cons (rp_mono s2 p) p2)⟩⟩
theorem nil_Z : PA X [] (tZs fun v => .ok ([], v)) := imp_A pa_nil fun σ H Q ⟨io, Hf, C, v, d, v', r, e, k⟩ => by
  cases ok_inj e
  exact k [] H Hf r (Same.refl _) .nil
def cnzF (f : En → R (Lz × En)) (g : En → R (List Lz × En)) (v : En) : R (List Lz × En) := (f v).bind fun x => (g x.2).map fun y => (x.1 :: y.1, y.2)
theorem cons_Z {f : En → R (Lz × En)} {g : En → R (List Lz × En)} {es : List Expr} (hs : starEach (e :: es) X.env = (false, eval e X.env) :: starEach es X.env) (ha : PE X e (tZ f)) (hb : PA X es (tZs g)) : PA X (e :: es) (tZs (cnzF f g)) :=
  imp_A (pa_cons ha hb hs) fun σ H Q ⟨io, Hf, C, v, d, v', r, e, k⟩ => by
    obtain ⟨⟨d1, v1⟩, e1, e⟩ := bind_ok e
    obtain ⟨⟨d2, v2⟩, e2, e⟩ := map_ok e
    cases e
    exact ⟨io, Hf, C, v, d1, _, r, e1, fun x H' Hf' r' s p => ⟨io, Hf', C, _, _, _, r', e2, fun xs H2 Hf2 r2 s2 p2 => k _ _ _ r2 (s.trans s2) (.cons (p.mono s2) p2)⟩⟩
def tTupF (t : TA) : TE := fun σ H Q => t σ H fun xs H1 => xs.length ≤ sizeLine ∧ ∀ p o, o.dict = none → H1 p = none → Q (.ref p) (upd H1 p (.frz o (.tup xs)))
theorem pe_tupF {x1} {es : List Expr} {t : TA} (h : PA X es t) : PE X (.Tuple es x1 pos) (tTupF t) := by
  refine ⟨fun pins s σ H Q I hq => ?_⟩
  refine wpAny_Tuple_spliced (thn (h.run pos pins s σ H _ I hq) fun us s1 ⟨xs, H1, I1, r, z, q⟩ => ⟨by rw [← r.length]; exact z, ?_⟩)
  exact ⟨.ref _, _, Inv.tnew (t' := s1.toks) I1 r z, rfl, q _ (tupO us) rfl I1.fresh⟩
theorem tup_N {x1} {f : En → R (List D × En)} {es : List Expr} (hl : ∀ v ds v', f v = .ok (ds, v') → ds.length ≤ lim) (h : PA X es (tA f)) : PE X (.Tuple es x1 pos) (tN fun v => (f v).map fun x => (.tuple x.1, x.2)) :=
  imp_E (pe_tupF h) fun σ H Q ⟨io, Hf, C, v, d, v', r, e, k⟩ => by
    obtain ⟨⟨ds, v1⟩, e1, e⟩ := map_ok e
    cases e
    refine ⟨io, Hf, C, v, ds, _, r, e1, fun xs H' Hf' r' s p => ⟨by rw [p.len, ← lim_eq]; exact hl _ _ _ e1, fun a o ho hp => ?_⟩⟩
    obtain ⟨Hf2, r2, s2, n2⟩ := Res.new r' (show Res Hf' H' (.tuple ds) (.ref a) _ from .inr ⟨a, _, rfl, hp, rfl, .tup ho p⟩)
    exact k _ _ Hf2 r2 (s.trans s2) n2
theorem lst_N {f : En → R (List D × En)} {es : List Expr} (hl : ∀ v ds v', f v = .ok (ds, v') → ds.length ≤ lim) (h : PA X es (tA f)) : PE X (.List es pos) (tN fun v => (f v).map fun x => (.list x.1, x.2)) :=
  imp_E (pe_lst h) fun σ H Q ⟨io, Hf, C, v, d, v', r, e, k⟩ => by
    obtain ⟨⟨ds, v1⟩, e1, e⟩ := map_ok e
    cases e
    refine ⟨io, Hf, C, v, ds, _, r, e1, fun xs H' Hf' r' s p => ⟨by rw [p.len, ← lim_eq]; exact hl _ _ _ e1, fun a hp => ?_⟩⟩
    obtain ⟨Hf2, r2, s2, n2⟩ := Res.new r' (show Res Hf' H' (.list ds) (.ref a) _ from .inr ⟨a, _, rfl, hp, rfl, .lst p⟩)
    exact k _ _ Hf2 r2 (s.trans s2) n2

/-! ### slices -/
def tP (f : En → R (Option Int × En)) : TO := fun σ H Q => ∃ io Hf C v d v', Rel io Hf C σ H v ∧ f v = .ok (d, v') ∧ ∀ H' Hf', Rel io Hf' C σ H' v' → Same Hf Hf' → Q d H'
theorem none_P : PO X none (tP fun v => .ok (none, v)) := imp_O po_none fun σ H Q ⟨io, Hf, C, v, d, v', r, e, k⟩ => by
  cases ok_inj e
  exact k H Hf r (Same.refl _)
def prtF (f : En → R (D × En)) (v : En) : R (Option Int × En) := (f v).bind fun x => match x.1 with
    | .int i => .ok (some i, x.2)
    | _ => bad
theorem some_P {f : En → R (D × En)} (h : PE X e (tE f)) : PO X (some e) (tP (prtF f)) := imp_O (po_some h) fun σ H Q ⟨io, Hf, C, v, d, v', r, e, k⟩ => by
  obtain ⟨⟨d1, v1⟩, e1, e⟩ := bind_ok e
  refine ⟨io, Hf, C, v, d1, _, r, e1, fun x H' Hf' r' s p => ?_⟩
  cases d1 with
  | int i => cases ok_inj e; exact ⟨i, int_of p, k _ _ r' s⟩
  | _ => cases e
theorem cut_N {lo hi : Option Expr} {p2 : Pos} {fa : En → R (Lz × En)} {fl fh : En → R (Option Int × En)} (ha : PE X a (tZ fa)) (hl : PO X lo (tP fl)) (hh : PO X hi (tP fh)) :
    PE X (.Subscript a (.Slice lo hi none p2) pos) (tN fun v => (fa v).bind fun x => (fl x.2).bind fun y => (fh y.2).bind fun z => (x.1.get z.2).bind fun p => (cutD p y.1 z.1).map fun d => (d, z.2)) :=
  imp_E (pe_slice slD ha hl hh) fun σ H Q ⟨io, Hf, C, v, d, v', r, e, k⟩ => by
    obtain ⟨⟨za, va⟩, e1, e⟩ := bind_ok e
    obtain ⟨⟨zb, vb⟩, e2, e⟩ := bind_ok e
    obtain ⟨⟨zc, vc⟩, e3, e⟩ := bind_ok e
    obtain ⟨p, e4, e⟩ := bind_ok e
    obtain ⟨d', e5, e⟩ := map_ok e
    cases e
    refine ⟨io, Hf, C, v, za, va, r, e1, fun x H1 Hf1 r1 s1 h1 => ⟨io, Hf1, C, va, zb, vb, r1, e2, fun H2 Hf2 r2 s2 => ⟨io, Hf2, C, vb, zc, vc, r2, e3, fun H3 Hf3 r3 s3 => ⟨Hf3, p, d, r3.le, (h1.mono (s2.trans s3)).get r3 e4, e5, fun z H' hr => ?_⟩⟩⟩⟩
    obtain ⟨Hf4, r4, s4, n4⟩ := Res.new r3 hr
    exact k _ _ Hf4 r4 (((s1.trans s2).trans s3).trans s4) n4

/-! ### built-ins -/
theorem call_N {f : Value} {g : List D → R D} {fz : En → R (List Lz × En)} {es : List Expr} {ex : Expr} (hc : CallD X f g) (hcall : ∀ {r : List V → Hp → VK → Prop} {t : TA}, CallR X f r → PA X es t → PE X ex (tCB r t)) (ha : PA X es (tZs fz)) :
    PE X ex (tN fun v => (fz v).bind fun x => (Lz.gets x.2 x.1).bind fun ds => (g ds).map fun d => (d, x.2)) :=
  imp_E (hcall hc ha) fun σ H Q ⟨io, Hf, C, v, d, v', r, e, k⟩ => by
    obtain ⟨⟨za, va⟩, e1, e⟩ := bind_ok e
    obtain ⟨ds, e2, e⟩ := bind_ok e
    obtain ⟨d', e3, e⟩ := map_ok e
    cases e
    refine ⟨io, Hf, C, v, za, va, r, e1, fun xs H1 Hf1 r1 s1 h1 => ⟨Hf1, ds, d, r1.le, h1.gets r1 e2, e3, fun z H' hr => ?_⟩⟩
    obtain ⟨Hf2, r2, s2, n2⟩ := Res.new r1 hr
    exact k _ _ Hf2 r2 (s1.trans s2) n2
end
end Lp

set_option Elab.async false
set_option linter.all false
set_option autoImplicit false
set_option maxRecDepth 100000
set_option maxHeartbeats 4000000
namespace LpT
open PySem
set_option maxHeartbeats 1000000 in
theorem meets_enumT {v : Value} {o : Obj} {H : Heap → Prop} (B : Begins v o H) :
    Meets (Builtin.«enumerate.__new__» ⟨[.type "enumerate", v], []⟩) (fun _ R s => H s.heap ∧
      R (.ok (.ret (.ref (s.heap.push o).objs.size))) { s with heap := (s.heap.push o).push { cls := .type "enumerate", data := .fields #[.none, .bool false, .ref s.heap.objs.size, rawInt 0, .none, .none] } }) :=
  .of_wp fun prog w A R s h => by
    obtain ⟨hp, g, d, tk, os⟩ := s
    obtain ⟨h1, h⟩ := h
    have hsub := sub_enumerate
    have q1 : ∀ {A' : Around} {E : Value → Shared → Prop} {Q : Value → Shared → Prop}, Q (.ref hp.objs.size) ⟨hp.push o, g, d, tk, os⟩ → wpAny (model prog w) A' (pyIter v) Q E ⟨hp, g, d, tk, os⟩ :=
      fun q => B.iter prog w _ _ ⟨hp, g, d, tk, os⟩ _ h1 q
    wp_walk using q1
    refine wpAny_stack_any fun st => wpAny_pure ?_
    split
    · rename_i c _ _ _ _ _
      cases (c == Value.type "enumerate")
      · wp_walk using q1
        exact ⟨_, rfl, h⟩
      · wp_walk using q1
        exact ⟨_, rfl, h⟩
    · wp_walk using q1
      exact ⟨_, rfl, h⟩
theorem call_enumT {prog : Program} {w : World} {A : Around} {E : Value → Shared → Prop} {s : Shared} {v : Value} {o : Obj} {H : Heap → Prop} {Q : Value → Shared → Prop} (B : Begins v o H) (h1 : H s.heap)
    (h : ∀ h', IsEnum h' (s.heap.objs.size + 1) s.heap.objs.size 0 .none → h'.get? s.heap.objs.size = some o → h'.objs.size = s.heap.objs.size + 2 →
      (∀ b o, s.heap.get? b = some o → h'.get? b = some o) → Q (.ref (s.heap.objs.size + 1)) { s with heap := h' }) :
    wpAny (model prog w) A (call (.type "enumerate") [v]) Q E s := by
  refine callType_new F.called_enumerate (by decide) (F.typeCall_enumerate_1 _) (F.newCall_enumerate_1 _) (fun obj => F.args_object_init_2 obj _) F.entry_enumerate_new
    (meets_enumT B) ⟨h1, ?_⟩
  have hz : (s.heap.push o).objs.size = s.heap.objs.size + 1 := Heap.size_push ..
  show _ ∧ _
  rw [hz]
  have he : IsEnum ((s.heap.push o).push { cls := .type "enumerate", data := .fields #[.none, .bool false, .ref s.heap.objs.size, rawInt 0, .none, .none] }) (s.heap.objs.size + 1) s.heap.objs.size 0 .none := by
    have := Heap.get?_push_size (s.heap.push o) (o := { cls := .type "enumerate", data := .fields #[.none, .bool false, .ref s.heap.objs.size, rawInt 0, .none, .none] }) rfl
    rw [hz] at this
    exact this
  exact ⟨⟨_, he, rfl⟩, h _ he (Heap.get?_push_of_some _ (Heap.get?_push_size _ B.free)) (by rw [Heap.size_push, hz]) fun b o x => Heap.get?_push_of_some _ (Heap.get?_push_of_some _ x)⟩
end LpT
namespace Lp
open PySem PySem.Spec L2
/-- the tuple at a, each item in a new pair -/
def IteT (a : Addr) : L2.It :=
  ⟨fun i H => ∃ (xs : List V) (x : V), Rd H a (.tup xs) ∧ xs[i]? = some x, fun i H v H' => ∃ T x, v = .ref T ∧ H T = none ∧ H' = upd H T (.tup [.int (i : Nat), x]) ∧ ∀ xs, Rd H a (.tup xs) → xs[i]? = some x, fun i H => ∃ xs : List V, Rd H a (.tup xs) ∧ xs.length ≤ i⟩
theorem rd_apart {H : Hp} {a b : Addr} {u : HO} (h : Rd H a u) (hb : H b = none) : a ≠ b := by
  rcases h with h | ⟨o, h⟩
  · exact ne_of_none h hb
  · exact ne_of_none h hb
theorem turn_enumT {P : Program} {w : World} {K : PySem.W.Frag} {elts : List Expr} {kk : Nat} {tpos : Pos} (a e it : Addr) :
    Turn P w K (.Tuple elts kk tpos) (IteT a) [e, it] e (fun i h => (∃ old, IsEnum h e it ((i : Nat) : Int) old) ∧ h.IsTupleIter it a i ∧ e ≠ it) where
  mem := by simp
  obj := fun i h st b hb => by
    obtain ⟨⟨old, he⟩, ⟨o, ho, hc, hd⟩, _⟩ := st
    have e' : b = e ∨ b = it := by simpa using hb
    rcases e' with z | z
    · rw [z]; exact ⟨_, he, fun v q => nomatch q⟩
    · rw [z]; exact ⟨o, ho, fun v q => by rw [hd] at q; cases q⟩
  keep := fun i h h' st k => by
    obtain ⟨⟨old, he⟩, hi, hne⟩ := st
    exact ⟨⟨old, k e (by simp) _ he⟩, hi.at fun o q => k it (by simp) o q, hne⟩
  item := by
    intro X hP hw hK hc i pins s σ H E I hf st hg
    subst hP hw hK
    obtain ⟨⟨old, he⟩, hit, hne⟩ := st
    obtain ⟨xs, x, hq, hx⟩ := hg
    obtain ⟨its, rv, ht, hz⟩ := Inv.rdT I hq
    obtain ⟨u, hu, ru⟩ := rv.get hx
    have hel : e < s.heap.objs.size := Heap.lt_size he
    have hil : it < s.heap.objs.size := by obtain ⟨_, q, _⟩ := hit; exact Heap.lt_size q
    have ha1 : a ≠ it := rd_apart hq (hf it (by simp)).1
    have ha2 : a ≠ e := rd_apart hq (hf e (by simp)).1
    have D := Draws.tuple (prog := X.prog) (w := X.w) (A := X.A.in1) (I.ok.hd hc) it a ha1 its.toArray
    have hi : i < its.toArray.size := by
      have := (List.getElem?_eq_some_iff.mp hu).1
      simpa using this
    refine wpAny_pyNext_enum_itemC D he ⟨hit, ht⟩ hi hne (by simp only [List.mem_cons, List.not_mem_nil, or_false, not_or]; exact ⟨hne, fun z => ha2 z.symm⟩) fun y h' tk hy ho hit' hT hsz hk => ?_
    have ey : y = u := by
      have h1 : its[i]? = some y := by simpa using hy
      rw [hu] at h1
      exact (Option.some.inj h1).symm
    subst ey
    refine ⟨_, rfl, wpAny_letOwnedTupleGo_enum (s := { s with heap := h', toks := tk + 1 }) ho fun h'' he' sb => ?_⟩
    have hT2 : h''.get? s.heap.objs.size = some { cls := .type "tuple", data := .seq #[.int i tk, y] } := (sb.2 _ (Nat.ne_of_gt hel)).trans hT
    have new : ObjOk X.prog X.w (upd H s.heap.objs.size (.tup [.int (i : Nat), x])) h'' s.heap.objs.size (.tup [.int (i : Nat), x]) :=
      ⟨by show 2 ≤ sizeLine; decide, [.int i tk, y], .cons ⟨_, rfl⟩ (.cons ru .nil), ⟨_, hT2, rfl, _, rfl⟩⟩
    have I1 : Inv X pins σ (upd H s.heap.objs.size (.tup [.int (i : Nat), x])) { s with heap := h'', toks := tk + 1 } :=
      I.turnedNew (ch := [e, it]) (fun b ob hb q => (sb.2 b (fun z => hb (by simp [z]))).trans (hk b ob (fun z => hb (by simp [z])) (fun z => hb (by simp [z])) q)) hf (Nat.le_refl _) new
    refine ⟨.ref s.heap.objs.size, _, I1, rfl, ⟨_, x, rfl, I.hok.fresh (Nat.le_refl _), rfl, fun ys hy => ?_⟩, ⟨⟨y, ?_⟩, hit'.1.at fun o q => (sb.2 it (Ne.symm hne)).trans q, hne⟩, fun b hb => ?_⟩
    · rw [I.tuple_inj (.inl hy) (.inl hq)]; exact hx
    · have e1 : ((i + 1 : Nat) : Int) = (i : Int) + 1 := by omega
      rw [e1]; exact he'
    · have hb' : b < s.heap.objs.size := by
        have e' : b = e ∨ b = it := by simpa using hb
        rcases e' with z | z
        · rw [z]; exact hel
        · rw [z]; exact hil
      rw [upd_ne (Nat.ne_of_lt hb')]
      exact (hf b hb).1
  done := by
    intro X hP hw hK hc i pins s σ H E I hf st hg
    subst hP hw hK
    obtain ⟨⟨old, he⟩, hit, hne⟩ := st
    obtain ⟨xs, hq, hx⟩ := hg
    obtain ⟨its, rv, ht, hz⟩ := Inv.rdT I hq
    obtain ⟨f0, f1, f2, f3, f4, f5⟩ := hf it (by simp)
    have ha1 : a ≠ it := rd_apart hq f0
    have hT : s.TypeIs (.ref e) "enumerate" := ⟨_, he, rfl⟩
    unfold pyNext
    refine wpAny_bind (wpAny_attempt (wpAny_callSpecial?_slot (name := Str.ofString "__next__") hT F.slot_enumerate_next
      (wpAny_call_entry F.slot_enumerate_next hT F.entry_enumerate_next ?_ (F.args_enumerate_next_1 _))))
    show wpAny _ _ (field (.ref e) 2 >>= _) _ _ _
    refine wpAny_bind (wpAny_field he rfl (x := .ref it) rfl ?_)
    have hx' : its.toArray[i]? = none := by
      have hl := rv.length
      exact Array.getElem?_eq_none (by simp only [List.size_toArray]; omega)
    refine wpAny_bind (wpAny_nextOf_tuple_end (I.ok.hd hc) hit ht hx' fun h' x he' hx' => ?_)
    obtain ⟨o, ho, hcc⟩ := hx'
    refine wpAny_bind (wpAny_isInstance (T := "StopIteration") (b := true) ⟨o, ho, hcc⟩ isSubtype_stop ?_)
    exact wpAny_pure ⟨rfl, I.turned (t' := s.toks) (fun b o hb q => he' b o hb q) f0 f1 f3 f4 f5⟩
  self := fun A i s Q E st h => by
    obtain ⟨⟨_, he⟩, _⟩ := st
    exact wpAny_pyIter_enum he h
def iEnumT (ta : TA) : TI := fun σ H R => ta σ H fun vs H1 => ∃ a xs, vs = [.ref a] ∧ Rd H1 a (.tup xs) ∧ R (IteT a) H1
theorem pi_enumT {X : Cx} {e : Expr} {ta : TA} {p pos tpos : Pos} {elts : List Expr} {kk : Nat} (hg : Gl X "enumerate") (hm : X.mg "enumerate" = none) (ha : PA X [e] ta) (hs : starEach [e] X.env = [(false, eval e X.env)]) :
    PI X (.Tuple elts kk tpos) (.Call (.Name "enumerate" p) [e] [] pos) (iEnumT ta) := by
  refine ⟨fun pins s σ H R I h => ?_⟩
  refine PyProof.Rows.Call_ (ld_blt I hg hm PyProof.Rows.boot_enumerate (PyProof.Rows.callWith_type1 (thn (ha.run pos pins s σ H _ I h) fun us s1 ⟨vs, H1, I1, r1, q1⟩ => ?_) hs rfl))
  obtain ⟨a, xs, ex, hq, q⟩ := q1
  subst ex
  rw [Vals.ref1 r1]
  obtain ⟨its, rv, ht, hz⟩ := Inv.rdT I1 hq
  refine LpT.call_enumT (begins_tuple a its.toArray) ht fun h' he hit hsz hk => wpAny_pyIter_enum he ?_
  have I2 : Inv X pins σ H1 { s1 with heap := h' } := I1.kept (t' := s1.toks) hk
  refine ⟨s1.heap.objs.size + 1, [s1.heap.objs.size + 1, s1.heap.objs.size], _, _, H1, rfl, I2, turn_enumT a (s1.heap.objs.size + 1) s1.heap.objs.size, ⟨⟨.none, he⟩, ⟨_, hit, rfl, rfl⟩, Nat.succ_ne_self _⟩, fun b hb => ?_, q⟩
  have e' : b = s1.heap.objs.size + 1 ∨ b = s1.heap.objs.size := by simpa using hb
  have hle : s1.heap.objs.size ≤ b := by
    rcases e' with z | z
    · rw [z]; exact Nat.le_add_right _ _
    · rw [z]; exact Nat.le_refl _
  exact I1.fpOk hle (I1.hok.fresh hle)
end Lp

set_option Elab.async false
set_option linter.all false
set_option autoImplicit false
set_option maxRecDepth 100000
set_option maxHeartbeats 4000000
/-! zip of a tuple with a list -/
namespace Lp
open PySem PySem.Spec L2
/-- the tuple at a beside the list at b, turn by turn -/
def ItzM (K : PySem.W.Frag) (a b : Addr) : L2.It :=
  ⟨fun i H => ∃ (xs ys : List V) (x y : V), SqT K H a xs ∧ SqL K H b ys ∧ xs[i]? = some x ∧ ys[i]? = some y,
   fun i H v H' => ∃ T x y, v = .ref T ∧ H T = none ∧ H' = upd H T (.tup [x, y]) ∧ (∀ xs, SqT K H a xs → xs[i]? = some x) ∧ (∀ ys, SqL K H b ys → ys[i]? = some y),
   fun i H => ∃ (xs ys : List V), SqT K H a xs ∧ SqL K H b ys ∧ i ≤ xs.length ∧ i ≤ ys.length ∧ (i = xs.length ∨ i = ys.length)⟩
theorem sep_of {z TI TO i1 i2 a b : Addr} (D : ZipApart z TI TO i1 i2 a b) : ZipSep2 z TI TO i1 i2 [i1, a] [i2, b] where
  TIz := D.TIz
  TOz := D.TOz
  TITO := D.TITO
  TIi1 := D.TIi1
  TIi2 := D.TIi2
  mem1 := by simp
  mem2 := by simp
  zf1 := by
    simp only [List.mem_cons, List.not_mem_nil, or_false, not_or]
    exact ⟨D.i1z.symm, D.l1z.symm⟩
  zf2 := by
    simp only [List.mem_cons, List.not_mem_nil, or_false, not_or]
    exact ⟨D.i2z.symm, D.l2z.symm⟩
  Tf1 := by
    simp only [List.mem_cons, List.not_mem_nil, or_false, not_or]
    exact ⟨D.TOi1, D.l1TO.symm⟩
  Tf2 := by
    simp only [List.mem_cons, List.not_mem_nil, or_false, not_or]
    exact ⟨D.TOi2, D.l2TO.symm⟩
  sep1_2 := by
    simp only [List.mem_cons, List.not_mem_nil, or_false, not_or]
    exact ⟨D.i12, D.l2i1.symm⟩
  sep2_1 := by
    simp only [List.mem_cons, List.not_mem_nil, or_false, not_or]
    exact ⟨D.i12.symm, D.l1i2.symm⟩
theorem five {c z TI TO i1 i2 : Addr} (h : c ∈ [z, TI, TO, i1, i2]) : c = z ∨ c = TI ∨ c = TO ∨ c = i1 ∨ c = i2 := by simpa using h
theorem turn_zipM {P : Program} {w : World} {K : PySem.W.Frag} {elts : List Expr} {kk : Nat} {tpos : Pos} {a b z TI TO i1 i2 : Addr} (D : ZipApart z TI TO i1 i2 a b) :
    Turn P w K (.Tuple elts kk tpos) (ItzM K a b) [z, TI, TO, i1, i2] z
      (fun i h => IsZip h z TI TO .none ∧ IsTupOf2 h TI (.ref i1) (.ref i2) ∧ (∃ x y, IsTupOf2 h TO x y) ∧ h.IsTupleIter i1 a i ∧ h.IsListIter i2 b i) where
  mem := by simp
  obj := fun i h st c hc => by
    obtain ⟨k1, k2, ⟨_, _, k3⟩, ⟨p, p1, _, p2⟩, ⟨q, q1, _, q2⟩⟩ := st
    rcases five hc with e | e | e | e | e <;> rw [e]
    · exact ⟨_, k1, fun v x => nomatch x⟩
    · exact ⟨_, k2, fun v x => nomatch x⟩
    · exact ⟨_, k3, fun v x => nomatch x⟩
    · exact ⟨p, p1, fun v x => by rw [p2] at x; cases x⟩
    · exact ⟨q, q1, fun v x => by rw [q2] at x; cases x⟩
  keep := fun i h h' st k => by
    obtain ⟨k1, k2, ⟨x, y, k3⟩, k4, k5⟩ := st
    exact ⟨k z (by simp) _ k1, k TI (by simp) _ k2, ⟨x, y, k TO (by simp) _ k3⟩, k4.at fun o => k i1 (by simp) o, k5.at fun o => k i2 (by simp) o⟩
  item := by
    intro X hP hw hK hc i pins s σ H E I hf st hg
    subst hP hw hK
    obtain ⟨k1, k2, ⟨x0, y0, k3⟩, k4, k5⟩ := st
    obtain ⟨xs, ys, x, y, sx, sy, gx, gy⟩ := hg
    obtain ⟨ts, tv, tt, _⟩ := I.tuple sx
    obtain ⟨ls, lv, ll, _⟩ := I.list sy
    obtain ⟨u, gu, ru⟩ := tv.get gx
    obtain ⟨u', gu', ru'⟩ := lv.get gy
    have zl : z < s.heap.objs.size := Heap.lt_size k1
    have D1 := Draws.tuple (prog := X.prog) (w := X.w) (A := X.A.in1) (I.ok.hd hc) i1 a D.l1i1 ts.toArray
    have D2 := Draws.list (prog := X.prog) (w := X.w) (A := X.A.in1) (I.ok.hd hc) i2 b D.l2i2 ls.toArray
    have n1 : i < ts.toArray.size := by simpa using (List.getElem?_eq_some_iff.mp gu).1
    have n2 : i < ls.toArray.size := by simpa using (List.getElem?_eq_some_iff.mp gu').1
    refine wpAny_pyNext_zipD2_item (sep_of D) D1 D2 k1 k2 k3 ⟨k4, tt⟩ ⟨k5, ll.isList⟩ n1 n2 fun x1 x2 h' tk e1 e2 z' TO' st1 st2 hT hsz hk => ?_
    have q1 : x1 = u := by
      have : ts[i]? = some x1 := by simpa using e1
      rw [gu] at this
      exact (Option.some.inj this).symm
    have q2 : x2 = u' := by
      have : ls[i]? = some x2 := by simpa using e2
      rw [gu'] at this
      exact (Option.some.inj this).symm
    subst q1 q2
    refine ⟨_, rfl, wpAny_letOwnedTupleGo_zip (s := { s with heap := h', toks := tk }) z' fun h'' z'' sb => ?_⟩
    have hT2 : h''.get? s.heap.objs.size = some { cls := .type "tuple", data := .seq #[x1, x2] } := (sb.2 _ (Nat.ne_of_gt zl)).trans hT
    have new : ObjOk X.prog X.w (upd H s.heap.objs.size (.tup [x, y])) h'' s.heap.objs.size (.tup [x, y]) := ⟨by show 2 ≤ sizeLine; decide, [x1, x2], .cons ru (.cons ru' .nil), ⟨_, hT2, rfl, _, rfl⟩⟩
    have I1 : Inv X pins σ (upd H s.heap.objs.size (.tup [x, y])) { s with heap := h'', toks := tk } :=
      I.turnedNew (ch := [z, TI, TO, i1, i2]) (fun c o hb q => (sb.2 c (fun e => hb (by simp [e]))).trans (hk c o (fun e => hb (by simp [e])) (fun e => hb (by simp [e])) (fun e => hb (by simp [e])) (fun e => hb (by simp [e])) q)) hf (Nat.le_refl _) new
    refine ⟨.ref s.heap.objs.size, _, I1, rfl, ⟨_, x, y, rfl, I.hok.fresh (Nat.le_refl _), rfl, fun l hl => ?_, fun l hl => ?_⟩, ⟨z'', ?_, ⟨x1, x2, ?_⟩, ?_, ?_⟩, fun c hcm => ?_⟩
    · rw [I.tuple_inj hl sx]; exact gx
    · rw [I.list_inj hl sy]; exact gy
    · exact (sb.2 TI D.TIz).trans (hk TI _ D.TIz D.TITO D.TIi1 D.TIi2 k2)
    · exact (sb.2 TO D.TOz).trans TO'
    · exact st1.1.at fun o e => (sb.2 i1 D.i1z).trans e
    · exact st2.1.at fun o e => (sb.2 i2 D.i2z).trans e
    · have lt : c < s.heap.objs.size := by
        rcases five hcm with e | e | e | e | e <;> rw [e]
        · exact zl
        · exact Heap.lt_size k2
        · exact Heap.lt_size k3
        · obtain ⟨_, e1, _⟩ := k4; exact Heap.lt_size e1
        · obtain ⟨_, e1, _⟩ := k5; exact Heap.lt_size e1
      rw [upd_ne (Nat.ne_of_lt lt)]
      exact (hf c hcm).1
  done := by
    intro X hP hw hK hc i pins s σ H E I hf st hg
    subst hP hw hK
    obtain ⟨k1, k2, ⟨x0, y0, k3⟩, k4, k5⟩ := st
    obtain ⟨xs, ys, sx, sy, gx, gy, gz⟩ := hg
    obtain ⟨ts, tv, tt, _⟩ := I.tuple sx
    obtain ⟨ls, lv, ll, _⟩ := I.list sy
    have D1 := Draws.tuple (prog := X.prog) (w := X.w) (A := X.A.in1) (I.ok.hd hc) i1 a D.l1i1 ts.toArray
    have D2 := Draws.list (prog := X.prog) (w := X.w) (A := X.A.in1) (I.ok.hd hc) i2 b D.l2i2 ls.toArray
    have l1 := tv.length
    have l2 := lv.length
    have l1' : ts.toArray.size = xs.length := by simp only [List.size_toArray]; omega
    have l2' : ls.toArray.size = ys.length := by simp only [List.size_toArray]; omega
    exact wpAny_pyNext_zipD2_end (sep_of D) D1 D2 k1 k2 k3 ⟨k4, tt⟩ ⟨k5, ll.isList⟩ (by omega) (by omega) (by omega) fun h' tk hk => ⟨rfl, I.turnedL (t' := tk) (ch := [z, TI, TO, i1, i2]) (fun c o hb q =>
      hk c o (fun e => hb (by simp [e])) (fun e => hb (by simp [e])) (fun e => hb (by simp [e])) (fun e => hb (by simp [e])) q) hf⟩
  self := fun A i s Q E st h => wpAny_pyIter_zip st.1 h
def iZipM (K : PySem.W.Frag) (ta : TA) : TI := fun σ H R => ta σ H fun vs H1 => ∃ a b xs ys, vs = [.ref a, .ref b] ∧ SqT K H1 a xs ∧ SqL K H1 b ys ∧ R (ItzM K a b) H1
theorem pi_zipM {X : Cx} {e e2 : Expr} {ta : TA} {p pos tpos : Pos} {elts : List Expr} {kk : Nat} (hg : Gl X "zip") (hm : X.mg "zip" = none) (ha : PA X [e, e2] ta)
    (hs : starEach [e, e2] X.env = (false, eval e X.env) :: starEach [e2] X.env) (hpl : (backTo pos (starEach [e2] X.env)).any (·.1) = false) :
    PI X (.Tuple elts kk tpos) (.Call (.Name "zip" p) [e, e2] [] pos) (iZipM X.K ta) := by
  refine ⟨fun pins s σ H R I h => ?_⟩
  refine PyProof.Rows.Call_ (ld_blt I hg hm PyProof.Rows.boot_zip (PyProof.Rows.callWith_type1 (thn (ha.run pos pins s σ H _ I h) fun us s1 ⟨vs, H1, I1, r1, q1⟩ => ?_) hs hpl))
  obtain ⟨a, b, xs, ys, ex, sx, sy, q⟩ := q1
  subst ex
  obtain ⟨u1, us, rfl, ra, rr⟩ : ∃ u us', us = u :: us' ∧ RelV (.ref a) u ∧ Vals [.ref b] us' := by
    cases r1 with
    | cons h t => exact ⟨_, _, rfl, h, t⟩
  cases ra
  rw [Vals.ref1 rr]
  obtain ⟨ts, tv, tt, _⟩ := I1.tuple sx
  obtain ⟨ls, lv, ll, _⟩ := I1.list sy
  have alt : a < s1.heap.objs.size := by obtain ⟨o, ho, _⟩ := id tt; exact Heap.lt_size ho
  refine zip_begins2 (begins_tuple a ts.toArray) (begins_list b ls.toArray) tt ll.isList fun h' hz hTI hTO h1 h2 hsz hk => wpAny_pyIter_zip hz ?_
  have I2 : Inv X pins σ H1 { s1 with heap := h' } := I1.kept (t' := s1.toks) hk
  refine ⟨s1.heap.objs.size + 4, [s1.heap.objs.size + 4, s1.heap.objs.size + 2, s1.heap.objs.size + 3, s1.heap.objs.size, s1.heap.objs.size + 1], _, _, H1, rfl, I2, turn_zipM (PySem.W.ktu_apart s1.heap.objs.size a b alt ll.lt), ⟨hz, hTI, ⟨_, _, hTO⟩, ⟨_, h1, rfl, rfl⟩, ⟨_, h2, rfl, rfl⟩⟩, fun c hcm => ?_, q⟩
  have le : s1.heap.objs.size ≤ c := by rcases five hcm with e | e | e | e | e <;> rw [e] <;> omega
  exact I1.fpOk le (I1.hok.fresh le)
end Lp

set_option Elab.async false
set_option linter.all false
set_option autoImplicit false
set_option maxRecDepth 100000
set_option maxHeartbeats 4000000
/-! zip of a list with a tuple -/
namespace Lp
open PySem PySem.Spec L2
/-- the list at a beside the tuple at b, turn by turn -/
def ItzN (K : PySem.W.Frag) (a b : Addr) : L2.It :=
  ⟨fun i H => ∃ (xs ys : List V) (x y : V), SqL K H a xs ∧ SqT K H b ys ∧ xs[i]? = some x ∧ ys[i]? = some y,
   fun i H v H' => ∃ T x y, v = .ref T ∧ H T = none ∧ H' = upd H T (.tup [x, y]) ∧ (∀ xs, SqL K H a xs → xs[i]? = some x) ∧ (∀ ys, SqT K H b ys → ys[i]? = some y),
   fun i H => ∃ (xs ys : List V), SqL K H a xs ∧ SqT K H b ys ∧ i ≤ xs.length ∧ i ≤ ys.length ∧ (i = xs.length ∨ i = ys.length)⟩
theorem turn_zipN {P : Program} {w : World} {K : PySem.W.Frag} {elts : List Expr} {kk : Nat} {tpos : Pos} {a b z TI TO i1 i2 : Addr} (D : ZipApart z TI TO i1 i2 a b) :
    Turn P w K (.Tuple elts kk tpos) (ItzN K a b) [z, TI, TO, i1, i2] z
      (fun i h => IsZip h z TI TO .none ∧ IsTupOf2 h TI (.ref i1) (.ref i2) ∧ (∃ x y, IsTupOf2 h TO x y) ∧ h.IsListIter i1 a i ∧ h.IsTupleIter i2 b i) where
  mem := by simp
  obj := fun i h st c hc => by
    obtain ⟨k1, k2, ⟨_, _, k3⟩, ⟨p, p1, _, p2⟩, ⟨q, q1, _, q2⟩⟩ := st
    rcases five hc with e | e | e | e | e <;> rw [e]
    · exact ⟨_, k1, fun v x => nomatch x⟩
    · exact ⟨_, k2, fun v x => nomatch x⟩
    · exact ⟨_, k3, fun v x => nomatch x⟩
    · exact ⟨p, p1, fun v x => by rw [p2] at x; cases x⟩
    · exact ⟨q, q1, fun v x => by rw [q2] at x; cases x⟩
  keep := fun i h h' st k => by
    obtain ⟨k1, k2, ⟨x, y, k3⟩, k4, k5⟩ := st
    exact ⟨k z (by simp) _ k1, k TI (by simp) _ k2, ⟨x, y, k TO (by simp) _ k3⟩, k4.at fun o => k i1 (by simp) o, k5.at fun o => k i2 (by simp) o⟩
  item := by
    intro X hP hw hK hc i pins s σ H E I hf st hg
    subst hP hw hK
    obtain ⟨k1, k2, ⟨x0, y0, k3⟩, k4, k5⟩ := st
    obtain ⟨xs, ys, x, y, sx, sy, gx, gy⟩ := hg
    obtain ⟨ts, tv, tt, _⟩ := I.list sx
    obtain ⟨ls, lv, ll, _⟩ := I.tuple sy
    obtain ⟨u, gu, ru⟩ := tv.get gx
    obtain ⟨u', gu', ru'⟩ := lv.get gy
    have zl : z < s.heap.objs.size := Heap.lt_size k1
    have D1 := Draws.list (prog := X.prog) (w := X.w) (A := X.A.in1) (I.ok.hd hc) i1 a D.l1i1 ts.toArray
    have D2 := Draws.tuple (prog := X.prog) (w := X.w) (A := X.A.in1) (I.ok.hd hc) i2 b D.l2i2 ls.toArray
    have n1 : i < ts.toArray.size := by simpa using (List.getElem?_eq_some_iff.mp gu).1
    have n2 : i < ls.toArray.size := by simpa using (List.getElem?_eq_some_iff.mp gu').1
    refine wpAny_pyNext_zipD2_item (sep_of D) D1 D2 k1 k2 k3 ⟨k4, tt.isList⟩ ⟨k5, ll⟩ n1 n2 fun x1 x2 h' tk e1 e2 z' TO' st1 st2 hT hsz hk => ?_
    have q1 : x1 = u := by
      have : ts[i]? = some x1 := by simpa using e1
      rw [gu] at this
      exact (Option.some.inj this).symm
    have q2 : x2 = u' := by
      have : ls[i]? = some x2 := by simpa using e2
      rw [gu'] at this
      exact (Option.some.inj this).symm
    subst q1 q2
    refine ⟨_, rfl, wpAny_letOwnedTupleGo_zip (s := { s with heap := h', toks := tk }) z' fun h'' z'' sb => ?_⟩
    have hT2 : h''.get? s.heap.objs.size = some { cls := .type "tuple", data := .seq #[x1, x2] } := (sb.2 _ (Nat.ne_of_gt zl)).trans hT
    have new : ObjOk X.prog X.w (upd H s.heap.objs.size (.tup [x, y])) h'' s.heap.objs.size (.tup [x, y]) := ⟨by show 2 ≤ sizeLine; decide, [x1, x2], .cons ru (.cons ru' .nil), ⟨_, hT2, rfl, _, rfl⟩⟩
    have I1 : Inv X pins σ (upd H s.heap.objs.size (.tup [x, y])) { s with heap := h'', toks := tk } :=
      I.turnedNew (ch := [z, TI, TO, i1, i2]) (fun c o hb q => (sb.2 c (fun e => hb (by simp [e]))).trans (hk c o (fun e => hb (by simp [e])) (fun e => hb (by simp [e])) (fun e => hb (by simp [e])) (fun e => hb (by simp [e])) q)) hf (Nat.le_refl _) new
    refine ⟨.ref s.heap.objs.size, _, I1, rfl, ⟨_, x, y, rfl, I.hok.fresh (Nat.le_refl _), rfl, fun l hl => ?_, fun l hl => ?_⟩, ⟨z'', ?_, ⟨x1, x2, ?_⟩, ?_, ?_⟩, fun c hcm => ?_⟩
    · rw [I.list_inj hl sx]; exact gx
    · rw [I.tuple_inj hl sy]; exact gy
    · exact (sb.2 TI D.TIz).trans (hk TI _ D.TIz D.TITO D.TIi1 D.TIi2 k2)
    · exact (sb.2 TO D.TOz).trans TO'
    · exact st1.1.at fun o e => (sb.2 i1 D.i1z).trans e
    · exact st2.1.at fun o e => (sb.2 i2 D.i2z).trans e
    · have lt : c < s.heap.objs.size := by
        rcases five hcm with e | e | e | e | e <;> rw [e]
        · exact zl
        · exact Heap.lt_size k2
        · exact Heap.lt_size k3
        · obtain ⟨_, e1, _⟩ := k4; exact Heap.lt_size e1
        · obtain ⟨_, e1, _⟩ := k5; exact Heap.lt_size e1
      rw [upd_ne (Nat.ne_of_lt lt)]
      exact (hf c hcm).1
  done := by
    intro X hP hw hK hc i pins s σ H E I hf st hg
    subst hP hw hK
    obtain ⟨k1, k2, ⟨x0, y0, k3⟩, k4, k5⟩ := st
    obtain ⟨xs, ys, sx, sy, gx, gy, gz⟩ := hg
    obtain ⟨ts, tv, tt, _⟩ := I.list sx
    obtain ⟨ls, lv, ll, _⟩ := I.tuple sy
    have D1 := Draws.list (prog := X.prog) (w := X.w) (A := X.A.in1) (I.ok.hd hc) i1 a D.l1i1 ts.toArray
    have D2 := Draws.tuple (prog := X.prog) (w := X.w) (A := X.A.in1) (I.ok.hd hc) i2 b D.l2i2 ls.toArray
    have l1 := tv.length
    have l2 := lv.length
    have l1' : ts.toArray.size = xs.length := by simp only [List.size_toArray]; omega
    have l2' : ls.toArray.size = ys.length := by simp only [List.size_toArray]; omega
    exact wpAny_pyNext_zipD2_end (sep_of D) D1 D2 k1 k2 k3 ⟨k4, tt.isList⟩ ⟨k5, ll⟩ (by omega) (by omega) (by omega) fun h' tk hk => ⟨rfl, I.turnedL (t' := tk) (ch := [z, TI, TO, i1, i2]) (fun c o hb q =>
      hk c o (fun e => hb (by simp [e])) (fun e => hb (by simp [e])) (fun e => hb (by simp [e])) (fun e => hb (by simp [e])) q) hf⟩
  self := fun A i s Q E st h => wpAny_pyIter_zip st.1 h
def iZipN (K : PySem.W.Frag) (ta : TA) : TI := fun σ H R => ta σ H fun vs H1 => ∃ a b xs ys, vs = [.ref a, .ref b] ∧ SqL K H1 a xs ∧ SqT K H1 b ys ∧ R (ItzN K a b) H1
theorem pi_zipN {X : Cx} {e e2 : Expr} {ta : TA} {p pos tpos : Pos} {elts : List Expr} {kk : Nat} (hg : Gl X "zip") (hm : X.mg "zip" = none) (ha : PA X [e, e2] ta)
    (hs : starEach [e, e2] X.env = (false, eval e X.env) :: starEach [e2] X.env) (hpl : (backTo pos (starEach [e2] X.env)).any (·.1) = false) :
    PI X (.Tuple elts kk tpos) (.Call (.Name "zip" p) [e, e2] [] pos) (iZipN X.K ta) := by
  refine ⟨fun pins s σ H R I h => ?_⟩
  refine PyProof.Rows.Call_ (ld_blt I hg hm PyProof.Rows.boot_zip (PyProof.Rows.callWith_type1 (thn (ha.run pos pins s σ H _ I h) fun us s1 ⟨vs, H1, I1, r1, q1⟩ => ?_) hs hpl))
  obtain ⟨a, b, xs, ys, ex, sx, sy, q⟩ := q1
  subst ex
  obtain ⟨u1, us, rfl, ra, rr⟩ : ∃ u us', us = u :: us' ∧ RelV (.ref a) u ∧ Vals [.ref b] us' := by
    cases r1 with
    | cons h t => exact ⟨_, _, rfl, h, t⟩
  cases ra
  rw [Vals.ref1 rr]
  obtain ⟨ts, tv, tt, _⟩ := I1.list sx
  obtain ⟨ls, lv, ll, _⟩ := I1.tuple sy
  have blt : b < s1.heap.objs.size := by obtain ⟨o, ho, _⟩ := id ll; exact Heap.lt_size ho
  refine zip_begins2 (begins_list a ts.toArray) (begins_tuple b ls.toArray) tt.isList ll fun h' hz hTI hTO h1 h2 hsz hk => wpAny_pyIter_zip hz ?_
  have I2 : Inv X pins σ H1 { s1 with heap := h' } := I1.kept (t' := s1.toks) hk
  refine ⟨s1.heap.objs.size + 4, [s1.heap.objs.size + 4, s1.heap.objs.size + 2, s1.heap.objs.size + 3, s1.heap.objs.size, s1.heap.objs.size + 1], _, _, H1, rfl, I2, turn_zipN (PySem.W.ktu_apart s1.heap.objs.size a b tt.lt blt), ⟨hz, hTI, ⟨_, _, hTO⟩, ⟨_, h1, rfl, rfl⟩, ⟨_, h2, rfl, rfl⟩⟩, fun c hcm => ?_, q⟩
  have le : s1.heap.objs.size ≤ c := by rcases five hcm with e | e | e | e | e <;> rw [e] <;> omega
  exact I1.fpOk le (I1.hok.fresh le)
end Lp

set_option Elab.async false
set_option linter.all false
set_option autoImplicit false
set_option maxRecDepth 100000
set_option maxHeartbeats 4000000
namespace Lp
open PySem PySem.Spec L2

/-! ### isinstance -/
theorem boot_ty : ∀ t : Ty, bootBuiltins (Str.ofString (tyN t)) = some (.type (tyN t))
  | .int => PyProof.Rows.boot_int
  | .bool => PyProof.Rows.boot_bool
  | .tuple => PyProof.Rows.boot_tuple
  | .list => PyProof.Rows.boot_list
  | .str => PyProof.Rows.boot_str
section
variable {X : Cx} {a b c e : Expr} {pos : Pos}
theorem isa1_E {fa : En → R (Lz × En)} {p p2 : Pos} {t : Ty} (hg : Gl X "isinstance") (hm : X.mg "isinstance" = none) (hs : starEach [a, .Name (Str.ofString (tyN t)) p2] X.env = (false, eval a X.env) :: starEach [.Name (Str.ofString (tyN t)) p2] X.env) (ha : PE X a (tZ fa))
    (hT : PE X (.Name (Str.ofString (tyN t)) p2) (tC (.ty (tyN t)))) :
    PE X (.Call (.Name "isinstance" p) [a, .Name (Str.ofString (tyN t)) p2] [] pos) (tE (op1 fa fun d => .ok (.bool ([t].any fun t => isTy t d)))) :=
  imp_E (pe_callB call_isi hg hm PyProof.Rows.boot_isinstance (pa_cons ha (pa_cons hT pa_nil) hs) (he := hs)) fun σ H Q ⟨io, Hf, C, v, d, v', r, e, k⟩ => by
    obtain ⟨⟨za, va⟩, e1, e⟩ := bind_ok e
    obtain ⟨q, e2, e⟩ := bind_ok e
    obtain ⟨d', e3, e⟩ := map_ok e
    cases e
    cases ok_inj e3
    refine ⟨io, Hf, C, v, za, va, r, e1, fun x H1 Hf1 r1 s1 h1 => ?_⟩
    have hp := (h1.get r1 e2).rp r1.le
    exact ⟨x, .ty (tyN t), _, _, _, rfl, .ty _, rp_ty X.K hp, kit_one X.K q t (rp_nodict hp), by simpa using k _ _ Hf1 r1 s1 (.bl _)⟩
theorem clsV_all : ∀ ts : List Ty, Paired ClsV (ts.map fun t => V.ty (tyN t)) (ts.map fun t => Value.type (tyN t))
  | [] => .nil
  | _ :: r => .cons (.ty _) (clsV_all r)
theorem isaT_E {fa : En → R (Lz × En)} {p : Pos} {tp : Expr} {ts : List Ty} (hg : Gl X "isinstance") (hm : X.mg "isinstance" = none) (hs : starEach [a, tp] X.env = (false, eval a X.env) :: starEach [tp] X.env) (hs2 : starEach [tp] X.env = (false, eval tp X.env) :: starEach [] X.env) (ha : PE X a (tZ fa))
    (hT : PE X tp (fun σ H Q => ∀ q, H q = none → Q (.ref q) (upd H q (.tup (ts.map fun t => V.ty (tyN t)))))) :
    PE X (.Call (.Name "isinstance" p) [a, tp] [] pos) (tE (op1 fa fun d => .ok (.bool (ts.any fun t => isTy t d)))) :=
  imp_E (pe_callB call_isiT hg hm PyProof.Rows.boot_isinstance (pa_cons ha (pa_cons hT pa_nil hs2) hs) (he := hs) (hpl := by rw [hs2]; rfl)) fun σ H Q ⟨io, Hf, C, v, d, v', r, e, k⟩ => by
    obtain ⟨⟨za, va⟩, e1, e⟩ := bind_ok e
    obtain ⟨q, e2, e⟩ := bind_ok e
    obtain ⟨d', e3, e⟩ := map_ok e
    cases e
    cases ok_inj e3
    refine ⟨io, Hf, C, v, za, va, r, e1, fun x H1 Hf1 r1 s1 h1 => fun l hl => ?_⟩
    have hp := (h1.get r1 e2).rp r1.le
    have hp2 : Rp (upd H1 l (.tup (ts.map fun t => V.ty (tyN t)))) x q := rp_mono (fun b u w => by rw [upd_ne (ne_of_none w hl)]; exact w) hp
    exact ⟨x, l, _, _, _, _, rfl, upd_same, clsV_all ts, rp_ty X.K hp2, kit_any X.K q (rp_nodict hp) ts, k _ _ Hf1 (r1.more hl) s1 (.bl _)⟩
theorem tys_nil : PA X [] (fun σ H Q => Q (([] : List Ty).map fun t => V.ty (tyN t)) H) := pa_nil
theorem tys_cons {t : Ty} {ts : List Ty} {es : List Expr} {p2 : Pos} (hT : PE X (.Name (Str.ofString (tyN t)) p2) (tC (.ty (tyN t)))) (h : PA X es (fun σ H Q => Q (ts.map fun t => V.ty (tyN t)) H)) : PA X (.Name (Str.ofString (tyN t)) p2 :: es) (fun σ H Q => Q ((t :: ts).map fun t => V.ty (tyN t)) H) := pa_cons hT h
theorem tys_T {ts : List Ty} {es : List Expr} {x1} (hl : ts.length ≤ 100) (h : PA X es (fun σ H Q => Q (ts.map fun t => V.ty (tyN t)) H)) : PE X (.Tuple es x1 pos) (fun σ H Q => ∀ q, H q = none → Q (.ref q) (upd H q (.tup (ts.map fun t => V.ty (tyN t))))) :=
  imp_E (pe_tup h) fun σ H Q k => ⟨by rw [List.length_map, sizeLine_eq]; omega, k⟩

/-! ### methods that read -/
def TyD (X : Cx) (T : String) (x : V) (H : Hp) : Prop := ∀ (pins : List (Addr × Obj)) (σ : L2.St) (s : Shared) (v : Value), Inv X pins σ H s → RelV x v → s.TypeIs v T ∧ ∀ a, v = .ref a → ∃ ob, s.heap.get? a = some ob ∧ ob.dict = none
def tMt (X : Cx) (name : Str) (to : TE) (t : TA) : TE := fun σ H Q => to σ H fun x H1 => ∃ T id r, PlainAttrs T ∧ Slot T name id ∧ typeOf (.builtin id) = pure (.type "method_descriptor") ∧ TyD X T x H1 ∧ MtR X id r ∧ t σ H1 fun xs H2 => r x xs H2 Q
theorem pe_mt {o : Expr} {es : List Expr} {name : Str} {apos cpos : Pos} {to : TE} {t : TA} (ho : PE X o to) (ha : PA X (e :: es) t)
    (hbase : attributeBase o name X.env (eval o X.env) = eval o X.env)
    (hfew : ((backTo cpos (starEach (e :: es) X.env)).all (fun x => !x.1) && (backToKw cpos (keywordEach [] X.env)).all (fun x => x.1.isSome)
      && decide ((e :: es).length + ([] : List Keyword).length + (if ([] : List Keyword).isEmpty then 0 else 1) < 30)) = true)
    (hline : (apos.endLine == cpos.line) = true) (hs : starEach (e :: es) X.env = (false, eval e X.env) :: starEach es X.env) (hplain : (backTo cpos (starEach es X.env)).any (·.1) = false) :
    PE X (.Call (.Attribute o name apos) (e :: es) [] cpos) (tMt X name to t) := by
  refine ⟨fun pins s σ H Q I h => ?_⟩
  refine wpAny_Call_method_late hbase hfew hline rfl (thn (ho.run pins s σ H _ I h) fun v s1 ⟨x, H1, I1, r1, T, id, r, pa, slot, hty, ty, hm, q1⟩ => ?_)
  obtain ⟨h1, h2⟩ := ty pins σ s1 v I1 r1
  refine ⟨T, id, pa, slot, hty, h1, h2, ?_⟩
  have hA := ha.run cpos pins s1 σ H1 _ I1 q1
  rw [hs] at hA ⊢
  refine PySem.Calls.callWith_builtin (by show (false || (backTo cpos (starEach es X.env)).any (·.1)) = false; rw [hplain] <;> rfl) (PySem.Calls.evalArgs_plain ?_)
  exact thn hA fun us s2 ⟨vs, H2, I2, r2, q2⟩ => hm pins s2 σ H2 x vs v us Q I2 r1 r2 q2
theorem tyD_list {H : Hp} {a : Addr} {xs : List V} (h : Rd H a (.lst xs)) : TyD X "list" (.ref a) H := fun pins σ s v I r => tyV_is (T := "list") I r (.inl ⟨rfl, xs, rd_seqL h⟩)
theorem tyD_tuple {H : Hp} {a : Addr} {o : Obj} {xs : List V} (h : H a = some (.frz o (.tup xs))) (n : o.dict = none) : TyD X "tuple" (.ref a) H := fun pins σ s v I r => by
  cases r
  obtain ⟨g, _, its, _, ob, g2, c, _⟩ := (show ObjOk X.prog X.w H s.heap a (.frz o (.tup xs)) from I.hok a _ h)
  rw [g] at g2
  cases g2
  exact ⟨⟨o, g, c⟩, fun b e => by cases e; exact ⟨o, g, n⟩⟩
def mtRes (X : Cx) (m : Mt) : Prop := True
/-- .index -/
theorem mtIdx_list (hu : X.A.units + 65 < cLine) : MtR X "list.index" (fun x xs H Q => ∃ Hf ds z d, Same Hf H ∧ RpO Hf H x (.list ds) ∧ (∃ y, xs = [y] ∧ RpO Hf H y z) ∧ mt .index (.list ds) [z] = .ok d ∧ ∀ w, Rp Hf w d → ownable d = false → Q w H) := by
  intro pins s σ H x xs v us Q I rx rxs ⟨Hf, ds, z, d, sm, hx, ⟨y, ey, hy⟩, e, k⟩
  subst ey
  obtain ⟨g1, g2⟩ := gd_ok e
  obtain ⟨n, g3, g4⟩ := Option.map_eq_some_iff.mp (ofO_ok g2)
  obtain ⟨s1, s2⟩ := shp_and g1
  obtain ⟨j, w, h1, h2, h3, h4⟩ := find_at g3
  have hj : n = j := by omega
  subst hj
  subst g4
  have hq := hx.rp sm
  obtain ⟨a, xs, rfl, _, _⟩ := hx.list sm
  exact mt_indexD hu pins s σ H _ _ v us Q I rx rxs ⟨a, y, z, ds, n, w, rfl, rfl, rp_dp X.K hq, rp_dp X.K (hy.rp sm), s2, s1, h2, h3, h4, k _ (.int _) rfl⟩
theorem mtIdx_tuple (hu : X.A.units + 65 < cLine) : MtR X "tuple.index" (fun x xs H Q => ∃ Hf ds z d, Same Hf H ∧ RpO Hf H x (.tuple ds) ∧ (∃ y, xs = [y] ∧ RpO Hf H y z) ∧ mt .index (.tuple ds) [z] = .ok d ∧ ∀ w, Rp Hf w d → ownable d = false → Q w H) := by
  intro pins s σ H x xs v us Q I rx rxs ⟨Hf, ds, z, d, sm, hx, ⟨y, ey, hy⟩, e, k⟩
  subst ey
  obtain ⟨g1, g2⟩ := gd_ok e
  obtain ⟨n, g3, g4⟩ := Option.map_eq_some_iff.mp (ofO_ok g2)
  obtain ⟨s1, s2⟩ := shp_and g1
  obtain ⟨j, w, h1, h2, h3, h4⟩ := find_at g3
  have hj : n = j := by omega
  subst hj
  subst g4
  obtain ⟨a, xs, rfl, ha, pa⟩ := hx.tuple sm
  obtain ⟨u, rfl, ru⟩ := vals1 rxs
  cases rx
  exact index_tup hu I ha (rpAll_mono sm pa) (hy.rp sm) ru s1 s2 h2 h3 h4 (k _ (.int _) rfl)
def mtF (m : Mt) (fo : En → R (D × En)) (fz : En → R (List Lz × En)) (v : En) : R (D × En) :=
  (fo v).bind fun y => (fz y.2).bind fun x => (Lz.gets x.2 x.1).bind fun ds => (mt m y.1 ds).map fun d => (d, x.2)
theorem mt_one {p : D} {ds : List D} {d : D} (e : mt .index p ds = .ok d) : ∃ z, ds = [z] ∧ ((∃ xs, p = .list xs) ∨ ∃ xs, p = .tuple xs) := by
  rcases ds with _ | ⟨z, _ | ⟨z2, r⟩⟩
  · cases p <;> cases e
  · cases p with
    | list xs => exact ⟨_, rfl, .inl ⟨_, rfl⟩⟩
    | tuple xs => exact ⟨_, rfl, .inr ⟨_, rfl⟩⟩
    | _ => cases e
  · cases p <;> cases e
theorem index_E {o : Expr} {es : List Expr} {apos cpos : Pos} {fo : En → R (D × En)} {fz : En → R (List Lz × En)} (hu : X.A.units + 65 < cLine) (ho : PE X o (tE fo)) (ha : PA X (e :: es) (tZs fz))
    (hbase : attributeBase o "index" X.env (eval o X.env) = eval o X.env)
    (hfew : ((backTo cpos (starEach (e :: es) X.env)).all (fun x => !x.1) && (backToKw cpos (keywordEach [] X.env)).all (fun x => x.1.isSome)
      && decide ((e :: es).length + ([] : List Keyword).length + (if ([] : List Keyword).isEmpty then 0 else 1) < 30)) = true)
    (hline : (apos.endLine == cpos.line) = true) (hs : starEach (e :: es) X.env = (false, eval e X.env) :: starEach es X.env) (hplain : (backTo cpos (starEach es X.env)).any (·.1) = false) :
    PE X (.Call (.Attribute o "index" apos) (e :: es) [] cpos) (tE (mtF .index fo fz)) :=
  imp_E (pe_mt (name := "index") ho ha hbase hfew hline hs hplain) fun σ H Q ⟨io, Hf, C, v, d, v', r, e, k⟩ => by
    obtain ⟨⟨p, va⟩, e1, e⟩ := bind_ok e
    obtain ⟨⟨zs, vb⟩, e2, e⟩ := bind_ok e
    obtain ⟨ds, e3, e⟩ := bind_ok e
    obtain ⟨d', e4, e⟩ := map_ok e
    cases e
    refine ⟨io, Hf, C, v, p, va, r, e1, fun x H1 Hf1 r1 s1 h1 => ?_⟩
    obtain ⟨z, rfl, ⟨xs, rfl⟩ | ⟨xs, rfl⟩⟩ := mt_one e4
    · have hx := h1
      cases h1 with
      | lst hr hq =>
        refine ⟨"list", "list.index", _, PySem.F.plainAttrs_list, PySem.F.slot_list_index, PySem.F.type_list_index, tyD_list (rd_mono r1.le hr), mtIdx_list hu, io, Hf1, C, va, zs, vb, r1, e2, fun ys H2 Hf2 r2 s2 h2 => ?_⟩
        obtain ⟨y, ey, hy⟩ := (h2.gets r2 e3).one
        exact ⟨Hf2, xs, z, d, r2.le, .inl (rp_mono s2 hx), ⟨y, ey, hy⟩, e4, fun w hw _ => k _ _ Hf2 r2 (s1.trans s2) hw⟩
    · have hx := h1
      cases h1 with
      | tup hr n hq =>
        refine ⟨"tuple", "tuple.index", _, PySem.F.plainAttrs_tuple, PySem.F.slot_tuple_index, PySem.F.type_tuple_index, tyD_tuple (r1.le _ _ hr) n, mtIdx_tuple hu, io, Hf1, C, va, zs, vb, r1, e2, fun ys H2 Hf2 r2 s2 h2 => ?_⟩
        obtain ⟨y, ey, hy⟩ := (h2.gets r2 e3).one
        exact ⟨Hf2, xs, z, d, r2.le, .inl (rp_mono s2 hx), ⟨y, ey, hy⟩, e4, fun w hw _ => k _ _ Hf2 r2 (s1.trans s2) hw⟩
/-! ### .count -/
theorem count_lst (hu : X.A.units + 65 < cLine) {pins : List (Addr × Obj)} {s : Shared} {σ : L2.St} {H : Hp} {a : Addr} {xs : List V} {ds : List D} {y : V} {d : D} {u : Value} {Q : VK} (I : Inv X pins σ H s) (ha : Rd H a (.lst xs)) (pa : RpAll H xs ds) (hy : Rp H y d) (ry : RelV y u)
    (s1 : SeqAt.shaped d = true) (s2 : SeqAt.shaped (.list ds) = true) (q : Q (.int (ds.countP fun z => PyData.eqv z d : Nat)) H) : wpAny (model X.prog X.w) X.A (call (.builtin "list.count") [.ref a, u]) (EP X pins σ Q) X.xe s := by
  obtain ⟨bs, r1⟩ := Dp.reads I d y u (rp_dp X.K hy) ry
  obtain ⟨its, rv, ⟨⟨cls, dd, data, sl⟩, n, ho, hc, hdn, hd⟩, hlen⟩ := I.list (rd_seqL ha)
  simp only at hc hd
  subst hc hd
  obtain ⟨as, h4⟩ := pa.reads I rv
  have hlay : PyData.canLayAll0 ds = true := SeqAt.canLay_of_shaped s2
  have hmap : its.map (SeqAt.readOf s.heap) = ds := SeqAt.readsAll_map ds its as hlay h4
  refine call_meets PySem.F.slot_list_count ⟨_, ho, rfl⟩ PySem.F.entry_list_count (PySem.F.args_list_count_2 _ _)
    (SeqAt.list_countAt a its.toArray n dd sl u (fun w => PyData.eqv (SeqAt.readOf s.heap w) d)) ⟨ho, SeqAt.items_eqAt (vs := its.toArray) (by simpa using h4) r1 hlay (SeqAt.canLay_of_shaped s1) (PyProof.Rows.room_in_shaped s1 hu), ?_⟩
  have ec : its.toArray.toList.countP (fun w => PyData.eqv (SeqAt.readOf s.heap w) d) = ds.countP fun z => PyData.eqv z d := by
    rw [List.toList_toArray]
    conv => rhs; rw [← hmap, List.countP_map]
    rfl
  refine ⟨.int (ds.countP fun z => PyData.eqv z d : Nat), H, I.tok _, ⟨s.toks, ?_⟩, q⟩
  rw [ec]
theorem count_tup (hu : X.A.units + 65 < cLine) {pins : List (Addr × Obj)} {s : Shared} {σ : L2.St} {H : Hp} {a : Addr} {xs : List V} {ds : List D} {y : V} {d : D} {u : Value} {Q : VK} (I : Inv X pins σ H s) (ha : Rd H a (.tup xs)) (pa : RpAll H xs ds) (hy : Rp H y d) (ry : RelV y u)
    (s1 : SeqAt.shaped d = true) (s2 : SeqAt.shaped (.tuple ds) = true) (q : Q (.int (ds.countP fun z => PyData.eqv z d : Nat)) H) : wpAny (model X.prog X.w) X.A (call (.builtin "tuple.count") [.ref a, u]) (EP X pins σ Q) X.xe s := by
  obtain ⟨bs, r1⟩ := Dp.reads I d y u (rp_dp X.K hy) ry
  obtain ⟨its, rv, ⟨⟨cls, dd, dt, sl⟩, ho, hc, n, hd⟩, hlen⟩ := Inv.rdT I ha
  simp only at hc hd
  subst hc hd
  obtain ⟨as, h4⟩ := pa.reads I rv
  have hlay : PyData.canLayAll0 ds = true := SeqAt.canLay_of_shaped s2
  have hmap : its.map (SeqAt.readOf s.heap) = ds := SeqAt.readsAll_map ds its as hlay h4
  refine call_meets PySem.F.slot_tuple_count ⟨_, ho, rfl⟩ PySem.F.entry_tuple_count (PySem.F.args_tuple_count_2 _ _)
    (SeqAt.tuple_countAt a its.toArray n dd sl u (fun w => PyData.eqv (SeqAt.readOf s.heap w) d)) ⟨ho, SeqAt.items_eqAt (vs := its.toArray) (by simpa using h4) r1 hlay (SeqAt.canLay_of_shaped s1) (PyProof.Rows.room_in_shaped s1 hu), ?_⟩
  have ec : its.toArray.toList.countP (fun w => PyData.eqv (SeqAt.readOf s.heap w) d) = ds.countP fun z => PyData.eqv z d := by
    rw [List.toList_toArray]
    conv => rhs; rw [← hmap, List.countP_map]
    rfl
  refine ⟨.int (ds.countP fun z => PyData.eqv z d : Nat), H, I.tok _, ⟨s.toks, ?_⟩, q⟩
  rw [ec]
theorem mtCnt_list (hu : X.A.units + 65 < cLine) : MtR X "list.count" (fun x xs H Q => ∃ Hf ds z d, Same Hf H ∧ RpO Hf H x (.list ds) ∧ (∃ y, xs = [y] ∧ RpO Hf H y z) ∧ mt .count (.list ds) [z] = .ok d ∧ ∀ w, Rp Hf w d → ownable d = false → Q w H) := by
  intro pins s σ H x xs v us Q I rx rxs ⟨Hf, ds, z, d, sm, hx, ⟨y, ey, hy⟩, e, k⟩
  subst ey
  obtain ⟨g1, g2⟩ := gd_ok e
  cases ok_inj g2
  obtain ⟨s1, s2⟩ := shp_and g1
  obtain ⟨a, xs, rfl, ha, pa⟩ := hx.list sm
  obtain ⟨u, rfl, ru⟩ := vals1 rxs
  cases rx
  exact count_lst hu I ha (rpAll_mono sm pa) (hy.rp sm) ru s1 s2 (k _ (.int _) rfl)
theorem mtCnt_tuple (hu : X.A.units + 65 < cLine) : MtR X "tuple.count" (fun x xs H Q => ∃ Hf ds z d, Same Hf H ∧ RpO Hf H x (.tuple ds) ∧ (∃ y, xs = [y] ∧ RpO Hf H y z) ∧ mt .count (.tuple ds) [z] = .ok d ∧ ∀ w, Rp Hf w d → ownable d = false → Q w H) := by
  intro pins s σ H x xs v us Q I rx rxs ⟨Hf, ds, z, d, sm, hx, ⟨y, ey, hy⟩, e, k⟩
  subst ey
  obtain ⟨g1, g2⟩ := gd_ok e
  cases ok_inj g2
  obtain ⟨s1, s2⟩ := shp_and g1
  obtain ⟨a, xs, rfl, ha, pa⟩ := hx.tuple sm
  obtain ⟨u, rfl, ru⟩ := vals1 rxs
  cases rx
  exact count_tup hu I ha (rpAll_mono sm pa) (hy.rp sm) ru s1 s2 (k _ (.int _) rfl)
theorem mtCnt_str : MtR X "str.count" (fun x xs H Q => ∃ Hf a z d, Same Hf H ∧ x = .str a ∧ (∃ y, xs = [y] ∧ RpO Hf H y z) ∧ mt .count (.str a) [z] = .ok d ∧ ∀ w, Rp Hf w d → ownable d = false → Q w H) := by
  intro pins s σ H x xs v us Q I rx rxs ⟨Hf, a, z, d, sm, hx, ⟨y, ey, hy⟩, e, k⟩
  subst ey hx
  cases z with
  | str b =>
    cases ok_inj e
    have ey := hy.str
    subst ey
    exact mt_count pins s σ H _ _ v us Q I rx rxs ⟨a, b, rfl, rfl, k _ (.int _) rfl⟩
  | _ => cases e
theorem tyD_str {H : Hp} {a : Str} : TyD X "str" (.str a) H := fun pins σ s v I r => by
  obtain ⟨t, rfl⟩ := r
  exact ⟨typeIs_str _ _ _, fun b e => nomatch e⟩
theorem cnt_one {p : D} {ds : List D} {d : D} (e : mt .count p ds = .ok d) : ∃ z, ds = [z] ∧ ((∃ xs, p = .list xs) ∨ (∃ xs, p = .tuple xs) ∨ ∃ a, p = .str a) := by
  rcases ds with _ | ⟨z, _ | ⟨z2, r⟩⟩
  · cases p <;> cases e
  · cases p with
    | list xs => exact ⟨_, rfl, .inl ⟨_, rfl⟩⟩
    | tuple xs => exact ⟨_, rfl, .inr (.inl ⟨_, rfl⟩)⟩
    | str xs => exact ⟨_, rfl, .inr (.inr ⟨_, rfl⟩)⟩
    | _ => cases e
  · cases p with
    | str xs => cases z <;> cases e
    | _ => cases e
theorem count_E {o : Expr} {es : List Expr} {apos cpos : Pos} {fo : En → R (D × En)} {fz : En → R (List Lz × En)} (hu : X.A.units + 65 < cLine) (ho : PE X o (tE fo)) (ha : PA X (e :: es) (tZs fz))
    (hbase : attributeBase o "count" X.env (eval o X.env) = eval o X.env)
    (hfew : ((backTo cpos (starEach (e :: es) X.env)).all (fun x => !x.1) && (backToKw cpos (keywordEach [] X.env)).all (fun x => x.1.isSome)
      && decide ((e :: es).length + ([] : List Keyword).length + (if ([] : List Keyword).isEmpty then 0 else 1) < 30)) = true)
    (hline : (apos.endLine == cpos.line) = true) (hs : starEach (e :: es) X.env = (false, eval e X.env) :: starEach es X.env) (hplain : (backTo cpos (starEach es X.env)).any (·.1) = false) :
    PE X (.Call (.Attribute o "count" apos) (e :: es) [] cpos) (tE (mtF .count fo fz)) :=
  imp_E (pe_mt (name := "count") ho ha hbase hfew hline hs hplain) fun σ H Q ⟨io, Hf, C, v, d, v', r, e, k⟩ => by
    obtain ⟨⟨p, va⟩, e1, e⟩ := bind_ok e
    obtain ⟨⟨zs, vb⟩, e2, e⟩ := bind_ok e
    obtain ⟨ds, e3, e⟩ := bind_ok e
    obtain ⟨d', e4, e⟩ := map_ok e
    cases e
    refine ⟨io, Hf, C, v, p, va, r, e1, fun x H1 Hf1 r1 s1 h1 => ?_⟩
    obtain ⟨z, rfl, ⟨xs, rfl⟩ | ⟨xs, rfl⟩ | ⟨a, rfl⟩⟩ := cnt_one e4
    · have hx := h1
      cases h1 with
      | lst hr hq =>
        refine ⟨"list", "list.count", _, PySem.F.plainAttrs_list, PySem.F.slot_list_count, PySem.F.type_list_count, tyD_list (rd_mono r1.le hr), mtCnt_list hu, io, Hf1, C, va, zs, vb, r1, e2, fun ys H2 Hf2 r2 s2 h2 => ?_⟩
        obtain ⟨y, ey, hy⟩ := (h2.gets r2 e3).one
        exact ⟨Hf2, xs, z, d, r2.le, .inl (rp_mono s2 hx), ⟨y, ey, hy⟩, e4, fun w hw _ => k _ _ Hf2 r2 (s1.trans s2) hw⟩
    · have hx := h1
      cases h1 with
      | tup hr n hq =>
        refine ⟨"tuple", "tuple.count", _, PySem.F.plainAttrs_tuple, PySem.F.slot_tuple_count, PySem.F.type_tuple_count, tyD_tuple (r1.le _ _ hr) n, mtCnt_tuple hu, io, Hf1, C, va, zs, vb, r1, e2, fun ys H2 Hf2 r2 s2 h2 => ?_⟩
        obtain ⟨y, ey, hy⟩ := (h2.gets r2 e3).one
        exact ⟨Hf2, xs, z, d, r2.le, .inl (rp_mono s2 hx), ⟨y, ey, hy⟩, e4, fun w hw _ => k _ _ Hf2 r2 (s1.trans s2) hw⟩
    · cases h1 with
      | str =>
        refine ⟨"str", "str.count", _, PySem.F.plainAttrs_str, PySem.F.slot_str_count, PySem.F.type_str_count, tyD_str, mtCnt_str, io, Hf1, C, va, zs, vb, r1, e2, fun ys H2 Hf2 r2 s2 h2 => ?_⟩
        obtain ⟨y, ey, hy⟩ := (h2.gets r2 e3).one
        exact ⟨Hf2, a, z, d, r2.le, rfl, ⟨y, ey, hy⟩, e4, fun w hw _ => k _ _ Hf2 r2 (s1.trans s2) hw⟩
/-! ### .join -/
theorem strs_of' {H : Hp} : ∀ {xs : List V} {ds : List D} {ss : List Str}, RpAll H xs ds → strsD ds = some ss → xs = ss.map V.str
  | _, _, ss, .nil, e => by cases e; rfl
  | x :: xs, d :: ds, ss, .cons h t, e => by
    cases d with
    | str z =>
      obtain ⟨q, e1, e2⟩ := Option.map_eq_some_iff.mp e
      cases h
      rw [← e2, strs_of' t e1]; rfl
    | _ => cases e
theorem mtJoin : MtR X "str.join" (fun x xs H Q => ∃ Hf a z d, Same Hf H ∧ x = .str a ∧ (∃ y, xs = [y] ∧ RpO Hf H y z) ∧ mt .join (.str a) [z] = .ok d ∧ ∀ w, Rp Hf w d → ownable d = false → Q w H) := by
  intro pins s σ H x xs v us Q I rx rxs ⟨Hf, a, z, d, sm, hx, ⟨y, ey, hy⟩, e, k⟩
  subst ey hx
  cases z with
  | list ys =>
    obtain ⟨ss, e1, e⟩ := bind_ok e
    obtain ⟨g1, g2⟩ := gd_ok e
    cases ok_inj g2
    obtain ⟨p, xs, rfl, hp, pa⟩ := hy.list sm
    have ex := strs_of' pa (ofO_ok e1)
    subst ex
    exact mt_join pins s σ H _ _ v us Q I rx rxs ⟨a, p, ss, rfl, rfl, .inl (rd_seqL hp), of_decide_eq_true g1, k _ (.str _) rfl⟩
  | _ => cases e
theorem join_one {p : D} {ds : List D} {d : D} (e : mt .join p ds = .ok d) : ∃ z a, ds = [z] ∧ p = .str a := by
  rcases ds with _ | ⟨z, _ | ⟨z2, r⟩⟩
  · cases p <;> cases e
  · cases p with
    | str xs => exact ⟨_, _, rfl, rfl⟩
    | _ => cases e
  · cases p with
    | str xs => cases z <;> cases e
    | _ => cases e
theorem join_E {o : Expr} {es : List Expr} {apos cpos : Pos} {fo : En → R (D × En)} {fz : En → R (List Lz × En)} (hu : X.A.units + 65 < cLine) (ho : PE X o (tE fo)) (ha : PA X (e :: es) (tZs fz))
    (hbase : attributeBase o "join" X.env (eval o X.env) = eval o X.env)
    (hfew : ((backTo cpos (starEach (e :: es) X.env)).all (fun x => !x.1) && (backToKw cpos (keywordEach [] X.env)).all (fun x => x.1.isSome)
      && decide ((e :: es).length + ([] : List Keyword).length + (if ([] : List Keyword).isEmpty then 0 else 1) < 30)) = true)
    (hline : (apos.endLine == cpos.line) = true) (hs : starEach (e :: es) X.env = (false, eval e X.env) :: starEach es X.env) (hplain : (backTo cpos (starEach es X.env)).any (·.1) = false) :
    PE X (.Call (.Attribute o "join" apos) (e :: es) [] cpos) (tE (mtF .join fo fz)) :=
  imp_E (pe_mt (name := "join") ho ha hbase hfew hline hs hplain) fun σ H Q ⟨io, Hf, C, v, d, v', r, e, k⟩ => by
    obtain ⟨⟨p, va⟩, e1, e⟩ := bind_ok e
    obtain ⟨⟨zs, vb⟩, e2, e⟩ := bind_ok e
    obtain ⟨ds, e3, e⟩ := bind_ok e
    obtain ⟨d', e4, e⟩ := map_ok e
    cases e
    refine ⟨io, Hf, C, v, p, va, r, e1, fun x H1 Hf1 r1 s1 h1 => ?_⟩
    obtain ⟨z, a, rfl, rfl⟩ := join_one e4
    cases h1 with
    | str =>
      refine ⟨"str", "str.join", _, PySem.F.plainAttrs_str, PySem.F.slot_str_join, PySem.F.type_str_join, tyD_str, mtJoin, io, Hf1, C, va, zs, vb, r1, e2, fun ys H2 Hf2 r2 s2 h2 => ?_⟩
      obtain ⟨y, ey, hy⟩ := (h2.gets r2 e3).one
      exact ⟨Hf2, a, z, d, r2.le, rfl, ⟨y, ey, hy⟩, e4, fun w hw _ => k _ _ Hf2 r2 (s1.trans s2) hw⟩
end
end Lp

set_option Elab.async false
set_option linter.all false
set_option autoImplicit false
set_option maxRecDepth 100000
set_option maxHeartbeats 4000000
namespace Lp
open PySem PySem.Spec L2

/-! ### calls of the row's own defs -/
def restOf (p : Option Addr) (Hf H : Hp) : Hp := fun a => if (Hf a).isNone && decide (p ≠ some a) then H a else none
theorem restOf_ok {p : Option Addr} {Hf H : Hp} {a : Addr} (h : Hf a = none) (n : p ≠ some a) : restOf p Hf H a = H a := by
  unfold restOf
  rw [h]
  simp [n]
def IoR (p : Option Addr) (Hf H : Hp) (c : Option D) : Prop := match p, c with
  | none, _ => True
  | some a, some d => Hf a = none ∧ ∃ o, H a = some o ∧ Own Hf o d
  | some _, none => False
def ioV : Option Addr → List V
  | none => []
  | some a => [.ref a]
def spC (cf : Cf) (n f : Nat) : Sp := fun vs H Q _ => ∃ p vs0 Hf c ds d c', vs = ioV p ++ vs0 ∧ vs.length = n ∧ p.isSome = c.isSome ∧ (p.isSome = true → c'.isSome = true) ∧ Same Hf H ∧ IoR p Hf H c ∧ RpAll Hf vs0 ds ∧ cf f c ds = .ok (d, c') ∧
  ∀ x H' Hf', Same Hf Hf' → Same Hf' H' → Same (restOf p Hf H) H' → (∀ a, Hf' a = none ∨ restOf p Hf H a = none) → IoR p Hf' H' c' → Rp Hf' x d → Q x H'
section
variable {io : Option Addr} {Hf Hf' C : Hp} {σ : L2.St} {H H' : Hp} {v : En}
theorem called_slot {p : Option Addr} {i : Nat} {s : Sl} (r : SltR io Hf C σ H i s) (sm : Same Hf Hf') (k : Same (restOf p Hf H) H') (dj : ∀ a, Hf' a = none ∨ restOf p Hf H a = none)
    (n : ∀ a, (isOw s = true ∨ isIo s = true) → σ[i]? = some (some (.ref a)) → p ≠ some a) : SltR io Hf' C σ H' i s :=
  r.mono sm fun a o h1 h2 h3 hs he => by
    have e := restOf_ok (H := H) h2 (n a hs he)
    refine ⟨k _ _ (e.trans h1), ?_⟩
    rcases dj a with z | z
    · exact z
    · rw [e, h1] at z; cases z
/-- behind a call that was lent nothing -/
theorem Rel.called (r : Rel io Hf C σ H v) (sm : Same Hf Hf') (le : Same Hf' H') (k : Same (restOf none Hf H) H') (dj : ∀ a, Hf' a = none ∨ restOf none Hf H a = none) : Rel io Hf' C σ H' v := by
  have rc : ∀ b u, C b = some u → Hf b = none ∧ restOf none Hf H b = some u := fun b u e => by
    have h1 : Hf b = none := by
      rcases r.ap b with z | z
      · exact z
      · rw [e] at z; cases z
    exact ⟨h1, (restOf_ok (p := none) h1 (fun z => nomatch z)).trans (r.lc _ _ e)⟩
  refine ⟨le, fun b u e => k _ _ (rc b u e).2, fun b => ?_, fun i => called_slot (p := none) (r.sl i) sm k dj (fun _ _ _ z => nomatch z), r.inj, r.ioj, r.len, fun a e => ?_⟩
  · cases q : C b with
    | none => exact .inr rfl
    | some u =>
      rcases dj b with z | z
      · exact .inl z
      · rw [(rc b u q).2] at z; cases z
  · have h := r.ioh a e
    cases q : H a with
    | none => exact absurd q h
    | some u =>
      cases w : Hf a with
      | none => rw [k a u ((restOf_ok (p := none) w (fun z => nomatch z)).trans q)]; exact fun z => nomatch z
      | some u' => rw [le a u' (sm _ _ w)]; exact fun z => nomatch z
/-- the slot whose list was lent -/
theorem Rel.lent (r : Rel io Hf C σ H v) {i : Nat} {a : Addr} {o' : HO} {c c' : D} {s' : Sl} (hv : (v.at i = .ow c ∧ s' = .ow c') ∨ (v.at i = .io c ∧ s' = .io c')) (ha : σ[i]? = some (some (.ref a)))
    (sm : Same Hf Hf') (le : Same Hf' H') (k : Same (restOf (some a) Hf H) H') (dj : ∀ b, Hf' b = none ∨ restOf (some a) Hf H b = none) (h1 : Hf' a = none) (h2 : H' a = some o') (h3 : Own Hf' o' c') : Rel io Hf' C σ H' (v.set i s') := by
  have hi : i < v.length := at_lt (by rcases hv with ⟨e, _⟩ | ⟨e, _⟩ <;> rw [e] <;> exact fun z => nomatch z)
  have si := r.sl i
  have ca : C a = none := by
    rcases hv with ⟨e, _⟩ | ⟨e, _⟩
    · rw [e] at si; obtain ⟨b, o, g1, g2, g3, g4, _⟩ := si; rw [ha] at g1; cases g1; exact g4
    · rw [e] at si; obtain ⟨b, o, g1, g2, g3, g4, _⟩ := si; rw [ha] at g1; cases g1; exact g4
  have rc : ∀ b u, C b = some u → restOf (some a) Hf H b = some u := fun b u e => by
    have h1 : Hf b = none := by
      rcases r.ap b with z | z
      · exact z
      · rw [e] at z; cases z
    refine (restOf_ok h1 (fun z => ?_)).trans (r.lc _ _ e)
    cases z
    rw [ca] at e; cases e
  refine ⟨le, fun b u e => k _ _ (rc b u e), fun b => ?_, fun j => ?_, fun j l b hj hl pj pl => ?_, fun j l hj hl => ?_, by rw [List.length_set]; exact r.len, fun b e => ?_⟩
  · cases q : C b with
    | none => exact .inr rfl
    | some u =>
      rcases dj b with z | z
      · exact .inl z
      · rw [rc b u q] at z; cases z
  · by_cases hj : j = i
    · subst hj
      rw [at_set_same hi]
      rcases hv with ⟨e, rfl⟩ | ⟨e, rfl⟩
      · rw [e] at si; obtain ⟨b, o, g1, g2, g3, g4, _⟩ := si; rw [ha] at g1; cases g1
        exact ⟨a, o', ha, g2, h1, g4, h2, h3⟩
      · rw [e] at si; obtain ⟨b, o, g1, g2, g3, g4, _⟩ := si; rw [ha] at g1; cases g1
        exact ⟨a, o', ha, g2, h1, g4, h2, h3⟩
    · rw [at_set_ne hj]
      have sj := r.sl j
      refine called_slot sj sm k dj fun b hs he z => ?_
      cases z
      rcases hv with ⟨e, _⟩ | ⟨e, _⟩
      · rcases hs with hs | hs
        · exact hj (r.inj j i a hs (by rw [e]; rfl) he ha)
        · rw [e] at si; obtain ⟨b, o, g1, g2, _⟩ := si; rw [ha] at g1; cases g1
          cases w : v.at j with
          | io d' => rw [w] at sj; obtain ⟨a', o2, q1, q2, _⟩ := sj; rw [he] at q1; cases q1; exact g2 q2
          | _ => rw [w] at hs; cases hs
      · rcases hs with hs | hs
        · rw [e] at si; obtain ⟨b, o, g1, g2, _⟩ := si; rw [ha] at g1; cases g1
          cases w : v.at j with
          | ow d' => rw [w] at sj; obtain ⟨a', o2, q1, q2, _⟩ := sj; rw [he] at q1; cases q1; exact q2 g2
          | _ => rw [w] at hs; cases hs
        · exact hj (r.ioj j i hs (by rw [e]; rfl))
  · have tr : ∀ m, isOw (En.at (v.set i s') m) = true → isOw (v.at m) = true := fun m h => by
      by_cases hm : m = i
      · subst hm; rw [at_set_same hi] at h
        rcases hv with ⟨e, rfl⟩ | ⟨e, rfl⟩
        · rw [e]; rfl
        · cases h
      · rw [at_set_ne hm] at h; exact h
    exact r.inj j l b (tr j hj) (tr l hl) pj pl
  · have tr : ∀ m, isIo (En.at (v.set i s') m) = true → isIo (v.at m) = true := fun m h => by
      by_cases hm : m = i
      · subst hm; rw [at_set_same hi] at h
        rcases hv with ⟨e, rfl⟩ | ⟨e, rfl⟩
        · cases h
        · rw [e]; rfl
      · rw [at_set_ne hm] at h; exact h
    exact r.ioj j l (tr j hj) (tr l hl)
  · have h := r.ioh b e
    cases q : H b with
    | none => exact absurd q h
    | some u =>
      cases w : Hf b with
      | none =>
        by_cases hb : b = a
        · subst hb; rw [h2]; exact fun z => nomatch z
        · rw [k b u ((restOf_ok w (fun z => hb (by cases z; rfl))).trans q)]; exact fun z => nomatch z
      | some u' => rw [le b u' (sm _ _ w)]; exact fun z => nomatch z
end
section
variable {X : Cx} {a b c e : Expr} {pos : Pos}
/-- f(e, ..), nothing lent -/
theorem call_E {cf : Cf} {f np : Nat} {g : En → R (List D × En)} {E : XK} {ex : Expr} {es : List Expr} (hn : ∀ v ds v', g v = .ok (ds, v') → ds.length = np) (h : PE X ex (tCall (spC cf np f) [] E (tA g))) :
    PE X ex (tE fun v => gd (rdy none v) ((g v).bind fun x => callE cf f none x.1 x.2)) :=
  imp_E h fun σ H Q ⟨io, Hf, C, v, d, v', r, e, k⟩ => by
    obtain ⟨_, e⟩ := gd_ok e
    obtain ⟨⟨ds, v1⟩, e1, e⟩ := bind_ok e
    obtain ⟨⟨d2, c2⟩, e2, e3⟩ := map_ok (show (cf f none ds).map (fun r => (r.1, v1)) = .ok (d, v') from e)
    cases e3
    refine ⟨io, Hf, C, v, ds, _, r, e1, fun xs H1 Hf1 r1 s1 h1 => ?_⟩
    refine ⟨none, xs, Hf1, none, ds, _, c2, by simp [ioV], by rw [List.append_nil, h1.len]; exact hn _ _ _ e1, rfl, (fun z => nomatch z), r1.le, trivial, h1, e2, fun x H' Hf' sm le kk dj _ hx => ?_⟩
    exact k x H' Hf' (r1.called sm le kk dj) (s1.trans sm) hx
/-- f(l, e, ..), the list l lent -/
theorem callIo_E {cf : Cf} {f np i : Nat} {g : En → R (List D × En)} {E : XK} {ex : Expr} (hn : ∀ v ds v', g v = .ok (ds, v') → ds.length + 1 = np) (h : PE X ex (tCall (spC cf np f) [] E (tCons (tVar i) (tA g)))) :
    PE X ex (tE fun v => gd (rdy (some i) v) ((g v).bind fun x => callE cf f (some i) x.1 x.2)) :=
  imp_E h fun σ H Q ⟨io, Hf, C, v, d, v', r, e, k⟩ => by
    obtain ⟨g1, e⟩ := gd_ok e
    have hx : ∃ x, σ[i]? = some (some x) := slot_val (r.sl i) (fun z => by simp only [rdy] at g1; rw [z] at g1; cases g1)
    obtain ⟨⟨ds, v1⟩, e1, e⟩ := bind_ok e
    have run : ∀ (s : Sl) (c : D) (mk : D → Sl), v1.at i = s → ((s = .ow c ∧ mk = Sl.ow) ∨ (s = .io c ∧ mk = Sl.io)) → ((cf f (some c) ds).bind fun r => (ofO r.2).map fun c' => (r.1, v1.set i (mk c'))) = .ok (d, v') → tCall (spC cf np f) [] E (tCons (tVar i) (tA g)) σ H Q := fun s c mk hs hc e => by
      obtain ⟨⟨d2, c2⟩, e2, e3⟩ := bind_ok e
      obtain ⟨c', e4, e5⟩ := map_ok e3
      have e6 : c2 = some c' := ofO_ok e4
      cases e5
      obtain ⟨x, hx⟩ := hx
      refine ⟨x, hx, io, Hf, C, v, ds, v1, r, e1, fun xs H1 Hf1 r1 s1 h1 => ?_⟩
      have si := r1.sl i
      rw [hs] at si
      have ⟨a, o, hxa, g3, g5, g6⟩ : ∃ a o, x = .ref a ∧ Hf1 a = none ∧ H1 a = some o ∧ Own Hf1 o c := by
        rcases hc with ⟨rfl, _⟩ | ⟨rfl, _⟩
        · obtain ⟨a, o, g1, g2, g3, g4, g5, g6⟩ := si
          rw [hx] at g1; cases g1; exact ⟨a, o, rfl, g3, g5, g6⟩
        · obtain ⟨a, o, g1, g2, g3, g4, g5, g6⟩ := si
          rw [hx] at g1; cases g1; exact ⟨a, o, rfl, g3, g5, g6⟩
      subst hxa
      refine ⟨some a, xs, Hf1, some c, ds, _, some c', by simp [ioV], by simp only [List.append_nil, List.length_cons]; rw [h1.len]; exact hn _ _ _ e1, rfl, fun _ => rfl, r1.le, ⟨g3, o, g5, g6⟩, h1, by rw [← e6]; exact e2, fun y H' Hf' sm le kk dj hio hy => ?_⟩
      obtain ⟨q1, o', q2, q3⟩ := hio
      refine k y H' Hf' (r1.lent (c := c) (c' := c') ?_ hx sm le kk dj q1 q2 q3) (s1.trans sm) hy
      rcases hc with ⟨rfl, rfl⟩ | ⟨rfl, rfl⟩
      · exact .inl ⟨hs, rfl⟩
      · exact .inr ⟨hs, rfl⟩
    have e' : (match v1.at i with
      | .ow c => (cf f (some c) ds).bind fun r => (ofO r.2).map fun c' => (r.1, v1.set i (.ow c'))
      | .io c => (cf f (some c) ds).bind fun r => (ofO r.2).map fun c' => (r.1, v1.set i (.io c'))
      | _ => bad) = .ok (d, v') := e
    split at e'
    · rename_i c hc
      exact run _ c Sl.ow hc (.inl ⟨rfl, rfl⟩) e'
    · rename_i c hc
      exact run _ c Sl.io hc (.inr ⟨rfl, rfl⟩) e'
    · cases e'
end
end Lp

set_option Elab.async false
set_option linter.all false
set_option autoImplicit false
set_option maxRecDepth 100000
set_option maxHeartbeats 4000000
namespace Lp
open PySem PySem.Spec L2

/-! ### slots told anew -/
section
variable {io : Option Addr} {Hf Hf' C : Hp} {σ : L2.St} {H H' : Hp} {v : En}
theorem setV_ok {i : Nat} {s : Sl} {v' : En} (h : setV v i s = .ok v') : i < v.length ∧ notIo (v.at i) = true ∧ v' = v.set i s := by
  obtain ⟨g1, g2⟩ := gd_ok h
  simp only [Bool.and_eq_true, decide_eq_true_eq] at g1
  exact ⟨g1.1, g1.2, (ok_inj g2).symm⟩
theorem Rel.setFz (r : Rel io Hf C σ H v) {i : Nat} {d : D} {x : V} {v' : En} (h : setV v i (.fz d) = .ok v') (p : Rp Hf x d) : Rel io Hf C (σ.set i (some x)) H v' := by
  obtain ⟨hi, hn, rfl⟩ := setV_ok h
  have hs : i < σ.length := by rw [← r.len]; exact hi
  have ne : ∀ j, j ≠ i → (σ.set i (some x))[j]? = σ[j]? := fun j hj => List.getElem?_set_ne (Ne.symm hj)
  refine ⟨r.le, r.lc, r.ap, fun j => ?_, fun j k a hj hk pj pk => ?_, fun j k hj hk => ?_, by simp [r.len], r.ioh⟩
  · by_cases hj : j = i
    · subst hj
      rw [at_set_same hi]
      exact ⟨x, by simp [hs], p⟩
    · rw [at_set_ne hj]
      have sj := r.sl j
      cases w : v.at j with
      | un => trivial
      | fz d' => rw [w] at sj; obtain ⟨y, q1, q2⟩ := sj; exact ⟨y, by rw [ne j hj]; exact q1, q2⟩
      | ow d' => rw [w] at sj; obtain ⟨a, o, q1, q2⟩ := sj; exact ⟨a, o, by rw [ne j hj]; exact q1, q2⟩
      | io d' => rw [w] at sj; obtain ⟨a, o, q1, q2⟩ := sj; exact ⟨a, o, by rw [ne j hj]; exact q1, q2⟩
  · by_cases ji : j = i
    · subst ji; rw [at_set_same hi] at hj; cases hj
    · by_cases ki : k = i
      · subst ki; rw [at_set_same hi] at hk; cases hk
      · rw [at_set_ne ji] at hj; rw [at_set_ne ki] at hk; rw [ne j ji] at pj; rw [ne k ki] at pk; exact r.inj j k a hj hk pj pk
  · by_cases ji : j = i
    · subst ji; rw [at_set_same hi] at hj; cases hj
    · by_cases ki : k = i
      · subst ki; rw [at_set_same hi] at hk; cases hk
      · rw [at_set_ne ji] at hj; rw [at_set_ne ki] at hk; exact r.ioj j k hj hk
theorem wipe_set (σ : L2.St) (i : Nat) (x : Option V) : ∀ {vs : List Nat}, i ∈ vs → L2.wipe (σ.set i x) vs = L2.wipe σ vs
  | [], h => by cases h
  | j :: vs, h => by
    unfold L2.wipe
    by_cases e : i ∈ vs
    · rw [wipe_set σ i x e]
    · have : i = j := by
        rcases List.mem_cons.mp h with q | q
        · exact q
        · exact absurd q e
      subst this
      have key : ∀ (ws : List Nat), i ∉ ws → L2.wipe (σ.set i x) ws = (L2.wipe σ ws).set i x := by
        intro ws
        induction ws with
        | nil => intro _; rfl
        | cons w ws ih =>
          intro hn
          unfold L2.wipe
          have h1 : i ≠ w := fun z => hn (z ▸ List.mem_cons_self)
          have h2 : i ∉ ws := fun z => hn (List.mem_cons_of_mem _ z)
          rw [ih h2, List.set_comm _ _ h1]
      rw [key vs e, List.set_set]
theorem wipe_at {σ : L2.St} {i : Nat} {vs : List Nat} (h : i ∉ vs) : (L2.wipe σ vs)[i]? = σ[i]? := L2.wipe_out h
theorem wipeE_len (v : En) : ∀ is : List Nat, (wipeE v is).length = v.length
  | [] => rfl
  | i :: r => by unfold wipeE; rw [List.length_set]; exact wipeE_len v r
theorem wipeE_in (v : En) : ∀ {is : List Nat} {i : Nat}, i ∈ is → (wipeE v is).at i = .un
  | [], _, h => by cases h
  | j :: r, i, h => by
    unfold wipeE
    by_cases e : i = j
    · subst e
      by_cases hl : i < (wipeE v r).length
      · exact at_set_same hl
      · rw [List.set_eq_of_length_le (Nat.le_of_not_lt hl)]
        unfold En.at
        simp [List.getD, List.getElem?_eq_none (Nat.le_of_not_lt hl)]
    · rw [at_set_ne e]
      rcases List.mem_cons.mp h with q | q
      · exact absurd q e
      · exact wipeE_in v q
theorem wipeE_out (v : En) : ∀ {is : List Nat} {i : Nat}, i ∉ is → (wipeE v is).at i = v.at i
  | [], _, _ => rfl
  | j :: r, i, h => by
    unfold wipeE
    have e : i ≠ j := fun e => h (by rw [e]; exact List.mem_cons_self)
    rw [at_set_ne e]
    exact wipeE_out v fun e => h (List.mem_cons_of_mem _ e)
theorem backE_len (v0 v : En) : ∀ is : List Nat, (backE v0 v is).length = v.length
  | [] => rfl
  | i :: r => by unfold backE; rw [List.length_set]; exact backE_len v0 v r
theorem backE_in (v0 v : En) (hl : v.length = v0.length) : ∀ {is : List Nat} {i : Nat}, i ∈ is → (backE v0 v is).at i = v0.at i
  | [], _, h => by cases h
  | j :: r, i, h => by
    unfold backE
    by_cases e : i = j
    · subst e
      by_cases hl' : i < (backE v0 v r).length
      · exact at_set_same hl'
      · rw [List.set_eq_of_length_le (Nat.le_of_not_lt hl')]
        have h2 : ¬ i < v0.length := by rw [backE_len] at hl'; omega
        unfold En.at
        simp [List.getD, List.getElem?_eq_none (Nat.le_of_not_lt hl'), List.getElem?_eq_none (Nat.le_of_not_lt h2)]
    · rw [at_set_ne e]
      rcases List.mem_cons.mp h with q | q
      · exact absurd q e
      · exact backE_in v0 v hl q
theorem backE_out (v0 v : En) : ∀ {is : List Nat} {i : Nat}, i ∉ is → (backE v0 v is).at i = v.at i
  | [], _, _ => rfl
  | j :: r, i, h => by
    unfold backE
    have e : i ≠ j := fun e => h (by rw [e]; exact List.mem_cons_self)
    rw [at_set_ne e]
    exact backE_out v0 v fun e => h (List.mem_cons_of_mem _ e)
/-- the block's own slots forgotten -/
theorem Rel.wiped (r : Rel io Hf C σ H v) (is : List Nat) : Rel io Hf C (L2.wipe σ is) H (wipeE v is) := by
  have tr : ∀ (p : Sl → Bool), p .un = false → ∀ j, p ((wipeE v is).at j) = true → j ∉ is ∧ p (v.at j) = true := fun p hp j h => by
    by_cases e : j ∈ is
    · rw [wipeE_in v e, hp] at h; cases h
    · rw [wipeE_out v e] at h; exact ⟨e, h⟩
  refine ⟨r.le, r.lc, r.ap, fun j => ?_, fun j k a hj hk pj pk => ?_, fun j k hj hk => ?_, by rw [wipeE_len, L2.wipe_length, r.len], r.ioh⟩
  · by_cases e : j ∈ is
    · rw [wipeE_in v e]; trivial
    · rw [wipeE_out v e]
      have sj := r.sl j
      cases w : v.at j with
      | un => trivial
      | fz d' => rw [w] at sj; obtain ⟨y, q1, q2⟩ := sj; exact ⟨y, by rw [wipe_at e]; exact q1, q2⟩
      | ow d' => rw [w] at sj; obtain ⟨a, o, q1, q2⟩ := sj; exact ⟨a, o, by rw [wipe_at e]; exact q1, q2⟩
      | io d' => rw [w] at sj; obtain ⟨a, o, q1, q2⟩ := sj; exact ⟨a, o, by rw [wipe_at e]; exact q1, q2⟩
  · obtain ⟨j1, j2⟩ := tr isOw rfl j hj
    obtain ⟨k1, k2⟩ := tr isOw rfl k hk
    rw [wipe_at j1] at pj; rw [wipe_at k1] at pk
    exact r.inj j k a j2 k2 pj pk
  · obtain ⟨j1, j2⟩ := tr isIo rfl j hj
    obtain ⟨k1, k2⟩ := tr isIo rfl k hk
    exact r.ioj j k j2 k2
theorem okBack_at {v : En} {is : List Nat} {i : Nat} (h : okBack v is = true) (hi : i ∈ is) : v.at i = .un ∨ ∃ d, v.at i = .fz d := by
  have q := List.all_eq_true.mp h i hi
  cases w : v.at i with
  | un => exact .inl rfl
  | fz d => exact .inr ⟨d, rfl⟩
  | ow d => rw [w] at q; cases q
  | io d => rw [w] at q; cases q
/-- .. and back again -/
theorem Rel.back {Hf1 C' : Hp} {v0 : En} {H0 : Hp} {is : List Nat} (r0 : Rel io Hf1 C σ H0 v0) (sm : Same Hf1 Hf) (ok : okBack v0 is = true) (cs : Same C C') (r : Rel io Hf C' (L2.wipe σ is) H (wipeE v is)) : Rel io Hf C σ H (backE v0 v is) := by
  have hl : v.length = v0.length := by
    have h1 := r.len
    rw [wipeE_len, L2.wipe_length] at h1
    rw [h1, r0.len]
  have tr : ∀ (p : Sl → Bool), p .un = false → (∀ d, p (.fz d) = false) → ∀ j, p ((backE v0 v is).at j) = true → j ∉ is ∧ p (v.at j) = true := fun p hp hf j h => by
    by_cases e : j ∈ is
    · rw [backE_in v0 v hl e] at h
      rcases okBack_at ok e with q | ⟨d, q⟩
      · rw [q, hp] at h; cases h
      · rw [q, hf] at h; cases h
    · rw [backE_out v0 v e] at h; exact ⟨e, h⟩
  have ww : ∀ (p : Sl → Bool) j, j ∉ is → p (v.at j) = true → p ((wipeE v is).at j) = true := fun p j e h => by rw [wipeE_out v e]; exact h
  refine ⟨r.le, fun b u e => r.lc _ _ (cs _ _ e), fun a => ?_, fun j => ?_, fun j k a hj hk pj pk => ?_, fun j k hj hk => ?_, by rw [backE_len, hl, r0.len], r.ioh⟩
  · rcases r.ap a with q | q
    · exact .inl q
    · exact .inr (cs.free q)
  · by_cases e : j ∈ is
    · rw [backE_in v0 v hl e]
      have sj := r0.sl j
      rcases okBack_at ok e with q | ⟨d, q⟩
      · rw [q]; trivial
      · rw [q] at sj ⊢
        obtain ⟨y, q1, q2⟩ := sj
        exact ⟨y, q1, rp_mono sm q2⟩
    · rw [backE_out v0 v e]
      have sj := r.sl j
      rw [wipeE_out v e] at sj
      cases w : v.at j with
      | un => trivial
      | fz d' => rw [w] at sj; obtain ⟨y, q1, q2⟩ := sj; exact ⟨y, by rw [wipe_at e] at q1; exact q1, q2⟩
      | ow d' => rw [w] at sj; obtain ⟨a, o, q1, q2, q3, q4, q5⟩ := sj; exact ⟨a, o, by rw [wipe_at e] at q1; exact q1, q2, q3, cs.free q4, q5⟩
      | io d' => rw [w] at sj; obtain ⟨a, o, q1, q2, q3, q4, q5⟩ := sj; exact ⟨a, o, by rw [wipe_at e] at q1; exact q1, q2, q3, cs.free q4, q5⟩
  · obtain ⟨j1, j2⟩ := tr isOw rfl (fun _ => rfl) j hj
    obtain ⟨k1, k2⟩ := tr isOw rfl (fun _ => rfl) k hk
    exact r.inj j k a (ww _ j j1 j2) (ww _ k k1 k2) (by rw [wipe_at j1]; exact pj) (by rw [wipe_at k1]; exact pk)
  · obtain ⟨j1, j2⟩ := tr isIo rfl (fun _ => rfl) j hj
    obtain ⟨k1, k2⟩ := tr isIo rfl (fun _ => rfl) k hk
    exact r.ioj j k (ww _ j j1 j2) (ww _ k k1 k2)
end

/-! ### targets -/
/-- an item that a walk gives: a pair it made for it may stand behind a tuple -/
def YV (pl : Bool) (Hf H : Hp) (x : V) (d : D) : Prop := Rp Hf x d ∨ (pl = false ∧ ∃ a xs ds, x = .ref a ∧ d = .tuple ds ∧ Rd H a (.tup xs) ∧ RpAll Hf xs ds)
def isNm : Tg → Bool
  | .nm _ => true
  | .tp _ => false
def WC (t : List Nat) (σ σ' : L2.St) : Prop := ∀ vs : List Nat, (∀ i ∈ t, i ∈ vs) → L2.wipe σ' vs = L2.wipe σ vs
def tG (t : Tg) : TG := fun x σ H Q => ∃ io Hf C v d v' pl, Rel io Hf C σ H v ∧ YV pl Hf H x d ∧ (isNm t = true → pl = true) ∧ asgT t d v = .ok v' ∧ ∀ σ', Rel io Hf C σ' H v' → WC t.own σ σ' → Q σ' H
def tGs (ts : List Tg) : TGs := fun xs σ H Q => ∃ io Hf C v ds v', Rel io Hf C σ H v ∧ RpAll Hf xs ds ∧ asgTs ts ds v = .ok v' ∧ ∀ σ', Rel io Hf C σ' H v' → WC (Tg.owns ts) σ σ' → Q σ' H
section
variable {X : Cx} {a b c e : Expr} {pos : Pos}
theorem nm_G {i : Nat} (h : PG X e (gName i)) : PG X e (tG (.nm i)) := ⟨fun pins s σ H x u Q I ru ⟨io, Hf, C, v, d, v', pl, r, y, n, e, k⟩ => by
  have e : setV v i (.fz d) = .ok v' := by unfold asgT at e; exact e
  have p : Rp Hf x d := by
    rcases y with y | ⟨y, _⟩
    · exact y
    · rw [n rfl] at y; cases y
  refine h.run pins s σ H x u Q I ru (k _ (r.setFz e p) fun vs hv => ?_)
  exact wipe_set σ i _ (hv i (by simp [Tg.own]))⟩
theorem nil_Gs : PGs X [] (tGs []) := ⟨fun pins s σ H xs us Q I ru ⟨io, Hf, C, v, ds, v', r, y, e, k⟩ => by
  cases y with
  | nil =>
    have e : (Except.ok v : R En) = .ok v' := by unfold asgTs at e; exact e
    cases ok_inj e
    exact pgs_nil.run pins s σ H [] us Q I ru ⟨rfl, k _ r fun vs _ => rfl⟩
  | cons _ _ => unfold asgTs at e; cases e⟩
theorem cons_Gs {t : Tg} {ts : List Tg} {es : List Expr} (hs : (assignEach (e :: es) X.env).map (·.2) = assign e X.env :: (assignEach es X.env).map (·.2)) (h1 : PG X e (tG t)) (h2 : PGs X es (tGs ts)) : PGs X (e :: es) (tGs (t :: ts)) :=
  ⟨fun pins s σ H xs us Q I ru ⟨io, Hf, C, v, ds, v', r, y, e, k⟩ => by
    cases y with
    | nil => unfold asgTs at e; cases e
    | @cons x xs d ds p q =>
      have e : ((asgT t d v).bind fun v1 => asgTs ts ds v1) = .ok v' := by unfold asgTs at e; exact e
      obtain ⟨v1, e1, e2⟩ := bind_ok e
      refine (pgs_cons h1 h2 hs).run pins s σ H _ us Q I ru ⟨x, xs, rfl, io, Hf, C, v, d, v1, true, r, .inl p, fun _ => rfl, e1, fun σ1 r1 w1 => ⟨io, Hf, C, v1, ds, v', r1, q, e2, fun σ2 r2 w2 => k σ2 r2 fun vs hv => ?_⟩⟩
      have o1 : ∀ i ∈ t.own, i ∈ vs := fun i hi => hv i (by unfold Tg.owns; exact List.mem_append_left _ hi)
      have o2 : ∀ i ∈ Tg.owns ts, i ∈ vs := fun i hi => hv i (by unfold Tg.owns; exact List.mem_append_right _ hi)
      rw [w2 vs o2, w1 vs o1]⟩
theorem asgTs_len : ∀ {ts : List Tg} {ds : List D} {v v' : En}, asgTs ts ds v = .ok v' → ds.length = ts.length
  | [], [], _, _, _ => rfl
  | [], _ :: _, _, _, e => by unfold asgTs at e; cases e
  | _ :: _, [], _, _, e => by unfold asgTs at e; cases e
  | t :: ts, d :: ds, v, v', e => by
    have e : ((asgT t d v).bind fun v1 => asgTs ts ds v1) = .ok v' := by unfold asgTs at e; exact e
    obtain ⟨v1, e1, e2⟩ := bind_ok e
    simp [asgTs_len e2]
theorem tp_G {ts : List Tg} {es : List Expr} {k0 : Nat} (hc : X.calm = true) (hn : (assignEach es X.env).length = ts.length) (hst : (assignEach es X.env).findIdx? (·.1) = none) (h : PGs X es (tGs ts)) : PG X (.Tuple es k0 pos) (tG (.tp ts)) :=
  ⟨fun pins s σ H x u Q I ru ⟨io, Hf, C, v, d, v', pl, r, y, n, e, k⟩ => by
    have tup : ∀ (a : Addr) (xs : List V) (ds : List D), x = .ref a → Rd H a (.tup xs) → RpAll Hf xs ds → asgTs ts ds v = .ok v' → wpAny (model X.prog X.w) X.A (assign (.Tuple es k0 pos) X.env u) (fun _ s' => ∃ σ' H', Inv X pins σ' H' s' ∧ Q σ' H') X.xe s := fun a xs ds ex ha pa e => by
      subst ex
      exact (pg_tup (n := ts.length) hc h hn hst).run pins s σ H _ u Q I ru ⟨a, xs, rfl, rd_seqT ha, by rw [pa.len]; exact asgTs_len e, io, Hf, C, v, ds, v', r, pa, e, fun σ' r' w => k σ' r' (by unfold Tg.own; exact w)⟩
    rcases y with y | ⟨_, a, xs, ds, ex, rfl, ha, pa⟩
    · cases y with
      | @tup a o xs ds hr nn q => exact tup a xs ds rfl (.inr ⟨_, r.le _ _ hr⟩) q (by unfold asgT at e; exact e)
      | @lst a xs ds hr q =>
        have e' : asgTs ts ds v = .ok v' := by unfold asgT at e; exact e
        exact (L2.pg_lst (n := ts.length) hc h hn hst).run pins s σ H _ u Q I ru ⟨_, _, rfl, rd_seqL (rd_mono r.le hr), by rw [q.len]; exact asgTs_len e', io, Hf, C, v, _, v', r, q, e', fun σ' r' w => k σ' r' (by unfold Tg.own; exact w)⟩
      | _ => unfold asgT at e; cases e
    · exact tup a xs ds ex ha pa (by unfold asgT at e; exact e)⟩

/-! ### walks -/
structure Walk (pl : Bool) (J : L2.It) (Hf : Hp) (ds : List D) : Prop where
  go : ∀ i H, i < ds.length → Same Hf H → J.go i H
  stop : ∀ H, Same Hf H → J.stop ds.length H
  yld : ∀ i d H x H', ds[i]? = some d → Same Hf H → J.yld i H x H' → (H' = H ∨ ∃ p u, H p = none ∧ H' = upd H p u) ∧ YV pl Hf H' x d
def tI (pl : Bool) (f : En → R (List D × En)) : TI := fun σ H R => ∃ io Hf C v ds v', Rel io Hf C σ H v ∧ f v = .ok (ds, v') ∧ ∀ J H' Hf', Rel io Hf' C σ H' v' → Same Hf Hf' → Walk pl J Hf' ds → R J H'
theorem imp_I {tg it : Expr} {t t' : TI} (h : PI X tg it t) (w : ∀ σ H Q, t' σ H Q → t σ H Q) : PI X tg it t' := ⟨fun pins s σ H Q I q => h.run pins s σ H Q I (w σ H Q q)⟩
theorem walk_list {K : PySem.W.Frag} {Hf : Hp} {a : Addr} {xs : List V} {ds : List D} (h : Rd Hf a (.lst xs)) (p : RpAll Hf xs ds) : Walk true (Itl K a) Hf ds := by
  refine ⟨fun i H hi sm => ?_, fun H sm => ⟨xs, rd_seqL (rd_mono sm h), by rw [p.len]; exact Nat.le_refl _⟩, fun i d H x H' hd sm hy => ?_⟩
  · obtain ⟨y, h1, h2⟩ := p.get (List.getElem?_eq_getElem hi)
    exact ⟨xs, y, rd_seqL (rd_mono sm h), h1⟩
  · obtain ⟨rfl, hy⟩ := hy
    obtain ⟨y, h1, h2⟩ := p.get hd
    have := hy xs (rd_seqL (rd_mono sm h))
    rw [h1] at this; cases this
    exact ⟨.inl rfl, .inl h2⟩
theorem walk_tup {K : PySem.W.Frag} {Hf : Hp} {a : Addr} {xs : List V} {ds : List D} (h : Rd Hf a (.tup xs)) (p : RpAll Hf xs ds) : Walk true (Itt K a) Hf ds := by
  refine ⟨fun i H hi sm => ?_, fun H sm => ⟨xs, rd_seqT (rd_mono sm h), by rw [p.len]; exact Nat.le_refl _⟩, fun i d H x H' hd sm hy => ?_⟩
  · obtain ⟨y, h1, h2⟩ := p.get (List.getElem?_eq_getElem hi)
    exact ⟨xs, y, rd_seqT (rd_mono sm h), h1⟩
  · obtain ⟨rfl, hy⟩ := hy
    obtain ⟨y, h1, h2⟩ := p.get hd
    have := hy xs (rd_seqT (rd_mono sm h))
    rw [h1] at this; cases this
    exact ⟨.inl rfl, .inl h2⟩
theorem walk_str {Hf : Hp} (z : Str) : Walk true (Its z) Hf (z.cps.toList.map sign1) := by
  refine ⟨fun i H hi sm => ?_, fun H sm => ?_, fun i d H x H' hd sm hy => ?_⟩
  · show i < z.cps.size
    simpa using hi
  · show z.cps.size ≤ _
    simp
  · obtain ⟨rfl, c, hc, rfl⟩ := hy
    have : d = sign1 c := by
      rw [List.getElem?_map] at hd
      have h2 : z.cps.toList[i]? = some c := by simpa using hc
      rw [h2] at hd
      exact (Option.some.inj hd).symm
    subst this
    exact ⟨.inl rfl, .inl (.str _)⟩
theorem seq_I {tg : Expr} {f : En → R (D × En)} (h : PE X e (tE f)) : PI X tg e (tI true fun v => (f v).bind fun x => (itemsOf x.1).map fun ds => (ds, x.2)) :=
  ⟨fun pins s σ H R I ⟨io, Hf, C, v, ds, v', r, e, k⟩ => by
    obtain ⟨⟨d, v1⟩, e1, e⟩ := bind_ok e
    obtain ⟨ds', e2, e⟩ := map_ok e
    cases e
    cases d with
    | list xs =>
      cases ok_inj e2
      refine (pi_list h).run pins s σ H R I ⟨io, Hf, C, v, _, _, r, e1, fun x H' Hf' r' s' p => ?_⟩
      cases p with
      | lst hr q => exact ⟨_, rfl, ⟨_, rd_seqL (rd_mono r'.le hr)⟩, k _ _ Hf' r' s' (walk_list hr q)⟩
    | tuple xs =>
      cases ok_inj e2
      refine (pi_tup h).run pins s σ H R I ⟨io, Hf, C, v, _, _, r, e1, fun x H' Hf' r' s' p => ?_⟩
      cases p with
      | tup hr n q => exact ⟨_, rfl, ⟨_, rd_seqT (.inr ⟨_, r'.le _ _ hr⟩)⟩, k _ _ Hf' r' s' (walk_tup (.inr ⟨_, hr⟩) q)⟩
    | str z =>
      cases ok_inj e2
      refine (pi_str h).run pins s σ H R I ⟨io, Hf, C, v, _, _, r, e1, fun x H' Hf' r' s' p => ?_⟩
      cases p with
      | str => exact ⟨z, rfl, k _ _ Hf' r' s' (walk_str z)⟩
    | _ => cases e2⟩
theorem walk_rng {Hf : Hp} {lo : Int} {n : Nat} {ds : List D} (h : ds = (List.range n).map fun k => .int (lo + (k : Nat))) : Walk true (Itr lo n) Hf ds := by
  subst h
  refine ⟨fun i H hi sm => by show i < n; simpa using hi, fun H sm => by show n ≤ _; simp, fun i d H x H' hd sm hy => ?_⟩
  obtain ⟨rfl, rfl⟩ := hy
  have hi : i < n := by
    have := (List.getElem?_eq_some_iff.mp hd).1
    simpa using this
  have : d = .int (lo + (i : Nat)) := by
    rw [List.getElem?_map, List.getElem?_range hi] at hd
    exact (Option.some.inj hd).symm
  subst this
  exact ⟨.inl rfl, .inl (.int _)⟩
theorem walk_rngC {Hf : Hp} {lo c : Int} {n : Nat} {ds : List D} (h : ds = (List.range n).map fun k => .int (lo + (k : Nat) * c)) : Walk true (Itc lo c n) Hf ds := by
  subst h
  refine ⟨fun i H hi sm => by show i < n; simpa using hi, fun H sm => by show n ≤ _; simp, fun i d H x H' hd sm hy => ?_⟩
  obtain ⟨rfl, rfl⟩ := hy
  have hi : i < n := by
    have := (List.getElem?_eq_some_iff.mp hd).1
    simpa using this
  have : d = .int (lo + (i : Nat) * c) := by
    rw [List.getElem?_map, List.getElem?_range hi] at hd
    exact (Option.some.inj hd).symm
  subst this
  exact ⟨.inl rfl, .inl (.int _)⟩
def rngF (g : En → R (List D × En)) (v : En) : R (List D × En) := (g v).bind fun x => (rangeItems x.1).map fun ds => (ds, x.2)
theorem rangeOk_of {a b : Int} (h : rangeOk a b = true) : -(2 ^ 62) ≤ a ∧ a < 2 ^ 62 ∧ -(2 ^ 62) ≤ b ∧ b < 2 ^ 62 := by
  unfold rangeOk at h
  simp only [Bool.and_eq_true, decide_eq_true_eq] at h
  exact ⟨h.1.1.1, h.1.1.2, h.1.2, h.2⟩
theorem rng1_I {tg : Expr} {g : En → R (List D × En)} {p : Pos} (hg : Gl X "range") (hm : X.mg "range" = none) (hs : starEach [a] X.env = [(false, eval a X.env)]) (ha : PA X [a] (tA g)) (hl : ∀ v ds v', g v = .ok (ds, v') → ds.length = 1) : PI X tg (.Call (.Name "range" p) [a] [] pos) (tI true (rngF g)) :=
  imp_I (pi_range1 hg hm ha hs) fun σ H R ⟨io, Hf, C, v, ds, v', r, e, k⟩ => by
    obtain ⟨⟨d, v1⟩, e1, e⟩ := bind_ok e
    obtain ⟨ds', e2, e⟩ := map_ok e
    cases e
    have l1 := hl _ _ _ e1
    refine ⟨io, Hf, C, v, _, _, r, e1, fun xs H' Hf' r' s' p => ?_⟩
    match d, l1, e2, p with
    | [.int b], _, e2, .cons q .nil =>
      obtain ⟨g1, g2⟩ := gd_ok e2
      cases ok_inj g2
      obtain ⟨_, _, h3, h4⟩ := rangeOk_of g1
      refine ⟨b, by rw [int_of q], h3, h4, k _ _ Hf' r' s' (walk_rng ?_)⟩
      unfold rangeN
      simp
    | [.none], _, e2, _ | [.bool _], _, e2, _ | [.str _], _, e2, _ | [.list _], _, e2, _ | [.tuple _], _, e2, _ | [.dict _], _, e2, _ => cases e2
theorem rangeItems2 {p q : D} {ds : List D} (h : rangeItems [p, q] = .ok ds) : ∃ a b, p = .int a ∧ q = .int b ∧ rangeOk a b = true ∧ ds = rangeN a b := by
  cases p <;> cases q <;> first
    | (obtain ⟨g1, g2⟩ := gd_ok h
       exact ⟨_, _, rfl, rfl, g1, (ok_inj g2).symm⟩)
    | cases h
theorem rangeItems3 {p q t : D} {ds : List D} (h : rangeItems [p, q, t] = .ok ds) : ∃ a b c, p = .int a ∧ q = .int b ∧ t = .int c ∧ (decide (c ≠ 0) && decide (c.natAbs < 1073741824) && Builtin.Range.small a b c) = true ∧ ds = rangeC a b c := by
  cases p <;> cases q <;> cases t <;> first
    | (obtain ⟨g1, g2⟩ := gd_ok h
       exact ⟨_, _, _, rfl, rfl, rfl, g1, (ok_inj g2).symm⟩)
    | cases h
theorem rng2_I {tg : Expr} {g : En → R (List D × En)} {p : Pos} (hg : Gl X "range") (hm : X.mg "range" = none) (hs : starEach [a, b] X.env = [(false, eval a X.env), (false, eval b X.env)]) (hs2 : starEach [b] X.env = [(false, eval b X.env)]) (ha : PA X [a, b] (tA g)) (hl : ∀ v ds v', g v = .ok (ds, v') → ds.length = 2) :
    PI X tg (.Call (.Name "range" p) [a, b] [] pos) (tI true (rngF g)) :=
  imp_I (pi_range2 hg hm ha hs hs2) fun σ H R ⟨io, Hf, C, v, ds, v', r, e, k⟩ => by
    obtain ⟨⟨d, v1⟩, e1, e⟩ := bind_ok e
    obtain ⟨ds', e2, e⟩ := map_ok e
    cases e
    have l1 := hl _ _ _ e1
    refine ⟨io, Hf, C, v, _, _, r, e1, fun xs H' Hf' r' s' p => ?_⟩
    match d, l1, e2, p with
    | [p, q], _, e2, .cons hp (.cons hq .nil) =>
      obtain ⟨i, j, rfl, rfl, g1, rfl⟩ := rangeItems2 e2
      obtain ⟨h1, h2, h3, h4⟩ := rangeOk_of g1
      exact ⟨i, j, by rw [int_of hp, int_of hq], ⟨h1, h2, h3, h4⟩, k _ _ Hf' r' s' (walk_rng rfl)⟩
theorem rng3_I {tg : Expr} {g : En → R (List D × En)} {p : Pos} (hg : Gl X "range") (hm : X.mg "range" = none) (hs : starEach [a, b, c] X.env = (false, eval a X.env) :: starEach [b, c] X.env) (hpl : (backTo pos (starEach [b, c] X.env)).any (·.1) = false) (ha : PA X [a, b, c] (tA g)) (hl : ∀ v ds v', g v = .ok (ds, v') → ds.length = 3) :
    PI X tg (.Call (.Name "range" p) [a, b, c] [] pos) (tI true (rngF g)) :=
  imp_I (pi_range3 hg hm ha hs hpl) fun σ H R ⟨io, Hf, C, v, ds, v', r, e, k⟩ => by
    obtain ⟨⟨d, v1⟩, e1, e⟩ := bind_ok e
    obtain ⟨ds', e2, e⟩ := map_ok e
    cases e
    have l1 := hl _ _ _ e1
    refine ⟨io, Hf, C, v, _, _, r, e1, fun xs H' Hf' r' s' p => ?_⟩
    match d, l1, e2, p with
    | [p, q, t], _, e2, .cons hp (.cons hq (.cons ht .nil)) =>
      obtain ⟨i, j, l, rfl, rfl, rfl, g1, rfl⟩ := rangeItems3 e2
      simp only [Bool.and_eq_true, decide_eq_true_eq] at g1
      exact ⟨i, j, l, _, by rw [int_of hp, int_of hq, int_of ht], ⟨g1.1.1, g1.1.2, g1.2, PyProof.Rows.rangeSize_toNat i j l⟩, k _ _ Hf' r' s' (walk_rngC rfl)⟩
theorem enum_get : ∀ (ds : List D) (n i : Nat) (d : D), (enumFrom n ds)[i]? = some d → ∃ x, ds[i]? = some x ∧ d = .tuple [.int ((n + i : Nat) : Int), x]
  | [], _, _, _, h => by simp [enumFrom] at h
  | x :: r, n, 0, d, h => by
    simp [enumFrom] at h
    exact ⟨x, rfl, by rw [← h]; rfl⟩
  | x :: r, n, i + 1, d, h => by
    simp only [enumFrom, List.getElem?_cons_succ] at h
    obtain ⟨y, h1, h2⟩ := enum_get r (n + 1) i d h
    exact ⟨y, by simpa using h1, by rw [h2]; congr 4; omega⟩
theorem enum_len : ∀ (ds : List D) (n : Nat), (enumFrom n ds).length = ds.length
  | [], _ => rfl
  | _ :: r, n => by simp [enumFrom, enum_len r]
theorem walk_enL {K : PySem.W.Frag} {Hf : Hp} {l : Addr} {xs : List V} {ds : List D} (h : Rd Hf l (.lst xs)) (p : RpAll Hf xs ds) : Walk false (Ite K l) Hf (enumFrom 0 ds) := by
  refine ⟨fun i H hi sm => ?_, fun H sm => ⟨xs, rd_seqL (rd_mono sm h), by rw [p.len, enum_len]; exact Nat.le_refl _⟩, fun i d H x H' hd sm hy => ?_⟩
  · rw [enum_len] at hi
    obtain ⟨y, h1, h2⟩ := p.get (List.getElem?_eq_getElem hi)
    exact ⟨xs, y, rd_seqL (rd_mono sm h), h1⟩
  · obtain ⟨T, y, rfl, hT, rfl, hy⟩ := hy
    obtain ⟨z, h1, rfl⟩ := enum_get _ _ _ _ hd
    obtain ⟨w, h2, h3⟩ := p.get h1
    have := hy xs (rd_seqL (rd_mono sm h))
    rw [h2] at this; cases this
    exact ⟨.inr ⟨T, _, hT, rfl⟩, .inr ⟨rfl, T, _, _, rfl, rfl, .inl upd_same, .cons (by rw [Nat.zero_add]; exact .int _) (.cons h3 .nil)⟩⟩
theorem walk_enT {Hf : Hp} {l : Addr} {xs : List V} {ds : List D} (h : Rd Hf l (.tup xs)) (p : RpAll Hf xs ds) : Walk false (IteT l) Hf (enumFrom 0 ds) := by
  refine ⟨fun i H hi sm => ?_, fun H sm => ⟨xs, rd_mono sm h, by rw [p.len, enum_len]; exact Nat.le_refl _⟩, fun i d H x H' hd sm hy => ?_⟩
  · rw [enum_len] at hi
    obtain ⟨y, h1, h2⟩ := p.get (List.getElem?_eq_getElem hi)
    exact ⟨xs, y, rd_mono sm h, h1⟩
  · obtain ⟨T, y, rfl, hT, rfl, hy⟩ := hy
    obtain ⟨z, h1, rfl⟩ := enum_get _ _ _ _ hd
    obtain ⟨w, h2, h3⟩ := p.get h1
    have := hy xs (rd_mono sm h)
    rw [h2] at this; cases this
    exact ⟨.inr ⟨T, _, hT, rfl⟩, .inr ⟨rfl, T, _, _, rfl, rfl, .inl upd_same, .cons (by rw [Nat.zero_add]; exact .int _) (.cons h3 .nil)⟩⟩
theorem enm_I {f : En → R (D × En)} {p tpos : Pos} {elts : List Expr} {kk : Nat} (hg : Gl X "enumerate") (hm : X.mg "enumerate" = none) (hs : starEach [e] X.env = [(false, eval e X.env)]) (h : PE X e (tE f)) :
    PI X (.Tuple elts kk tpos) (.Call (.Name "enumerate" p) [e] [] pos) (tI false fun v => (f v).bind fun x => (seqOf x.1).map fun ds => (enumFrom 0 ds, x.2)) :=
  ⟨fun pins s σ H R I ⟨io, Hf, C, v, ds, v', r, e, k⟩ => by
    obtain ⟨⟨d, v1⟩, e1, e⟩ := bind_ok e
    obtain ⟨ds', e2, e⟩ := map_ok e
    cases e
    cases d with
    | list xs =>
      cases ok_inj e2
      refine (pi_enum hg hm (pa_cons h pa_nil hs) hs).run pins s σ H R I ⟨io, Hf, C, v, _, _, r, e1, fun x H' Hf' r' s' p => ?_⟩
      cases p with
      | lst hr q => exact ⟨_, _, rfl, rd_seqL (rd_mono r'.le hr), k _ _ Hf' r' s' (walk_enL hr q)⟩
    | tuple xs =>
      cases ok_inj e2
      refine (pi_enumT hg hm (pa_cons h pa_nil hs) hs).run pins s σ H R I ⟨io, Hf, C, v, _, _, r, e1, fun x H' Hf' r' s' p => ?_⟩
      cases p with
      | tup hr n q => exact ⟨_, _, rfl, .inr ⟨_, r'.le _ _ hr⟩, k _ _ Hf' r' s' (walk_enT (.inr ⟨_, hr⟩) q)⟩
    | _ => cases e2⟩
theorem zip_get : ∀ (xs ys : List D) (i : Nat) (d : D), (zipD xs ys)[i]? = some d → ∃ x y, xs[i]? = some x ∧ ys[i]? = some y ∧ d = .tuple [x, y]
  | [], _, _, _, h => by simp [zipD] at h
  | _ :: _, [], _, _, h => by simp [zipD] at h
  | x :: xs, y :: ys, 0, d, h => by
    simp [zipD] at h
    exact ⟨x, y, rfl, rfl, h.symm⟩
  | x :: xs, y :: ys, i + 1, d, h => by
    simp only [zipD, List.getElem?_cons_succ] at h
    obtain ⟨x', y', h1, h2, h3⟩ := zip_get xs ys i d h
    exact ⟨x', y', by simpa using h1, by simpa using h2, h3⟩
theorem zip_len : ∀ (xs ys : List D), (zipD xs ys).length = min xs.length ys.length
  | [], _ => by simp [zipD]
  | _ :: _, [] => by simp [zipD]
  | x :: xs, y :: ys => by simp [zipD, zip_len xs ys]
theorem walk_zpL {K : PySem.W.Frag} {Hf : Hp} {l m : Addr} {xs ys : List V} {ds es : List D} (h : Rd Hf l (.lst xs)) (p : RpAll Hf xs ds) (h' : Rd Hf m (.lst ys)) (p' : RpAll Hf ys es) : Walk false (Itz K l m) Hf (zipD ds es) := by
  refine ⟨fun i H hi sm => ?_, fun H sm => ⟨xs, ys, rd_seqL (rd_mono sm h), rd_seqL (rd_mono sm h'), by rw [p.len, p'.len, zip_len]; omega⟩, fun i d H x H' hd sm hy => ?_⟩
  · rw [zip_len] at hi
    obtain ⟨y, h1, h2⟩ := p.get (List.getElem?_eq_getElem (show i < ds.length by omega))
    obtain ⟨z, h3, h4⟩ := p'.get (List.getElem?_eq_getElem (show i < es.length by omega))
    exact ⟨xs, ys, y, z, rd_seqL (rd_mono sm h), rd_seqL (rd_mono sm h'), h1, h3⟩
  · obtain ⟨T, y, z, rfl, hT, rfl, hy, hz⟩ := hy
    obtain ⟨dx, dy, h1, h2, rfl⟩ := zip_get _ _ _ _ hd
    obtain ⟨w, g2, g3⟩ := p.get h1
    obtain ⟨w', g4, g5⟩ := p'.get h2
    have := hy xs (rd_seqL (rd_mono sm h))
    rw [g2] at this; cases this
    have := hz ys (rd_seqL (rd_mono sm h'))
    rw [g4] at this; cases this
    exact ⟨.inr ⟨T, _, hT, rfl⟩, .inr ⟨rfl, T, _, _, rfl, rfl, .inl upd_same, .cons g3 (.cons g5 .nil)⟩⟩
theorem walk_zpT {K : PySem.W.Frag} {Hf : Hp} {l m : Addr} {xs ys : List V} {ds es : List D} (h : Rd Hf l (.tup xs)) (p : RpAll Hf xs ds) (h' : Rd Hf m (.tup ys)) (p' : RpAll Hf ys es) : Walk false (RZ.ItzT K l m) Hf (zipD ds es) := by
  refine ⟨fun i H hi sm => ?_, fun H sm => ⟨xs, ys, rd_seqT (rd_mono sm h), rd_seqT (rd_mono sm h'), by rw [p.len, p'.len, zip_len]; omega⟩, fun i d H x H' hd sm hy => ?_⟩
  · rw [zip_len] at hi
    obtain ⟨y, h1, h2⟩ := p.get (List.getElem?_eq_getElem (show i < ds.length by omega))
    obtain ⟨z, h3, h4⟩ := p'.get (List.getElem?_eq_getElem (show i < es.length by omega))
    exact ⟨xs, ys, y, z, rd_seqT (rd_mono sm h), rd_seqT (rd_mono sm h'), h1, h3⟩
  · obtain ⟨T, y, z, rfl, hT, rfl, hy, hz⟩ := hy
    obtain ⟨dx, dy, h1, h2, rfl⟩ := zip_get _ _ _ _ hd
    obtain ⟨w, g2, g3⟩ := p.get h1
    obtain ⟨w', g4, g5⟩ := p'.get h2
    have := hy xs (rd_seqT (rd_mono sm h))
    rw [g2] at this; cases this
    have := hz ys (rd_seqT (rd_mono sm h'))
    rw [g4] at this; cases this
    exact ⟨.inr ⟨T, _, hT, rfl⟩, .inr ⟨rfl, T, _, _, rfl, rfl, .inl upd_same, .cons g3 (.cons g5 .nil)⟩⟩
theorem walk_zpM {K : PySem.W.Frag} {Hf : Hp} {l m : Addr} {xs ys : List V} {ds es : List D} (h : Rd Hf l (.tup xs)) (p : RpAll Hf xs ds) (h' : Rd Hf m (.lst ys)) (p' : RpAll Hf ys es) : Walk false (ItzM K l m) Hf (zipD ds es) := by
  refine ⟨fun i H hi sm => ?_, fun H sm => ⟨xs, ys, rd_seqT (rd_mono sm h), rd_seqL (rd_mono sm h'), by rw [p.len, zip_len]; omega, by rw [p'.len, zip_len]; omega, by rw [p.len, p'.len, zip_len]; omega⟩, fun i d H x H' hd sm hy => ?_⟩
  · rw [zip_len] at hi
    obtain ⟨y, h1, h2⟩ := p.get (List.getElem?_eq_getElem (show i < ds.length by omega))
    obtain ⟨z, h3, h4⟩ := p'.get (List.getElem?_eq_getElem (show i < es.length by omega))
    exact ⟨xs, ys, y, z, rd_seqT (rd_mono sm h), rd_seqL (rd_mono sm h'), h1, h3⟩
  · obtain ⟨T, y, z, rfl, hT, rfl, hy, hz⟩ := hy
    obtain ⟨dx, dy, h1, h2, rfl⟩ := zip_get _ _ _ _ hd
    obtain ⟨w, g2, g3⟩ := p.get h1
    obtain ⟨w', g4, g5⟩ := p'.get h2
    have := hy xs (rd_seqT (rd_mono sm h))
    rw [g2] at this; cases this
    have := hz ys (rd_seqL (rd_mono sm h'))
    rw [g4] at this; cases this
    exact ⟨.inr ⟨T, _, hT, rfl⟩, .inr ⟨rfl, T, _, _, rfl, rfl, .inl upd_same, .cons g3 (.cons g5 .nil)⟩⟩
theorem walk_zpN {K : PySem.W.Frag} {Hf : Hp} {l m : Addr} {xs ys : List V} {ds es : List D} (h : Rd Hf l (.lst xs)) (p : RpAll Hf xs ds) (h' : Rd Hf m (.tup ys)) (p' : RpAll Hf ys es) : Walk false (ItzN K l m) Hf (zipD ds es) := by
  refine ⟨fun i H hi sm => ?_, fun H sm => ⟨xs, ys, rd_seqL (rd_mono sm h), rd_seqT (rd_mono sm h'), by rw [p.len, zip_len]; omega, by rw [p'.len, zip_len]; omega, by rw [p.len, p'.len, zip_len]; omega⟩, fun i d H x H' hd sm hy => ?_⟩
  · rw [zip_len] at hi
    obtain ⟨y, h1, h2⟩ := p.get (List.getElem?_eq_getElem (show i < ds.length by omega))
    obtain ⟨z, h3, h4⟩ := p'.get (List.getElem?_eq_getElem (show i < es.length by omega))
    exact ⟨xs, ys, y, z, rd_seqL (rd_mono sm h), rd_seqT (rd_mono sm h'), h1, h3⟩
  · obtain ⟨T, y, z, rfl, hT, rfl, hy, hz⟩ := hy
    obtain ⟨dx, dy, h1, h2, rfl⟩ := zip_get _ _ _ _ hd
    obtain ⟨w, g2, g3⟩ := p.get h1
    obtain ⟨w', g4, g5⟩ := p'.get h2
    have := hy xs (rd_seqL (rd_mono sm h))
    rw [g2] at this; cases this
    have := hz ys (rd_seqT (rd_mono sm h'))
    rw [g4] at this; cases this
    exact ⟨.inr ⟨T, _, hT, rfl⟩, .inr ⟨rfl, T, _, _, rfl, rfl, .inl upd_same, .cons g3 (.cons g5 .nil)⟩⟩
theorem zip_I {f g : En → R (D × En)} {p tpos : Pos} {elts : List Expr} {kk : Nat} (hg : Gl X "zip") (hm : X.mg "zip" = none) (hs : starEach [a, b] X.env = (false, eval a X.env) :: starEach [b] X.env) (hs2 : starEach [b] X.env = (false, eval b X.env) :: starEach [] X.env) (ha : PE X a (tE f)) (hb : PE X b (tE g)) :
    PI X (.Tuple elts kk tpos) (.Call (.Name "zip" p) [a, b] [] pos) (tI false fun v => (f v).bind fun x => (g x.2).bind fun y => (zipOf x.1 y.1).map fun ds => (ds, y.2)) :=
  ⟨fun pins s σ H R I ⟨io, Hf, C, v, ds, v', r, e, k⟩ => by
    obtain ⟨⟨d, v1⟩, e1, e⟩ := bind_ok e
    obtain ⟨⟨d2, v2⟩, e2, e⟩ := bind_ok e
    obtain ⟨ds', e3, e⟩ := map_ok e
    cases e
    cases d with
    | list xs =>
      cases d2 with
      | list ys =>
        cases ok_inj e3
        refine (RZ.pi_zipA hg hm (pa_cons ha (pa_cons hb pa_nil hs2) hs) hs (by rw [hs2]; rfl)).run pins s σ H R I ⟨io, Hf, C, v, _, _, r, e1, fun x H1 Hf1 r1 s1 p1 => ⟨io, Hf1, C, v1, _, _, r1, e2, fun y H2 Hf2 r2 s2 p2 => ?_⟩⟩
        have p1 := rp_mono s2 p1
        cases p1 with
        | lst hr q =>
          cases p2 with
          | lst hr' q' => exact ⟨_, _, _, _, rfl, .inl ⟨rd_seqL (rd_mono r2.le hr), rd_seqL (rd_mono r2.le hr'), k _ _ Hf2 r2 (s1.trans s2) (walk_zpL hr q hr' q')⟩⟩
      | tuple ys =>
        cases ok_inj e3
        refine (pi_zipN hg hm (pa_cons ha (pa_cons hb pa_nil hs2) hs) hs (by rw [hs2]; rfl)).run pins s σ H R I ⟨io, Hf, C, v, _, _, r, e1, fun x H1 Hf1 r1 s1 p1 => ⟨io, Hf1, C, v1, _, _, r1, e2, fun y H2 Hf2 r2 s2 p2 => ?_⟩⟩
        have p1 := rp_mono s2 p1
        cases p1 with
        | lst hr q =>
          cases p2 with
          | tup hr' n' q' => exact ⟨_, _, _, _, rfl, rd_seqL (rd_mono r2.le hr), rd_seqT (.inr ⟨_, r2.le _ _ hr'⟩), k _ _ Hf2 r2 (s1.trans s2) (walk_zpN hr q (.inr ⟨_, hr'⟩) q')⟩
      | _ => cases e3
    | tuple xs =>
      cases d2 with
      | tuple ys =>
        cases ok_inj e3
        refine (RZ.pi_zipA hg hm (pa_cons ha (pa_cons hb pa_nil hs2) hs) hs (by rw [hs2]; rfl)).run pins s σ H R I ⟨io, Hf, C, v, _, _, r, e1, fun x H1 Hf1 r1 s1 p1 => ⟨io, Hf1, C, v1, _, _, r1, e2, fun y H2 Hf2 r2 s2 p2 => ?_⟩⟩
        have p1 := rp_mono s2 p1
        cases p1 with
        | tup hr n q =>
          cases p2 with
          | tup hr' n' q' => exact ⟨_, _, _, _, rfl, .inr ⟨rd_seqT (.inr ⟨_, r2.le _ _ hr⟩), rd_seqT (.inr ⟨_, r2.le _ _ hr'⟩), k _ _ Hf2 r2 (s1.trans s2) (walk_zpT (.inr ⟨_, hr⟩) q (.inr ⟨_, hr'⟩) q')⟩⟩
      | list ys =>
        cases ok_inj e3
        refine (pi_zipM hg hm (pa_cons ha (pa_cons hb pa_nil hs2) hs) hs (by rw [hs2]; rfl)).run pins s σ H R I ⟨io, Hf, C, v, _, _, r, e1, fun x H1 Hf1 r1 s1 p1 => ⟨io, Hf1, C, v1, _, _, r1, e2, fun y H2 Hf2 r2 s2 p2 => ?_⟩⟩
        have p1 := rp_mono s2 p1
        cases p1 with
        | tup hr n q =>
          cases p2 with
          | lst hr' q' => exact ⟨_, _, _, _, rfl, rd_seqT (.inr ⟨_, r2.le _ _ hr⟩), rd_seqL (rd_mono r2.le hr'), k _ _ Hf2 r2 (s1.trans s2) (walk_zpM (.inr ⟨_, hr⟩) q hr' q')⟩
      | _ => cases e3
    | _ => cases d2 <;> cases e3⟩
end
end Lp

set_option Elab.async false
set_option linter.all false
set_option autoImplicit false
set_option maxRecDepth 100000
set_option maxHeartbeats 4000000
namespace Lp
open PySem PySem.Spec L2
theorem wipe_in {σ : L2.St} {i : Nat} : ∀ {vs : List Nat}, i ∈ vs → (L2.wipe σ vs)[i]? = if i < σ.length then some none else none
  | [], h => by cases h
  | j :: vs, h => by
    unfold L2.wipe
    by_cases e : i = j
    · subst e
      rw [List.getElem?_set]
      simp [L2.wipe_length]
    · rw [List.getElem?_set_ne (Ne.symm e)]
      rcases List.mem_cons.mp h with q | q
      · exact absurd q e
      · exact wipe_in q
theorem wipe_eq {σ τ : L2.St} {vs : List Nat} (hl : σ.length = τ.length) (h : ∀ i, i ∉ vs → σ[i]? = τ[i]?) : L2.wipe σ vs = L2.wipe τ vs := by
  apply List.ext_getElem?
  intro i
  by_cases e : i ∈ vs
  · rw [wipe_in e, wipe_in e, hl]
  · rw [wipe_at e, wipe_at e, h i e]
theorem wipe_wipe (σ : L2.St) (vs : List Nat) : L2.wipe (L2.wipe σ vs) vs = L2.wipe σ vs := wipe_eq (L2.wipe_length _ _) fun i h => wipe_at h
section
variable {io : Option Addr} {Hf C : Hp} {σ : L2.St} {H : Hp} {v : En}
/-- a new object, kept -/
theorem Rel.hold (r : Rel io Hf C σ H v) {p : Addr} {o : HO} (hp : H p = none) : Rel io Hf (upd C p o) σ (upd H p o) v := by
  have hf : Hf p = none := r.le.free hp
  have hc : C p = none := r.lc.free hp
  have ne : ∀ {a : Addr} {u : HO}, H a = some u → a ≠ p := fun h => ne_of_none h hp
  refine ⟨fun b u e => ?_, fun b u e => ?_, fun a => ?_, fun i => ?_, r.inj, r.ioj, r.len, fun a e => upd_some (r.ioh a e)⟩
  · rw [upd_ne (ne_of_none e hf)]; exact r.le _ _ e
  · by_cases hb : b = p
    · subst hb; rw [upd_same] at e ⊢; exact e
    · rw [upd_ne hb] at e ⊢; exact r.lc _ _ e
  · by_cases hb : a = p
    · subst hb; exact .inl hf
    · rw [upd_ne hb]; exact r.ap a
  · have si := r.sl i
    cases w : v.at i with
    | un => trivial
    | fz d => rw [w] at si; exact si
    | ow d => rw [w] at si; obtain ⟨a, o', q1, q2, q3, q4, q5, q6⟩ := si; exact ⟨a, o', q1, q2, q3, by rw [upd_ne (ne q5)]; exact q4, by rw [upd_ne (ne q5)]; exact q5, q6⟩
    | io d => rw [w] at si; obtain ⟨a, o', q1, q2, q3, q4, q5, q6⟩ := si; exact ⟨a, o', q1, q2, q3, by rw [upd_ne (ne q5)]; exact q4, by rw [upd_ne (ne q5)]; exact q5, q6⟩
/-- the kept object changed -/
theorem Rel.rehold {p : Addr} {o o' : HO} (r : Rel io Hf (upd C p o) σ H v) : Rel io Hf (upd C p o') σ (upd H p o') v := by
  have hp : H p = some o := r.lc _ _ upd_same
  have hf : Hf p = none := by
    rcases r.ap p with q | q
    · exact q
    · rw [upd_same] at q; cases q
  have nc : ∀ {a : Addr}, upd C p o a = none → a ≠ p ∧ upd C p o' a = none := fun {a} h => by
    have ha : a ≠ p := fun z => by subst z; rw [upd_same] at h; cases h
    exact ⟨ha, by rw [upd_ne ha] at h ⊢; exact h⟩
  refine ⟨fun b u e => ?_, fun b u e => ?_, fun a => ?_, fun i => ?_, r.inj, r.ioj, r.len, fun a e => upd_some (r.ioh a e)⟩
  · rw [upd_ne (ne_of_none e hf)]; exact r.le _ _ e
  · by_cases hb : b = p
    · subst hb; rw [upd_same] at e ⊢; exact e
    · rw [upd_ne hb] at e ⊢; exact r.lc _ _ (by rw [upd_ne hb]; exact e)
  · rcases r.ap a with q | q
    · exact .inl q
    · exact .inr (nc q).2
  · have si := r.sl i
    cases w : v.at i with
    | un => trivial
    | fz d => rw [w] at si; exact si
    | ow d => rw [w] at si; obtain ⟨a, o', q1, q2, q3, q4, q5, q6⟩ := si; exact ⟨a, o', q1, q2, q3, (nc q4).2, by rw [upd_ne (nc q4).1]; exact q5, q6⟩
    | io d => rw [w] at si; obtain ⟨a, o', q1, q2, q3, q4, q5, q6⟩ := si; exact ⟨a, o', q1, q2, q3, (nc q4).2, by rw [upd_ne (nc q4).1]; exact q5, q6⟩
/-- the heap grew by an item -/
theorem Rel.grown (r : Rel io Hf C σ H v) {H' : Hp} (h : H' = H ∨ ∃ p u, H p = none ∧ H' = upd H p u) : Rel io Hf C σ H' v := by
  rcases h with rfl | ⟨p, u, hp, rfl⟩
  · exact r
  · exact r.more hp
/-- the kept object is nobody's, behind the block -/
theorem free_back {v0 : En} {is : List Nat} {p : Addr} {o : HO} {H0 : Hp} {Hf1 : Hp} (r0 : Rel io Hf1 C σ H0 v0) (hp : H0 p = none) (ok : okBack v0 is = true) (r : Rel io Hf (upd C p o) (L2.wipe σ is) H (wipeE v is)) : Free io Hf C σ (backE v0 v is) p := by
  have hl : v.length = v0.length := by
    have h1 := r.len
    rw [wipeE_len, L2.wipe_length] at h1
    rw [h1, r0.len]
  refine ⟨?_, r0.lc.free hp, fun e => r0.ioh p e hp, fun i hi e => ?_⟩
  · rcases r.ap p with q | q
    · exact q
    · rw [upd_same] at q; cases q
  · by_cases hm : i ∈ is
    · rw [backE_in v0 v hl hm] at hi
      rcases okBack_at ok hm with q | ⟨d, q⟩ <;> rw [q] at hi <;> rcases hi with z | z <;> cases z
    · rw [backE_out v0 v hm] at hi
      have si := r.sl i
      rw [wipeE_out v hm] at si
      cases w : v.at i with
      | un => rw [w] at hi; rcases hi with z | z <;> cases z
      | fz d => rw [w] at hi; rcases hi with z | z <;> cases z
      | ow d => rw [w] at si; obtain ⟨a, o', q1, q2, q3, q4, q5, q6⟩ := si; rw [wipe_at hm, e] at q1; cases q1; rw [upd_same] at q4; cases q4
      | io d => rw [w] at si; obtain ⟨a, o', q1, q2, q3, q4, q5, q6⟩ := si; rw [wipe_at hm, e] at q1; cases q1; rw [upd_same] at q4; cases q4
end
theorem yv_mono {pl : Bool} {Hf Hf' H : Hp} {x : V} {d : D} (s : Same Hf Hf') (h : YV pl Hf H x d) : YV pl Hf' H x d := by
  rcases h with h | ⟨h0, a, xs, ds, h1, h2, h3, h4⟩
  · exact .inl (rp_mono s h)
  · exact .inr ⟨h0, a, xs, ds, h1, h2, h3, rpAll_mono s h4⟩

/-! ### list comprehensions -/
def turnF (t : Tg) (gc : En → R (Bool × En)) (fe : En → R (D × En)) (d : D) (v1 : En) : R (Option D × En) :=
  (asgT t d (wipeE v1 t.own)).bind fun v2 => (gc v2).bind fun b => match b.1 with
      | true => (fe b.2).map fun y => (some y.1, y.2)
      | false => .ok (none, b.2)
def compF (fi : En → R (List D × En)) (t : Tg) (gc : En → R (Bool × En)) (fe : En → R (D × En)) (v : En) : R (D × En) :=
  (fi v).bind fun x => gd (okBack x.2 t.own) ((mapE (turnF t gc fe) x.1 x.2).bind fun r => gd (decide (r.1.length ≤ lim)) (.ok (.list r.1, backE x.2 r.2 t.own)))
section
variable {X : Cx} {a b c e : Expr} {pos : Pos}
abbrev BlkX (X : Cx) (scope : Scope) (P : Cx → Prop) : Prop := ∀ (s : Shared) (H : Hp) (C : Addr) (cl : List (Str × Addr)) (fp : List Addr), P (X.blk s H scope (compEnvC scope cl C X.env) fp)
theorem comp_imp {fi : En → R (List D × En)} {t : Tg} {gc : En → R (Bool × En)} {fe : En → R (D × En)} {pl : Bool} (hpl : isNm t = true → pl = true) (σ : L2.St) (H : Hp) (Q : VK) (h : tN (compF fi t gc fe) σ H Q) : tLc (tI pl fi) (tG t) (tT gc) (tE fe) t.own σ H Q := by
  obtain ⟨io, Hf, C, v, d, v', r, e, k⟩ := h
  obtain ⟨⟨ds, v1⟩, e1, e⟩ := bind_ok e
  obtain ⟨okb, e⟩ := gd_ok e
  obtain ⟨⟨rest, vE⟩, e2, e⟩ := bind_ok e
  obtain ⟨hlen, e⟩ := gd_ok e
  cases ok_inj e
  have hlen := of_decide_eq_true hlen
  refine ⟨io, Hf, C, v, ds, v1, r, e1, fun J H1 Hf1 r1 s1 wk D hD => ?_⟩
  refine ⟨fun i m H => m = ds.length - i ∧ i ≤ ds.length ∧ ∃ Hf2 acc accD vc rest', Rel io Hf2 (upd C D (.lst acc)) (L2.wipe σ t.own) H (wipeE vc t.own) ∧ Same Hf1 Hf2 ∧ RpAll Hf2 acc accD ∧ mapE (turnF t gc fe) (ds.drop i) vc = .ok (rest', vE) ∧ accD ++ rest' = rest,
    ⟨ds.length, by simp, Nat.zero_le _, Hf1, [], [], v1, rest, (r1.hold hD).wiped t.own, Same.refl _, .nil, e2, rfl⟩, ?_⟩
  rintro i m H ⟨rfl, hi, Hf2, acc, accD, vc, rest', r2, s2, pa, em, er⟩
  by_cases hlt : i < ds.length
  · have hd : ds[i]? = some ds[i] := List.getElem?_eq_getElem hlt
    have hdrop : ds.drop i = ds[i] :: ds.drop (i + 1) := List.drop_eq_getElem_cons hlt
    rw [hdrop] at em
    obtain ⟨⟨o, vd⟩, e3, em⟩ := bind_ok em
    obtain ⟨⟨q, vE'⟩, e4, e5⟩ := map_ok em
    cases e5
    obtain ⟨va, e6, e3⟩ := bind_ok e3
    obtain ⟨⟨bb, vb⟩, e7, e3⟩ := bind_ok e3
    refine .inr ⟨wk.go i H hlt (s2.trans r2.le), fun H' => i + 1 ≤ ds.length ∧ ∃ Hf2 acc accD vc rest', Rel io Hf2 (upd C D (.lst acc)) (L2.wipe σ t.own) H' (wipeE vc t.own) ∧ Same Hf1 Hf2 ∧ RpAll Hf2 acc accD ∧ mapE (turnF t gc fe) (ds.drop (i + 1)) vc = .ok (rest', vE') ∧ accD ++ rest' = rest,
      fun H' ⟨h1, h2⟩ => ⟨ds.length - (i + 1), by omega, rfl, h1, h2⟩, fun x H' hy => ?_⟩
    obtain ⟨hg, yv⟩ := wk.yld i _ H x H' hd (s2.trans r2.le) hy
    refine ⟨io, Hf2, upd C D (.lst acc), wipeE vc t.own, _, va, pl, r2.grown hg, yv_mono s2 yv, hpl, e6, fun σ' r3 wc => ?_⟩
    have hw : L2.wipe σ' t.own = L2.wipe σ t.own := (wc t.own fun i h => h).trans (wipe_wipe σ _)
    refine ⟨hw, io, Hf2, upd C D (.lst acc), va, bb, vb, r3, e7, fun H4 Hf4 r4 s4 => ?_⟩
    cases bb with
    | true =>
      obtain ⟨⟨yd, vf⟩, e8, e9⟩ := map_ok e3
      cases e9
      refine ⟨io, Hf4, upd C D (.lst acc), vb, yd, _, r4, e8, fun y H5 Hf5 r5 s5 p5 => ⟨acc, r5.lc _ _ upd_same, ?_, hlt, Hf5, acc ++ [y], accD ++ [yd], _, q, ?_, (s2.trans s4).trans s5, (rpAll_mono (s4.trans s5) pa).app (.cons p5 .nil), e4, ?_⟩⟩
      · rw [pa.len, ← lim_eq]
        have : (accD ++ yd :: q).length ≤ lim := by rw [er]; exact hlen
        simp at this
        omega
      · have z := (Rel.rehold (o' := .lst (acc ++ [y])) r5).wiped t.own
        rw [hw] at z
        exact z
      · rw [List.append_assoc]; exact er
    | false =>
      cases ok_inj e3
      refine ⟨hlt, Hf4, acc, accD, _, q, ?_, s2.trans s4, rpAll_mono s4 pa, e4, er⟩
      have z := r4.wiped t.own
      rw [hw] at z
      exact z
  · have hi' : i = ds.length := by omega
    subst hi'
    rw [List.drop_length] at em
    cases ok_inj em
    rw [List.append_nil] at er
    subst er
    refine .inl ⟨wk.stop H (s2.trans r2.le), k (.ref D) H Hf2 (Rel.back r1 s2 okb (fun b u eb => ?_) r2) (s1.trans s2) (.inr ⟨D, .lst acc, rfl, r2.lc _ _ upd_same, .lst pa, free_back r1 hD okb r2⟩)⟩
    rw [upd_ne (ne_of_none eb (r1.lc.free hD))]
    exact eb
theorem comp_N {tg iter : Expr} {ifs : List Expr} {elt : Expr} {scope : Scope} {own : List (Str × Nat)} {fi : En → R (List D × En)} {t : Tg} {gc : En → R (Bool × En)} {fe : En → R (D × En)} {pl : Bool} (hc : X.calm = true) (hN : X.N.Nodup) (hpl : isNm t = true → pl = true) (ho : own.map (·.2) = t.own)
    (hi : PI X tg iter (tI pl fi)) (ok : BlkOk X.N X.env.scope scope own) (hg : BlkX X scope fun Y => PG Y tg (tG t)) (ht : BlkX X scope fun Y => PTs Y ifs (tT gc)) (he : BlkX X scope fun Y => PE Y elt (tE fe)) (hs : ∀ x, foldedSetIterable iter X.env x = pure x) :
    PE X (.ListComp elt [⟨tg, iter, ifs, 0⟩] scope pos) (tN (compF fi t gc fe)) :=
  imp_E (pe_lc hc hN hi ok hg ht he hs) fun σ H Q h => by rw [ho]; exact comp_imp hpl σ H Q h

/-! ### len({k: True for ..}) -/
theorem nubI_snoc (n : Int) : ∀ (ns acc : List Int), nubI acc (ns ++ [n]) = if (nubI acc ns).contains n then nubI acc ns else nubI acc ns ++ [n]
  | [], acc => rfl
  | m :: r, acc => by
    simp only [List.cons_append, nubI]
    split
    · exact nubI_snoc n r acc
    · exact nubI_snoc n r (acc ++ [m])
theorem nubI_len : ∀ (ns acc : List Int), (nubI acc ns).length ≤ acc.length + ns.length
  | [], acc => by simp [nubI]
  | m :: r, acc => by
    simp only [nubI, List.length_cons]
    split
    · have := nubI_len r acc; omega
    · have := nubI_len r (acc ++ [m]); simp at this; omega
theorem putK_keys {kvs : List (Key × V)} {ks : List Int} {n : Int} {w : V} (h : kvs.map (·.1) = ks.map Sum.inl) : (putK kvs (Sum.inl n) w).map (·.1) = (if ks.contains n then ks else ks ++ [n]).map Sum.inl := by
  have ha : (kvs.any fun kv => decide (kv.1 = Sum.inl n)) = ks.contains n := by
    have h1 : (kvs.any fun kv => decide (kv.1 = Sum.inl n)) = (kvs.map (·.1)).any fun k => decide (k = Sum.inl n) := by rw [List.any_map]; rfl
    rw [h1, h, List.any_map, Bool.eq_iff_iff]
    simp only [List.any_eq_true, List.contains_iff_mem, Function.comp]
    constructor
    · rintro ⟨x, hx, e⟩
      have : x = n := Sum.inl.inj (of_decide_eq_true e)
      rw [← this]; exact hx
    · intro hx
      exact ⟨n, hx, decide_eq_true rfl⟩
  unfold putK
  rw [ha]
  split
  · rename_i hh
    rw [List.map_map, ← h]
    apply List.map_congr_left
    intro kv _
    simp only [Function.comp]
    split
    · rfl
    · rfl
  · rename_i hh
    simp [h]
def distF (fi : En → R (List D × En)) (t : Tg) (fe : En → R (D × En)) (v : En) : R (D × En) :=
  (fi v).bind fun x => gd (okBack x.2 t.own) ((mapE (fun d v1 => (asgT t d (wipeE v1 t.own)).bind fun v2 => (fe v2).map fun y => (some y.1, y.2)) x.1 x.2).bind fun r =>
    (ofO (intsD r.1)).bind fun ns => gd (decide (r.1.length ≤ lim)) (.ok (.int (nubI [] ns).length, backE x.2 r.2 t.own)))
theorem intsD_cons {y : D} {q : List D} {ns : List Int} (h : intsD (y :: q) = some ns) : ∃ n ms, y = .int n ∧ intsD q = some ms ∧ ns = n :: ms := by
  cases y with
  | int n =>
    unfold intsD at h
    obtain ⟨ms, h1, h2⟩ := Option.map_eq_some_iff.mp h
    exact ⟨n, ms, rfl, h1, h2.symm⟩
  | _ => cases h
theorem dist_imp {fi : En → R (List D × En)} {t : Tg} {fe : En → R (D × En)} {pl : Bool} (hpl : isNm t = true → pl = true) (σ : L2.St) (H : Hp) (Q : VK) (h : tE (distF fi t fe) σ H Q) :
    tCB (fun xs H Q => ∃ a kvs, xs = [V.ref a] ∧ H a = some (.dK kvs) ∧ Q (.int kvs.length) H) (tCons (tDc (tI pl fi) (tG t) tYes (tE fe) (tC (.bl true)) t.own) tNil) σ H Q := by
  obtain ⟨io, Hf, C, v, d, v', r, e, k⟩ := h
  obtain ⟨⟨ds, v1⟩, e1, e⟩ := bind_ok e
  obtain ⟨okb, e⟩ := gd_ok e
  obtain ⟨⟨rest, vE⟩, e2, e⟩ := bind_ok e
  obtain ⟨ns, e0, e⟩ := bind_ok e
  obtain ⟨hlen, e⟩ := gd_ok e
  have e0 := ofO_ok e0
  cases ok_inj e
  have hlen := of_decide_eq_true hlen
  refine ⟨io, Hf, C, v, ds, v1, r, e1, fun J H1 Hf1 r1 s1 wk D hD => ?_⟩
  refine ⟨fun i m H => m = ds.length - i ∧ i ≤ ds.length ∧ ∃ Hf2 kvs vc rest' ms ms', Rel io Hf2 (upd C D (.dK kvs)) (L2.wipe σ t.own) H (wipeE vc t.own) ∧ Same Hf1 Hf2 ∧ kvs.map (·.1) = (nubI [] ms).map Sum.inl ∧ mapE (fun d v1 => (asgT t d (wipeE v1 t.own)).bind fun v2 => (fe v2).map fun y => (some y.1, y.2)) (ds.drop i) vc = .ok (rest', vE) ∧ intsD rest' = some ms' ∧ ms ++ ms' = ns ∧ ms.length + rest'.length ≤ lim,
    ⟨ds.length, by simp, Nat.zero_le _, Hf1, [], v1, rest, [], ns, (r1.hold hD).wiped t.own, Same.refl _, rfl, e2, e0, rfl, by simpa using hlen⟩, ?_⟩
  rintro i m H ⟨rfl, hi, Hf2, kvs, vc, rest', ms, ms', r2, s2, hk, em, ei, es, hl⟩
  by_cases hlt : i < ds.length
  · have hd : ds[i]? = some ds[i] := List.getElem?_eq_getElem hlt
    have hdrop : ds.drop i = ds[i] :: ds.drop (i + 1) := List.drop_eq_getElem_cons hlt
    rw [hdrop] at em
    obtain ⟨⟨o, vd⟩, e3, em⟩ := bind_ok em
    obtain ⟨⟨q, vE'⟩, e4, e5⟩ := map_ok em
    obtain ⟨va, e6, e3⟩ := bind_ok e3
    obtain ⟨⟨yd, vf⟩, e8, e9⟩ := map_ok e3
    cases e9
    cases e5
    obtain ⟨n, ms2, rfl, h1, rfl⟩ := intsD_cons ei
    refine .inr ⟨wk.go i H hlt (s2.trans r2.le), fun H' => i + 1 ≤ ds.length ∧ ∃ Hf2 kvs vc rest' ms ms', Rel io Hf2 (upd C D (.dK kvs)) (L2.wipe σ t.own) H' (wipeE vc t.own) ∧ Same Hf1 Hf2 ∧ kvs.map (·.1) = (nubI [] ms).map Sum.inl ∧ mapE (fun d v1 => (asgT t d (wipeE v1 t.own)).bind fun v2 => (fe v2).map fun y => (some y.1, y.2)) (ds.drop (i + 1)) vc = .ok (rest', vE') ∧ intsD rest' = some ms' ∧ ms ++ ms' = ns ∧ ms.length + rest'.length ≤ lim,
      fun H' ⟨h1, h2⟩ => ⟨ds.length - (i + 1), by omega, rfl, h1, h2⟩, fun x H' hy => ?_⟩
    obtain ⟨hg, yv⟩ := wk.yld i _ H x H' hd (s2.trans r2.le) hy
    refine ⟨io, Hf2, upd C D (.dK kvs), wipeE vc t.own, _, va, pl, r2.grown hg, yv_mono s2 yv, hpl, e6, fun σ' r3 wc => ?_⟩
    have hw : L2.wipe σ' t.own = L2.wipe σ t.own := (wc t.own fun i h => h).trans (wipe_wipe σ _)
    refine ⟨hw, ?_⟩
    refine ⟨io, Hf2, upd C D (.dK kvs), va, .int n, vf, r3, e8, fun y H5 Hf5 r5 s5 p5 => ⟨kvs, Sum.inl n, int_of p5, r5.lc _ _ upd_same, ?_, hlt, Hf5, putK kvs (Sum.inl n) (.bl true), vf, q, ms ++ [n], ms2, ?_, s2.trans s5, ?_, e4, h1, by rw [List.append_assoc]; exact es, ?_⟩⟩
    · have h2 : kvs.length = (nubI [] ms).length := by
        have := congrArg List.length hk
        simpa using this
      have h3 := nubI_len ms []
      simp only [List.length_cons, List.length_nil] at hl h3
      rw [← lim_eq]
      omega
    · have z := (Rel.rehold (o' := .dK (putK kvs (Sum.inl n) (.bl true))) r5).wiped t.own
      rw [hw] at z
      exact z
    · rw [nubI_snoc]; exact putK_keys hk
    · simp only [List.length_append, List.length_cons, List.length_nil] at hl ⊢; omega
  · have hi' : i = ds.length := by omega
    subst hi'
    rw [List.drop_length] at em
    cases ok_inj em
    cases ei
    rw [List.append_nil] at es
    subst es
    have h2 : kvs.length = (nubI [] ms).length := by
      have := congrArg List.length hk
      simpa using this
    refine .inl ⟨wk.stop H (s2.trans r2.le), D, kvs, rfl, r2.lc _ _ upd_same, ?_⟩
    rw [h2]
    refine k _ H Hf2 (Rel.back r1 s2 okb (fun b u eb => ?_) r2) (s1.trans s2) (.int _)
    rw [upd_ne (ne_of_none eb (r1.lc.free hD))]
    exact eb
theorem dist_E {tg iter : Expr} {elt : Expr} {scope : Scope} {own : List (Str × Nat)} {fi : En → R (List D × En)} {t : Tg} {fe : En → R (D × En)} {pl : Bool} {p pos2 p3 : Pos} {k3 : Nat} (hg0 : Gl X "len") (hm0 : X.mg "len" = none) (hc : X.calm = true) (hN : X.N.Nodup) (hpl : isNm t = true → pl = true) (ho : own.map (·.2) = t.own)
    (hi : PI X tg iter (tI pl fi)) (ok : BlkOk X.N X.env.scope scope own) (hg : BlkX X scope fun Y => PG Y tg (tG t)) (he : BlkX X scope fun Y => PE Y elt (tE fe)) (hs : ∀ x, foldedSetIterable iter X.env x = pure x) :
    PE X (.Call (.Name "len" p) [.DictComp elt (.Constant (.bool true) k3 p3) [⟨tg, iter, [], 0⟩] scope pos2] [] pos) (tE (distF fi t fe)) :=
  imp_E (pe_callB call_lenD hg0 hm0 boot_len (pa_cons (pe_dc hc hN hi ok hg (fun _ _ _ _ _ => pts_nil) he (fun _ _ _ _ _ => pe_bl) hs) pa_nil)) fun σ H Q h => by rw [ho]; exact dist_imp hpl σ H Q h
end
end Lp

set_option Elab.async false
set_option linter.all false
set_option autoImplicit false
set_option maxRecDepth 100000
set_option maxHeartbeats 4000000
namespace Lp
open PySem PySem.Spec L2

/-! ### readings of statements -/
def FlQ (D : Ends) (fl : Fl) (σ' : L2.St) (H' Hf' : Hp) : Prop := match fl with
  | .nx => D.nx σ' H'
  | .rt d => ∀ x, Rp Hf' x d → D.rt x H'
def tS (f : En → R (Fl × En)) : TS := fun D σ H => ∃ io Hf C v fl v', Rel io Hf C σ H v ∧ f v = .ok (fl, v') ∧ ∀ σ' H' Hf', Rel io Hf' C σ' H' v' → Same Hf Hf' → FlQ D fl σ' H' Hf'
theorem imp_S {X : Cx} {st : Stmt} {t t' : TS} (h : PS X st t) (w : ∀ D σ H, t' D σ H → t D σ H) : PS X st t' := ⟨fun pins s σ H D I q => h.run pins s σ H D I (w D σ H q)⟩
theorem imp_Ss {X : Cx} {st : List Stmt} {t t' : TS} (h : PSs X st t) (w : ∀ D σ H, t' D σ H → t D σ H) : PSs X st t' := ⟨fun pins s σ H D I q => h.run pins s σ H D I (w D σ H q)⟩
section
variable {io : Option Addr} {Hf Hf' C : Hp} {σ : L2.St} {H H' : Hp} {v : En}
/-- one's own list changed -/
theorem Rel.mutate (r : Rel io Hf C σ H v) {i : Nat} {a : Addr} {o o' : HO} {c c' : D} {s' : Sl} (hv : (v.at i = .ow c ∧ s' = .ow c') ∨ (v.at i = .io c ∧ s' = .io c')) (ha : σ[i]? = some (some (.ref a))) (ho : H a = some o) (hf : Hf a = none) (hw : Own Hf o' c') : Rel io Hf C σ (upd H a o') (v.set i s') := by
  have sm : Same Hf (upd H a o') := fun b u e => by rw [upd_ne (ne_of_none e hf)]; exact r.le _ _ e
  refine r.lent (o' := o') hv ha (Same.refl _) sm (fun b u e => ?_) (fun b => ?_) hf upd_same hw
  · unfold restOf at e
    split at e
    · rename_i q
      simp only [Bool.and_eq_true, decide_eq_true_eq] at q
      have : b ≠ a := fun z => q.2 (by rw [z])
      rw [upd_ne this]; exact e
    · cases e
  · cases q : Hf b with
    | none => exact .inl rfl
    | some u =>
      right
      unfold restOf
      rw [q]
      rfl
theorem own_slot {i : Nat} {d : D} (r : Rel io Hf C σ H v) (e : ownAt v i = .ok d) : ∃ a o, σ[i]? = some (some (.ref a)) ∧ Hf a = none ∧ H a = some o ∧ Own Hf o d ∧ (v.at i = .ow d ∨ v.at i = .io d) := by
  unfold ownAt at e
  have s := r.sl i
  split at e
  · rename_i d0 h0
    cases ok_inj e
    rw [h0] at s
    obtain ⟨a, o, h1, h2, h3, h4, h5, h6⟩ := s
    exact ⟨a, o, h1, h3, h5, h6, .inl h0⟩
  · rename_i d0 h0
    cases ok_inj e
    rw [h0] at s
    obtain ⟨a, o, h1, h2, h3, h4, h5, h6⟩ := s
    exact ⟨a, o, h1, h3, h5, h6, .inr h0⟩
  · cases e
theorem Rel.putAt {i : Nat} {d d' : D} {a : Addr} {o o' : HO} (r : Rel io Hf C σ H v) (h : v.at i = .ow d ∨ v.at i = .io d) (ha : σ[i]? = some (some (.ref a))) (ho : H a = some o) (hf : Hf a = none) (hw : Own Hf o' d') : Rel io Hf C σ (upd H a o') (putAt v i d') := by
  rcases h with h | h
  · have e : Lp.putAt v i d' = v.set i (.ow d') := by unfold Lp.putAt; rw [h]
    rw [e]; exact r.mutate (.inl ⟨h, rfl⟩) ha ho hf hw
  · have e : Lp.putAt v i d' = v.set i (.io d') := by unfold Lp.putAt; rw [h]
    rw [e]; exact r.mutate (.inr ⟨h, rfl⟩) ha ho hf hw
theorem rdy_some {i : Nat} (r : Rel io Hf C σ H v) (h : rdy (some i) v = true) : ∃ a d o, σ[i]? = some (some (.ref a)) ∧ H a = some o ∧ Own Hf o d := by
  have s := r.sl i
  cases w : v.at i with
  | ow d => rw [w] at s; obtain ⟨a, o, h1, h2, h3, h4, h5, h6⟩ := s; exact ⟨a, d, o, h1, h5, h6⟩
  | io d => rw [w] at s; obtain ⟨a, o, h1, h2, h3, h4, h5, h6⟩ := s; exact ⟨a, d, o, h1, h5, h6⟩
  | un => simp only [rdy] at h; rw [w] at h; cases h
  | fz d => simp only [rdy] at h; rw [w] at h; cases h
/-- a new list takes a slot -/
theorem Rel.setOw (r : Rel io Hf C σ H v) {i : Nat} {d : D} {p : Addr} {o : HO} {v' : En} (h : setV v i (.ow d) = .ok v') (e : H p = some o) (w : Own Hf o d) (F : Free io Hf C σ v p) : Rel io Hf C (σ.set i (some (.ref p))) H v' := by
  obtain ⟨hi, hn, rfl⟩ := setV_ok h
  have hs : i < σ.length := by rw [← r.len]; exact hi
  have ne : ∀ j, j ≠ i → (σ.set i (some (V.ref p)))[j]? = σ[j]? := fun j hj => List.getElem?_set_ne (Ne.symm hj)
  have eq : (σ.set i (some (V.ref p)))[i]? = some (some (.ref p)) := by simp [hs]
  refine ⟨r.le, r.lc, r.ap, fun j => ?_, fun j k a hj hk pj pk => ?_, fun j k hj hk => ?_, by simp [r.len], r.ioh⟩
  · by_cases hj : j = i
    · subst hj
      rw [at_set_same hi]
      exact ⟨p, o, eq, F.o, F.f, F.c, e, w⟩
    · rw [at_set_ne hj]
      have sj := r.sl j
      cases w : v.at j with
      | un => trivial
      | fz d' => rw [w] at sj; obtain ⟨y, q1, q2⟩ := sj; exact ⟨y, by rw [ne j hj]; exact q1, q2⟩
      | ow d' => rw [w] at sj; obtain ⟨a, o, q1, q2⟩ := sj; exact ⟨a, o, by rw [ne j hj]; exact q1, q2⟩
      | io d' => rw [w] at sj; obtain ⟨a, o, q1, q2⟩ := sj; exact ⟨a, o, by rw [ne j hj]; exact q1, q2⟩
  · by_cases ji : j = i
    · by_cases ki : k = i
      · rw [ji, ki]
      · subst ji
        rw [eq] at pj; cases pj
        rw [at_set_ne ki] at hk; rw [ne k ki] at pk
        exact absurd pk (F.n k (.inl hk))
    · by_cases ki : k = i
      · subst ki
        rw [eq] at pk; cases pk
        rw [at_set_ne ji] at hj; rw [ne j ji] at pj
        exact absurd pj (F.n j (.inl hj))
      · rw [at_set_ne ji] at hj; rw [at_set_ne ki] at hk; rw [ne j ji] at pj; rw [ne k ki] at pk; exact r.inj j k a hj hk pj pk
  · by_cases ji : j = i
    · subst ji; rw [at_set_same hi] at hj; cases hj
    · by_cases ki : k = i
      · subst ki; rw [at_set_same hi] at hk; cases hk
      · rw [at_set_ne ji] at hj; rw [at_set_ne ki] at hk; exact r.ioj j k hj hk
/-- what a slot is to hold: b, whether the value may be a new one's own -/
def HR (b : Bool) (io : Option Addr) (Hf C : Hp) (σ : L2.St) (H : Hp) (v : En) (x : V) (d : D) : Prop := if b = true then NewR io Hf C σ H v x d else Rp Hf x d
def heldB (b : Bool) (d : D) : Sl := if b && ownable d then .ow d else .fz d
theorem Rel.setHeld (r : Rel io Hf C σ H v) {b : Bool} {i : Nat} {d : D} {x : V} {v' : En} (h : setV v i (heldB b d) = .ok v') (q : HR b io Hf C σ H v x d) : Rel io Hf C (σ.set i (some x)) H v' := by
  cases b with
  | false => exact r.setFz h q
  | true =>
    rcases q with ⟨n, p⟩ | ⟨p, o, rfl, e, w, F⟩
    · have : heldB true d = .fz d := by unfold heldB; rw [n]; rfl
      rw [this] at h
      exact r.setFz h p
    · have on : ownable d = true := by cases w; rfl
      have : heldB true d = .ow d := by unfold heldB; rw [on]; rfl
      rw [this] at h
      exact r.setOw h e w F
/-- kept apart while other things run -/
theorem Rel.keepC (r : Rel io Hf C σ H v) {p : Addr} {o : HO} (F : Free io Hf C σ v p) (e : H p = some o) : Rel io Hf (upd C p o) σ H v := by
  refine ⟨r.le, fun b u q => ?_, fun a => ?_, fun i => ?_, r.inj, r.ioj, r.len, r.ioh⟩
  · by_cases hb : b = p
    · subst hb; rw [upd_same] at q; rw [e]; exact q
    · rw [upd_ne hb] at q; exact r.lc _ _ q
  · by_cases hb : a = p
    · subst hb; exact .inl F.f
    · rw [upd_ne hb]; exact r.ap a
  · have si := r.sl i
    cases w : v.at i with
    | un => trivial
    | fz d => rw [w] at si; exact si
    | ow d => rw [w] at si; obtain ⟨a, o', q1, q2, q3, q4, q5, q6⟩ := si; exact ⟨a, o', q1, q2, q3, by rw [upd_ne (fun z => F.n i (.inl (by rw [w]; rfl)) (by rw [← z]; exact q1))]; exact q4, q5, q6⟩
    | io d => rw [w] at si; obtain ⟨a, o', q1, q2, q3, q4, q5, q6⟩ := si; exact ⟨a, o', q1, q2, q3, by rw [upd_ne (fun z => F.n i (.inr (by rw [w]; rfl)) (by rw [← z]; exact q1))]; exact q4, q5, q6⟩
theorem Rel.dropC {p : Addr} {o : HO} (r : Rel io Hf (upd C p o) σ H v) (hc : C p = none) (hio : io ≠ some p) : Rel io Hf C σ H v ∧ Free io Hf C σ v p ∧ H p = some o := by
  have up : ∀ {a : Addr}, upd C p o a = none → a ≠ p ∧ C a = none := fun {a} h => by
    have ha : a ≠ p := fun z => by subst z; rw [upd_same] at h; cases h
    exact ⟨ha, by rw [upd_ne ha] at h; exact h⟩
  refine ⟨⟨r.le, fun b u q => r.lc _ _ (by rw [upd_ne (ne_of_none q hc)]; exact q), fun a => ?_, fun i => ?_, r.inj, r.ioj, r.len, r.ioh⟩, ⟨?_, hc, hio, fun i hi z => ?_⟩, r.lc _ _ upd_same⟩
  · rcases r.ap a with q | q
    · exact .inl q
    · exact .inr (up q).2
  · have si := r.sl i
    cases w : v.at i with
    | un => trivial
    | fz d => rw [w] at si; exact si
    | ow d => rw [w] at si; obtain ⟨a, o', q1, q2, q3, q4, q5, q6⟩ := si; exact ⟨a, o', q1, q2, q3, (up q4).2, q5, q6⟩
    | io d => rw [w] at si; obtain ⟨a, o', q1, q2, q3, q4, q5, q6⟩ := si; exact ⟨a, o', q1, q2, q3, (up q4).2, q5, q6⟩
  · rcases r.ap p with q | q
    · exact q
    · rw [upd_same] at q; cases q
  · have si := r.sl i
    cases w : v.at i with
    | un => rw [w] at hi; rcases hi with q | q <;> cases q
    | fz d => rw [w] at hi; rcases hi with q | q <;> cases q
    | ow d => rw [w] at si; obtain ⟨a, o', q1, q2, q3, q4, q5, q6⟩ := si; rw [z] at q1; cases q1; exact (up q4).1 rfl
    | io d => rw [w] at si; obtain ⟨a, o', q1, q2, q3, q4, q5, q6⟩ := si; rw [z] at q1; cases q1; exact (up q4).1 rfl
/-- several, the new ones apart -/
inductive HRs (io : Option Addr) (Hf C : Hp) (σ : L2.St) (H : Hp) (v : En) : List Bool → List V → List D → Prop
  | nil : HRs io Hf C σ H v [] [] []
  | cons {b : Bool} {bs : List Bool} {x : V} {xs : List V} {d : D} {ds : List D} : HR b io Hf C σ H v x d → HRs io Hf C σ H v bs xs ds → (b = true → ownable d = true → x ∉ xs) → HRs io Hf C σ H v (b :: bs) (x :: xs) (d :: ds)
theorem Free.set {i : Nat} {x : V} {s : Sl} {p : Addr} (F : Free io Hf C σ v p) (n : x ≠ .ref p) : Free io Hf C (σ.set i (some x)) (v.set i s) p := by
  refine ⟨F.f, F.c, F.o, fun j hj e => ?_⟩
  by_cases hi : j = i
  · subst hi
    rw [List.getElem?_set] at e
    split at e
    · split at e
      · cases e; exact n rfl
      · cases e
    · exact absurd rfl (by assumption)
  · rw [at_set_ne hi] at hj
    rw [List.getElem?_set_ne (Ne.symm hi)] at e
    exact F.n j hj e
theorem HR.set {b : Bool} {i : Nat} {x y : V} {s : Sl} {d : D} (h : HR b io Hf C σ H v y d) (n : x ≠ y) : HR b io Hf C (σ.set i (some x)) H (v.set i s) y d := by
  cases b with
  | false => exact h
  | true =>
    rcases h with h | ⟨p, o, rfl, e, w, F⟩
    · exact .inl h
    · exact .inr ⟨p, o, rfl, e, w, F.set n⟩
theorem HRs.set {i : Nat} {x : V} {s : Sl} : ∀ {bs : List Bool} {xs : List V} {ds : List D}, HRs io Hf C σ H v bs xs ds → x ∉ xs → HRs io Hf C (σ.set i (some x)) H (v.set i s) bs xs ds
  | _, _, _, .nil, _ => .nil
  | _, _, _, .cons h t n, hx => .cons (h.set fun z => hx (by rw [z]; exact List.mem_cons_self)) (HRs.set t fun z => hx (List.mem_cons_of_mem _ z)) n
/-- a value for good set into a slot leaves the new ones new -/
theorem HR.setFz {b : Bool} {i : Nat} {x y : V} {d d' : D} (h : HR b io Hf C σ H v y d) (p : Rp Hf x d') : HR b io Hf C (σ.set i (some x)) H (v.set i (.fz d')) y d := by
  cases b with
  | false => exact h
  | true =>
    rcases h with h | ⟨q, o, rfl, e, w, F⟩
    · exact .inl h
    · refine .inr ⟨q, o, rfl, e, w, F.f, F.c, F.o, fun j hj z => ?_⟩
      by_cases hi : j = i
      · subst hi
        by_cases hl : j < v.length
        · rw [at_set_same hl] at hj; rcases hj with u | u <;> cases u
        · rw [List.set_eq_of_length_le (Nat.le_of_not_lt hl)] at hj
          have : v.at j = .un := by
            unfold En.at
            simp [List.getD, List.getElem?_eq_none (Nat.le_of_not_lt hl)]
          rw [this] at hj; rcases hj with u | u <;> cases u
      · rw [at_set_ne hi] at hj
        rw [List.getElem?_set_ne (Ne.symm hi)] at z
        exact F.n j hj z
theorem HRs.setFz {i : Nat} {x : V} {d' : D} (p : Rp Hf x d') : ∀ {bs : List Bool} {xs : List V} {ds : List D}, HRs io Hf C σ H v bs xs ds → HRs io Hf C (σ.set i (some x)) H (v.set i (.fz d')) bs xs ds
  | _, _, _, .nil => .nil
  | _, _, _, .cons h t n => .cons (h.setFz p) (HRs.setFz p t) n
theorem HRs.step (r : Rel io Hf C σ H v) {b : Bool} {i : Nat} {x : V} {d : D} {bs : List Bool} {xs : List V} {ds : List D} {v' : En} (h : HRs io Hf C σ H v (b :: bs) (x :: xs) (d :: ds)) (e : setV v i (heldB b d) = .ok v') : Rel io Hf C (σ.set i (some x)) H v' ∧ HRs io Hf C (σ.set i (some x)) H v' bs xs ds := by
  cases h with
  | cons h t n =>
    refine ⟨r.setHeld e h, ?_⟩
    obtain ⟨hi, hn, rfl⟩ := setV_ok e
    cases b with
    | false => exact HRs.setFz (show Rp Hf x d from h) t
    | true =>
      by_cases on : ownable d = true
      · exact HRs.set t (n rfl on)
      · have q : heldB true d = .fz d := by unfold heldB; simp [on]
        rw [q]
        rcases h with ⟨_, h⟩ | ⟨p, o, rfl, e', w, F⟩
        · exact HRs.setFz h t
        · exact absurd (by cases w; rfl) on
end
section
variable {X : Cx} {a b c e : Expr} {pos : Pos}
def tB1 (bb : Bool) (f : En → R (D × En)) : TE := fun σ H Q => ∃ io Hf C v d v', Rel io Hf C σ H v ∧ f v = .ok (d, v') ∧ ∀ x H' Hf', Rel io Hf' C σ H' v' → Same Hf Hf' → HR bb io Hf' C σ H' v' x d → Q x H'
theorem b1_N {f : En → R (D × En)} (h : PE X e (tN f)) : PE X e (tB1 true f) := h
theorem b1_E {f : En → R (D × En)} (h : PE X e (tE f)) : PE X e (tB1 false f) := h
def tBs (bs : List Bool) (g : En → R (List D × En)) : TA := fun σ H Q => ∃ io Hf C v ds v', Rel io Hf C σ H v ∧ g v = .ok (ds, v') ∧ ∀ xs H' Hf', Rel io Hf' C σ H' v' → Same Hf Hf' → HRs io Hf' C σ H' v' bs xs ds → Q xs H'
theorem nil_B : PA X [] (tBs [] fun v => .ok ([], v)) := imp_A pa_nil fun σ H Q ⟨io, Hf, C, v, d, v', r, e, k⟩ => by
  cases ok_inj e
  exact k [] H Hf r (Same.refl _) .nil
theorem cons_B {bb : Bool} {bs : List Bool} {f : En → R (D × En)} {g : En → R (List D × En)} {es : List Expr} (hs : starEach (e :: es) X.env = (false, eval e X.env) :: starEach es X.env) (ha : PE X e (tB1 bb f)) (hb : PA X es (tBs bs g)) : PA X (e :: es) (tBs (bb :: bs) (cnsF f g)) :=
  imp_A (pa_cons ha hb hs) fun σ H Q ⟨io, Hf, C, v, d, v', r, e, k⟩ => by
    obtain ⟨⟨d1, v1⟩, e1, e⟩ := bind_ok e
    obtain ⟨⟨d2, v2⟩, e2, e⟩ := map_ok e
    cases e
    refine ⟨io, Hf, C, v, d1, _, r, e1, fun x H' Hf' r' s p => ?_⟩
    have old : (bb = true → ownable d1 = true → False) ∨ True := .inr trivial
    have plain : Rp Hf' x d1 → (bb = true → ownable d1 = false) → tBs bs g σ H' fun xs H2 => Q (x :: xs) H2 := fun hp hn =>
      ⟨io, Hf', C, _, _, _, r', e2, fun xs H2 Hf2 r2 s2 p2 => k _ _ Hf2 r2 (s.trans s2) (.cons (by
        cases bb with
        | false => exact rp_mono s2 hp
        | true => exact .inl ⟨hn rfl, rp_mono s2 hp⟩) p2 fun h1 h2 => by rw [hn h1] at h2; cases h2)⟩
    cases bb with
    | false => exact plain p (fun z => nomatch z)
    | true =>
      rcases p with ⟨n, p⟩ | ⟨q, o, rfl, eo, w, F⟩
      · exact plain p fun _ => n
      · refine ⟨io, Hf', upd C q o, _, _, _, r'.keepC F eo, e2, fun xs H2 Hf2 r2 s2 p2 => ?_⟩
        obtain ⟨r3, F3, eo3⟩ := r2.dropC F.c F.o
        have hq : Hf2 q = none := F3.f
        have back : ∀ {bs : List Bool} {xs : List V} {ds : List D}, HRs io Hf2 (upd C q o) σ H2 v2 bs xs ds → HRs io Hf2 C σ H2 v2 bs xs ds ∧ V.ref q ∉ xs := by
          intro bs xs ds h
          induction h with
          | nil => exact ⟨.nil, by simp⟩
          | @cons b bs y ys dd ds h t n ih =>
            have hh : HR b io Hf2 C σ H2 v2 y dd ∧ y ≠ .ref q := by
              have rpne : Rp Hf2 y dd → y ≠ .ref q := fun hr z => by
                subst z
                cases hr with
                | lst hr _ => rcases hr with hr | ⟨_, hr⟩ <;> rw [hq] at hr <;> cases hr
                | tup hr _ _ => rw [hq] at hr; cases hr
              cases b with
              | false => exact ⟨h, rpne h⟩
              | true =>
                rcases h with ⟨n1, h⟩ | ⟨p, o2, rfl, g1, g2, G⟩
                · exact ⟨.inl ⟨n1, h⟩, rpne h⟩
                · have pq : p ≠ q := fun z => by subst z; have := G.c; rw [upd_same] at this; cases this
                  exact ⟨.inr ⟨p, o2, rfl, g1, g2, G.f, by have := G.c; rw [upd_ne pq] at this; exact this, G.o, G.n⟩, fun z => pq (by cases z; rfl)⟩
            refine ⟨.cons hh.1 ih.1 n, fun z => ?_⟩
            rcases List.mem_cons.mp z with z | z
            · exact hh.2 z.symm
            · exact ih.2 z
        obtain ⟨b1, b2⟩ := back p2
        exact k _ _ Hf2 r3 (s.trans s2) (.cons (.inr ⟨q, o, rfl, eo3, own_mono s2 w, F3⟩) b1 fun _ _ => b2)

/-! ### assignments to names -/
def par1 (i : Nat) (bb : Bool) (f : En → R (D × En)) (v : En) : R (Fl × En) := (f v).bind fun x => (setV x.2 i (heldB bb x.1)).map fun v' => (.nx, v')
def setAllB : List Nat → List Bool → List D → En → R En
  | i :: is, b :: bs, d :: ds, v => (setV v i (heldB b d)).bind fun v1 => setAllB is bs ds v1
  | [], [], [], v => .ok v
  | _, _, _, _ => bad
def parB (is : List Nat) (bs : List Bool) (g : En → R (List D × En)) (v : En) : R (Fl × En) := (g v).bind fun x => (setAllB is bs x.1 x.2).map fun v' => (.nx, v')
theorem set1_S {i : Nat} {bb : Bool} {f : En → R (D × En)} {st : Stmt} (h : PS X st (tAsg (tB1 bb f) (gName i))) : PS X st (tS (par1 i bb f)) :=
  imp_S h fun D σ H ⟨io, Hf, C, v, fl, v', r, e, k⟩ => by
    obtain ⟨⟨d, v1⟩, e1, e⟩ := bind_ok e
    obtain ⟨v2, e2, e⟩ := map_ok e
    cases e
    exact ⟨io, Hf, C, v, d, v1, r, e1, fun x H' Hf' r' s p => k _ _ Hf' (r'.setHeld e2 p) s⟩
theorem par2_S {i j : Nat} {b1 b2 : Bool} {g : En → R (List D × En)} {st : Stmt} (h : PS X st (tPar i j (tBs [b1, b2] g))) : PS X st (tS (parB [i, j] [b1, b2] g)) :=
  imp_S h fun D σ H ⟨io, Hf, C, v, fl, v', r, e, k⟩ => by
    obtain ⟨⟨ds, v1⟩, e1, e⟩ := bind_ok e
    obtain ⟨v2, e2, e⟩ := map_ok e
    cases e
    refine ⟨io, Hf, C, v, ds, v1, r, e1, fun xs H' Hf' r' s p => ?_⟩
    match ds, xs, p, e2 with
    | _, _, .cons (d := d1) (x := x1) p1 (.cons (d := d2) (x := x2) p2 .nil n2) n1, e2 =>
      obtain ⟨va, g1, e2⟩ := bind_ok e2
      obtain ⟨vb, g2, e2⟩ := bind_ok e2
      cases ok_inj e2
      obtain ⟨ra, pa⟩ := HRs.step r' (.cons p1 (.cons p2 .nil n2) n1) g1
      obtain ⟨rb, _⟩ := HRs.step ra pa g2
      exact ⟨x1, x2, rfl, k _ _ Hf' rb s⟩
/-- a pair is made, taken apart and dropped -/
theorem parU_S {i j : Nat} {b1 b2 : Bool} {g : En → R (List D × En)} {st : Stmt} (h : PS X st (tAsg (tTup (tBs [b1, b2] g)) (gTup X.K 2 (gCons (gName i) (gCons (gName j) gNil))))) : PS X st (tS (parB [i, j] [b1, b2] g)) :=
  imp_S h fun D σ H ⟨io, Hf, C, v, fl, v', r, e, k⟩ => by
    obtain ⟨⟨ds, v1⟩, e1, e⟩ := bind_ok e
    obtain ⟨v2, e2, e⟩ := map_ok e
    cases e
    refine ⟨io, Hf, C, v, ds, v1, r, e1, fun xs H' Hf' r' s p => ?_⟩
    match ds, xs, p, e2 with
    | _, _, .cons (d := d1) (x := x1) p1 (.cons (d := d2) (x := x2) p2 .nil n2) n1, e2 =>
      obtain ⟨va, g1, e2⟩ := bind_ok e2
      obtain ⟨vb, g2, e2⟩ := bind_ok e2
      cases ok_inj e2
      obtain ⟨ra, pa⟩ := HRs.step r' (.cons p1 (.cons p2 .nil n2) n1) g1
      obtain ⟨rb, _⟩ := HRs.step ra pa g2
      refine ⟨by show 2 ≤ sizeLine; decide, fun q hq => ?_⟩
      exact ⟨q, [x1, x2], rfl, rd_seqT (.inl upd_same), rfl, x1, [x2], rfl, x2, [], rfl, rfl, k _ _ Hf' (rb.more hq) s⟩
theorem par3_S {i j l : Nat} {b1 b2 b3 : Bool} {g : En → R (List D × En)} {st : Stmt} (h : PS X st (tPar3 i j l (tBs [b1, b2, b3] g))) : PS X st (tS (parB [i, j, l] [b1, b2, b3] g)) :=
  imp_S h fun D σ H ⟨io, Hf, C, v, fl, v', r, e, k⟩ => by
    obtain ⟨⟨ds, v1⟩, e1, e⟩ := bind_ok e
    obtain ⟨v2, e2, e⟩ := map_ok e
    cases e
    refine ⟨io, Hf, C, v, ds, v1, r, e1, fun xs H' Hf' r' s p => ?_⟩
    match ds, xs, p, e2 with
    | _, _, .cons (d := d1) (x := x1) p1 (.cons (d := d2) (x := x2) p2 (.cons (d := d3) (x := x3) p3 .nil n3) n2) n1, e2 =>
      obtain ⟨va, g1, e2⟩ := bind_ok e2
      obtain ⟨vb, g2, e2⟩ := bind_ok e2
      obtain ⟨vc, g3, e2⟩ := bind_ok e2
      cases ok_inj e2
      obtain ⟨ra, pa⟩ := HRs.step r' (.cons p1 (.cons p2 (.cons p3 .nil n3) n2) n1) g1
      obtain ⟨rb, pb⟩ := HRs.step ra pa g2
      obtain ⟨rc, _⟩ := HRs.step rb pb g3
      exact ⟨x1, x2, x3, rfl, k _ _ Hf' rc s⟩
theorem asg_S {t : Tg} {f : En → R (D × En)} {st : Stmt} (h : PS X st (tAsg (tE f) (tG t))) : PS X st (tS fun v => (f v).bind fun x => (asgT t x.1 x.2).map fun v' => (.nx, v')) :=
  imp_S h fun D σ H ⟨io, Hf, C, v, fl, v', r, e, k⟩ => by
    obtain ⟨⟨d, v1⟩, e1, e⟩ := bind_ok e
    obtain ⟨v2, e2, e⟩ := map_ok e
    cases e
    exact ⟨io, Hf, C, v, d, v1, r, e1, fun x H' Hf' r' s p => ⟨io, Hf', C, v1, d, _, true, r', .inl p, fun _ => rfl, e2, fun σ' r'' _ => k _ _ Hf' r'' s⟩⟩

/-! ### the rest -/
theorem nil_S : PSs X [] (tS fun v => .ok (.nx, v)) := imp_Ss pss_nil fun D σ H ⟨io, Hf, C, v, fl, v', r, e, k⟩ => by
  cases ok_inj e
  exact k σ H Hf r (Same.refl _)
def seqF (f g : En → R (Fl × En)) (v : En) : R (Fl × En) := (f v).bind fun x => match x.1 with
    | .nx => g x.2
    | .rt d => .ok (.rt d, x.2)
theorem cons_S {st : Stmt} {rest : List Stmt} {f g : En → R (Fl × En)} (h1 : PS X st (tS f)) (h2 : PSs X rest (tS g)) : PSs X (st :: rest) (tS (seqF f g)) :=
  imp_Ss (pss_cons h1 h2) fun D σ H ⟨io, Hf, C, v, fl, v', r, e, k⟩ => by
    obtain ⟨⟨f1, v1⟩, e1, e⟩ := bind_ok e
    refine ⟨io, Hf, C, v, f1, v1, r, e1, fun σ' H' Hf' r' s => ?_⟩
    cases f1 with
    | nx => exact ⟨io, Hf', C, v1, fl, v', r', e, fun σ2 H2 Hf2 r2 s2 => k σ2 H2 Hf2 r2 (s.trans s2)⟩
    | rt d =>
      cases ok_inj e
      exact k σ' H' Hf' r' s
theorem ite_S {p q : List Stmt} {fc : En → R (Bool × En)} {f g : En → R (Fl × En)} (hc : PT X c (tT fc)) (ha : PSs X p (tS f)) (hb : PSs X q (tS g)) : PS X (.If c p q pos) (tS fun v => (fc v).bind fun x => match x.1 with
    | true => f x.2
    | false => g x.2) :=
  imp_S (ps_if hc ha hb) fun D σ H ⟨io, Hf, C, v, fl, v', r, e, k⟩ => by
    obtain ⟨⟨b', v1⟩, e1, e⟩ := bind_ok e
    refine ⟨io, Hf, C, v, b', _, r, e1, fun H' Hf' r' s => ?_⟩
    cases b' with
    | false => exact ⟨io, Hf', C, _, _, _, r', e, fun σ2 H2 Hf2 r2 s2 => k _ _ _ r2 (s.trans s2)⟩
    | true => exact ⟨io, Hf', C, _, _, _, r', e, fun σ2 H2 Hf2 r2 s2 => k _ _ _ r2 (s.trans s2)⟩
theorem whl_ok {c : En → R (Bool × En)} {b : En → R (Fl × En)} {v : En} {x : Fl × En} (h : whl c b v = .ok x) : ∃ n, whlN c b n v = some (.ok x) := by
  unfold whl at h
  split at h
  · rename_i q
    exact ⟨_, by rw [q.choose_spec.choose_spec, h]⟩
  · cases h
theorem while_S {body : List Stmt} {fc : En → R (Bool × En)} {f : En → R (Fl × En)} (hp : PassesOwn (model X.prog X.w) X.A X.env X.xe) (hc : PT X c (tT fc)) (hb : PSs X body (tS f)) : PS X (.While c body [] pos) (tS (whl fc f)) :=
  imp_S (ps_while hp hc hb) fun D σ H ⟨io, Hf, C, v, fl, v', r, e, k⟩ => by
    obtain ⟨n, e⟩ := whl_ok e
    refine ⟨fun m σ H => ∃ Hf2 vc, Rel io Hf2 C σ H vc ∧ Same Hf Hf2 ∧ whlN fc f m vc = some (.ok (fl, v')), ⟨n, Hf, v, r, Same.refl _, e⟩, ?_⟩
    rintro m σ H ⟨Hf2, vc, r2, s2, e2⟩
    cases m with
    | zero => cases e2
    | succ m =>
      unfold whlN at e2
      cases hc' : fc vc with
      | error x => rw [hc'] at e2; cases e2
      | ok y =>
        obtain ⟨bb, v1⟩ := y
        rw [hc'] at e2
        refine ⟨io, Hf2, C, vc, bb, v1, r2, hc', fun H' Hf' r' s' => ?_⟩
        cases bb with
        | false =>
          cases e2
          exact k _ _ Hf' r' (s2.trans s')
        | true =>
          refine ⟨fun σ H => ∃ Hf2 vc, Rel io Hf2 C σ H vc ∧ Same Hf Hf2 ∧ whlN fc f m vc = some (.ok (fl, v')), fun σ' H' q => ⟨m, Nat.lt_succ_self m, q⟩, ?_⟩
          cases hb' : f v1 with
          | error x => simp only [hb'] at e2; cases e2
          | ok y =>
            obtain ⟨f1, v2⟩ := y
            simp only [hb'] at e2
            refine ⟨io, Hf', C, v1, f1, v2, r', hb', fun σ3 H3 Hf3 r3 s3 => ?_⟩
            cases f1 with
            | nx => exact ⟨Hf3, v2, r3, (s2.trans s').trans s3, e2⟩
            | rt d =>
              cases e2
              exact k _ _ Hf3 r3 ((s2.trans s').trans s3)
theorem for_S {tg iter : Expr} {body : List Stmt} {pl : Bool} {t : Tg} {fi : En → R (List D × En)} {f : En → R (Fl × En)} (hp : PassesOwn (model X.prog X.w) X.A X.env X.xe) (hcalm : X.calm = true) (hpl : isNm t = true → pl = true) (hi : PI X tg iter (tI pl fi)) (hg : PG X tg (tG t)) (hb : PSs X body (tS f)) (hs : ∀ x, foldedSetIterable iter X.env x = pure x) :
    PS X (.For tg iter body [] pos) (tS fun v => (fi v).bind fun x => forL (fun d v1 => (asgT t d v1).bind fun v2 => f v2) x.1 x.2) :=
  imp_S (ps_for hp hcalm hi hg hb hs) fun D σ H ⟨io, Hf, C, v, fl, v', r, e, k⟩ => by
    obtain ⟨⟨ds, v1⟩, e1, e⟩ := bind_ok e
    refine ⟨io, Hf, C, v, ds, v1, r, e1, fun J H1 Hf1 r1 s1 wk => ?_⟩
    refine ⟨fun i m σ H => m = ds.length - i ∧ i ≤ ds.length ∧ ∃ Hf2 vc, Rel io Hf2 C σ H vc ∧ Same Hf1 Hf2 ∧ forL (fun d v1 => (asgT t d v1).bind fun v2 => f v2) (ds.drop i) vc = .ok (fl, v'), ⟨ds.length, by simp, Nat.zero_le _, Hf1, v1, r1, Same.refl _, e⟩, ?_⟩
    rintro i m σ H ⟨rfl, hi, Hf2, vc, r2, s2, em⟩
    by_cases hlt : i < ds.length
    · have hd : ds[i]? = some ds[i] := List.getElem?_eq_getElem hlt
      have hdrop : ds.drop i = ds[i] :: ds.drop (i + 1) := List.drop_eq_getElem_cons hlt
      rw [hdrop] at em
      obtain ⟨⟨f1, vd⟩, e3, em⟩ := bind_ok em
      obtain ⟨va, e4, e5⟩ := bind_ok e3
      refine .inr ⟨wk.go i H hlt (s2.trans r2.le), fun σ' H' => i + 1 ≤ ds.length ∧ ∃ Hf2 vc, Rel io Hf2 C σ' H' vc ∧ Same Hf1 Hf2 ∧ forL (fun d v1 => (asgT t d v1).bind fun v2 => f v2) (ds.drop (i + 1)) vc = .ok (fl, v'),
        fun σ' H' ⟨h1, h2⟩ => ⟨ds.length - (i + 1), by omega, rfl, h1, h2⟩, fun x H' hy => ?_⟩
      obtain ⟨hg, yv⟩ := wk.yld i _ H x H' hd (s2.trans r2.le) hy
      refine ⟨io, Hf2, C, vc, _, va, pl, r2.grown hg, yv_mono s2 yv, hpl, e4, fun σ' r3 wc => ⟨io, Hf2, C, va, f1, vd, r3, e5, fun σ4 H4 Hf4 r4 s4 => ?_⟩⟩
      cases f1 with
      | nx => exact ⟨hlt, Hf4, vd, r4, s2.trans s4, em⟩
      | rt d =>
        cases ok_inj em
        exact k _ _ Hf4 r4 ((s1.trans s2).trans s4)
    · have hi' : i = ds.length := by omega
      subst hi'
      rw [List.drop_length] at em
      cases ok_inj em
      exact .inl ⟨wk.stop H (s2.trans r2.le), k _ _ Hf2 r2 (s1.trans s2)⟩
theorem ret_S {f : En → R (D × En)} (h : PE X e (tE f)) : PS X (.Return (some e) pos) (tS fun v => (f v).map fun x => (.rt x.1, x.2)) :=
  imp_S (ps_ret h) fun D σ H ⟨io, Hf, C, v, fl, v', r, e, k⟩ => by
    obtain ⟨⟨d, v1⟩, e1, e⟩ := map_ok e
    cases e
    exact ⟨io, Hf, C, v, d, v1, r, e1, fun x H' Hf' r' s p => k σ H' Hf' r' s x p⟩
theorem retN_S : PS X (.Return none pos) (tS fun v => .ok (.rt .none, v)) :=
  imp_S ps_retN fun D σ H ⟨io, Hf, C, v, fl, v', r, e, k⟩ => by
    cases ok_inj e
    exact k σ H Hf r (Same.refl _) _ .non
theorem pass_S : PS X (.Pass pos) (tS fun v => .ok (.nx, v)) :=
  imp_S ps_pass fun D σ H ⟨io, Hf, C, v, fl, v', r, e, k⟩ => by
    cases ok_inj e
    exact k σ H Hf r (Same.refl _)
theorem stop_S {st : Stmt} : PS X st (tS fun _ => bad) := ⟨fun pins s σ H D I ⟨io, Hf, C, v, fl, v', r, e, k⟩ => by cases e⟩
theorem exp_S {f : En → R (D × En)} (hs : swapsWith e none pos.line X.env = pure false) (h : PE X e (tE f)) : PS X (.Expr e pos) (tS fun v => (f v).map fun x => (.nx, x.2)) :=
  imp_S (ps_expr h hs) fun D σ H ⟨io, Hf, C, v, fl, v', r, e, k⟩ => by
    obtain ⟨⟨d, v1⟩, e1, e⟩ := map_ok e
    cases e
    exact ⟨io, Hf, C, v, d, v1, r, e1, fun x H' Hf' r' s p => k σ H' Hf' r' s⟩
/-- l.append(e) -/
theorem app_S {o : Expr} {i : Nat} {f : En → R (D × En)} {apos cpos : Pos} (ho : PE X o (tVar i)) (ha : PE X e (tE f)) (hsw : swapsWith (.Call (.Attribute o "append" apos) [e] [] cpos) none pos.line X.env = pure false)
    (hbase : attributeBase o "append" X.env (eval o X.env) = eval o X.env)
    (hfew : ((backTo cpos (starEach [e] X.env)).all (fun x => !x.1) && (backToKw cpos (keywordEach [] X.env)).all (fun x => x.1.isSome)
      && decide (([e] : List Expr).length + ([] : List Keyword).length + (if ([] : List Keyword).isEmpty then 0 else 1) < 30)) = true)
    (hline : (apos.endLine == cpos.line) = true) (hs : starEach [e] X.env = (false, eval e X.env) :: starEach [] X.env) :
    PS X (.Expr (.Call (.Attribute o "append" apos) [e] [] cpos) pos) (tS fun v => gd (rdy (some i) v) ((f v).bind fun x => (ownAt x.2 i).bind fun d => (appD d x.1).map fun d' => (.nx, putAt x.2 i d'))) :=
  imp_S (ps_expr (pe_mt (name := "append") ho (pa_cons ha pa_nil hs) hbase hfew hline hs rfl) hsw) fun D σ H ⟨io, Hf, C, v, fl, v', r, e, k⟩ => by
    obtain ⟨g1, e⟩ := gd_ok e
    obtain ⟨⟨x, v1⟩, e1, e⟩ := bind_ok e
    obtain ⟨d, e2, e⟩ := bind_ok e
    obtain ⟨d', e3, e⟩ := map_ok e
    cases e
    obtain ⟨l, d0, o0, h1, h2, h3⟩ := rdy_some r g1
    cases h3 with
    | @lst xs0 ds0 q0 =>
      refine ⟨.ref l, h1, "list", "list.append", _, PySem.F.plainAttrs_list, PySem.F.slot_list_append, PySem.F.type_list_append, tyD_list (.inl h2), mt_append, io, Hf, C, v, x, v1, r, e1, fun y H1 Hf1 r1 s1 p1 => ?_⟩
      obtain ⟨a1, o1, g2, g3, g4, g5, g6⟩ := own_slot r1 e2
      rw [h1] at g2
      cases g2
      cases g5 with
      | @lst xs ds q =>
        obtain ⟨g7, g8⟩ := gd_ok e3
        cases ok_inj g8
        have hl := of_decide_eq_true g7
        exact ⟨l, xs, y, rfl, rfl, g4, by rw [q.len, ← lim_eq]; exact hl, k _ _ Hf1 (r1.putAt g6 h1 g4 g3 (.lst (q.app (.cons p1 .nil)))) s1⟩
theorem RpAll.dropLast {H : Hp} {vs : List V} {ds : List D} (h : RpAll H vs ds) : RpAll H vs.dropLast ds.dropLast := by
  rw [List.dropLast_eq_take, List.dropLast_eq_take, h.len]
  exact h.take _
/-- l.pop() -/
theorem pop_E {o : Expr} {i : Nat} {apos cpos : Pos} (ho : PE X o (tVar i)) (hbase : attributeBase o "pop" X.env (eval o X.env) = eval o X.env) (hline : (apos.endLine == cpos.line) = true) :
    PE X (.Call (.Attribute o "pop" apos) [] [] cpos) (tE fun v => gd (rdy (some i) v) ((ownAt v i).bind fun d => (popD d).map fun p => (p.1, putAt v i p.2))) :=
  imp_E (pe_bm0 (name := "pop") PySem.F.plainAttrs_list PySem.F.slot_list_pop PySem.F.type_list_pop mt_pop ho hbase hline) fun σ H Q ⟨io, Hf, C, v, d, v', r, e, k⟩ => by
    obtain ⟨g1, e⟩ := gd_ok e
    obtain ⟨d0, e2, e⟩ := bind_ok e
    obtain ⟨p, e3, e⟩ := map_ok e
    cases e
    obtain ⟨l, o1, g2, g3, g4, g5, g6⟩ := own_slot r e2
    cases g5 with
    | @lst xs ds q =>
      have e3 : (match ds.getLast? with
        | some y => (.ok (y, .list ds.dropLast) : R (D × D))
        | none => bad) = .ok p := e3
      cases hl : ds.getLast? with
      | none => rw [hl] at e3; cases e3
      | some y =>
        rw [hl] at e3
        cases ok_inj e3
        rw [List.getLast?_eq_getElem?] at hl
        obtain ⟨y', h1, h2⟩ := q.get hl
        exact ⟨.ref l, g2, .inl ⟨rfl, _, SqL.of g4⟩, l, xs, y', rfl, rfl, g4, by rw [q.len]; exact h1, k _ _ Hf (r.putAt g6 g2 g4 g3 (.lst q.dropLast)) (Same.refl _) h2⟩
theorem rp_range {Hf : Hp} (f : Nat → Int) : ∀ n, RpAll Hf ((List.range n).map fun i => V.int (f i)) ((List.range n).map fun i => (.int (f i) : D))
  | 0 => .nil
  | n + 1 => by
    rw [List.range_succ, List.map_append, List.map_append]
    exact (rp_range f n).app (.cons (.int _) .nil)
/-- list(range(n)) -/
theorem lrg_N {a : Expr} {g : En → R (D × En)} {p p2 pos pos2 : Pos} (hc : X.calm = true) (hgl : Gl X "list") (hml : X.mg "list" = none) (hgr : Gl X "range") (hmr : X.mg "range" = none) (ha : PE X a (tE g)) (hs : starEach [a] X.env = (false, eval a X.env) :: starEach [] X.env) :
    PE X (.Call (.Name "list" p) [.Call (.Name "range" p2) [a] [] pos2] [] pos) (tN fun v => (g v).bind fun x => (lrgD x.1).map fun d => (d, x.2)) :=
  imp_E (pe_listRg hc hgl hml (prg_1 hgr hmr ha hs)) fun σ H Q ⟨io, Hf, C, v, d, v', r, e, k⟩ => by
    obtain ⟨⟨d1, v1⟩, e1, e⟩ := bind_ok e
    obtain ⟨d', e2, e⟩ := map_ok e
    cases e
    refine ⟨io, Hf, C, v, d1, v1, r, e1, fun x H' Hf' r' s p => ?_⟩
    cases d1 with
    | int n =>
      obtain ⟨g1, g2⟩ := gd_ok e2
      cases ok_inj g2
      rw [Bool.and_eq_true] at g1
      obtain ⟨b1, b2, b3, b4⟩ := rangeOk_of g1.1
      have b5 := of_decide_eq_true g1.2
      refine ⟨n, int_of p, ⟨b1, b2, b3, b4, by rw [Int.sub_zero]; exact b5⟩, fun q hq => ?_⟩
      have rp : RpAll Hf' (rgV 0 n) (rangeN 0 n) := rp_range (fun i => 0 + (i : Nat)) _
      obtain ⟨Hf2, r2, s2, n2⟩ := Res.new r' (show Res Hf' H' (.list (rangeN 0 n)) (.ref q) _ from .inr ⟨q, _, rfl, hq, rfl, .lst rp⟩)
      exact k _ _ Hf2 r2 (s.trans s2) n2
    | _ => cases e2
/-- l[k] = e -/
theorem put_S {o kx : Expr} {i : Nat} {f g : En → R (D × En)} {tpos : Pos} (hsw : swapsWithSole [.Subscript o kx tpos] e pos.line X.env = pure false) (hw : swappedStores [.Subscript o kx tpos] e X.env = pure none)
    (ho : PE X o (tVar i)) (hk : PE X kx (tE g)) (ha : PE X e (tE f)) (hG : PG X (.Subscript o kx tpos) (gSub (tVar i) (tE g) rSetL)) :
    PS X (.Assign [.Subscript o kx tpos] e pos) (tS fun v => (f v).bind fun x => gd (rdy (some i) x.2) ((g x.2).bind fun y => (ownAt y.2 i).bind fun d => (store d y.1 x.1).map fun d' => (.nx, putAt y.2 i d'))) :=
  imp_S (ps_asg ha hG hsw hw rfl) fun D σ H ⟨io, Hf, C, v, fl, v', r, e, k⟩ => by
    obtain ⟨⟨x, v1⟩, e1, e⟩ := bind_ok e
    obtain ⟨g1, e⟩ := gd_ok e
    obtain ⟨⟨y, v2⟩, e2, e⟩ := bind_ok e
    obtain ⟨d, e3, e⟩ := bind_ok e
    obtain ⟨d', e4, e⟩ := map_ok e
    cases e
    refine ⟨io, Hf, C, v, x, v1, r, e1, fun xv H1 Hf1 r1 s1 p1 => ?_⟩
    obtain ⟨l, d0, o0, h1, h2, h3⟩ := rdy_some r1 g1
    refine ⟨.ref l, h1, io, Hf1, C, v1, y, v2, r1, e2, fun yv H2 Hf2 r2 s2 p2 => ?_⟩
    obtain ⟨a1, o1, g2, g3, g4, g5, g6⟩ := own_slot r2 e3
    rw [h1] at g2
    cases g2
    cases g5 with
    | @lst xs ds q =>
      cases y with
      | int n =>
        have e5 := ofO_ok (show ofO ((ixAt ds.length n).map fun j => .list (ds.set j x)) = .ok d' from e4)
        obtain ⟨j, e6, rfl⟩ := Option.map_eq_some_iff.mp e5
        exact ⟨l, xs, n, j, rfl, int_of p2, g4, by rw [q.len]; exact e6, k _ _ Hf2 (r2.putAt g6 h1 g4 g3 (.lst (RpAll.set (rp_mono s2 p1) j q))) (s1.trans s2)⟩
      | _ => cases e4
theorem ibin_ip : ∀ (op : Operator), PIp X op fun x y H Q => ∃ p q d, ibin op (.int p) (.int q) = .ok d ∧ x = .int p ∧ y = .int q ∧ ∀ z, (∃ n, d = .int n ∧ z = .int n) → Q z H := by
  intro op pins s σ H x y v u Q I rx ry ⟨p, q, d, e, ex, ey, k⟩
  cases op with
  | Add =>
    cases ok_inj e
    exact iop_add pins s σ H x y v u Q I rx ry ⟨p, q, ex, ey, k _ ⟨_, rfl, rfl⟩⟩
  | Sub =>
    cases ok_inj e
    exact iop_sub pins s σ H x y v u Q I rx ry ⟨p, q, ex, ey, k _ ⟨_, rfl, rfl⟩⟩
  | FloorDiv =>
    obtain ⟨g1, g2⟩ := gd_ok e
    cases ok_inj g2
    simp only [Bool.and_eq_true, decide_eq_true_eq] at g1
    exact iop_fdiv pins s σ H x y v u Q I rx ry ⟨p, q, ex, ey, g1, k _ ⟨_, rfl, rfl⟩⟩
  | _ => cases e
theorem ibin_int {op : Operator} {p q d : D} (e : ibin op p q = .ok d) : ∃ a b n, p = .int a ∧ q = .int b ∧ d = .int n ∧ ibin op (.int a) (.int b) = .ok (.int n) := by
  have w := e
  unfold ibin at e
  split at e
  · cases ok_inj e; exact ⟨_, _, _, rfl, rfl, rfl, w⟩
  · cases ok_inj e; exact ⟨_, _, _, rfl, rfl, rfl, w⟩
  · obtain ⟨g1, g2⟩ := gd_ok e
    cases ok_inj g2
    exact ⟨_, _, _, rfl, rfl, rfl, w⟩
  · cases e
theorem aug_S {i : Nat} {op : Operator} {f : En → R (D × En)} {st : Stmt} (h : ∀ {ti : TIp}, PIp X op ti → PS X st (tAug i (tE f) ti)) :
    PS X st (tS fun v => (peekV v i).bind fun p => (f v).bind fun x => (ibin op p x.1).bind fun d => (setV x.2 i (.fz d)).map fun v' => (.nx, v')) :=
  imp_S (h (ibin_ip op)) fun D σ H ⟨io, Hf, C, v, fl, v', r, e, k⟩ => by
    obtain ⟨p, e1, e⟩ := bind_ok e
    obtain ⟨⟨x, v1⟩, e2, e⟩ := bind_ok e
    obtain ⟨d, e3, e⟩ := bind_ok e
    obtain ⟨v2, e4, e⟩ := map_ok e
    cases e
    obtain ⟨a, b, n, rfl, rfl, rfl, e5⟩ := ibin_int e3
    have hx : ∃ y, σ[i]? = some (some y) := slot_val (r.sl i) fun z => by unfold peekV at e1; rw [z] at e1; cases e1
    obtain ⟨y, hy⟩ := hx
    have hp : RpO Hf H y (.int a) := slot_rp (r.sl i) (show peekV v i = .ok (.int a) from e1) hy
    exact ⟨y, hy, io, Hf, C, v, _, v1, r, e2, fun xv H1 Hf1 r1 s1 p1 => ⟨a, b, _, e5, hp.int, int_of p1, fun z ⟨n', h1, h2⟩ => by
      cases h1
      subst h2
      exact k _ _ Hf1 (r1.setFz e4 (.int _)) s1⟩⟩
theorem get_listP : PGet X fun o i H Q => ∃ p xs n v, o = .ref p ∧ i = .int n ∧ H p = some (.lst xs) ∧ atI xs n = some v ∧ Q v H := by
  intro pins s σ H o i ov iv Q I ro ri ⟨p, xs, n, v, eo, ei, hp, hv, q⟩
  subst eo ei
  cases ro
  obtain ⟨t, rfl⟩ := ri
  obtain ⟨its, r, pl, hz⟩ := I.list (SqL.of hp)
  obtain ⟨j, h1, h2, h3, h4, h5⟩ := atI_get hv
  obtain ⟨w, ew, rw'⟩ := r.get h2
  have hl := r.length
  have hn := line63
  have fin : EP X pins σ Q w s := ⟨v, H, I, rw', q⟩
  by_cases h0 : 0 ≤ n
  · have hj : n.toNat = j := by
      rw [PySem.seqIndex_of h0 h5] at h1
      exact Option.some.inj h1
    exact wpAny_getItem_list pl.isList h0 (by omega) (by rw [hj]; simpa using ew) fin
  · have hj : (n + (its.toArray.size : Int)).toNat = j := by
      rw [PySem.seqIndex_neg (by omega) h4] at h1
      rw [List.size_toArray, ← hl]
      exact Option.some.inj h1
    exact wpAny_getItem_list_neg pl.isList (by omega) (by rw [List.size_toArray]; omega) (by omega) (by rw [hj]; simpa using ew) fin
theorem augIx_S {i : Nat} {op : Operator} {f g : En → R (D × En)} {st : Stmt} (h : ∀ {tget : V → V → Hp → VK → Prop} {ti : TIp} {ts : TSet}, PGet X tget → PIp X op ti → PSet X ts → PS X st (tAugS (tVar i) (tE g) (tE f) tget ti ts)) :
    PS X st (tS fun v => gd (rdy (some i) v) ((g v).bind fun y => (ownAt y.2 i).bind fun d => (Lp.sub d y.1).bind fun p => (f y.2).bind fun x => (ibin op p x.1).bind fun q =>
      (ownAt x.2 i).bind fun d' => (store d' y.1 q).map fun d2 => (.nx, putAt x.2 i d2))) :=
  imp_S (h get_listP (ibin_ip op) set_list) fun D σ H ⟨io, Hf, C, v, fl, v', r, e, k⟩ => by
    obtain ⟨g1, e⟩ := gd_ok e
    obtain ⟨⟨y, v1⟩, e1, e⟩ := bind_ok e
    obtain ⟨d, e2, e⟩ := bind_ok e
    obtain ⟨p, e3, e⟩ := bind_ok e
    obtain ⟨⟨x, v2⟩, e4, e⟩ := bind_ok e
    obtain ⟨q, e5, e⟩ := bind_ok e
    obtain ⟨d', e6, e⟩ := bind_ok e
    obtain ⟨d2, e7, e⟩ := map_ok e
    cases e
    obtain ⟨l, d0, o0, h1, h2, h3⟩ := rdy_some r g1
    refine ⟨.ref l, h1, io, Hf, C, v, y, v1, r, e1, fun yv H1 Hf1 r1 s1 p1 => ?_⟩
    obtain ⟨a1, o1, w2, w3, w4, w5, w6⟩ := own_slot r1 e2
    rw [h1] at w2
    cases w2
    cases w5 with
    | @lst xs ds qa =>
      cases y with
      | int n =>
        obtain ⟨a, b, m, rfl, rfl, rfl, e8⟩ := ibin_int e5
        obtain ⟨pv, hv, hp⟩ := pick_at qa (show pick ds n = .ok (.int a) from e3)
        have hpv := int_of hp
        subst hpv
        refine ⟨l, xs, n, _, rfl, int_of p1, w4, hv, io, Hf1, C, v1, _, v2, r1, e4, fun xv H2 Hf2 r2 s2 p2 => ⟨a, b, _, e8, rfl, int_of p2, fun z ⟨m', hm1, hm2⟩ => ?_⟩⟩
        cases hm1
        subst hm2
        obtain ⟨a2, o2, z2, z3, z4, z5, z6⟩ := own_slot r2 e6
        rw [h1] at z2
        cases z2
        cases z5 with
        | @lst xs2 ds2 qb =>
          have e9 := ofO_ok (show ofO ((ixAt ds2.length n).map fun j => .list (ds2.set j (.int m))) = .ok d2 from e7)
          obtain ⟨j, e10, rfl⟩ := Option.map_eq_some_iff.mp e9
          refine ⟨l, xs2, n, j, rfl, int_of p1, z4, by rw [qb.len]; exact e10, k _ _ Hf2 (r2.putAt z6 h1 z4 z3 (.lst (RpAll.set (.int _) j qb))) (s1.trans s2)⟩
      | _ => cases e3
end
end Lp

set_option autoImplicit false
set_option linter.all false
/-! Chk: the text is what the tree says. -/
namespace Lp
open PySem
structure Tc where
  N : List Str
  sc : Scope
  raw : Scope
  fns : List (Str × (Nat × Nat × Bool))
  cs : List (Str × Int)
def isLoc : Option NameKind → Bool
  | some .local => true
  | some .cell => true
  | _ => false
def isVis : Option NameKind → Bool
  | some .local => true
  | some .cell => true
  | some .free => true
  | _ => false
def isGlo : Option NameKind → Bool
  | some .globalImplicit => true
  | _ => false
def slotOk (T : Tc) (i : Nat) (x : Str) : Bool := decide (T.N[i]? = some x)
def vis (T : Tc) (i : Nat) (x : Str) : Bool := slotOk T i x && isVis (T.sc.names.lookup x) && (x == ("__debug__" : Str)) == false && (x == ("__classdict__" : Str)) == false
def loc (T : Tc) (i : Nat) (x : Str) : Bool := slotOk T i x && isLoc (T.sc.names.lookup x) && isLoc (T.raw.names.lookup x)
/-- in the block of a comprehension -/
def Tc.inB (T : Tc) (scope : Scope) : Tc := { T with sc := L2.relS scope T.sc, raw := scope }
def loc1 (T : Tc) (i : Nat) (x : Str) : Bool := slotOk T i x && decide (T.sc.names.lookup x = some .local)
def glo (T : Tc) (x : Str) : Bool := isGlo (T.sc.names.lookup x) && (x == ("__debug__" : Str)) == false
def cstOk : D → Const → Bool
  | .none, .none => true
  | .bool b, .bool c => b == c
  | .int i, .int j => decide (i = j)
  | .str x, .str y => decide (x = y)
  | _, _ => false
def bltN : Blt → Str
  | .len => "len" | .abs => "abs" | .min => "min" | .max => "max" | .sum => "sum" | .sorted => "sorted" | .list => "list" | .tuple => "tuple" | .int => "int" | .all => "all" | .any => "any" | .str => "str" | .range => "range"
def mtN : Mt → Str
  | .index => "index" | .count => "count" | .join => "join"
def isIdx : Mt → Bool
  | .index => true
  | .count => true
  | .join => true
def tyS : Ty → Str
  | .int => "int" | .bool => "bool" | .tuple => "tuple" | .list => "list" | .str => "str"
/-- the names that the row must leave as they are -/
def bnames : List Str := ["len", "abs", "min", "max", "sum", "sorted", "list", "tuple", "int", "all", "any", "str", "range", "bool", "isinstance", "enumerate", "zip"]
def plOf : It → Bool
  | .enm _ => false
  | .zip _ _ => false
  | _ => true
def isNmT : Tg → Bool
  | .nm _ => true
  | .tp _ => false
def ownOf (T : Tc) (is : List Nat) : List (Str × Nat) := is.map fun i => (T.N.getD i ⟨#[]⟩, i)
def blk (N : List Str) (sc scope : Scope) (own : List (Str × Nat)) : Bool := L2.blkC N sc scope own
def attrOk : Expr → Bool
  | .Name _ _ => true
  | .Call _ (_ :: _) _ _ => true
  | .Constant _ _ _ => true
  | _ => false
def chkTy (T : Tc) : List Ty → Expr → Bool
  | [t], .Name x _ => decide (x = tyS t) && glo T x
  | ts, .Tuple xs _ _ => decide (ts.length ≤ 100) && go ts xs
  | _, _ => false
where go : List Ty → List Expr → Bool
  | [], [] => true
  | t :: ts, .Name x _ :: xs => decide (x = tyS t) && glo T x && go ts xs
  | _, _ => false
mutual
def chkT (T : Tc) : Tg → Expr → Bool
  | .nm i, .Name x _ => loc T i x
  | .tp ts, .Tuple xs _ _ => chkTs T ts xs
  | _, _ => false
def chkTs (T : Tc) : List Tg → List Expr → Bool
  | [], [] => true
  | t :: ts, x :: xs => chkT T t x && chkTs T ts xs
  | _, _ => false
end
def isTupX : Expr → Bool
  | .Tuple _ _ _ => true
  | _ => false
mutual
def chkE (T : Tc) : E → Expr → Bool
  | .var i, e => match e with
    | .Name x _ => vis T i x
    | _ => false
  | .cst d, e => match e with
    | .Constant c _ _ => cstOk d c
    | .Name x _ => glo T x && (match d with
      | .int n => decide (T.cs.lookup x = some n)
      | _ => false)
    | _ => false
  | .bin op a b, e => match e with
    | .BinOp l op' r _ => decide (op = op') && chkE T a l && chkE T b r
    | _ => false
  | .neg a, e => match e with
    | .UnaryOp .USub x _ => chkE T a x
    | _ => false
  | .not a, e => match e with
    | .UnaryOp .Not x _ => chkE T a x
    | _ => false
  | .cmp op a b, e => match e with
    | .Compare l [op'] [r] _ => decide (op = op') && chkE T a l && chkE T b r
    | _ => false
  | .cmp2 op op2 a b c, e => match e with
    | .Compare l [op', op2'] [r, s] _ => decide (op = op') && decide (op2 = op2') && chkE T a l && chkE T b r && chkE T c s
    | _ => false
  | .and a b, e => match e with
    | .BoolOp .And (x :: y :: rest) p => chkE T a x && (match rest with
      | [] => chkE T b y
      | _ => chkE T b (.BoolOp .And (y :: rest) p))
    | _ => false
  | .or a b, e => match e with
    | .BoolOp .Or (x :: y :: rest) p => chkE T a x && (match rest with
      | [] => chkE T b y
      | _ => chkE T b (.BoolOp .Or (y :: rest) p))
    | _ => false
  | .ite c a b, e => match e with
    | .IfExp t x y _ => chkE T c t && chkE T a x && chkE T b y
    | _ => false
  | .tup es, e => match e with
    | .Tuple xs _ _ => decide (es.length ≤ 1000) && chkEs T es xs
    | _ => false
  | .lst es, e => match e with
    | .List xs _ => decide (es.length ≤ 1000) && chkEs T es xs
    | _ => false
  | .sub a i, e => match e with
    | .Subscript x y _ => chkE T a x && chkE T i y
    | _ => false
  | .cut a lo hi, e => match e with
    | .Subscript x (.Slice l h none _) _ => chkE T a x && chkO T lo l && chkO T hi h
    | _ => false
  | .rev a, e => match e with
    | .Subscript x (.Slice none none (some (.UnaryOp .USub (.Constant (.int 1) _ _) _)) _) _ => chkE T a x
    | _ => false
  | .isa a ts, e => match e with
    | .Call (.Name f _) [x, c] [] _ => decide (f = ("isinstance" : Str)) && glo T f && chkE T a x && chkTy T ts c
    | _ => false
  | .blt f es, e => match e with
    | .Call (.Name g _) (x :: xs) [] _ => decide (g = bltN f) && glo T g && chkEs T es (x :: xs)
    | _ => false
  | .mt m o es, e => match e with
    | .Call (.Attribute ov at_ apos) (x :: xs) [] cpos => decide (at_ = mtN m) && isIdx m && chkE T o ov && chkEs T es (x :: xs) && decide ((x :: xs).length < 29) && (apos.endLine == cpos.line) && attrOk ov
    | _ => false
  | .call f io es, e => match e with
    | .Call (.Name g _) xs [] _ => glo T g && (match T.fns.lookup g with
      | some (f', np, b) => decide (f = f') && (match io with
        | none => decide (b = false) && decide (es.length = np) && chkEs T es xs
        | some i => (match xs with
          | .Name y _ :: ys => decide (b = true) && decide (es.length + 1 = np) && vis T i y && chkEs T es ys
          | _ => false))
      | none => false)
    | _ => false
  | .comp x t it c, e => match e with
    | .ListComp elt [⟨tg, iter, ifs, 0⟩] scope _ => (!isNmT t || plOf it) && blk T.N T.sc scope (ownOf T t.own) && chkI T tg it iter && chkT (T.inB scope) t tg && chkE (T.inB scope) x elt && (match c, ifs with
      | none, [] => true
      | some c, [f] => chkE (T.inB scope) c f
      | _, _ => false)
    | _ => false
  | .comp2 _ _ _ _ _, _ => false
  | .lrg a, e => match e with
    | .Call (.Name f _) [.Call (.Name f2 _) [x] [] _] [] _ => decide (f = ("list" : Str)) && glo T f && decide (f2 = ("range" : Str)) && glo T f2 && chkE T a x
    | _ => false
  | .pop i, e => match e with
    | .Call (.Attribute ov at_ apos) [] [] cpos => decide (at_ = ("pop" : Str)) && (apos.endLine == cpos.line) && (match ov with
      | .Name y _ => vis T i y
      | _ => false)
    | _ => false
  | .ndist x t it, e => match e with
    | .Call (.Name f _) [.DictComp elt (.Constant (.bool true) _ _) [⟨tg, iter, [], 0⟩] scope _] [] _ =>
      decide (f = ("len" : Str)) && glo T f && (!isNmT t || plOf it) && blk T.N T.sc scope (ownOf T t.own) && chkI T tg it iter && chkT (T.inB scope) t tg && chkE (T.inB scope) x elt
    | _ => false
def chkEs (T : Tc) : List E → List Expr → Bool
  | [], xs => match xs with
    | [] => true
    | _ => false
  | a :: as, xs => match xs with
    | x :: xs => chkE T a x && chkEs T as xs
    | [] => false
def chkO (T : Tc) : Option E → Option Expr → Bool
  | none, x => match x with
    | none => true
    | _ => false
  | some a, x => match x with
    | some x => chkE T a x
    | _ => false
def chkI (T : Tc) (tg : Expr) : It → Expr → Bool
  | .seq a, e => chkE T a e
  | .rng es, e => match e with
    | .Call (.Name f _) xs [] _ => decide (f = ("range" : Str)) && glo T f && decide (1 ≤ es.length) && decide (es.length ≤ 3) && chkEs T es xs
    | _ => false
  | .enm a, e => match e with
    | .Call (.Name f _) [x] [] _ => decide (f = ("enumerate" : Str)) && glo T f && chkE T a x && isTupX tg
    | _ => false
  | .zip a b, e => match e with
    | .Call (.Name f _) [x, y] [] _ => decide (f = ("zip" : Str)) && glo T f && chkE T a x && chkE T b y && isTupX tg
    | _ => false
end
def isFn (sc : Scope) : Bool := match sc.kind with
  | .function => true
  | _ => false
def notComp : Expr → Bool
  | .ListComp _ _ _ _ => false
  | .SetComp _ _ _ _ => false
  | .DictComp _ _ _ _ _ => false
  | _ => true
/-- not both are plain local names: a pair is made and taken apart -/
def notBoth (T : Tc) (x y : Str) : Bool := !(decide (T.sc.names.lookup x = some .local) && decide (T.sc.names.lookup y = some .local))
def folded (xs : List Expr) : Bool := xs.all (foldedForSure 8)
def consts (xs : List Expr) : Bool := xs.all (constantsAlone 8)
mutual
def chkS (T : Tc) : S → Stmt → Bool
  | .asg t e, st => match st with
    | .Assign [tg] v _ => isTupX tg && chkT T t tg && chkE T e v && (match tg, v with
      | .Tuple ts _ _, .Tuple vs _ _ => !(ts.length == 2 || ts.length == 3) || vs.length != ts.length || folded vs
      | _, _ => true)
    | _ => false
  | .par is es, st => match is, es, st with
    | [i], [e], .Assign [.Name x _] v _ => loc T i x && chkE T e v
    | [i, j], [a, b], .Assign [.Tuple [.Name x px, .Name y py] _ _] (.Tuple [u, w] _ _) _ => (loc1 T i x && loc1 T j y && chkE T a u && chkE T b w && decide (i ≠ j) && decide (px.line = py.line) && !folded [u, w] && !consts [u, w] && isFn T.sc) || (loc T i x && loc T j y && chkE T a u && chkE T b w && notBoth T x y)
    | [i, j, l], [a, b, c], .Assign [.Tuple [.Name x px, .Name y py, .Name z pz] _ _] (.Tuple [u, w, q] _ _) _ => loc1 T i x && loc1 T j y && loc1 T l z && chkE T a u && chkE T b w && chkE T c q && decide (i ≠ j) && decide (i ≠ l) && decide (j ≠ l) && decide (px.line = py.line) && decide (px.line = pz.line) && !folded [u, w, q] && !consts [u, w, q] && isFn T.sc
    | _, _, _ => false
  | .app i e, st => match st with
    | .Expr (.Call (.Attribute (.Name x _) at_ apos) [v] [] cpos) _ => decide (at_ = ("append" : Str)) && vis T i x && chkE T e v && (apos.endLine == cpos.line)
    | _ => false
  | .put i k e, st => match st with
    | .Assign [.Subscript (.Name x _) y _] v _ => vis T i x && chkE T k y && chkE T e v
    | _ => false
  | .aug i op e, st => match st with
    | .AugAssign (.Name x _) op' v _ => vis T i x && loc T i x && decide (op = op') && chkE T e v
    | _ => false
  | .augIx i k op e, st => match st with
    | .AugAssign (.Subscript (.Name x _) y _) op' v _ => vis T i x && decide (op = op') && chkE T k y && chkE T e v
    | _ => false
  | .ite c a b, st => match st with
    | .If t p q _ => chkE T c t && chkSs T a p && chkSs T b q
    | _ => false
  | .whl c b, st => match st with
    | .While t p [] _ => chkE T c t && chkSs T b p
    | _ => false
  | .for_ t it b, st => match st with
    | .For tg iter p [] _ => (!isNmT t || plOf it) && chkI T tg it iter && chkT T t tg && chkSs T b p
    | _ => false
  | .ret e, st => match st with
    | .Return (some v) _ => chkE T e v
    | _ => false
  | .retN, st => match st with
    | .Return none _ => true
    | _ => false
  | .exp e, st => match st with
    | .Expr v _ => chkE T e v && notComp v
    | _ => false
  | .pas, st => match st with
    | .Pass _ => true
    | _ => false
  | .stop, _ => true
def chkSs (T : Tc) : List S → List Stmt → Bool
  | [], st => match st with
    | [] => true
    | _ => false
  | a :: as, st => match st with
    | x :: xs => chkS T a x && chkSs T as xs
    | [] => false
end
end Lp

set_option Elab.async false
set_option linter.all false
set_option autoImplicit false
set_option maxRecDepth 100000
set_option maxHeartbeats 4000000
namespace Lp
open PySem PySem.Spec L2

/-! ### the context -/
structure XOk (cf : Cf) (T : Tc) (X : Cx) : Prop where
  hN : X.N = T.N
  nd : T.N.Nodup
  sc : X.env.scope = T.sc
  calm : X.calm = true
  xe : X.xe = fun _ _ => False
  fnv : ∀ x, Loc T.raw x → X.fn x = true ∨ T.sc.names.lookup x = some .local
  mgB : ∀ x ∈ bnames, X.mg x = none
  mgC : ∀ x i, T.cs.lookup x = some i → ∃ u, X.mg x = some u ∧ RelV (.int i) u
  fns : ∀ x f np b, T.fns.lookup x = some (f, np, b) → ∃ k a fd ps, Room k X.A ∧ FnOk X.prog X.w X.K X.mg X.base CX0 k a fd ps (spC cf np f) ∧ X.mg x = some (.ref a) ∧ PySem.W.keepIn X.K (.ref a) = true ∧ Binds X.K fd ps []
  un : X.A.units + 70 < cLine
  kd : T.sc.kind = .function
theorem XOk.blk {cf : Cf} {T : Tc} {X : Cx} (h : XOk cf T X) {scope : Scope} (hk : scope.kind = .function) (s : Shared) (H : Hp) (C : Addr) (cl : List (Str × Addr)) (fp : List Addr) : XOk cf (T.inB scope) (X.blk s H scope (compEnvC scope cl C X.env) fp) where
  hN := h.hN
  nd := h.nd
  sc := by
    show relabel scope X.env = L2.relS scope T.sc
    rw [← h.sc]
    rfl
  calm := h.calm
  xe := rfl
  fnv := fun x hx => by
    rcases hx with hx | hx
    · exact .inr (L2.lookup_relS_keep (fun z => nomatch z) hx)
    · left
      show (scope.names.lookup x == some .cell) = true
      have hx : scope.names.lookup x = some .cell := hx
      rw [hx]; rfl
  mgB := h.mgB
  mgC := h.mgC
  fns := h.fns
  un := h.un
  kd := hk
section
variable {cf : Cf} {T : Tc} {X : Cx}
theorem isVis_ok {sc : Scope} {x : Str} (h : isVis (sc.names.lookup x) = true) : Vis sc x := by
  unfold isVis at h
  split at h
  · rename_i e; exact .inl e
  · rename_i e; exact .inr (.inl e)
  · rename_i e; exact .inr (.inr e)
  · cases h
theorem isLoc_ok {sc : Scope} {x : Str} (h : isLoc (sc.names.lookup x) = true) : Loc sc x := by
  unfold isLoc at h
  split at h
  · rename_i e; exact .inl e
  · rename_i e; exact .inr e
  · cases h
theorem isGlo_ok {sc : Scope} {x : Str} (h : isGlo (sc.names.lookup x) = true) : sc.names.lookup x = some .globalImplicit := by
  unfold isGlo at h
  split at h
  · rename_i e; exact e
  · cases h
theorem XOk.gl (h : XOk cf T X) {x : Str} (g : glo T x = true) : Gl X x ∧ (x == ("__debug__" : Str)) = false := by
  unfold glo at g
  simp only [Bool.and_eq_true, beq_iff_eq] at g
  exact ⟨by show X.env.scope.names.lookup x = _; rw [h.sc]; exact isGlo_ok g.1, g.2⟩
theorem XOk.tv (h : XOk cf T X) {i : Nat} {x : Str} {p : Pos} (g : vis T i x = true) : PE X (.Name x p) (tVar i) := by
  unfold vis slotOk at g
  simp only [Bool.and_eq_true, decide_eq_true_eq, beq_iff_eq] at g
  exact pe_var (by rw [h.hN]; exact g.1.1.1) (by rw [h.sc]; exact isVis_ok g.1.1.2) g.1.2 g.2
/-- what an expression's soundness tells -/
structure Pl (X : Cx) (e : Expr) : Prop where
  st : ∀ es, starEach (e :: es) X.env = (false, eval e X.env) :: starEach es X.env
  fo : ∀ x, foldedSetIterable e X.env x = pure x
  fo2 : ∀ env x, foldedSetIterable e env x = pure x
  ix : PlainIx e
  bh : ∀ op, behindInMarks op e = false
  pa : ∀ (o : Expr) (pos : Pos) (v : Value), assign (.Subscript o e pos) X.env v = (do
      let ov ← holding [v] (eval o X.env)
      let iv ← holding [v, ov] (eval e X.env)
      standAt pos
      holding [v, ov, iv] (setItem ov iv v)
      release [v, ov, iv] [])
  au : ∀ ov iv new, augStore e ov iv new = (do holding [new, ov, iv] (setItem ov iv new); release [new, ov, iv] []; pure .next)
def plX : Expr → Bool
  | .Starred _ _ => false
  | .Slice _ _ _ _ => false
  | .Set _ _ _ => false
  | _ => true
theorem plX_ok {e : Expr} (h : plX e = true) : Pl X e := by
  refine ⟨fun es => ?_, fun x => ?_, fun env x => ?_, fun o i => ?_, fun op => ?_, fun o pos v => ?_, fun ov iv new => ?_⟩
  · cases e <;> first | rfl | cases h
  · cases e <;> first | rfl | cases h
  · cases e <;> first | rfl | cases h
  · cases e <;> first | rfl | cases h
  · cases e <;> first | rfl | cases h
  · cases e <;> first | rfl | cases h
  · cases e <;> first | rfl | cases h
def tstX : Expr → Bool
  | .UnaryOp .Not _ _ => false
  | .BoolOp _ _ _ => false
  | .IfExp _ _ _ _ => false
  | .Compare _ _ _ _ => false
  | _ => true
theorem tstX_ok {e : Expr} {env : Env} (h : tstX e = true) (whole : Sem Value) : isTrue e env whole = (do let v ← whole; standAt e.pos; holding [v] (truthy v)) := by
  cases e with
  | UnaryOp op a p => cases op <;> first | rfl | cases h
  | _ => first | rfl | cases h
structure Good (cf : Cf) (X : Cx) (e : Expr) (e' : E) : Prop where
  E : PE X e (tE (ev cf e'))
  N : isNew e' = true → PE X e (tN (ev cf e'))
  T : PT X e (tT fun v => truOf (ev cf e' v))
  Z : PE X e (tZ (lzOf e' (ev cf e')))
  pl : Pl X e
def isVarE : E → Bool
  | .var _ => true
  | _ => false
theorem lz_not {e' : E} {r : En → R (D × En)} (h : isVarE e' = false) : lzOf e' r = fun v => (r v).map fun x => (.inr x.1, x.2) := by
  cases e' <;> first | rfl | cases h
theorem good_E {e : Expr} {e' : E} (hE : PE X e (tE (ev cf e'))) (hp : plX e = true) (ht : tstX e = true) (hn : isNew e' = false) (hv : isVarE e' = false) : Good cf X e e' :=
  ⟨hE, fun q => absurd (hn ▸ q) Bool.false_ne_true, truth_T hE (tstX_ok ht), by rw [lz_not hv]; exact eZ hE, plX_ok hp⟩
theorem good_N {e : Expr} {e' : E} (hN : PE X e (tN (ev cf e'))) (hp : plX e = true) (ht : tstX e = true) (hv : isVarE e' = false) : Good cf X e e' :=
  ⟨eN hN, fun _ => hN, truth_T (eN hN) (tstX_ok ht), by rw [lz_not hv]; exact eZ (eN hN), plX_ok hp⟩
theorem good_T {e : Expr} {e' : E} (hE : PE X e (tE (ev cf e'))) (hT : PT X e (tT fun v => truOf (ev cf e' v))) (hp : plX e = true) (hn : isNew e' = false) (hv : isVarE e' = false) : Good cf X e e' :=
  ⟨hE, fun q => absurd (hn ▸ q) Bool.false_ne_true, hT, by rw [lz_not hv]; exact eZ hE, plX_ok hp⟩
structure Goods (cf : Cf) (X : Cx) (es : List Expr) (es' : List E) : Prop where
  A : PA X es (tA (evs cf es'))
  Z : PA X es (tZs (lzs cf es'))
  pl : ∀ e ∈ es, Pl X e
  len : es.length = es'.length
theorem evs_len (cf : Cf) : ∀ (es : List E) (v : En) (ds : List D) (v' : En), evs cf es v = .ok (ds, v') → ds.length = es.length
  | [], v, ds, v', h => by
    have h : (Except.ok ([], v) : R (List D × En)) = .ok (ds, v') := by rw [evs] at h; exact h
    cases ok_inj h; rfl
  | e :: r, v, ds, v', h => by
    have h : ((ev cf e v).bind fun x => (evs cf r x.2).map fun y => (x.1 :: y.1, y.2)) = .ok (ds, v') := by rw [evs] at h; exact h
    obtain ⟨⟨d1, v1⟩, e1, h⟩ := bind_ok h
    obtain ⟨⟨d2, v2⟩, e2, h⟩ := map_ok h
    cases h
    simp [evs_len cf r v1 d2 _ e2]
theorem star_all {es : List Expr} (h : ∀ e ∈ es, Pl X e) (pos : Pos) : (backTo pos (starEach es X.env)).any (·.1) = false := by
  induction es with
  | nil => rfl
  | cons e r ih =>
    rw [(h e List.mem_cons_self).st r]
    have q := ih fun x hx => h x (List.mem_cons_of_mem _ hx)
    show (false || (backTo pos (starEach r X.env)).any (·.1)) = false
    rw [q]; rfl
theorem star_len {es : List Expr} (h : ∀ e ∈ es, Pl X e) : starEach es X.env = es.map fun e => (false, eval e X.env) := by
  induction es with
  | nil => rfl
  | cons e r ih => rw [(h e List.mem_cons_self).st r, ih fun x hx => h x (List.mem_cons_of_mem _ hx)]; rfl
theorem star_few {es : List Expr} (h : ∀ e ∈ es, Pl X e) (pos : Pos) (hl : es.length < 29) : ((backTo pos (starEach es X.env)).all (fun x => !x.1) && (backToKw pos (keywordEach [] X.env)).all (fun x => x.1.isSome)
      && decide (es.length + ([] : List Keyword).length + (if ([] : List Keyword).isEmpty then 0 else 1) < 30)) = true := by
  have h1 : (backTo pos (starEach es X.env)).all (fun x => !x.1) = true := by
    rw [star_len h]
    unfold backTo
    rw [List.map_map, List.all_map, List.all_eq_true]
    intro x _
    rfl
  have h2 : (backToKw pos (keywordEach [] X.env)).all (fun x => x.1.isSome) = true := rfl
  rw [h1, h2]
  simp only [List.isEmpty_nil, if_true, List.length_nil, Bool.true_and, decide_eq_true_eq]
  omega

/-! ### built-ins -/
def bval : Blt → Value
  | .len => .builtin "len" | .abs => .builtin "abs" | .min => .builtin "min" | .max => .builtin "max" | .sum => .builtin "sum" | .sorted => .builtin "sorted" | .list => .type "list" | .tuple => .type "tuple" | .int => .type "int" | .all => .builtin "all" | .any => .builtin "any" | .str => .type "str" | .range => .type "range"
theorem boot_b : ∀ f : Blt, bootBuiltins (bltN f) = some (bval f) := by
  intro f
  cases f <;> decide +kernel
theorem callD_b (hu : X.A.units + 70 < cLine) (hc : X.calm = true) : ∀ f : Blt, CallD X (bval f) (blt f)
  | .len => callD_len
  | .abs => callD_abs
  | .min => callD_min hu hc
  | .max => callD_max hu hc
  | .sum => callD_sum hc
  | .sorted => callD_sorted hu
  | .list => callD_list
  | .tuple => callD_tuple
  | .int => callD_int
  | .all => callD_all hc
  | .any => callD_any hc
  | .str => fun pins s σ H xs us Q I r ⟨Hf, ps, d, sm, hp, e, k⟩ => by rcases blt_cases e with ⟨p, rfl, e⟩ | ⟨p, q, rfl, e⟩ <;> cases e
  | .range => fun pins s σ H xs us Q I r ⟨Hf, ps, d, sm, hp, e, k⟩ => by rcases blt_cases e with ⟨p, rfl, e⟩ | ⟨p, q, rfl, e⟩ <;> cases e
theorem bltN_mem : ∀ f : Blt, bltN f ∈ bnames := by
  intro f
  cases f <;> decide +kernel
theorem bltN_nn : ∀ f : Blt, bltN f ≠ "__name__" := by
  intro f
  cases f <;> decide +kernel
theorem call_b {f : Blt} {x : Expr} {xs : List Expr} {p pos : Pos} {r : List V → Hp → VK → Prop} {t : TA} (hg : Gl X (bltN f)) (hd : (bltN f == ("__debug__" : Str)) = false) (hm : X.mg (bltN f) = none) (hp : ∀ e ∈ x :: xs, Pl X e) (hc : CallR X (bval f) r) (ha : PA X (x :: xs) t) : PE X (.Call (.Name (bltN f) p) (x :: xs) [] pos) (tCB r t) := by
  have he := (hp x List.mem_cons_self).st xs
  have hpl := star_all (fun e h => hp e (List.mem_cons_of_mem _ h)) pos
  have hb := boot_b f
  have hn := bltN_nn f
  cases f
  case list => exact pe_callTy hc hg hm hb ha hn hd he hpl
  case tuple => exact pe_callTy hc hg hm hb ha hn hd he hpl
  case int => exact pe_callTy hc hg hm hb ha hn hd he hpl
  case str => exact pe_callTy hc hg hm hb ha hn hd he hpl
  case range => exact pe_callTy hc hg hm hb ha hn hd he hpl
  all_goals exact pe_callB hc hg hm hb ha hn hd he hpl
theorem ty_E {t : Ty} {p : Pos} (h : XOk cf T X) (g : glo T (tyS t) = true) : PE X (.Name (Str.ofString (tyN t)) p) (tC (.ty (tyN t))) := by
  have e : tyS t = Str.ofString (tyN t) := by cases t <;> rfl
  rw [e] at g
  obtain ⟨hg, hd⟩ := h.gl g
  exact pe_bltn hg (h.mgB _ (by cases t <;> decide +kernel)) (boot_ty t) rfl (by cases t <;> decide +kernel) hd
theorem tyS_eq (t : Ty) : tyS t = Str.ofString (tyN t) := by cases t <;> rfl
theorem chkTy_go (h : XOk cf T X) : ∀ {ts : List Ty} {xs : List Expr}, chkTy.go T ts xs = true → PA X xs (fun σ H Q => Q (ts.map fun t => V.ty (tyN t)) H)
  | [], [], _ => tys_nil
  | [], _ :: _, g => by cases g
  | _ :: _, [], g => by cases g
  | t :: ts, x :: xs, g => by
    cases x with
    | Name y p =>
      simp only [chkTy.go, Bool.and_eq_true, decide_eq_true_eq] at g
      obtain ⟨⟨rfl, g1⟩, g2⟩ := g
      have e := ty_E (p := p) h g1
      rw [tyS_eq]
      exact tys_cons e (chkTy_go h g2)
    | _ => cases g
end
end Lp

set_option Elab.async false
set_option linter.all false
set_option autoImplicit false
set_option maxRecDepth 100000
set_option maxHeartbeats 8000000
namespace Lp
open PySem PySem.Spec L2
section
variable {cf : Cf} {T : Tc} {X : Cx}
/-! ### targets -/
theorem slot_ix (h : XOk cf T X) {i : Nat} {x : Str} (g : slotOk T i x = true) : X.N[i]? = some x := by
  unfold slotOk at g
  rw [h.hN]
  exact of_decide_eq_true g
theorem nm_ok (h : XOk cf T X) {i : Nat} {x : Str} {p : Pos} (g : loc T i x = true) : PG X (.Name x p) (gName i) := by
  unfold loc at g
  simp only [Bool.and_eq_true] at g
  have h1 : X.N.Nodup := by rw [h.hN]; exact h.nd
  have h2 : Loc X.env.scope x := by rw [h.sc]; exact isLoc_ok g.1.2
  have h3 : X.fn x = true ∨ X.env.scope.names.lookup x = some .local := by rw [h.sc]; exact h.fnv x (isLoc_ok g.2)
  exact pg_name h1 (slot_ix h g.1.1) h2 h3
theorem chkT_not {t : Tg} {e : Expr} (g : chkT T t e = true) : (∃ i x p, t = .nm i ∧ e = .Name x p ∧ loc T i x = true) ∨ ∃ ts xs k p, t = .tp ts ∧ e = .Tuple xs k p ∧ chkTs T ts xs = true := by
  cases t with
  | nm i =>
    cases e with
    | Name x p => rw [chkT] at g; exact .inl ⟨i, x, p, rfl, rfl, g⟩
    | _ => simp [chkT] at g
  | tp ts =>
    cases e with
    | Tuple xs k p => rw [chkT] at g; exact .inr ⟨ts, xs, k, p, rfl, rfl, g⟩
    | _ => simp [chkT] at g
def notStar : Expr → Bool
  | .Starred _ _ => false
  | _ => true
theorem asg_star {e : Expr} {es : List Expr} {env : Env} (h : notStar e = true) : assignEach (e :: es) env = (false, assign e env) :: assignEach es env := by
  cases e <;> first | rfl | cases h
theorem chkT_star {t : Tg} {e : Expr} (g : chkT T t e = true) : notStar e = true := by
  rcases chkT_not g with ⟨i, x, p, _, rfl, _⟩ | ⟨ts, xs, k, p, _, rfl, _⟩ <;> rfl
theorem chkTs_len {env : Env} : ∀ {ts : List Tg} {xs : List Expr}, chkTs T ts xs = true → (assignEach xs env).length = ts.length ∧ (assignEach xs env).findIdx? (·.1) = none ∧ xs.length = ts.length
  | [], [], _ => ⟨rfl, rfl, rfl⟩
  | [], _ :: _, g => by simp [chkTs] at g
  | _ :: _, [], g => by simp [chkTs] at g
  | t :: ts, x :: xs, g => by
    rw [chkTs, Bool.and_eq_true] at g
    obtain ⟨h1, h2, h3⟩ := chkTs_len (env := env) g.2
    rw [asg_star (chkT_star g.1)]
    refine ⟨by simp [h1], ?_, by simp [h3]⟩
    rw [List.findIdx?_cons]
    simp [h2]
mutual
theorem okT (cf : Cf) : ∀ (t : Tg) {T : Tc} {X : Cx} {e : Expr}, XOk cf T X → chkT T t e = true → PG X e (tG t)
  | .nm i, T, X, e, h, g => by
    rcases chkT_not g with ⟨j, x, p, q, rfl, g'⟩ | ⟨ts, xs, k, p, q, rfl, g'⟩
    · cases q; exact nm_G (nm_ok h g')
    · cases q
  | .tp ts, T, X, e, h, g => by
    rcases chkT_not g with ⟨j, x, p, q, rfl, g'⟩ | ⟨ts', xs, k, p, q, rfl, g'⟩
    · cases q
    · cases q
      obtain ⟨h1, h2, _⟩ := chkTs_len (env := X.env) g'
      exact tp_G h.calm h1 h2 (okTs cf ts h g')
theorem okTs (cf : Cf) : ∀ (ts : List Tg) {T : Tc} {X : Cx} {es : List Expr}, XOk cf T X → chkTs T ts es = true → PGs X es (tGs ts)
  | [], T, X, es, h, g => by
    cases es with
    | nil => exact nil_Gs
    | cons _ _ => simp [chkTs] at g
  | t :: ts, T, X, es, h, g => by
    cases es with
    | nil => simp [chkTs] at g
    | cons e es =>
      rw [chkTs, Bool.and_eq_true] at g
      exact cons_Gs (by rw [asg_star (chkT_star g.1)]; rfl) (okT cf t h g.1) (okTs cf ts h g.2)
end
/-! ### small facts -/
theorem isNm_eq (t : Tg) : isNmT t = isNm t := by cases t <;> rfl
theorem pl_of {t : Tg} {it : It} (g : (!isNmT t || plOf it) = true) : isNm t = true → plOf it = true := fun h => by
  rw [isNm_eq, h] at g
  simpa using g
theorem own_snd (T : Tc) (is : List Nat) : (ownOf T is).map (·.2) = is := by
  unfold ownOf
  rw [List.map_map]
  exact (List.map_congr_left fun i _ => rfl).trans (List.map_id _)
theorem blk_ok (h : XOk cf T X) {scope : Scope} {own : List (Str × Nat)} (g : blk T.N T.sc scope own = true) : BlkOk X.N X.env.scope scope own := by
  refine blkOk_by ?_
  rw [h.hN, h.sc]
  exact g
end
end Lp

set_option Elab.async false
set_option linter.all false
set_option autoImplicit false
set_option maxRecDepth 100000
set_option maxHeartbeats 8000000
namespace Lp
open PySem PySem.Spec L2
theorem conv_E {X : Cx} {e : Expr} {f g : En → R (D × En)} (h : PE X e (tE f)) (q : ∀ v, g v = f v) : PE X e (tE g) := by
  have : g = f := funext q
  rw [this]; exact h
theorem conv_N {X : Cx} {e : Expr} {f g : En → R (D × En)} (h : PE X e (tN f)) (q : ∀ v, g v = f v) : PE X e (tN g) := by
  have : g = f := funext q
  rw [this]; exact h
theorem conv_T {X : Cx} {e : Expr} {f g : En → R (Bool × En)} (h : PT X e (tT f)) (q : ∀ v, g v = f v) : PT X e (tT g) := by
  have : g = f := funext q
  rw [this]; exact h
theorem conv_A {X : Cx} {es : List Expr} {f g : En → R (List D × En)} (h : PA X es (tA f)) (q : ∀ v, g v = f v) : PA X es (tA g) := by
  have : g = f := funext q
  rw [this]; exact h
theorem conv_Z {X : Cx} {es : List Expr} {f g : En → R (List Lz × En)} (h : PA X es (tZs f)) (q : ∀ v, g v = f v) : PA X es (tZs g) := by
  have : g = f := funext q
  rw [this]; exact h
theorem conv_P {X : Cx} {e : Option Expr} {f g : En → R (Option Int × En)} (h : PO X e (tP f)) (q : ∀ v, g v = f v) : PO X e (tP g) := by
  have : g = f := funext q
  rw [this]; exact h
theorem conv_I {X : Cx} {pl : Bool} {tg e : Expr} {f g : En → R (List D × En)} (h : PI X tg e (tI pl f)) (q : ∀ v, g v = f v) : PI X tg e (tI pl g) := by
  have : g = f := funext q
  rw [this]; exact h
theorem map_map {A B C : Type} (x : R A) (f : A → B) (g : B → C) : (x.map f).map g = x.map fun a => g (f a) := by cases x <;> rfl
theorem map_bind {A B C : Type} (x : R A) (f : A → B) (g : B → R C) : (x.map f).bind g = x.bind fun a => g (f a) := by cases x <;> rfl
theorem bind_map {A B C : Type} (x : R A) (f : A → R B) (g : B → C) : (x.bind f).map g = x.bind fun a => (f a).map g := by cases x <;> rfl
theorem bind_bind {A B C : Type} (x : R A) (f : A → R B) (g : B → R C) : (x.bind f).bind g = x.bind fun a => (f a).bind g := by cases x <;> rfl
theorem bind_congr {A B : Type} (x : R A) {f g : A → R B} (h : ∀ a, f a = g a) : x.bind f = x.bind g := by
  cases x with
  | error e => rfl
  | ok a => exact h a
theorem map_congr {A B : Type} (x : R A) {f g : A → B} (h : ∀ a, f a = g a) : x.map f = x.map g := by
  cases x with
  | error e => rfl
  | ok a => exact congrArg Except.ok (h a)
theorem tru_tru {d : D} {b : Bool} (h : tru d = .ok b) : (tru d).map (fun c => c) = .ok b := by rw [h]; rfl
theorem neg_op1 (a : E) (r : En → R (D × En)) (v : En) : (one a r v fun p v' => match p with
    | .int i => .ok (.int (-i), v')
    | _ => bad) = op1 (lzOf a r) negD v := by
  unfold one op1
  refine bind_congr _ fun x => bind_congr _ fun p => ?_
  cases p <;> rfl
/-- the test of an and -/
theorem and_tst (f g : En → R (D × En)) (v : En) : truOf (andF f g v) = (truOf (f v)).bind fun x => match x.1 with
    | true => truOf (g x.2)
    | false => .ok x := by
  unfold andF truOf
  cases f v with
  | error e => rfl
  | ok x =>
    obtain ⟨d, v1⟩ := x
    show ((tru d).bind fun t => match t with
      | true => g v1
      | false => .ok (d, v1)).bind (fun x => (tru x.1).map fun b => (b, x.2)) = ((tru d).map fun b => (b, v1)).bind _
    cases h : tru d with
    | error e => rfl
    | ok b =>
      cases b with
      | true => rfl
      | false =>
        show (tru d).map (fun b => (b, v1)) = _
        rw [h]; rfl
theorem or_tst (f g : En → R (D × En)) (v : En) : truOf (orF f g v) = (truOf (f v)).bind fun x => match x.1 with
    | false => truOf (g x.2)
    | true => .ok x := by
  unfold orF truOf
  cases f v with
  | error e => rfl
  | ok x =>
    obtain ⟨d, v1⟩ := x
    show ((tru d).bind fun t => match t with
      | false => g v1
      | true => .ok (d, v1)).bind (fun x => (tru x.1).map fun b => (b, x.2)) = ((tru d).map fun b => (b, v1)).bind _
    cases h : tru d with
    | error e => rfl
    | ok b =>
      cases b with
      | false => rfl
      | true =>
        show (tru d).map (fun b => (b, v1)) = _
        rw [h]; rfl
theorem pl_pos {X : Cx} {e : Expr} (h : plX e = true) : Pl X e := plX_ok h
theorem lm2 {X : Cx} {op op' : CmpOp} {b c : Expr} (hb : Pl X b) (hc : Pl X c) : lastMarks [op, op'] [b, c] = false := by
  show lastMarks [op'] [c] = false
  exact hc.bh op'
theorem attr_ok {X : Cx} {o : Expr} {name : Str} (h : attrOk o = true) : attributeBase o name X.env (eval o X.env) = eval o X.env := by
  cases o with
  | Name _ _ => rfl
  | Call f xs kw p =>
    cases xs with
    | nil => cases h
    | cons x r => cases f <;> rfl
  | Constant _ _ _ => rfl
  | _ => cases h
/-- a comparison's test -/
theorem cmpT {X : Cx} {a b : Expr} {pos : Pos} {op : CmpOp} {fa fb : En → R (Lz × En)} (hu : X.A.units + 65 < cLine) (hm : behindInMarks op b = false) (ha : PE X a (tZ fa)) (hb : PE X b (tZ fb)) :
    PT X (.Compare a [op] [b] pos) (tT fun v => truOf (op2 fa fb (cmpD op) v)) :=
  imp_T (pt_cmpR (opD_cmp hu op) ha hb hm) fun σ H Q ⟨io, Hf, C, v, bb, v', r, e, k⟩ => by
    obtain ⟨⟨d, v1⟩, e1, e⟩ := bind_ok e
    obtain ⟨b', e2, e⟩ := map_ok e
    cases e
    refine op2_imp (P := Res) (T := NewR) (fun r p => Res.new r p) ⟨io, Hf, C, v, d, _, r, e1, fun x H' Hf' r' s n => ?_⟩
    obtain ⟨⟨za, va⟩, g1, g⟩ := bind_ok e1
    obtain ⟨⟨zb, vb⟩, g2, g⟩ := bind_ok g
    obtain ⟨p, g3, g⟩ := bind_ok g
    obtain ⟨q, g4, g⟩ := bind_ok g
    obtain ⟨d', g5, g⟩ := map_ok g
    cases g
    obtain ⟨c, g6, g7⟩ := map_ok g5
    subst g7
    rcases n with ⟨_, n⟩ | ⟨p, o, rfl, e, w, F⟩
    · have := ok_inj (show (Except.ok c : R Bool) = .ok bb from e2)
      subst this
      exact ⟨c, bool_of n, k _ _ r' s⟩
    · cases w
theorem cmp2T {X : Cx} {a b c : Expr} {pos : Pos} {op op' : CmpOp} {fa fb fc : En → R (Lz × En)} (hu : X.A.units + 65 < cLine) (hm : lastMarks [op, op'] [b, c] = false) (ha : PE X a (tZ fa)) (hb : PE X b (tZ fb)) (hc : PE X c (tZ fc)) :
    PT X (.Compare a [op, op'] [b, c] pos) (tT fun v => truOf (chn fa fb fc (cmp op) (cmp op') v)) := by
  refine imp_T (pt_chain (opD_cmp hu op) (opD_cmp hu op') ha hb hc hm) fun σ H Q ⟨io, Hf, C, v, bb, v', r, e, k⟩ => ?_
  obtain ⟨⟨d0, v0⟩, e0, e⟩ := bind_ok e
  obtain ⟨b0, e00, e⟩ := map_ok e
  cases e
  obtain ⟨⟨za, va⟩, e1, e⟩ := bind_ok e0
  obtain ⟨⟨zb, vb⟩, e2, e⟩ := bind_ok e
  obtain ⟨p, e3, e⟩ := bind_ok e
  obtain ⟨q, e4, e⟩ := bind_ok e
  obtain ⟨d', e5, e⟩ := bind_ok e
  refine ⟨io, Hf, C, v, za, va, r, e1, fun x H1 Hf1 r1 s1 h1 => ⟨io, Hf1, C, va, zb, vb, r1, e2, fun y H2 Hf2 r2 s2 h2 => ⟨Hf2, p, q, .bool d', r2.le, (h1.mono s2).get r2 e3, h2.get r2 e4, by unfold cmpD; rw [e5]; rfl, fun z H' hr => ?_⟩⟩⟩
  obtain ⟨rfl, rfl⟩ := res_bool hr
  refine ⟨d', rfl, ?_⟩
  cases d' with
  | false =>
    cases ok_inj e
    cases ok_inj (show (Except.ok false : R Bool) = .ok bb from e00)
    exact ⟨false, rfl, k _ Hf2 r2 (s1.trans s2)⟩
  | true =>
    obtain ⟨⟨zc, vc⟩, e6, e⟩ := bind_ok e
    obtain ⟨q', e7, e⟩ := bind_ok e
    obtain ⟨t, e8, e⟩ := bind_ok e
    obtain ⟨d2, e9, e⟩ := map_ok e
    cases e
    cases ok_inj (show (Except.ok d2 : R Bool) = .ok bb from e00)
    refine ⟨io, Hf2, C, _, zc, _, r2, e6, fun w H4 Hf4 r4 s4 h4 => ⟨Hf4, q', t, .bool bb, r4.le, (h2.mono s4).get r4 e7, h4.get r4 e8, by unfold cmpD; rw [e9]; rfl, fun z H' hr => ?_⟩⟩
    obtain ⟨rfl, rfl⟩ := res_bool hr
    exact ⟨bb, rfl, k _ Hf4 r4 ((s1.trans s2).trans s4)⟩
theorem iteT {X : Cx} {c a b : Expr} {pos : Pos} {fc f g : En → R (Bool × En)} (hc : PT X c (tT fc)) (ha : PT X a (tT f)) (hb : PT X b (tT g)) : PT X (.IfExp c a b pos) (tT fun v => (fc v).bind fun x => match x.1 with
    | true => f x.2
    | false => g x.2) := by
  refine ⟨fun pins s σ H Q I ⟨io, Hf, C, v, d, v', r, e, k⟩ => ?_⟩
  obtain ⟨⟨b', v1⟩, e1, e⟩ := bind_ok e
  show wpAny _ _ (do if ← isTrue c X.env (eval c X.env) then isTrue a X.env (eval a X.env) else isTrue b X.env (eval b X.env)) _ _ s
  refine wpAny_bind (thn (hc.run pins s σ H (fun bb H' => bb = b' ∧ ∃ Hf', Rel io Hf' C σ H' v1 ∧ Same Hf Hf') I ⟨io, Hf, C, v, b', v1, r, e1, fun H' Hf' r' s' => ⟨rfl, Hf', r', s'⟩⟩) fun bb s1 ⟨H1, I1, eb, Hf', r', s'⟩ => ?_)
  subst eb
  cases bb with
  | true => exact ha.run pins s1 σ H1 Q I1 ⟨io, Hf', C, v1, d, v', r', e, fun H2 Hf2 r2 s2 => k _ _ r2 (s'.trans s2)⟩
  | false => exact hb.run pins s1 σ H1 Q I1 ⟨io, Hf', C, v1, d, v', r', e, fun H2 Hf2 r2 s2 => k _ _ r2 (s'.trans s2)⟩
theorem pts_none {X : Cx} : PTs X [] (tT fun v => .ok (true, v)) := ⟨fun pins s σ H Q I ⟨io, Hf, C, v, d, v', r, e, k⟩ => by
  cases ok_inj e
  exact pts_nil.run pins s σ H Q I (k _ _ r (Same.refl _))⟩
end Lp

set_option Elab.async false
set_option linter.all false
set_option autoImplicit false
set_option maxRecDepth 100000
set_option maxHeartbeats 16000000
namespace Lp
open PySem PySem.Spec L2
theorem mem_b {s : Str} (h : bnames.contains s = true) : s ∈ bnames := List.contains_iff_mem.mp h
theorem negF (a : E) (cf : Cf) (v : En) : ev cf (.neg a) v = op1 (lzOf a (ev cf a)) negD v := by
  rw [ev]
  exact neg_op1 a _ v
theorem nil_ev {cf : Cf} {σ : L2.St} {H : Hp} {K : List V → Hp → Prop} (h : tA (evs cf []) σ H K) : K [] H := by
  obtain ⟨io, Hf, C, v, ds, v', r, e, k⟩ := h
  rw [evs] at e
  cases ok_inj e
  exact k [] H Hf r (Same.refl _) .nil
theorem callX {cf : Cf} {T : Tc} {X : Cx} (h : XOk cf T X) {g : Str} {f np : Nat} {b : Bool} {p pos : Pos} {xs : List Expr} {t : TA} (gg : glo T g = true) (hf : T.fns.lookup g = some (f, np, b)) (hp : ∀ e ∈ xs, Pl X e) (ha : PA X xs t) (h0 : xs = [] → ∀ σ H K, t σ H K → K [] H) : PE X (.Call (.Name g p) xs [] pos) (tCall (spC cf np f) [] L2.E0 t) := by
  obtain ⟨k, a, fd, ps, room, F, mg, keep, bd⟩ := h.fns g f np b hf
  obtain ⟨hg, hd⟩ := h.gl gg
  cases xs with
  | nil =>
    have q : PE X (.Call (.Name g p) [] [] pos) (tCall (spC cf np f) [] L2.E0 tNil) := pe_call0 F room hg mg keep bd .nil (fun _ _ _ _ _ _ _ z => z.elim) hd
    exact imp_E q fun σ H Q k => h0 rfl σ H _ k
  | cons e es => exact pe_call F room hg mg keep bd .nil (fun _ _ _ _ _ _ _ z => z.elim) ha hd ((hp e List.mem_cons_self).st es) (star_all (fun x hx => hp x (List.mem_cons_of_mem _ hx)) pos)
mutual
theorem okE (cf : Cf) : ∀ (e' : E) {T : Tc} {X : Cx} {e : Expr}, XOk cf T X → chkE T e' e = true → Good cf X e e'
  | .var i, T, X, e, h, g => by
    unfold chkE at g
    split at g
    · have hv := h.tv (p := by assumption) g
      have hE : PE X _ (tE (ev cf (.var i))) := conv_E (var_E hv) fun v => by rw [ev]
      exact ⟨hE, fun q => (nomatch q), truth_T hE (tstX_ok rfl), var_Z hv, plX_ok rfl⟩
    · cases g
  | .cst d, T, X, e, h, g => by
    unfold chkE at g
    split at g
    · rename_i c k p
      have hE : PE X (.Constant c k p) (tE (ev cf (.cst d))) := by
        unfold cstOk at g
        split at g
        · exact conv_E (cst_E pe_non fun _ => .non) fun v => by rw [ev]
        · cases of_decide_eq_true g
          exact conv_E (cst_E pe_bl fun _ => .bl _) fun v => by rw [ev]
        · cases of_decide_eq_true g
          exact conv_E (cst_E pe_int fun _ => .int _) fun v => by rw [ev]
        · cases of_decide_eq_true g
          exact conv_E (cst_E pe_str fun _ => .str _) fun v => by rw [ev]
        · cases g
      exact good_E hE rfl rfl rfl rfl
    · rename_i x p
      simp only [Bool.and_eq_true] at g
      obtain ⟨g1, g2⟩ := g
      split at g2
      · rename_i n
        obtain ⟨u, hu, r⟩ := h.mgC _ _ (of_decide_eq_true g2)
        obtain ⟨hg, hd⟩ := h.gl g1
        have hE : PE X (.Name x p) (tE (ev cf (.cst (.int n)))) := conv_E (cst_E (pe_glob hg hu r hd) fun _ => .int _) fun v => by rw [ev]
        exact good_E hE rfl rfl rfl rfl
      · cases g2
    · cases g
  | .bin op a b, T, X, e, h, g => by
    unfold chkE at g
    split at g
    · simp only [Bool.and_eq_true, decide_eq_true_eq] at g
      obtain ⟨⟨rfl, g1⟩, g2⟩ := g
      have ga := okE cf a h g1
      have gb := okE cf b h g2
      exact good_N (conv_N (bin_N ga.Z gb.Z) fun v => by rw [ev] <;> rfl) rfl rfl rfl
    · cases g
  | .neg a, T, X, e, h, g => by
    unfold chkE at g
    split at g
    · have ga := okE cf a h g
      exact good_E (conv_E (neg_E ga.Z) fun v => negF a cf v) rfl rfl rfl rfl
    · cases g
  | .not a, T, X, e, h, g => by
    unfold chkE at g
    split at g
    · have ga := okE cf a h g
      refine good_T (conv_E (not_E ga.E) fun v => by rw [ev]) (conv_T (not_T ga.T) fun v => ?_) rfl rfl rfl
      rw [ev]
      unfold truOf
      rw [map_bind]
      cases (ev cf a v).bind fun x => (tru x.1).map fun b => (b, x.2) with
      | error e => rfl
      | ok x => rfl
    · cases g
  | .cmp op a b, T, X, e, h, g => by
    unfold chkE at g
    split at g
    · simp only [Bool.and_eq_true, decide_eq_true_eq] at g
      obtain ⟨⟨rfl, g1⟩, g2⟩ := g
      have ga := okE cf a h g1
      have gb := okE cf b h g2
      have hu : X.A.units + 65 < cLine := by have := h.un; omega
      have eqv : ∀ v, ev cf (.cmp op a b) v = op2 (lzOf a (ev cf a)) (lzOf b (ev cf b)) (cmpD op) v := fun v => by
        rw [ev]
        unfold two op2 cmpD
        exact bind_congr _ fun x => bind_congr _ fun y => bind_congr _ fun p => bind_congr _ fun q => by
          show Except.map _ _ = _
          cases Lp.cmp op p q <;> rfl
      refine good_T (conv_E (eN (cmp_N hu (gb.pl.bh op) ga.Z gb.Z)) eqv) (conv_T (cmpT hu (gb.pl.bh op) ga.Z gb.Z) fun v => by rw [eqv v]) rfl rfl rfl
    · cases g
  | .cmp2 op op2 a b c, T, X, e, h, g => by
    unfold chkE at g
    split at g
    · simp only [Bool.and_eq_true, decide_eq_true_eq] at g
      obtain ⟨⟨⟨⟨rfl, rfl⟩, g1⟩, g2⟩, g3⟩ := g
      have ga := okE cf a h g1
      have gb := okE cf b h g2
      have gc := okE cf c h g3
      have hu : X.A.units + 65 < cLine := by have := h.un; omega
      have eqv : ∀ v, ev cf (.cmp2 op op2 a b c) v = chn (lzOf a (ev cf a)) (lzOf b (ev cf b)) (lzOf c (ev cf c)) (Lp.cmp op) (Lp.cmp op2) v := fun v => by rw [ev] <;> rfl
      exact good_T (conv_E (cmp2_E hu (lm2 gb.pl gc.pl) ga.Z gb.Z gc.Z) eqv) (conv_T (cmp2T hu (lm2 gb.pl gc.pl) ga.Z gb.Z gc.Z) fun v => by rw [eqv v]) rfl rfl rfl
    · cases g
  | .and a b, T, X, e, h, g => by
    unfold chkE at g
    split at g
    · rename_i x y rest p
      simp only [Bool.and_eq_true] at g
      obtain ⟨g1, g2⟩ := g
      have ga := okE cf a h g1
      have eqv : ∀ v, ev cf (.and a b) v = andF (ev cf a) (ev cf b) v := fun v => by rw [ev] <;> rfl
      have hb : PE X (.BoolOp .And (y :: rest) p) (tE (ev cf b)) ∧ PW X (.BoolOp .And (y :: rest) p) (tT fun v => truOf (ev cf b v)) := by
        split at g2
        · have gb := okE cf b h g2
          exact ⟨pe_one gb.E, pw_and1 gb.T⟩
        · rename_i hne
          have gb := okE cf b h g2
          refine ⟨gb.E, ⟨fun wh pins s σ H Q I q => ?_⟩⟩
          exact gb.T.run pins s σ H Q I q
      exact good_T (conv_E (and_E ga.E hb.1) eqv) (conv_T (and_W ga.T hb.2).pt fun v => by rw [eqv v]; exact and_tst _ _ v) rfl rfl rfl
    · cases g
  | .or a b, T, X, e, h, g => by
    unfold chkE at g
    split at g
    · rename_i x y rest p
      simp only [Bool.and_eq_true] at g
      obtain ⟨g1, g2⟩ := g
      have ga := okE cf a h g1
      have eqv : ∀ v, ev cf (.or a b) v = orF (ev cf a) (ev cf b) v := fun v => by rw [ev] <;> rfl
      have hb : PE X (.BoolOp .Or (y :: rest) p) (tE (ev cf b)) ∧ PW X (.BoolOp .Or (y :: rest) p) (tT fun v => truOf (ev cf b v)) := by
        split at g2
        · have gb := okE cf b h g2
          exact ⟨pe_one gb.E, pw_or1 gb.T⟩
        · have gb := okE cf b h g2
          refine ⟨gb.E, ⟨fun wh pins s σ H Q I q => ?_⟩⟩
          exact gb.T.run pins s σ H Q I q
      exact good_T (conv_E (or_E ga.E hb.1) eqv) (conv_T (or_W ga.T hb.2).pt fun v => by rw [eqv v]; exact or_tst _ _ v) rfl rfl rfl
    · cases g
  | .ite c a b, T, X, e, h, g => by
    unfold chkE at g
    split at g
    · simp only [Bool.and_eq_true] at g
      have gc := okE cf c h g.1.1
      have ga := okE cf a h g.1.2
      have gb := okE cf b h g.2
      refine good_T (conv_E (ite_E gc.T ga.E gb.E) fun v => by rw [ev] <;> rfl) (conv_T (iteT gc.T ga.T gb.T) fun v => ?_) rfl rfl rfl
      rw [ev]
      cases truOf (ev cf c v) with
      | error e => rfl
      | ok x => obtain ⟨b', v1⟩ := x; cases b' <;> rfl
    · cases g
  | .tup es, T, X, e, h, g => by
    unfold chkE at g
    split at g
    · simp only [Bool.and_eq_true, decide_eq_true_eq] at g
      have ga := okEs cf es h g.2
      exact good_N (conv_N (tup_N (fun v ds v' q => by rw [evs_len cf es v ds v' q]; exact Nat.le_trans g.1 (by decide)) ga.A) fun v => by rw [ev]) rfl rfl rfl
    · cases g
  | .lst es, T, X, e, h, g => by
    unfold chkE at g
    split at g
    · simp only [Bool.and_eq_true, decide_eq_true_eq] at g
      have ga := okEs cf es h g.2
      exact good_N (conv_N (lst_N (fun v ds v' q => by rw [evs_len cf es v ds v' q]; exact Nat.le_trans g.1 (by decide)) ga.A) fun v => by rw [ev]) rfl rfl rfl
    · cases g
  | .sub a i, T, X, e, h, g => by
    unfold chkE at g
    split at g
    · simp only [Bool.and_eq_true] at g
      have ga := okE cf a h g.1
      have gi := okE cf i h g.2
      exact good_E (conv_E (sub_E gi.pl.ix ga.Z gi.Z) fun v => by rw [ev] <;> rfl) rfl rfl rfl rfl
    · cases g
  | .cut a lo hi, T, X, e, h, g => by
    unfold chkE at g
    split at g
    · simp only [Bool.and_eq_true] at g
      have ga := okE cf a h g.1.1
      have gl := okO cf lo h g.1.2
      have gh := okO cf hi h g.2
      exact good_N (conv_N (cut_N ga.Z gl gh) fun v => by rw [ev]) rfl rfl rfl
    · cases g
  | .rev a, T, X, e, h, g => by
    unfold chkE at g
    split at g
    · have ga := okE cf a h g
      exact good_N (conv_N (revL_N ga.Z) fun v => by rw [ev] <;> rfl) rfl rfl rfl
    · cases g
  | .isa a ts, T, X, e, h, g => by
    unfold chkE at g
    split at g
    · rename_i f p x c pos
      simp only [Bool.and_eq_true, decide_eq_true_eq] at g
      obtain ⟨⟨⟨rfl, g0⟩, g1⟩, g2⟩ := g
      have ga := okE cf a h g1
      obtain ⟨hg, _⟩ := h.gl g0
      have hm := h.mgB ("isinstance" : Str) (mem_b (by decide +kernel))
      have eqv : ∀ v, ev cf (.isa a ts) v = op1 (lzOf a (ev cf a)) (fun d => .ok (.bool (ts.any fun t => isTy t d))) v := fun v => by rw [ev] <;> rfl
      unfold chkTy at g2
      split at g2
      · rename_i t y p2
        simp only [Bool.and_eq_true, decide_eq_true_eq] at g2
        obtain ⟨rfl, g3⟩ := g2
        have hT := ty_E (p := p2) h g3
        have e1 := tyS_eq t
        rw [e1]
        exact good_E (conv_E (isa1_E hg hm (ga.pl.st _) ga.Z hT) eqv) rfl rfl rfl rfl
      · rename_i ts' xs k2 p2 _
        simp only [Bool.and_eq_true, decide_eq_true_eq] at g2
        exact good_E (conv_E (isaT_E hg hm (ga.pl.st _) rfl ga.Z (tys_T g2.1 (chkTy_go h g2.2))) eqv) rfl rfl rfl rfl
      · cases g2
    · cases g
  | .blt f es, T, X, e, h, g => by
    unfold chkE at g
    split at g
    · simp only [Bool.and_eq_true, decide_eq_true_eq] at g
      obtain ⟨⟨rfl, g0⟩, g1⟩ := g
      have ga := okEs cf es h g1
      obtain ⟨hg, hd⟩ := h.gl g0
      have hm := h.mgB _ (bltN_mem f)
      exact good_N (conv_N (call_N (callD_b h.un h.calm f) (fun hr ha => call_b hg hd hm ga.pl hr ha) ga.Z) fun v => by rw [ev]) rfl rfl rfl
    · cases g
  | .mt m o es, T, X, e, h, g => by
    unfold chkE at g
    split at g
    · simp only [Bool.and_eq_true, decide_eq_true_eq] at g
      obtain ⟨⟨⟨⟨⟨⟨rfl, gm⟩, g0⟩, g1⟩, g2⟩, g3⟩, g4⟩ := g
      have go := okE cf o h g0
      have ga := okEs cf es h g1
      have hu : X.A.units + 65 < cLine := by have := h.un; omega
      cases m with
      | index =>
        exact good_E (conv_E (index_E hu go.E ga.Z (attr_ok g4) (star_few ga.pl _ g2) g3 ((ga.pl _ List.mem_cons_self).st _) (star_all (fun x hx => ga.pl x (List.mem_cons_of_mem _ hx)) _)) fun v => by rw [ev] <;> rfl) rfl rfl rfl rfl
      | count =>
        exact good_E (conv_E (count_E hu go.E ga.Z (attr_ok g4) (star_few ga.pl _ g2) g3 ((ga.pl _ List.mem_cons_self).st _) (star_all (fun x hx => ga.pl x (List.mem_cons_of_mem _ hx)) _)) fun v => by rw [ev] <;> rfl) rfl rfl rfl rfl
      | join =>
        exact good_E (conv_E (join_E hu go.E ga.Z (attr_ok g4) (star_few ga.pl _ g2) g3 ((ga.pl _ List.mem_cons_self).st _) (star_all (fun x hx => ga.pl x (List.mem_cons_of_mem _ hx)) _)) fun v => by rw [ev] <;> rfl) rfl rfl rfl rfl
    · cases g
  | .call f io es, T, X, e, h, g => by
    unfold chkE at g
    split at g
    · rename_i gn p xs pos
      simp only [Bool.and_eq_true] at g
      obtain ⟨g0, g⟩ := g
      split at g
      · rename_i f' np b hf
        simp only [Bool.and_eq_true, decide_eq_true_eq] at g
        obtain ⟨rfl, g⟩ := g
        cases io with
        | none =>
          simp only [Bool.and_eq_true, decide_eq_true_eq] at g
          obtain ⟨⟨rfl, rfl⟩, g1⟩ := g
          have ga := okEs cf es h g1
          exact good_E (conv_E (call_E (es := []) (evs_len cf es) (callX h g0 hf ga.pl ga.A fun hx σ H K q => by
            have hl := ga.len
            subst hx
            cases es with
            | nil => exact nil_ev q
            | cons _ _ => cases hl)) fun v => by rw [ev]) rfl rfl rfl rfl
        | some i =>
          simp only at g
          split at g
          · rename_i y py ys
            simp only [Bool.and_eq_true, decide_eq_true_eq] at g
            obtain ⟨⟨⟨rfl, rfl⟩, g1⟩, g2⟩ := g
            have ga := okEs cf es h g2
            have hv := h.tv (p := py) g1
            have pv : Pl X (.Name y py) := plX_ok rfl
            exact good_E (conv_E (callIo_E (fun v ds v' q => by rw [evs_len cf es v ds v' q]) (callX h g0 hf (fun e he => by
              rcases List.mem_cons.mp he with rfl | he
              · exact pv
              · exact ga.pl e he) (pa_cons hv ga.A (pv.st _)) (fun z => nomatch z))) fun v => by rw [ev]) rfl rfl rfl rfl
          · cases g
      · cases g
    · cases g
  | .comp x t it c, T, X, e, h, g => by
    unfold chkE at g
    split at g
    · rename_i elt tg iter ifs scope pos
      simp only [Bool.and_eq_true] at g
      obtain ⟨⟨⟨⟨⟨g1, g2⟩, g3⟩, g4⟩, g5⟩, g6⟩ := g
      obtain ⟨gi, gf⟩ := okI cf it h g3
      have bk := blk_ok h g2
      have hN : X.N.Nodup := by rw [h.hN]; exact h.nd
      have ht : BlkX X scope fun Y => PTs Y ifs (tT (tests cf c)) := fun s H C cl fp => by
        have hb := h.blk bk.kind s H C cl fp
        split at g6
        · have : tests cf none = fun v => .ok (true, v) := by funext v; rw [tests]
          rw [this]
          exact pts_none
        · rename_i c' f'
          have gc := okE cf c' hb g6
          have : tests cf (some c') = fun v => truOf (ev cf c' v) := by funext v; rw [tests]
          rw [this]
          exact pts_one gc.T
        · cases g6
      exact good_N (conv_N (comp_N h.calm hN (pl_of g1) (own_snd T t.own) gi bk (fun s H C cl fp => okT cf t (h.blk bk.kind s H C cl fp) g4) ht (fun s H C cl fp => (okE cf x (h.blk bk.kind s H C cl fp) g5).E) gf) fun v => by rw [ev] <;> rfl) rfl rfl rfl
    · cases g
  | .comp2 _ _ _ _ _, T, X, e, h, g => by unfold chkE at g; cases g
  | .lrg a, T, X, e, h, g => by
    unfold chkE at g
    split at g
    · rename_i f p f2 p2 x pos2 pos
      simp only [Bool.and_eq_true, decide_eq_true_eq] at g
      obtain ⟨⟨⟨⟨rfl, g0⟩, rfl⟩, g1⟩, g2⟩ := g
      have ga := okE cf a h g2
      obtain ⟨hg, _⟩ := h.gl g0
      obtain ⟨hg2, _⟩ := h.gl g1
      exact good_N (conv_N (lrg_N h.calm hg (h.mgB ("list" : Str) (mem_b (by decide +kernel))) hg2 (h.mgB ("range" : Str) (mem_b (by decide +kernel))) ga.E (ga.pl.st [])) fun v => by rw [ev]) rfl rfl rfl
    · cases g
  | .pop i, T, X, e, h, g => by
    unfold chkE at g
    split at g
    · rename_i ov at_ apos cpos
      simp only [Bool.and_eq_true, decide_eq_true_eq] at g
      obtain ⟨⟨rfl, g0⟩, g1⟩ := g
      split at g1
      · exact good_E (conv_E (pop_E (h.tv g1) rfl g0) fun v => by rw [ev]) rfl rfl rfl rfl
      · cases g1
    · cases g
  | .ndist x t it, T, X, e, h, g => by
    unfold chkE at g
    split at g
    · rename_i f p elt k3 p3 tg iter scope pos2 pos
      simp only [Bool.and_eq_true, decide_eq_true_eq] at g
      obtain ⟨⟨⟨⟨⟨⟨rfl, g0⟩, g1⟩, g2⟩, g3⟩, g4⟩, g5⟩ := g
      obtain ⟨gi, gf⟩ := okI cf it h g3
      have bk := blk_ok h g2
      have hN : X.N.Nodup := by rw [h.hN]; exact h.nd
      obtain ⟨hg, _⟩ := h.gl g0
      have hm := h.mgB ("len" : Str) (mem_b (by decide +kernel))
      exact good_E (conv_E (dist_E hg hm h.calm hN (pl_of g1) (own_snd T t.own) gi bk (fun s H C cl fp => okT cf t (h.blk bk.kind s H C cl fp) g4) (fun s H C cl fp => (okE cf x (h.blk bk.kind s H C cl fp) g5).E) gf) fun v => by rw [ev] <;> rfl) rfl rfl rfl rfl
    · cases g
theorem okEs (cf : Cf) : ∀ (es' : List E) {T : Tc} {X : Cx} {es : List Expr}, XOk cf T X → chkEs T es' es = true → Goods cf X es es'
  | [], T, X, es, h, g => by
    unfold chkEs at g
    split at g
    · exact ⟨conv_A nil_A fun v => by rw [evs], conv_Z nil_Z fun v => by rw [lzs], fun e he => absurd he (by simp), rfl⟩
    · cases g
  | a :: as, T, X, es, h, g => by
    unfold chkEs at g
    split at g
    · rename_i x xs
      rw [Bool.and_eq_true] at g
      have ga := okE cf a h g.1
      have gs := okEs cf as h g.2
      exact ⟨conv_A (cons_A (ga.pl.st xs) ga.E gs.A) fun v => by rw [evs] <;> rfl, conv_Z (cons_Z (ga.pl.st xs) ga.Z gs.Z) fun v => by rw [lzs] <;> rfl, fun e he => by
        rcases List.mem_cons.mp he with rfl | he
        · exact ga.pl
        · exact gs.pl e he, by simp [gs.len]⟩
    · cases g
theorem okO (cf : Cf) : ∀ (o' : Option E) {T : Tc} {X : Cx} {o : Option Expr}, XOk cf T X → chkO T o' o = true → PO X o (tP (evo cf o'))
  | none, T, X, o, h, g => by
    unfold chkO at g
    split at g
    · exact conv_P none_P fun v => by rw [evo]
    · cases g
  | some a, T, X, o, h, g => by
    unfold chkO at g
    split at g
    · exact conv_P (some_P (okE cf a h g).E) fun v => by rw [evo]; rfl
    · cases g
theorem okI (cf : Cf) : ∀ (it' : It) {T : Tc} {X : Cx} {tg it : Expr}, XOk cf T X → chkI T tg it' it = true → PI X tg it (tI (plOf it') (its cf it')) ∧ ∀ x, foldedSetIterable it X.env x = pure x
  | .seq a, T, X, tg, it, h, g => by
    unfold chkI at g
    have ga := okE cf a h g
    exact ⟨conv_I (seq_I ga.E) fun v => by rw [its], ga.pl.fo⟩
  | .rng es, T, X, tg, it, h, g => by
    unfold chkI at g
    split at g
    · rename_i fn p xs pos
      simp only [Bool.and_eq_true, decide_eq_true_eq] at g
      obtain ⟨⟨⟨⟨rfl, g0⟩, g1⟩, g2⟩, g3⟩ := g
      have ga := okEs cf es h g3
      obtain ⟨hg, _⟩ := h.gl g0
      have hm := h.mgB ("range" : Str) (mem_b (by decide +kernel))
      have ev' : ∀ v, its cf (.rng es) v = rngF (evs cf es) v := fun v => by rw [its] <;> rfl
      refine ⟨?_, fun x => rfl⟩
      have hlen := ga.len
      have hp := ga.pl
      have hA := ga.A
      have hev := evs_len cf es
      match es, xs, hlen, hp, hA, hev, g1, g2, ev' with
      | [_], [x], _, hp, hA, hev, _, _, ev' => exact conv_I (rng1_I hg hm ((hp x List.mem_cons_self).st []) hA hev) ev'
      | [_, _], [x, y], _, hp, hA, hev, _, _, ev' =>
        have hy := (hp y (List.mem_cons_of_mem _ List.mem_cons_self)).st []
        exact conv_I (rng2_I hg hm (by rw [(hp x List.mem_cons_self).st, hy]; rfl) hy hA hev) ev'
      | [_, _, _], [x, y, z], _, hp, hA, hev, _, _, ev' =>
        exact conv_I (rng3_I hg hm ((hp x List.mem_cons_self).st _) (star_all (fun e he => hp e (List.mem_cons_of_mem _ he)) _) hA hev) ev'
      | [], _, _, _, _, _, g1, _, _ => exact absurd g1 (by simp)
      | _ :: _ :: _ :: _ :: _, _, _, _, _, _, _, g2, _ => exact absurd g2 (by simp)
    · cases g
  | .enm a, T, X, tg, it, h, g => by
    unfold chkI at g
    split at g
    · simp only [Bool.and_eq_true, decide_eq_true_eq] at g
      obtain ⟨⟨⟨rfl, g0⟩, g1⟩, g2⟩ := g
      have ga := okE cf a h g1
      obtain ⟨hg, _⟩ := h.gl g0
      have hm := h.mgB ("enumerate" : Str) (mem_b (by decide +kernel))
      cases tg with
      | Tuple elts kk tpos => exact ⟨conv_I (enm_I hg hm (ga.pl.st []) ga.E) fun v => by rw [its], fun x => rfl⟩
      | _ => cases g2
    · cases g
  | .zip a b, T, X, tg, it, h, g => by
    unfold chkI at g
    split at g
    · simp only [Bool.and_eq_true, decide_eq_true_eq] at g
      obtain ⟨⟨⟨⟨rfl, g0⟩, g1⟩, g2⟩, g3⟩ := g
      have ga := okE cf a h g1
      have gb := okE cf b h g2
      obtain ⟨hg, _⟩ := h.gl g0
      have hm := h.mgB ("zip" : Str) (mem_b (by decide +kernel))
      cases tg with
      | Tuple elts kk tpos => exact ⟨conv_I (zip_I hg hm (ga.pl.st _) (gb.pl.st []) ga.E gb.E) fun v => by rw [its], fun x => rfl⟩
      | _ => cases g3
    · cases g
end
end Lp

set_option Elab.async false
set_option linter.all false
set_option autoImplicit false
set_option maxRecDepth 100000
set_option maxHeartbeats 8000000
namespace Lp
open PySem PySem.Spec L2
/-! ### how the text is stored -/
theorem fn_kind {env : Env} (h : env.scope.kind = .function) : env.blockKind = .function := by
  unfold Env.blockKind
  rw [h]
  rfl
theorem sw_none {tg v : Expr} {env : Env} (h : isTupX v = false) : swappedStores [tg] v env = pure none := by
  cases v with
  | Tuple _ _ _ => cases h
  | _ => cases tg <;> rfl
theorem sw_noneT {tg v : Expr} {env : Env} (h : isTupX tg = false) (h2 : (match tg with | .List _ _ => true | _ => false) = false) : swappedStores [tg] v env = pure none := by
  cases tg with
  | Tuple _ _ _ => cases h
  | List _ _ => cases h2
  | _ => cases v <;> rfl
theorem ss_none {tg v : Expr} {l : Nat} {env : Env} (h : notComp v = true) : swapsWithSole [tg] v l env = pure false := by
  cases v <;> first | rfl | cases h
theorem ss_none' {tg v : Expr} {l : Nat} {env : Env} (h : (match tg with | .Name _ _ => true | _ => false) = false) : swapsWithSole [tg] v l env = pure false := by
  cases v <;> first
    | rfl
    | (cases tg <;> first | rfl | cases h)
theorem sx_none {v : Expr} {tg : Option Expr} {l : Nat} {env : Env} (h : notComp v = true) : swapsWith v tg l env = pure false := by
  cases v <;> first | rfl | cases h
theorem sw_tup {ts vs : List Expr} {k k2 : Nat} {p p2 : Pos} {env : Env} (h : (!(ts.length == 2 || ts.length == 3) || vs.length != ts.length || folded vs) = true) : swappedStores [.Tuple ts k p] (.Tuple vs k2 p2) env = pure none := by
  unfold swappedStores
  simp only [pure_bind]
  by_cases h1 : (!(ts.length == 2 || ts.length == 3) || vs.length != ts.length || env.blockKind != .function) = true
  · rw [if_pos h1]
  · rw [if_neg h1]
    have hf : vs.all (foldedForSure 8) = true := by
      simp only [Bool.or_eq_true, not_or] at h1 h
      rcases h with h | h
      · exact absurd h (by simpa using h1.1)
      · exact h
    rw [hf]
    split
    · rfl
    · split
      · rfl
      · rfl
theorem ed1 (y : Str) : ([y] : List Str).eraseDups = [y] := rfl
theorem ed2 {x y : Str} (h : x ≠ y) : ([x, y] : List Str).eraseDups = [x, y] := by
  have hne : (y == x) = false := by rw [beq_eq_false_iff_ne]; exact Ne.symm h
  rw [List.eraseDups_cons, List.filter_cons, hne]
  exact congrArg (x :: ·) (ed1 y)
theorem ed3 {x y z : Str} (h : x ≠ y) (h2 : x ≠ z) (h3 : y ≠ z) : ([x, y, z] : List Str).eraseDups = [x, y, z] := by
  have hne : (y == x) = false := by rw [beq_eq_false_iff_ne]; exact Ne.symm h
  have hne2 : (z == x) = false := by rw [beq_eq_false_iff_ne]; exact Ne.symm h2
  rw [List.eraseDups_cons, List.filter_cons, List.filter_cons, hne, hne2]
  exact congrArg (x :: ·) (ed2 h3)
theorem sw_two {x y : Str} {px py p p2 : Pos} {k k2 : Nat} {u w : Expr} {env : Env} (hk : env.scope.kind = .function) (hx : env.scope.names.lookup x = some .local) (hy : env.scope.names.lookup y = some .local) (hxy : x ≠ y) (hl : px.line = py.line)
    (h1 : folded [u, w] = false) (h2 : consts [u, w] = false) (h3 : notStar u = true) (h4 : notStar w = true) : swappedStores [.Tuple [.Name x px, .Name y py] k p] (.Tuple [u, w] k2 p2) env = pure (some [x, y]) := by
  have kx : env.kindOf x = some .local := hx
  have ky : env.kindOf y = some .local := hy
  have hb := fn_kind hk
  have f1 : [u, w].all (foldedForSure 8) = false := h1
  have f2 : [u, w].all (constantsAlone 8) = false := h2
  unfold swappedStores
  simp only [pure_bind]
  rw [hb]
  rw [if_neg (by simp)]
  rw [if_neg (by
    intro z
    simp only [List.any_cons, List.any_nil, Bool.or_false, Bool.or_eq_true] at z
    rcases z with z | z
    · cases u <;> first | exact absurd h3 Bool.false_ne_true | cases z
    · cases w <;> first | exact absurd h4 Bool.false_ne_true | cases z)]
  simp only [List.filterMap_cons, List.filterMap_nil, kx, ky, List.head?_cons, Option.map_some, Option.getD_some, Expr.pos, hl, beq_self_eq_true, Bool.and_self, if_true]
  rw [ed2 hxy, f1, f2]
  rfl
theorem sw_notBoth {x y : Str} {px py p p2 : Pos} {k k2 : Nat} {u w : Expr} {env : Env} (h : (decide (env.scope.names.lookup x = some .local) && decide (env.scope.names.lookup y = some .local)) = false) : swappedStores [.Tuple [.Name x px, .Name y py] k p] (.Tuple [u, w] k2 p2) env = pure none := by
  have kx : env.kindOf x = env.scope.names.lookup x := rfl
  have ky : env.kindOf y = env.scope.names.lookup y := rfl
  unfold swappedStores
  simp only [pure_bind]
  split
  · rfl
  · split
    · rfl
    · rw [if_pos]
      simp only [List.filterMap_cons, List.filterMap_nil, kx, ky]
      by_cases h1 : env.scope.names.lookup x = some .local
      · have h2 : env.scope.names.lookup y ≠ some .local := by
          intro h2
          rw [h1, h2] at h
          simp at h
        have b2 : (env.scope.names.lookup y == some .local) = false := beq_eq_false_iff_ne.mpr h2
        rw [b2]
        simp only [Bool.false_and, Bool.false_eq_true, if_false]
        split <;> simp
      · have b1 : (env.scope.names.lookup x == some .local) = false := beq_eq_false_iff_ne.mpr h1
        rw [b1]
        simp only [Bool.false_and, Bool.false_eq_true, if_false]
        split <;> simp
theorem sw_three {x y z : Str} {px py pz p p2 : Pos} {k k2 : Nat} {u w q : Expr} {env : Env} (hk : env.scope.kind = .function) (hx : env.scope.names.lookup x = some .local) (hy : env.scope.names.lookup y = some .local) (hz : env.scope.names.lookup z = some .local) (hxy : x ≠ y) (hxz : x ≠ z) (hyz : y ≠ z) (hl : px.line = py.line) (hl2 : px.line = pz.line)
    (h1 : folded [u, w, q] = false) (h2 : consts [u, w, q] = false) (h3 : notStar u = true) (h4 : notStar w = true) (h5 : notStar q = true) : swappedStores [.Tuple [.Name x px, .Name y py, .Name z pz] k p] (.Tuple [u, w, q] k2 p2) env = pure (some [x, y, z]) := by
  have kx : env.kindOf x = some .local := hx
  have ky : env.kindOf y = some .local := hy
  have kz : env.kindOf z = some .local := hz
  have hb := fn_kind hk
  have f1 : [u, w, q].all (foldedForSure 8) = false := h1
  have f2 : [u, w, q].all (constantsAlone 8) = false := h2
  unfold swappedStores
  simp only [pure_bind]
  rw [hb]
  rw [if_neg (by simp)]
  rw [if_neg (by
    intro z
    simp only [List.any_cons, List.any_nil, Bool.or_false, Bool.or_eq_true] at z
    rcases z with z | z | z
    · cases u <;> first | exact absurd h3 Bool.false_ne_true | cases z
    · cases w <;> first | exact absurd h4 Bool.false_ne_true | cases z
    · cases q <;> first | exact absurd h5 Bool.false_ne_true | cases z)]
  have l1 : (py.line == px.line) = true := by rw [hl]; exact beq_self_eq_true _
  have l2 : (pz.line == px.line) = true := by rw [hl2]; exact beq_self_eq_true _
  simp only [List.filterMap_cons, List.filterMap_nil, kx, ky, kz, List.head?_cons, Option.map_some, Option.getD_some, Expr.pos, l1, l2, beq_self_eq_true, Bool.and_self, if_true]
  rw [ed3 hxy hxz hyz, f1, f2]
  rfl
def swB (sc : Scope) (y : Str) (py pos : Pos) (scope : Scope) : Bool := (sc.names.lookup y == some NameKind.local) && (py.line == pos.line) && !(scope.names.any fun (n, k) => n == y && (k == .local || k == .cell))
theorem sw_lc {elt : Expr} {gs : List Comprehension} {scope : Scope} {pos py : Pos} {y : Str} {l : Nat} {env : Env} (hk : env.scope.kind = .function) : swapsWith (.ListComp elt gs scope pos) (some (.Name y py)) l env = pure (swB env.scope y py pos scope) := by
  have hb := fn_kind hk
  unfold swapsWith swB
  simp only [pure_bind, hb, beq_self_eq_true, Bool.true_and]
  rfl
end Lp

set_option Elab.async false
set_option linter.all false
set_option autoImplicit false
set_option maxRecDepth 100000
set_option maxHeartbeats 8000000
namespace Lp
open PySem PySem.Spec L2
theorem conv_S {X : Cx} {st : Stmt} {f g : En → R (Fl × En)} (h : PS X st (tS f)) (q : ∀ v, g v = f v) : PS X st (tS g) := by
  have : g = f := funext q
  rw [this]; exact h
theorem conv_Ss {X : Cx} {st : List Stmt} {f g : En → R (Fl × En)} (h : PSs X st (tS f)) (q : ∀ v, g v = f v) : PSs X st (tS g) := by
  have : g = f := funext q
  rw [this]; exact h
section
variable {cf : Cf} {T : Tc} {X : Cx}
theorem Good.B {e : Expr} {e' : Lp.E} (g : Good cf X e e') : PE X e (tB1 (isNew e') (ev cf e')) := by
  by_cases h : isNew e' = true
  · rw [h]; exact b1_N (g.N h)
  · have : isNew e' = false := by simpa using h
    rw [this]; exact b1_E g.E
theorem notStar_of {e : Expr} (h : Pl X e) : notStar e = true := by
  cases e with
  | Starred a p =>
    have q := h.st []
    have q2 : ([(true, eval a X.env)] : List (Bool × Sem Value)) = [(false, eval (.Starred a p) X.env)] := q
    injection q2 with q3 _
    injection q3 with q4 _
    cases q4
  | _ => rfl
theorem swN (h : XOk cf T X) : PassesOwn (model X.prog X.w) X.A X.env X.xe := by rw [h.xe]; exact PassesOwn.never
theorem loc_parts (h : XOk cf T X) {i : Nat} {x : Str} (g : loc T i x = true) : X.N.Nodup ∧ X.N[i]? = some x ∧ Loc X.env.scope x ∧ (X.fn x = true ∨ X.env.scope.names.lookup x = some .local) := by
  unfold loc at g
  simp only [Bool.and_eq_true] at g
  exact ⟨by rw [h.hN]; exact h.nd, slot_ix h g.1.1, by rw [h.sc]; exact isLoc_ok g.1.2, by rw [h.sc]; exact h.fnv x (isLoc_ok g.2)⟩
theorem loc1_parts (h : XOk cf T X) {i : Nat} {x : Str} (g : loc1 T i x = true) : X.N[i]? = some x ∧ X.env.scope.names.lookup x = some .local := by
  unfold loc1 at g
  simp only [Bool.and_eq_true, decide_eq_true_eq] at g
  exact ⟨slot_ix h g.1, by rw [h.sc]; exact g.2⟩
theorem ne_names (h : XOk cf T X) {i j : Nat} {x y : Str} (hi : X.N[i]? = some x) (hj : X.N[j]? = some y) (n : i ≠ j) : x ≠ y := fun e => by
  subst e
  have hN : X.N.Nodup := by rw [h.hN]; exact h.nd
  obtain ⟨h1, e1⟩ := List.getElem?_eq_some_iff.mp hi
  exact n ((List.getElem?_inj h1 hN).mp (hi.trans hj.symm))
/-- name = value -/
theorem set_ok (h : XOk cf T X) {i : Nat} {x : Str} {p pos : Pos} {v : Expr} {e' : E} (g1 : loc T i x = true) (g2 : chkE T e' v = true) : PS X (.Assign [.Name x p] v pos) (tS (par1 i (isNew e') (ev cf e'))) := by
  have ge := okE cf e' h g2
  obtain ⟨hN, hi, hl, hf⟩ := loc_parts h g1
  by_cases hc : notComp v = true
  · exact set1_S (ps_set hN hi hl ge.B (sx_none hc) hf)
  · have kd : X.env.scope.kind = .function := by rw [h.sc]; exact h.kd
    cases v with
    | ListComp elt gs scope pos2 =>
      have hsw := sw_lc (elt := elt) (gs := gs) (scope := scope) (pos := pos2) (py := p) (y := x) (l := pos.line) kd
      cases hb : swB X.env.scope x p pos2 scope with
      | false =>
        rw [hb] at hsw
        exact set1_S (ps_set hN hi hl ge.B hsw hf)
      | true =>
        rw [hb] at hsw
        have hloc : X.env.scope.names.lookup x = some .local := by
          unfold swB at hb
          simp only [Bool.and_eq_true, beq_iff_eq] at hb
          exact hb.1.1
        cases e' with
        | comp x' t it c =>
          unfold chkE at g2
          split at g2
          · rename_i elt' tg iter ifs scope' pos' heq
            cases heq
            simp only [Bool.and_eq_true] at g2
            obtain ⟨⟨⟨⟨⟨g1', g2'⟩, g3⟩, g4⟩, g5⟩, g6⟩ := g2
            obtain ⟨gi, gf⟩ := okI cf it h g3
            have bk := blk_ok h g2'
            have ht : BlkX X scope fun Y => PTs Y ifs (tT (tests cf c)) := fun s H C cl fp => by
              have hb := h.blk bk.kind s H C cl fp
              split at g6
              · have : tests cf none = fun v => .ok (true, v) := by funext v; rw [tests]
                rw [this]
                exact pts_none
              · rename_i c' f'
                have gc := okE cf c' hb g6
                have : tests cf (some c') = fun v => truOf (ev cf c' v) := by funext v; rw [tests]
                rw [this]
                exact pts_one gc.T
              · cases g6
            have eqv : ev cf (.comp x' t it c) = compF (its cf it) t (tests cf c) (ev cf x') := by funext v; rw [ev]; rfl
            have base := ps_setLc (spos := pos) (py := p) h.calm hN hi hloc hsw gi bk (fun s H C cl fp => okT cf t (h.blk bk.kind s H C cl fp) g4) ht (fun s H C cl fp => (okE cf x' (h.blk bk.kind s H C cl fp) g5).E) gf
            refine set1_S (imp_S base fun D σ H q => ?_)
            have q : tN (ev cf (.comp x' t it c)) σ H fun y H1 => gName i y σ H1 D.nx := q
            rw [eqv] at q
            have z := comp_imp (pl_of g1') σ H _ q
            rw [← own_snd T t.own] at z
            exact z
          · cases g2
        | var _ => simp [chkE] at g2
        | cst _ => simp [chkE] at g2
        | bin _ _ _ => simp [chkE] at g2
        | neg _ => simp [chkE] at g2
        | not _ => simp [chkE] at g2
        | cmp _ _ _ => simp [chkE] at g2
        | cmp2 _ _ _ _ _ => simp [chkE] at g2
        | and _ _ => simp [chkE] at g2
        | or _ _ => simp [chkE] at g2
        | ite _ _ _ => simp [chkE] at g2
        | tup _ => simp [chkE] at g2
        | lst _ => simp [chkE] at g2
        | sub _ _ => simp [chkE] at g2
        | cut _ _ _ => simp [chkE] at g2
        | rev _ => simp [chkE] at g2
        | isa _ _ => simp [chkE] at g2
        | blt _ _ => simp [chkE] at g2
        | mt _ _ _ => simp [chkE] at g2
        | call _ _ _ => simp [chkE] at g2
        | comp2 _ _ _ _ _ => simp [chkE] at g2
        | ndist _ _ _ => simp [chkE] at g2
        | lrg _ => simp [chkE] at g2
        | pop _ => simp [chkE] at g2
    | SetComp _ _ _ _ => exfalso; cases e' <;> simp [chkE] at g2
    | DictComp _ _ _ _ _ => exfalso; cases e' <;> simp [chkE] at g2
    | _ => exact absurd rfl hc
theorem parB1 (cf : Cf) (i : Nat) (e : Lp.E) (v : En) : ex cf (.par [i] [e]) v = par1 i (isNew e) (ev cf e) v := by
  rw [ex]
  unfold par1
  simp only [evs]
  cases ev cf e v with
  | error x => rfl
  | ok x =>
    obtain ⟨d, v1⟩ := x
    show ((setV v1 i (held e d)).bind fun v1 => setAll [] [] [] v1).map (fun v' => (Fl.nx, v')) = (setV v1 i (heldB (isNew e) d)).map fun v' => (Fl.nx, v')
    have : held e d = heldB (isNew e) d := rfl
    rw [this]
    cases setV v1 i (heldB (isNew e) d) <;> rfl
theorem setAllB_eq : ∀ (is : List Nat) (es : List Lp.E) (ds : List D) (v : En), setAll is es ds v = setAllB is (es.map isNew) ds v
  | [], [], [], _ => rfl
  | [], [], _ :: _, _ => rfl
  | [], _ :: _, _, _ => rfl
  | _ :: _, [], _, _ => rfl
  | _ :: _, _ :: _, [], _ => rfl
  | i :: is, e :: es, d :: ds, v => by
    unfold setAll
    simp only [List.map_cons]
    unfold setAllB
    have : held e d = heldB (isNew e) d := rfl
    rw [this]
    exact bind_congr _ fun v1 => setAllB_eq is es ds v1
theorem goods_B : ∀ (es' : List Lp.E) {T : Tc} {X : Cx} {es : List Expr}, XOk cf T X → chkEs T es' es = true → PA X es (tBs (es'.map isNew) (evs cf es'))
  | [], T, X, es, h, g => by
    unfold chkEs at g
    split at g
    · have : evs cf [] = fun v => .ok ([], v) := by funext v; rw [evs]
      rw [this]
      exact nil_B
    · cases g
  | a :: as, T, X, es, h, g => by
    unfold chkEs at g
    split at g
    · rename_i x xs
      rw [Bool.and_eq_true] at g
      have ga := okE cf a h g.1
      have : evs cf (a :: as) = cnsF (ev cf a) (evs cf as) := by funext v; rw [evs]; rfl
      rw [this]
      exact cons_B (ga.pl.st xs) ga.B (goods_B as h g.2)
    · cases g
theorem tv_at (h : XOk cf T X) {i : Nat} {x : Str} {p : Pos} (g : vis T i x = true) : PE X (.Name x p) (tVar i) := h.tv g
mutual
theorem okS (cf : Cf) : ∀ (s' : S) {T : Tc} {X : Cx} {st : Stmt}, XOk cf T X → chkS T s' st = true → PS X st (tS (ex cf s'))
  | .asg t e, T, X, st, h, g => by
    unfold chkS at g
    split at g
    · rename_i tg v pos
      simp only [Bool.and_eq_true] at g
      obtain ⟨⟨⟨g0, g1⟩, g2⟩, g3⟩ := g
      have ge := okE cf e h g2
      have gt := okT cf t h g1
      have hw : swappedStores [tg] v X.env = pure none := by
        cases tg with
        | Tuple ts k p =>
          cases v with
          | Tuple vs k2 p2 => exact sw_tup g3
          | _ => exact sw_none rfl
        | _ => cases g0
      have hs : swapsWithSole [tg] v pos.line X.env = pure false := ss_none' (by cases tg <;> first | rfl | cases g0)
      have h1 : (assignEach [tg] X.env).map (·.2) = [assign tg X.env] := by rw [asg_star (chkT_star g1)]; rfl
      exact conv_S (asg_S (ps_asg ge.E gt hs hw h1)) fun v => by rw [ex]
    · cases g
  | .par is es, T, X, st, h, g => by
    unfold chkS at g
    split at g
    · simp only [Bool.and_eq_true] at g
      exact conv_S (set_ok h g.1 g.2) fun v => parB1 cf _ _ v
    · rename_i i j a b x px y py k p u w k2 p2 pos
      rw [Bool.or_eq_true] at g
      rcases g with g | g
      · simp only [Bool.and_eq_true, decide_eq_true_eq, Bool.not_eq_true'] at g
        obtain ⟨⟨⟨⟨⟨⟨⟨⟨g1, g2⟩, g3⟩, g4⟩, g5⟩, g6⟩, g7⟩, g8⟩, g9⟩ := g
        obtain ⟨hi, hx⟩ := loc1_parts h g1
        obtain ⟨hj, hy⟩ := loc1_parts h g2
        have ga := okE cf a h g3
        have gb := okE cf b h g4
        have hN : X.N.Nodup := by rw [h.hN]; exact h.nd
        have kd : X.env.scope.kind = .function := by rw [h.sc]; exact h.kd
        have hp := goods_B (cf := cf) [a, b] h (show chkEs T [a, b] [u, w] = true by simp [chkEs, g3, g4])
        have hw := sw_two (k := k) (p := p) (k2 := k2) (p2 := p2) kd hx hy (ne_names h hi hj g5) g6 g7 g8 (notStar_of ga.pl) (notStar_of gb.pl)
        refine conv_S (par2_S (ps_par h.calm hN hi hj g5 hx hy hp hw (ss_none rfl))) fun v => ?_
        rw [ex]
        unfold parB
        exact bind_congr _ fun x => by rw [setAllB_eq]; rfl
      · simp only [Bool.and_eq_true] at g
        obtain ⟨⟨⟨⟨g1, g2⟩, g3⟩, g4⟩, g5⟩ := g
        obtain ⟨hN, hi, hlx, hfx⟩ := loc_parts h g1
        obtain ⟨_, hj, hly, hfy⟩ := loc_parts h g2
        have ga := okE cf a h g3
        have gb := okE cf b h g4
        have hp := goods_B (cf := cf) [a, b] h (show chkEs T [a, b] [u, w] = true by simp [chkEs, g3, g4])
        have hw := sw_notBoth (px := px) (py := py) (k := k) (p := p) (k2 := k2) (p2 := p2) (u := u) (w := w) (env := X.env) (show (decide (X.env.scope.names.lookup x = some .local) && decide (X.env.scope.names.lookup y = some .local)) = false by
          rw [h.sc]
          unfold notBoth at g5
          rw [Bool.not_eq_true'] at g5
          exact g5)
        have tg := pg_tup (X := X) (k := k) (pos := p) (n := 2) h.calm (pgs_cons (pg_name (pos := px) hN hi hlx hfx) (pgs_cons (pg_name (pos := py) hN hj hly hfy) pgs_nil rfl) rfl) rfl rfl
        refine conv_S (parU_S (ps_asg (pe_tup hp) tg (ss_none rfl) hw rfl)) fun v => ?_
        rw [ex]
        unfold parB
        exact bind_congr _ fun x => by rw [setAllB_eq]; rfl
    · rename_i i j l a b c x px y py z pz k p u w q k2 p2 pos
      simp only [Bool.and_eq_true, decide_eq_true_eq, Bool.not_eq_true'] at g
      obtain ⟨⟨⟨⟨⟨⟨⟨⟨⟨⟨⟨⟨⟨g1, g2⟩, g3⟩, g4⟩, g5⟩, g6⟩, g7⟩, g8⟩, g9⟩, g10⟩, g11⟩, g12⟩, g13⟩, g14⟩ := g
      obtain ⟨hi, hx⟩ := loc1_parts h g1
      obtain ⟨hj, hy⟩ := loc1_parts h g2
      obtain ⟨hl, hz⟩ := loc1_parts h g3
      have ga := okE cf a h g4
      have gb := okE cf b h g5
      have gc := okE cf c h g6
      have hN : X.N.Nodup := by rw [h.hN]; exact h.nd
      have kd : X.env.scope.kind = .function := by rw [h.sc]; exact h.kd
      have hp := goods_B (cf := cf) [a, b, c] h (show chkEs T [a, b, c] [u, w, q] = true by simp [chkEs, g4, g5, g6])
      have hw := sw_three (k := k) (p := p) (k2 := k2) (p2 := p2) kd hx hy hz (ne_names h hi hj g7) (ne_names h hi hl g8) (ne_names h hj hl g9) g10 g11 g12 g13 (notStar_of ga.pl) (notStar_of gb.pl) (notStar_of gc.pl)
      refine conv_S (par3_S (ps_par3 h.calm hN hi hj hl g7 g8 g9 hx hy hz hp hw (ss_none rfl))) fun v => ?_
      rw [ex]
      unfold parB
      exact bind_congr _ fun x => by rw [setAllB_eq]; rfl
    · cases g
  | .app i e, T, X, st, h, g => by
    unfold chkS at g
    split at g
    · simp only [Bool.and_eq_true, decide_eq_true_eq] at g
      obtain ⟨⟨⟨rfl, g1⟩, g2⟩, g3⟩ := g
      have ge := okE cf e h g2
      exact conv_S (app_S (h.tv g1) ge.E rfl rfl (star_few (fun x hx => by rw [List.mem_singleton.mp hx]; exact ge.pl) _ (by simp)) g3 (ge.pl.st [])) fun v => by rw [ex]
    · cases g
  | .put i k e, T, X, st, h, g => by
    unfold chkS at g
    split at g
    · simp only [Bool.and_eq_true] at g
      obtain ⟨⟨g1, g2⟩, g3⟩ := g
      have gk := okE cf k h g2
      have ge := okE cf e h g3
      exact conv_S (put_S (ss_none' rfl) (sw_noneT rfl rfl) (h.tv g1) gk.E ge.E (pg_sub (h.tv g1) gk.E set_list fun v => gk.pl.pa _ _ v)) fun v => by rw [ex]
    · cases g
  | .aug i op e, T, X, st, h, g => by
    unfold chkS at g
    split at g
    · simp only [Bool.and_eq_true, decide_eq_true_eq] at g
      obtain ⟨⟨⟨g1, g2⟩, rfl⟩, g3⟩ := g
      have ge := okE cf e h g3
      obtain ⟨hN, hi, hl, hf⟩ := loc_parts h g2
      exact conv_S (aug_S fun ho => ps_aug hN hi hl ge.E ho hf) fun v => by rw [ex]
    · cases g
  | .augIx i k op e, T, X, st, h, g => by
    unfold chkS at g
    split at g
    · simp only [Bool.and_eq_true, decide_eq_true_eq] at g
      obtain ⟨⟨⟨g1, rfl⟩, g2⟩, g3⟩ := g
      have gk := okE cf k h g2
      have ge := okE cf e h g3
      exact conv_S (augIx_S fun hg hp hs => ps_augS (h.tv g1) gk.E hg ge.E hp hs fun ov iv new => gk.pl.au ov iv new) fun v => by rw [ex]
    · cases g
  | .ite c a b, T, X, st, h, g => by
    unfold chkS at g
    split at g
    · simp only [Bool.and_eq_true] at g
      have gc := okE cf c h g.1.1
      exact conv_S (ite_S gc.T (okSs cf a h g.1.2) (okSs cf b h g.2)) fun v => by rw [ex] <;> rfl
    · cases g
  | .whl c b, T, X, st, h, g => by
    unfold chkS at g
    split at g
    · simp only [Bool.and_eq_true] at g
      have gc := okE cf c h g.1
      exact conv_S (while_S (swN h) gc.T (okSs cf b h g.2)) fun v => by rw [ex] <;> rfl
    · cases g
  | .for_ t it b, T, X, st, h, g => by
    unfold chkS at g
    split at g
    · simp only [Bool.and_eq_true] at g
      obtain ⟨⟨⟨g1, g2⟩, g3⟩, g4⟩ := g
      obtain ⟨gi, gf⟩ := okI cf it h g2
      exact conv_S (for_S (swN h) h.calm (pl_of g1) gi (okT cf t h g3) (okSs cf b h g4) gf) fun v => by rw [ex]
    · cases g
  | .ret e, T, X, st, h, g => by
    unfold chkS at g
    split at g
    · exact conv_S (ret_S (okE cf e h g).E) fun v => by rw [ex]
    · cases g
  | .retN, T, X, st, h, g => by
    unfold chkS at g
    split at g
    · exact conv_S retN_S fun v => by rw [ex]
    · cases g
  | .exp e, T, X, st, h, g => by
    unfold chkS at g
    split at g
    · simp only [Bool.and_eq_true] at g
      exact conv_S (exp_S (sx_none g.2) (okE cf e h g.1).E) fun v => by rw [ex]
    · cases g
  | .pas, T, X, st, h, g => by
    unfold chkS at g
    split at g
    · exact conv_S pass_S fun v => by rw [ex]
    · cases g
  | .stop, T, X, st, h, g => conv_S stop_S fun v => by rw [ex]
theorem okSs (cf : Cf) : ∀ (ss : List S) {T : Tc} {X : Cx} {sts : List Stmt}, XOk cf T X → chkSs T ss sts = true → PSs X sts (tS (exs cf ss))
  | [], T, X, sts, h, g => by
    unfold chkSs at g
    split at g
    · exact conv_Ss nil_S fun v => by rw [exs]
    · cases g
  | a :: as, T, X, sts, h, g => by
    unfold chkSs at g
    split at g
    · rw [Bool.and_eq_true] at g
      exact conv_Ss (cons_S (okS cf a h g.1) (okSs cf as h g.2)) fun v => by rw [exs] <;> rfl
    · cases g
end
end
end Lp

set_option Elab.async false
set_option linter.all false
set_option autoImplicit false
set_option maxRecDepth 100000
set_option maxHeartbeats 8000000
namespace Lp
open PySem PySem.Spec L2
/-! ### a def's promise -/
theorem begin_len {fd : Fd} {c : Option D} {ds : List D} (h : ds.length + (if fd.io then 1 else 0) = fd.np) (hc : fd.io = c.isSome) (hn : fd.np ≤ fd.ns) : (begin_ fd c ds).length = fd.ns := by
  unfold begin_
  cases c with
  | none =>
    have : fd.io = false := hc
    rw [this] at h
    simp at h ⊢
    omega
  | some d =>
    have : fd.io = true := hc
    rw [this] at h
    simp at h ⊢
    omega
theorem rpAll_at {Hf : Hp} : ∀ {xs : List V} {ds : List D} {i : Nat} {d : D}, RpAll Hf xs ds → ds[i]? = some d → ∃ x, xs[i]? = some x ∧ Rp Hf x d := fun h e => h.get e
theorem entry_rel {p : Option Addr} {Hf H : Hp} {c : Option D} {vs0 : List V} {ds : List D} {fd : Fd} {N : List Str} (sm : Same Hf H) (io : IoR p Hf H c) (hpc : p.isSome = c.isSome) (rp : RpAll Hf vs0 ds) (h : ds.length + (if fd.io then 1 else 0) = fd.np) (hc : fd.io = c.isSome) (hn : fd.np ≤ fd.ns) (hN : N.length = fd.ns) :
    Rel p Hf (restOf p Hf H) (L2.start N (ioV p ++ vs0)) H (begin_ fd c ds) := by
  have hl : (ioV p ++ vs0).length = fd.np := by
    rw [List.length_append, rp.len, ← h]
    cases p with
    | none =>
      have : fd.io = false := by rw [hc, ← hpc]; rfl
      rw [this]; simp [ioV]
    | some a =>
      have : fd.io = true := by rw [hc, ← hpc]; rfl
      rw [this]; simp [ioV]; omega
  have st : ∀ i, i < (ioV p ++ vs0).length → (L2.start N (ioV p ++ vs0))[i]? = ((ioV p ++ vs0)[i]?).map some := fun i hi => by
    unfold L2.start
    rw [List.getElem?_append_left (by simpa using hi), List.getElem?_map]
  -- the slots
  have slots : ∀ i, (∃ d, (begin_ fd c ds).at i = .fz d ∧ ∃ x, (ioV p ++ vs0)[i]? = some x ∧ Rp Hf x d) ∨ (begin_ fd c ds).at i = .un ∨ (∃ d a, i = 0 ∧ (begin_ fd c ds).at i = .io d ∧ p = some a ∧ c = some d) := fun i => by
    unfold begin_ En.at
    cases p with
    | none =>
      cases c with
      | some d => cases hpc
      | none =>
        simp only [List.nil_append, ioV]
        by_cases hi : i < ds.length
        · left
          obtain ⟨x, h1, h2⟩ := rp.get (List.getElem?_eq_getElem hi)
          exact ⟨ds[i], by rw [List.getD_eq_getElem?_getD, List.getElem?_append_left (by simpa using hi), List.getElem?_map, List.getElem?_eq_getElem hi]; rfl, x, h1, h2⟩
        · right; left
          rw [List.getD_eq_getElem?_getD, List.getElem?_append_right (by simpa using Nat.le_of_not_lt hi), List.getElem?_replicate]
          split <;> rfl
    | some a =>
      cases c with
      | none => cases hpc
      | some d =>
        cases i with
        | zero => right; right; exact ⟨d, a, rfl, rfl, rfl, rfl⟩
        | succ i =>
          simp only [ioV, List.cons_append, List.nil_append]
          by_cases hi : i < ds.length
          · left
            obtain ⟨x, h1, h2⟩ := rp.get (List.getElem?_eq_getElem hi)
            exact ⟨ds[i], by rw [List.getD_eq_getElem?_getD, List.getElem?_cons_succ, List.getElem?_append_left (by simpa using hi), List.getElem?_map, List.getElem?_eq_getElem hi]; rfl, x, by simpa using h1, h2⟩
          · right; left
            rw [List.getD_eq_getElem?_getD, List.getElem?_cons_succ, List.getElem?_append_right (by simpa using Nat.le_of_not_lt hi), List.getElem?_replicate]
            split <;> rfl
  refine ⟨sm, fun b u e => ?_, fun b => ?_, fun i => ?_, fun i j a hi hj _ _ => ?_, fun i j hi hj => ?_, ?_, fun a e => ?_⟩
  · unfold restOf at e
    split at e
    · exact e
    · cases e
  · cases q : Hf b with
    | none => exact .inl rfl
    | some u => right; unfold restOf; rw [q]; rfl
  · rcases slots i with ⟨d, e, x, h1, h2⟩ | e | ⟨d, a, rfl, e, rfl, rfl⟩
    · rw [e]
      exact ⟨x, by rw [st i (List.getElem?_eq_some_iff.mp h1).1, h1]; rfl, h2⟩
    · rw [e]; trivial
    · rw [e]
      obtain ⟨g1, o, g2, g3⟩ := io
      refine ⟨a, o, by rw [st 0 (by simp [ioV])]; rfl, rfl, g1, ?_, g2, g3⟩
      unfold restOf
      simp
  · rcases slots i with ⟨d, e, _⟩ | e | ⟨d, a, _, e, _⟩ <;> rw [e] at hi <;> cases hi
  · have : ∀ k, isIo ((begin_ fd c ds).at k) = true → k = 0 := fun k hk => by
      rcases slots k with ⟨d, e, _⟩ | e | ⟨d, a, h0, e, _⟩
      · rw [e] at hk; cases hk
      · rw [e] at hk; cases hk
      · exact h0
    rw [this i hi, this j hj]
  · rw [begin_len h hc hn]
    unfold L2.start
    rw [List.length_append, List.length_map, List.length_replicate, hl]
    omega
  · subst e
    cases c with
    | none => cases hpc
    | some d => obtain ⟨_, o, g2, _⟩ := io; rw [g2]; exact fun z => nomatch z
/-- the def as its tree tells: one step up -/
theorem fn_step {P : Program} {w : World} {K : PySem.W.Frag} {mg : Str → Option Value} {base : Heap} {x qual : Str} {params : Arguments} {body : List Stmt} {scope : Scope} {a : Addr} {fd : FuncData} {N ps : List Str} {Tb : Tab} {fdT : Fd} {fns : List (Str × (Nat × Nat × Bool))} {cs : List (Str × Int)} {n idx : Nat}
    (F : FunD K x qual params body scope [] [] a fd) (S : FnScope N ps scope) (hb : chkSs ⟨N, scope, scope, fns, cs⟩ fdT.body body = true) (hT : Tb idx = some fdT) (hns : N.length = fdT.ns)
    (mgB : ∀ x ∈ bnames, mg x = none) (mgC : ∀ x i, cs.lookup x = some i → ∃ u, mg x = some u ∧ RelV (.int i) u)
    (ih : ∀ x f np b, fns.lookup x = some (f, np, b) → ∃ a fd ps, FnOk P w K mg base CX0 n a fd ps (spC (callF Tb n) np f) ∧ mg x = some (.ref a) ∧ PySem.W.keepIn K (.ref a) = true ∧ Binds K fd ps []) :
    FnOk P w K mg base CX0 (n + 1) a fd ps (spC (callF Tb (n + 1)) ps.length idx) := by
  refine F.ok S (fun vs H Q E h => ?_) fun cdv A outer s H vs Q E hr h => ?_
  · obtain ⟨p, vs0, Hf, c, ds, d, c', rfl, hl, _⟩ := h
    exact hl
  · obtain ⟨p, vs0, Hf, c, ds, d, c', rfl, hl, hpc, hpc', sm, io, rp, run, k⟩ := h
    have run : runF (callF Tb n) fdT c ds = .ok (d, c') := by
      have q : callF Tb (n + 1) idx c ds = .ok (d, c') := run
      unfold callF at q
      simp only [hT] at q
      exact q
    obtain ⟨g1, g2⟩ := gd_ok run
    simp only [Bool.and_eq_true, beq_iff_eq, decide_eq_true_eq] at g1
    obtain ⟨⟨h1, h2⟩, h3⟩ := g1
    obtain ⟨⟨fl, v'⟩, e1, e2⟩ := map_ok g2
    have ed : flD fl = d := congrArg (·.1) e2
    have ec : ioAt v' = c' := congrArg (·.2) e2
    refine ⟨tS (exs (callF Tb n) fdT.body), PSs.nox (okSs (callF Tb n) fdT.body (T := ⟨N, scope, scope, fns, cs⟩) ?_ hb), p, Hf, restOf p Hf H, begin_ fdT c ds, fl, v', entry_rel sm io hpc rp h2 h1 h3 hns, e1, fun σ' H' Hf' r' s' => ?_⟩
    · exact { hN := rfl, nd := S.nd, sc := rfl, calm := rfl, xe := rfl, fnv := fun _ _ => .inl rfl, mgB := mgB, mgC := mgC, un := by have := hr.un; show (A.deeper _).units + 70 < cLine; omega, kd := S.kind,
              fns := fun x f np b hx => by
                obtain ⟨a', fd', ps', q1, q2, q3, q4⟩ := ih x f np b hx
                exact ⟨n, a', fd', ps', hr, q1, q2, q3, q4⟩ }
    · have fin : ∀ x, Rp Hf' x d → Q x H' := fun x hx => by
        refine k x H' Hf' s' r'.le r'.lc r'.ap ?_ hx
        cases p with
        | none => trivial
        | some b =>
          have hc' := hpc' rfl
          rw [← ec] at hc' ⊢
          unfold ioAt at hc' ⊢
          split at hc'
          · rename_i d' tl
            have sl := r'.sl 0
            obtain ⟨b', o, g1, g2, g3, g4, g5, g6⟩ := (show SltR (some b) Hf' (restOf (some b) Hf H) σ' H' 0 (.io d') from sl)
            cases g2
            exact ⟨g3, o, g5, g6⟩
          · cases hc'
      cases fl with
      | nx =>
        have ed' : (PyData.none : D) = d := ed
        show Q .non H'
        exact fin _ (ed' ▸ .non)
      | rt d' =>
        have ed' : d' = d := ed
        intro x hx
        exact fin x (ed' ▸ hx)
/-- a row's defs -/
structure RowF (K : PySem.W.Frag) (mg : Str → Option Value) (Tb : Tab) (fns : List (Str × (Nat × Nat × Bool))) (cs : List (Str × Int)) : Prop where
  mgB : ∀ x ∈ bnames, mg x = none
  mgC : ∀ x i, cs.lookup x = some i → ∃ u, mg x = some u ∧ RelV (.int i) u
  all : ∀ x f np b, fns.lookup x = some (f, np, b) → ∃ (a : Addr) (fd : FuncData) (N ps : List Str) (qual : Str) (params : Arguments) (body : List Stmt) (scope : Scope) (fdT : Fd),
    FunD K x qual params body scope [] [] a fd ∧ mg x = some (.ref a) ∧ Binds K fd ps [] ∧ FnScope N ps scope ∧ Tb f = some fdT ∧ N.length = fdT.ns ∧ ps.length = np ∧ chkSs ⟨N, scope, scope, fns, cs⟩ fdT.body body = true
theorem RowF.fns {P : Program} {w : World} {K : PySem.W.Frag} {mg : Str → Option Value} {base : Heap} {Tb : Tab} {fns : List (Str × (Nat × Nat × Bool))} {cs : List (Str × Int)} (R : RowF K mg Tb fns cs) : ∀ (n : Nat) (x : Str) (f np : Nat) (b : Bool), fns.lookup x = some (f, np, b) → ∃ a fd ps, FnOk P w K mg base CX0 n a fd ps (spC (callF Tb n) np f) ∧ mg x = some (.ref a) ∧ PySem.W.keepIn K (.ref a) = true ∧ Binds K fd ps []
  | 0, x, f, np, b, h => by
    obtain ⟨a, fd, N, ps, qual, params, body, scope, fdT, F, hm, hb, S, hT, hns, hps, hc⟩ := R.all x f np b h
    refine ⟨a, fd, ps, ⟨fun vs H Q E q => ?_, fun A outer s H args us vs Q E hr he hbd hv q => ?_⟩, hm, F.kp, hb⟩
    · obtain ⟨p, vs0, Hf, c, ds, d, c', _, hl, _⟩ := q
      rw [hl, hps]
    · obtain ⟨p, vs0, Hf, c, ds, d, c', _, _, _, _, _, _, _, run, _⟩ := q
      have run : (bad : Lp.R (D × Option D)) = .ok (d, c') := run
      cases run
  | n + 1, x, f, np, b, h => by
    obtain ⟨a, fd, N, ps, qual, params, body, scope, fdT, F, hm, hb, S, hT, hns, hps, hc⟩ := R.all x f np b h
    refine ⟨a, fd, ps, ?_, hm, F.kp, hb⟩
    subst hps
    exact fn_step F S hc hT hns R.mgB R.mgC (RowF.fns R n)
end Lp

set_option Elab.async false
set_option linter.all false
set_option autoImplicit false
set_option maxRecDepth 100000
set_option maxHeartbeats 8000000
namespace Lp
open PySem PySem.Spec L2
/-! ### the row -/
structure Rw where
  name : Str
  ix : Nat
  np : Nat
  io : Bool
  N : List Str
  ps : List Str
  params : Arguments
  body : List Stmt
  scope : Scope
def Rw.dd (d : Rw) : He.DefD := ⟨(d.name, none), d.name, d.name, d.params, d.body, d.scope, [], []⟩
def Rw.fn (d : Rw) : Str × (Nat × Nat × Bool) := (d.name, (d.ix, d.np, d.io))
def fnsOf (ds : List Rw) : List (Str × (Nat × Nat × Bool)) := ds.map Rw.fn
def faOf (ds : List Rw) (cs : List (Str × Int)) : List He.Fa := (ds.map fun d => .glo d.name) ++ (bnames.map .free ++ cs.map fun p => .int p.1 p.2)
def scopeB (N ps : List Str) (sc : Scope) : Bool := isFn sc && !sc.isCoroutine && !sc.isGenerator && decide N.Nodup && decide (N.take ps.length = ps) && (ps.all fun x => isLoc (sc.names.lookup x)) && sc.names.all fun y => !(y.2 == .free)
theorem scopeB_ok {N ps : List Str} {sc : Scope} (h : scopeB N ps sc = true) : FnScope N ps sc := by
  unfold scopeB at h
  simp only [Bool.and_eq_true, Bool.not_eq_true', decide_eq_true_eq, List.all_eq_true] at h
  obtain ⟨⟨⟨⟨⟨⟨h1, h2⟩, h3⟩, h4⟩, h5⟩, h6⟩, h7⟩ := h
  refine ⟨?_, h2, h3, h4, h5, fun x hx => isLoc_ok (h6 x hx), fun y hy e => ?_⟩
  · unfold isFn at h1
    split at h1
    · assumption
    · cases h1
  · have q := h7 y hy
    rw [e] at q
    exact absurd q (by decide)
def rwB (Tb : Tab) (fns : List (Str × (Nat × Nat × Bool))) (cs : List (Str × Int)) (d : Rw) : Bool := scopeB d.N d.ps d.scope && decide (d.ps.length = d.np) && (match Tb d.ix with
  | some fdT => decide (d.N.length = fdT.ns) && chkSs ⟨d.N, d.scope, d.scope, fns, cs⟩ fdT.body d.body
  | none => false)
def Rw.Bd (d : Rw) : Prop := ∀ (kV doc pm : Value) (an : Option Addr) (cdv ct : Value) (us : List Value), us.length = d.ps.length → bindArgs (PySem.W.fnOf d.name d.name d.params d.body d.scope .none kV doc pm an cdv ct) ⟨us, []⟩ = pure (d.ps.zip us)
theorem lookup_fns {x : Str} {f np : Nat} {b : Bool} : ∀ {ds : List Rw}, (fnsOf ds).lookup x = some (f, np, b) → ∃ d ∈ ds, d.name = x ∧ d.ix = f ∧ d.np = np
  | [], h => by cases h
  | d :: ds, h => by
    unfold fnsOf Rw.fn at h
    simp only [List.map_cons, List.lookup_cons] at h
    split at h
    · rename_i q
      simp only [Option.some.injEq, Prod.mk.injEq] at h
      exact ⟨d, List.mem_cons_self, (eq_of_beq q).symm, h.1, h.2.1⟩
    · obtain ⟨d', h1, h2⟩ := lookup_fns (ds := ds) h
      exact ⟨d', List.mem_cons_of_mem _ h1, h2⟩
theorem lookup_mem {α : Type} {x : Str} {v : α} : ∀ {l : List (Str × α)}, l.lookup x = some v → (x, v) ∈ l
  | [], h => by cases h
  | (y, u) :: l, h => by
    rw [List.lookup_cons] at h
    split at h
    · rename_i q
      cases h
      rw [eq_of_beq q]
      exact List.mem_cons_self
    · exact List.mem_cons_of_mem _ (lookup_mem h)
section
variable {fa : List He.Fa} {fn : List He.DefD} {K : PySem.W.Frag} {h : Heap} {mg : Str → Option Value}
theorem says_fact (c : He.SaysD fa fn K) {f : He.Fa} (m : f ∈ fa) : f.ok K = true := by
  obtain ⟨i, hi⟩ := List.mem_iff_getElem?.mp m
  exact He.SaysD.fact c i hi
theorem says_def (c : He.SaysD fa fn K) {d : He.DefD} (m : d ∈ fn) : ∃ fd, FunD K d.name d.qual d.params d.body d.scope (d.dvs K) (d.kws K) (He.fAd K d.at_) fd := by
  obtain ⟨i, hi⟩ := List.mem_iff_getElem?.mp m
  exact He.SaysD.def_ c i hi
end
/-! ### without the script's place -/
def without (K : PySem.W.Frag) (a : Addr) : PySem.W.Frag := K.filter fun p => decide (p.1 ≠ a)
theorem without_at (K : PySem.W.Frag) (a : Addr) : (without K a).lookup a = none := by
  unfold without
  induction K with
  | nil => rfl
  | cons p r ih =>
    obtain ⟨b, o⟩ := p
    rw [List.filter_cons]
    by_cases hb : b = a
    · subst hb; simp; simpa using ih
    · simp only [ne_eq, hb, not_false_eq_true, decide_true, if_true]
      rw [List.lookup_cons]
      have : (a == b) = false := by rw [beq_eq_false_iff_ne]; exact fun z => hb z.symm
      rw [this]
      exact ih
theorem without_ne {K : PySem.W.Frag} {a b : Addr} (hb : b ≠ a) : (without K a).lookup b = K.lookup b := by
  unfold without
  induction K with
  | nil => rfl
  | cons p r ih =>
    obtain ⟨c, o⟩ := p
    rw [List.filter_cons]
    by_cases hc : c = a
    · subst hc
      have : (b == c) = false := by rw [beq_eq_false_iff_ne]; exact hb
      simp only [ne_eq, not_true_eq_false, decide_false, Bool.false_eq_true, if_false]
      rw [List.lookup_cons, this]
      exact ih
    · simp only [ne_eq, hc, not_false_eq_true, decide_true, if_true]
      rw [List.lookup_cons, List.lookup_cons, ih]
theorem without_in {K : PySem.W.Frag} {a : Addr} {h : Heap} (X : K.In h) : (without K a).In h := fun b o e => by
  by_cases hb : b = a
  · subst hb; rw [without_at] at e; cases e
  · rw [without_ne hb] at e; exact X b o e
theorem FunD.without {K : PySem.W.Frag} {x qual : Str} {params : Arguments} {body : List Stmt} {scope : Scope} {f a : Addr} {fd : FuncData} {h : Heap} {c : Value} {vs : Array Value} {n : Nat} {od : Option Addr} {sl : Array (Option Value)} (F : FunD K x qual params body scope [] [] f fd) (X : K.In h) (ha : h.get? a = some ⟨c, od, .seq vs n, sl⟩) : FunD (Lp.without K a) x qual params body scope [] [] f fd := by
  obtain ⟨oc, od', dV, kV, doc, pm, an, cdv, ct, osl, e, lk, hcd, hD, hK⟩ := F.ex
  have hf : f ≠ a := fun z => by
    subst z
    have := X _ _ lk
    rw [ha] at this
    cases this
  have lk' : (Lp.without K a).lookup f = some ⟨oc, od', .func fd, osl⟩ := by rw [without_ne hf]; exact lk
  refine ⟨⟨oc, od', dV, kV, doc, pm, an, cdv, ct, osl, e, lk', ?_, ?_, .inl rfl⟩, ?_⟩
  · unfold PySem.W.codeIn at hcd ⊢
    cases cdv with
    | ref b =>
      simp only at hcd ⊢
      cases q : K.lookup b with
      | none => rw [q] at hcd; cases hcd
      | some o =>
        have hb : b ≠ a := fun z => by
          subst z
          have := X _ _ q
          rw [ha] at this
          cases this
          rw [q] at hcd
          cases hcd
        rw [without_ne hb, q]
        rw [q] at hcd
        exact hcd
    | _ => cases hcd
  · rcases hD with hD | ⟨hD, _⟩
    · exact .inl hD
    · exact absurd rfl hD
  · unfold PySem.W.keepIn
    simp only [lk']
/-- the row's defs keep their promises -/
theorem rowF_of {ds : List Rw} {cs : List (Str × Int)} {Tb : Tab} {K : PySem.W.Frag} {h : Heap} {mg : Str → Option Value} {a : Addr} {c0 : Value} {vs : Array Value} {n : Nat} {od : Option Addr} {sl : Array (Option Value)} (X : K.In h) (G : h.Ns mainGlobals mg) (c : He.SaysD (faOf ds cs) (ds.map Rw.dd) K) (ok : (ds.all (rwB Tb (fnsOf ds) cs)) = true) (bd : ∀ d ∈ ds, d.Bd) (ha : h.get? a = some ⟨c0, od, .seq vs n, sl⟩) :
    RowF (without K a) mg Tb (fnsOf ds) cs := by
  refine ⟨fun x hx => ?_, fun x i hx => ?_, fun x f np b hx => ?_⟩
  · exact He.free_ok X G (says_fact c (f := .free x) (by unfold faOf; exact List.mem_append_right _ (List.mem_append_left _ (List.mem_map_of_mem hx))))
  · obtain ⟨t, ht⟩ := He.int_ok X G (says_fact c (f := .int x i) (by unfold faOf; exact List.mem_append_right _ (List.mem_append_right _ (List.mem_map_of_mem (f := fun p : Str × Int => He.Fa.int p.1 p.2) (lookup_mem hx)))))
    exact ⟨_, ht, t, rfl⟩
  · obtain ⟨d, hd, rfl, rfl, rfl⟩ := lookup_fns hx
    obtain ⟨fd, F⟩ := says_def c (d := d.dd) (List.mem_map_of_mem hd)
    have F : FunD K d.name d.name d.params d.body d.scope [] [] (He.fAd K (d.name, none)) fd := F
    have hm := He.glo_ok X G (says_fact c (f := .glo d.name) (by unfold faOf; exact List.mem_append_left _ (List.mem_map_of_mem (f := fun d : Rw => He.Fa.glo d.name) hd)))
    have q := List.all_eq_true.mp ok d hd
    unfold rwB at q
    simp only [Bool.and_eq_true, decide_eq_true_eq] at q
    obtain ⟨⟨q1, q2⟩, q3⟩ := q
    split at q3
    · rename_i fdT hT
      simp only [Bool.and_eq_true, decide_eq_true_eq] at q3
      exact ⟨_, fd, d.N, d.ps, d.name, d.params, d.body, d.scope, fdT, FunD.without F X ha, hm, FunD.bindsN (FunD.without F X ha) (bd d hd), scopeB_ok q1, hT, q3.1, q2, q3.2⟩
    · cases q3
/-! ### the end -/
theorem all_ints (Hf : Hp) : ∀ ns : List Int, RpAll Hf (ns.map V.int) (ns.map PyData.int)
  | [] => .nil
  | n :: r => .cons (.int n) (all_ints Hf r)
theorem lp_walk {l : PySem.W.OpenLaw} {n k : Nat} {q : Program} {loose : List Str} {XP : (Str → Option Value) → Heap → Prop} {ds : List Rw} {cs : List (Str × Int)} {Tb : Tab} {d : DefRec} {dl : Rw}
    (hn : l.most = some n) (hn2 : n ≤ sizeLine) (hdf : d.params.defaults = []) (hr : Room (k + 1) callerA) (ok : (ds.all (rwB Tb (fnsOf ds) cs)) = true) (bd : ∀ d ∈ ds, d.Bd) (hdl : dl ∈ ds) (hnm : dl.name = d.name) (hnp : dl.ps.length = 1)
    (law : ∀ ns : List Int, ns.length ≤ n → (∀ z ∈ ns, Builtin.Int.intBits z ≤ 1048576) → ∃ c, callF Tb (k + 1) dl.ix none [.list (ns.map .int)] = .ok (.bool true, c)) :
    PySem.W.WalkO q loose XP (fun _ h => ∃ K : PySem.W.Frag, K.In h ∧ He.SaysD (faOf ds cs) (ds.map Rw.dd) K) l.row.toRowW d [] (fun f vs => PySem.call f vs) := by
  refine Att.attach_callB hn hdf fun w s₀ s₁ mg mb fa o pm cd doc a vs ns G Y ho hd hcd hmg hobj hints hlen hbits hg => ?_
  obtain ⟨K, KX, c⟩ := Y
  have R := rowF_of KX G.T.g c ok bd hobj
  obtain ⟨fd, F⟩ := says_def c (d := dl.dd) (List.mem_map_of_mem hdl)
  have F : FunD K dl.name dl.name dl.params dl.body dl.scope [] [] (He.fAd K (dl.name, none)) fd := F
  have hm := He.glo_ok KX G.T.g (says_fact c (f := .glo dl.name) (by unfold faOf; exact List.mem_append_left _ (List.mem_map_of_mem (f := fun d : Rw => He.Fa.glo d.name) hdl)))
  have ef : fa = He.fAd K (dl.name, none) := by
    have : some (Value.ref fa) = some (.ref (He.fAd K (dl.name, none))) := by
      rw [← hmg, ← hnm]; exact hm
    cases this
    rfl
  have F' := FunD.without F KX hobj
  have qk := List.all_eq_true.mp ok dl hdl
  unfold rwB at qk
  simp only [Bool.and_eq_true, decide_eq_true_eq] at qk
  obtain ⟨⟨q1, q2⟩, q3⟩ := qk
  split at q3
  · rename_i fdT hT
    simp only [Bool.and_eq_true, decide_eq_true_eq] at q3
    obtain ⟨x, hx⟩ : ∃ x, dl.ps = [x] := by
      match h : dl.ps, hnp with
      | [x], _ => exact ⟨x, rfl⟩
    have hbd := bd dl hdl
    subst ef
    refine L2.law_call (K := Lp.without K a) (a := a) (CX := CX0) (k := k + 1) (fd := fd) (x := x) (sp := spC (callF Tb (k + 1)) dl.ps.length dl.ix) (without_in KX) G.T.g G.T.b G.T.builtins G.T.nolimit hg hobj hints (Nat.le_trans hlen hn2) hr (fun base hK hN => ?_) (fun s u => ?_) (fun H hO hS => ?_) fun H e s' z => z.elim
    · rw [← hx]
      exact fn_step F' (scopeB_ok q1) q3.2 hT q3.1 R.mgB R.mgC (R.fns k)
    · have b := FunD.bindsA F' hbd s [u] (by rw [hx]; rfl)
      rw [hx] at b
      exact b
    · obtain ⟨c', hc'⟩ := law ns hlen hbits
      have rd : Rd H a (.lst (ns.map V.int)) := by
        rcases hS with hS | ⟨o', its, n', hk, _⟩
        · exact hS
        · rw [without_at] at hk; cases hk
      refine ⟨none, [.ref a], H, none, [.list (ns.map .int)], .bool true, c', rfl, by rw [hnp]; rfl, rfl, (fun z => nomatch z), Same.refl _, trivial, .cons (.lst rd (all_ints H ns)) .nil, hc', fun y H' Hf' _ _ _ _ _ hy => ?_⟩
      exact bool_of hy
  · cases q3
end Lp

set_option maxHeartbeats 0
namespace LpRow
open PySem PySem.Spec L2 Lp
def top (i : Nat) : Stmt := PySem.Challenge.pw_leaprows_k56_common_places.main.body.getD i (.Pass ⟨0, 0, 0, 0⟩)
def r82 : Rw := ⟨"is_int", 82, 1, false, ["value"], ["value"], defArgs (top 8), defBody (top 8), defScope (top 8)⟩
def r81 : Rw := ⟨"is_in", 81, 3, false, ["value", "least", "most"], ["value", "least", "most"], defArgs (top 9), defBody (top 9), defScope (top 9)⟩
def r144 : Rw := ⟨"need_number", 144, 3, false, ["value", "least", "most"], ["value", "least", "most"], defArgs (top 10), defBody (top 10), defScope (top 10)⟩
def r88 : Rw := ⟨"is_state", 88, 1, false, ["value", "place"], ["value"], defArgs (top 11), defBody (top 11), defScope (top 11)⟩
def r152 : Rw := ⟨"need_state", 152, 1, false, ["value"], ["value"], defArgs (top 12), defBody (top 12), defScope (top 12)⟩
def r174 : Rw := ⟨"order_of", 174, 1, false, ["state", "place", "stone"], ["state"], defArgs (top 13), defBody (top 13), defScope (top 13)⟩
def r26 : Rw := ⟨"common", 26, 2, false, ["one", "other"], ["one", "other"], defArgs (top 14), defBody (top 14), defScope (top 14)⟩
def r61 : Rw := ⟨"gaps_of", 61, 1, false, ["state", "x", "y", "z"], ["state"], defArgs (top 15), defBody (top 15), defScope (top 15)⟩
def r128 : Rw := ⟨"middle_of", 128, 1, false, ["state", "x", "y", "z"], ["state"], defArgs (top 16), defBody (top 16), defScope (top 16)⟩
def r66 : Rw := ⟨"grain_of", 66, 1, false, ["state", "one", "other"], ["state"], defArgs (top 17), defBody (top 17), defScope (top 17)⟩
def r193 : Rw := ⟨"pair_of", 193, 1, false, ["state", "one", "other", "grain"], ["state"], defArgs (top 18), defBody (top 18), defScope (top 18)⟩
def r90 : Rw := ⟨"laid", 90, 4, false, ["middle", "grain", "pair", "order", "one", "other", "places", "found", "stone", "place"], ["middle", "grain", "pair", "order"], defArgs (top 19), defBody (top 19), defScope (top 19)⟩
def r219 : Rw := ⟨"runs_of", 219, 1, false, ["state", "one", "other", "found", "times"], ["state"], defArgs (top 21), defBody (top 21), defScope (top 21)⟩
def r192 : Rw := ⟨"pair_behind", 192, 3, false, ["pair", "sign", "times", "one", "other"], ["pair", "sign", "times"], defArgs (top 22), defBody (top 22), defScope (top 22)⟩
def r172 : Rw := ⟨"order_behind", 172, 3, false, ["order", "sign", "times", "left", "middle", "right"], ["order", "sign", "times"], defArgs (top 23), defBody (top 23), defScope (top 23)⟩
def r8 : Rw := ⟨"begin_order", 8, 1, false, ["state", "order", "sign", "times"], ["state"], defArgs (top 24), defBody (top 24), defScope (top 24)⟩
def r7 : Rw := ⟨"begin_of", 7, 1, false, ["state"], ["state"], defArgs (top 25), defBody (top 25), defScope (top 25)⟩
def r9 : Rw := ⟨"behind", 9, 2, false, ["state", "runs", "pair", "order", "sign", "times"], ["state", "runs"], defArgs (top 26), defBody (top 26), defScope (top 26)⟩
def r204 : Rw := ⟨"placed", 204, 2, false, ["state", "pair", "plain"], ["state", "pair"], defArgs (top 28), defBody (top 28), defScope (top 28)⟩
def r147 : Rw := ⟨"need_place", 147, 1, false, ["value"], ["value"], defArgs (top 31), defBody (top 31), defScope (top 31)⟩
def r170 : Rw := ⟨"offset_of", 170, 2, false, ["state", "place", "far", "grain"], ["state", "place"], defArgs (top 32), defBody (top 32), defScope (top 32)⟩
def r15 : Rw := ⟨"can_hold", 15, 2, false, ["state", "place"], ["state", "place"], defArgs (top 33), defBody (top 33), defScope (top 33)⟩
def r208 : Rw := ⟨"quotients", 208, 2, false, ["one", "other", "found"], ["one", "other"], defArgs (top 34), defBody (top 34), defScope (top 34)⟩
def r106 : Rw := ⟨"least_partner", 106, 1, false, ["number", "one"], ["number"], defArgs (top 35), defBody (top 35), defScope (top 35)⟩
def r105 : Rw := ⟨"least_at", 105, 2, false, ["state", "place", "far", "size", "other"], ["state", "place"], defArgs (top 36), defBody (top 36), defScope (top 36)⟩
def r76 : Rw := ⟨"inverse", 76, 2, false, ["number", "modulus", "one", "other", "first", "second", "times"], ["number", "modulus"], defArgs (top 38), defBody (top 38), defScope (top 38)⟩
def r29 : Rw := ⟨"common_places", 29, 2, false, ["one", "other", "grain", "more", "shared", "far", "step", "rest", "times"], ["one", "other"], defArgs (top 39), defBody (top 39), defScope (top 39)⟩
def r11 : Rw := ⟨"both_at", 11, 3, false, ["one", "other", "place", "first", "second"], ["one", "other", "place"], defArgs (top 40), defBody (top 40), defScope (top 40)⟩
def r28 : Rw := ⟨"common_count", 28, 4, false, ["one", "other", "low", "high", "told", "first", "step"], ["one", "other", "low", "high"], defArgs (top 41), defBody (top 41), defScope (top 41)⟩
def r27 : Rw := ⟨"common_after", 27, 3, false, ["one", "other", "place", "told", "first", "step"], ["one", "other", "place"], defArgs (top 42), defBody (top 42), defScope (top 42)⟩
def r300 : Rw := ⟨"_law_taken", 300, 2, true, ["_law_row", "_law_many", "_law_found", "_law_cell"], ["_law_row", "_law_many"], defArgs (top 44), defBody (top 44), defScope (top 44)⟩
def r301 : Rw := ⟨"_law_pick", 301, 2, true, ["_law_row", "_law_things"], ["_law_row", "_law_things"], defArgs (top 45), defBody (top 45), defScope (top 45)⟩
def r302 : Rw := ⟨"_law_alike", 302, 2, false, ["_law_found", "_law_due", "_law_k"], ["_law_found", "_law_due"], defArgs (top 46), defBody (top 46), defScope (top 46)⟩
def r303 : Rw := ⟨"_law_state", 303, 2, true, ["_law_row", "_law_most", "_law_still", "_law_unit", "_law_stones", "_law_state_here", "_law_at"], ["_law_row", "_law_most"], defArgs (top 47), defBody (top 47), defScope (top 47)⟩
def r304 : Rw := ⟨"_law_walk", 304, 3, true, ["_law_row", "_law_state_here", "_law_most", "_law_turn", "_law_left", "_law_middle", "_law_right"], ["_law_row", "_law_state_here", "_law_most"], defArgs (top 48), defBody (top 48), defScope (top 48)⟩
def r305 : Rw := ⟨"_law_order", 305, 1, false, ["_law_state_here", "_law_place", "_law_stone"], ["_law_state_here"], defArgs (top 49), defBody (top 49), defScope (top 49)⟩
def r306 : Rw := ⟨"_law_leapt", 306, 3, false, ["_law_state_here", "_law_stone", "_law_over", "_law_found"], ["_law_state_here", "_law_stone", "_law_over"], defArgs (top 50), defBody (top 50), defScope (top 50)⟩
def r999 : Rw := ⟨"law", 999, 1, false, ["_law_script", "_law_row", "_law_one", "_law_other", "_law_times", "_law_place", "_law_both", "_law_found", "_law_a", "_law_b", "_law_low", "_law_high", "_law_here", "_law_later", "_law_spot", "_law_told", "_law_size", "_law_due"], ["_law_script"], defArgs (top 51), defBody (top 51), defScope (top 51)⟩
def ds : List Rw := [r82, r81, r144, r88, r152, r174, r26, r61, r128, r66, r193, r90, r219, r192, r172, r8, r7, r9, r204, r147, r170, r15, r208, r106, r105, r76, r29, r11, r28, r27, r300, r301, r302, r303, r304, r305, r306, r999]
def cs : List (Str × Int) := [("MOST_PLACE", 1000000000000000000), ("STONES", 3), ("MOST_TRIED", 5000)]
abbrev R : PySem.W.OpenRow := PySem.W.OpenLaw.row PySem.Challenge.rw_leaprows_k56_common_places
def loose : List Str := (["LeapError", "BadState", "BadNumber", "TooMany", "MOST_PLACE", "STONES", "is_int", "is_in", "need_number", "is_state", "need_state", "order_of", "common", "gaps_of", "middle_of", "grain_of", "pair_of", "laid", "runs_of", "pair_behind", "order_behind", "begin_order", "begin_of", "behind", "placed", "MOST_TRIED", "need_place", "offset_of", "can_hold", "quotients"] : List Str) ++ (["least_partner", "least_at", "inverse", "common_places", "both_at", "common_count", "common_after", "_law_taken", "_law_pick", "_law_alike", "_law_state", "_law_walk", "_law_order", "_law_leapt"] : List Str)
abbrev hk : PySem.W.Hook := He.hookD 4 (faOf ds cs) (ds.map Rw.dd)
def ob (s : PySem.W.SharedT) : He.AlD := He.obsDG 4 (faOf ds cs) (ds.map Rw.dd) (HandSHeadRun.getT s)
theorem ob_eq (s : PySem.W.SharedT) : ob s = hk.obs s.abs := He.obsDG_eq (HandSHeadRun.getT_eq s)
theorem run (w : World) : HandSHeadRun.RunEq R (PySem.W.view R.prog [51]) hk ob 5000 loose w := by
  intro os
  kernel_rfl
end LpRow
set_option autoImplicit false
set_option linter.all false
namespace Lp
open PySem
def fd0 : Fd := ⟨false, 2, 2, [(.exp (.call 152 none [(.var 0)])), (.exp (.call 149 none [(.var 1)])), (.ret (.call 9 none [(.var 0), (.var 1)]))]⟩

def fd1 : Fd := ⟨false, 1, 7, [(.exp (.call 153 none [(.var 0)])), .stop, (.for_ (.tp [(.nm 2), (.nm 3)]) (.enm (.var 0)) [(.for_ (.tp [(.nm 4), (.nm 5)]) (.enm (.cut (.var 0) none (some (.bin .Add (.var 2) (.cst (.int 1)))))) [(.for_ (.nm 6) (.seq (.cut (.var 0) none (some (.bin .Add (.var 4) (.cst (.int 1)))))) [(.put 1 (.call 123 none [(.var 3), (.var 5), (.var 6)]) (.cst (.bool true)))])])]), (.ret (.blt .tuple [(.blt .sorted [(.var 1)])]))]⟩

def fd2 : Fd := ⟨false, 2, 7, [(.par [2] [(.call 140 none [(.var 0), (.var 1), (.cst (.int 20000))])]), .stop, (.for_ (.nm 5) (.seq (.rev (.var 2))) [.stop, (.par [6] [(.call 195 none [(.var 5)])]), (.ite (.cmp .IsNot (.var 6) (.cst .none)) [.stop, (.aug 4 .Add (.bin .Mult (.sub (.var 3) (.var 5)) (.bin .Sub (.blt .len [(.var 2)]) (.sub (.var 3) (.var 5)))))] [])]), (.ret (.var 4))]⟩

def fd3 : Fd := ⟨false, 2, 7, [(.exp (.call 152 none [(.var 0)])), (.exp (.call 144 none [(.var 1), (.cst (.int 0)), (.cst (.int 60))])), .stop, (.for_ (.nm 3) (.rng [(.var 1)]) [.stop, .stop, (.par [2] [(.var 4)])]), .stop]⟩

def fd4 : Fd := ⟨false, 1, 2, [(.ite (.or (.not (.isa (.var 0) [.tuple])) (.cmp .NotEq (.blt .len [(.var 0)]) (.cst (.int 2)))) [(.ret (.cst (.bool false)))] []), (.ret (.blt .all [(.comp (.call 81 none [(.var 1), (.bin .Mult (.neg (.cst (.int 4))) (.cst (.int 1000000000000000000))), (.bin .Mult (.cst (.int 4)) (.cst (.int 1000000000000000000)))]) (.nm 1) (.seq (.var 0)) none)]))]⟩

def fd5 : Fd := ⟨false, 1, 2, [(.par [1] [(.call 40 none [(.var 0)])]), (.ite (.cmp .Eq (.var 1) (.cst (.int 0))) [(.ret (.tup [(.cst (.int 1)), (.cst (.int 2))]))] []), (.ret (.call 117 none [(.bin .Add (.bin .Mult (.cst (.int 2)) (.call 266 none [(.bin .Sub (.var 1) (.cst (.int 1)))])) (.call 266 none [(.var 1)])), (.bin .Mult (.cst (.int 3)) (.call 266 none [(.var 1)]))]))]⟩

def fd6 : Fd := ⟨false, 1, 1, [(.exp (.call 152 none [(.var 0)])), (.ret (.call 7 none [(.var 0)]))]⟩

def fd7 : Fd := ⟨false, 1, 1, [(.ret (.call 90 none [(.call 128 none [(.var 0)]), (.call 66 none [(.var 0)]), (.tup [(.cst (.int 1)), (.cst (.int 1))]), (.call 8 none [(.var 0)])]))]⟩

def fd8 : Fd := ⟨false, 1, 4, [(.par [1] [(.call 174 none [(.var 0)])]), (.for_ (.tp [(.nm 2), (.nm 3)]) (.seq (.rev (.call 219 none [(.var 0)]))) [(.par [1] [(.call 172 none [(.var 1), (.var 2), (.var 3)])])]), (.ret (.var 1))]⟩

def fd9 : Fd := ⟨false, 2, 6, [(.par [2, 3] [(.call 193 none [(.var 0)]), (.call 174 none [(.var 0)])]), (.for_ (.tp [(.nm 4), (.nm 5)]) (.seq (.var 1)) [(.par [2, 3] [(.call 192 none [(.var 2), (.var 4), (.var 5)]), (.call 172 none [(.var 3), (.var 4), (.var 5)])])]), (.ret (.call 90 none [(.call 128 none [(.var 0)]), (.call 66 none [(.var 0)]), (.var 2), (.var 3)]))]⟩

def fd10 : Fd := ⟨false, 2, 3, [(.par [2] [(.call 140 none [(.var 0), (.var 1), (.cst (.int 20000))])]), (.ret (.sub (.call 227 none [(.var 2)]) (.call 193 none [(.var 0)])))]⟩

def fd11 : Fd := ⟨false, 3, 5, [(.exp (.call 152 none [(.var 0)])), (.exp (.call 152 none [(.var 1)])), (.exp (.call 147 none [(.var 2)])), (.par [3, 4] [(.call 105 none [(.var 0), (.var 2)]), (.call 105 none [(.var 1), (.var 2)])]), (.ret (.tup [(.ite (.cmp .IsNot (.var 3) (.cst .none)) (.sub (.var 3) (.cst (.int 0))) (.cst .none)), (.ite (.cmp .IsNot (.var 4) (.cst .none)) (.sub (.var 4) (.cst (.int 0))) (.cst .none))]))]⟩

def fd12 : Fd := ⟨false, 2, 2, [(.ite (.cmp .Lt (.var 1) (.cst (.int 0))) [(.ret (.cst (.int 0)))] []), (.ret (.ite (.cmp .Eq (.var 1) (.cst (.int 0))) (.cst (.int 1)) (.bin .Add (.cst (.int 1)) (.ite (.cmp .GtE (.var 0) (.var 1)) (.cst (.int 1)) (.cst (.int 0))))))]⟩

def fd13 : Fd := ⟨false, 2, 4, [(.par [2, 3] [(.call 128 none [(.var 0)]), (.call 66 none [(.var 0)])]), (.ret (.tup [(.bin .FloorDiv (.bin .Sub (.sub (.var 1) (.cst (.int 1))) (.var 2)) (.var 3)), (.bin .FloorDiv (.bin .Sub (.var 2) (.sub (.var 1) (.cst (.int 0)))) (.var 3))]))]⟩

def fd14 : Fd := ⟨false, 2, 3, [(.exp (.call 157 none [(.var 0), (.var 1)])), (.par [2] [(.call 240 none [(.var 0), (.var 1), (.cst (.int 0))])]), (.ret (.mt .index (.var 2) [(.blt .max [(.var 2)])]))]⟩

def fd15 : Fd := ⟨false, 2, 2, [(.exp (.call 152 none [(.var 0)])), (.exp (.call 147 none [(.var 1)])), (.ret (.cmp .IsNot (.call 170 none [(.var 0), (.var 1)]) (.cst .none)))]⟩

def fd16 : Fd := ⟨false, 3, 3, [(.exp (.call 157 none [(.var 0), (.var 1)])), (.exp (.call 154 none [(.var 2)])), (.ret (.cmp .Eq (.sub (.call 240 none [(.var 0), (.var 1), (.cst (.int 0))]) (.var 2)) (.cst (.int 0))))]⟩

def fd17 : Fd := ⟨false, 3, 9, [(.exp (.call 152 none [(.var 0)])), (.exp (.call 152 none [(.var 1)])), (.exp (.call 152 none [(.var 2)])), (.ite (.or (.cmp .NotEq (.call 128 none [(.var 0)]) (.call 128 none [(.var 2)])) (.or (.cmp .NotEq (.call 66 none [(.var 0)]) (.call 66 none [(.var 2)])) (.cmp .NotEq (.call 8 none [(.var 0)]) (.call 8 none [(.var 2)])))) [.stop] []), (.par [3] [(.bin .Mult (.lst [(.cst (.int 0))]) (.blt .len [(.var 2)]))]), (.par [4, 5] [(.call 8 none [(.var 0)]), (.call 8 none [(.var 1)])]), (.for_ (.tp [(.nm 6), (.nm 7)]) (.enm (.var 2)) [(.par [8] [(.bin .FloorDiv (.bin .Sub (.var 7) (.call 128 none [(.var 0)])) (.call 66 none [(.var 0)]))]), (.put 3 (.sub (.var 5) (.mt .index (.var 4) [(.var 6)])) (.bin .Add (.call 128 none [(.var 1)]) (.bin .Mult (.var 8) (.call 66 none [(.var 1)]))))]), (.ret (.blt .tuple [(.var 3)]))]⟩

def fd18 : Fd := ⟨false, 2, 12, [(.par [2] [(.call 140 none [(.var 0), (.var 1), (.cst (.int 20000))])]), (.par [3] [(.call 45 none [(.var 2), (.tup [(.cst (.int 1)), (.cst (.int 1))])])]), .stop, (.par [7] [(.call 45 none [(.var 2), (.var 6)])]), .stop, (.par [10] [(.call 45 none [(.var 2), (.var 9)])]), (.par [11] [(.lst [])]), (.for_ (.nm 4) (.seq (.var 2)) [(.ite (.and (.cmp .Eq (.bin .Add (.sub (.var 7) (.var 4)) (.sub (.var 10) (.var 4))) (.var 8)) (.cmp .LtE (.blt .abs [(.bin .Sub (.sub (.var 7) (.var 4)) (.sub (.var 10) (.var 4)))]) (.bin .Mod (.var 8) (.cst (.int 2))))) [(.app 11 (.call 204 none [(.var 0), (.var 4)]))] [])]), (.ret (.blt .sorted [(.var 11)]))]⟩

def fd19 : Fd := ⟨false, 3, 4, [(.exp (.call 157 none [(.var 0), (.var 1)])), (.exp (.call 144 none [(.var 2), (.cst (.int 0)), (.cst (.int 60))])), (.par [3] [(.ite (.cmp .LtE (.call 44 none [(.var 0), (.var 1)]) (.var 2)) (.call 282 none [(.var 0), (.var 1), (.var 2), (.cst (.bool true))]) (.cst (.int 0)))]), (.ret (.call 117 none [(.var 3), (.call 206 none [(.cst (.int 6)), (.var 2)])]))]⟩

def fd20 : Fd := ⟨false, 2, 5, [(.par [2] [(.call 131 none [(.blt .min [(.var 0), (.var 1)])])]), (.ret (.blt .sum [(.comp (.bin .Mult (.bin .Mult (.var 4) (.bin .FloorDiv (.var 0) (.var 3))) (.bin .FloorDiv (.var 1) (.var 3))) (.tp [(.nm 3), (.nm 4)]) (.enm (.var 2)) (some (.cmp .NotEq (.var 4) (.cst (.int 0)))))]))]⟩

def fd21 : Fd := ⟨false, 3, 6, [(.par [3] [(.call 131 none [(.blt .min [(.var 0), (.var 1)])])]), (.ret (.blt .sum [(.comp (.bin .Mult (.var 5) (.call 255 none [(.bin .FloorDiv (.var 0) (.var 4)), (.bin .FloorDiv (.var 1) (.var 4)), (.bin .FloorDiv (.var 2) (.var 4))])) (.tp [(.nm 4), (.nm 5)]) (.enm (.var 3)) (some (.cmp .NotEq (.var 5) (.cst (.int 0)))))]))]⟩

def fd22 : Fd := ⟨false, 2, 2, [(.exp (.call 152 none [(.var 0)])), (.exp (.call 152 none [(.var 1)])), (.ite (.or (.cmp .NotEq (.call 128 none [(.var 0)]) (.call 128 none [(.var 1)])) (.cmp .NotEq (.call 66 none [(.var 0)]) (.call 66 none [(.var 1)]))) [(.ret (.cst .none))] []), (.ret (.call 9 none [(.call 7 none [(.var 0)]), (.call 219 none [(.var 1)])]))]⟩

def fd23 : Fd := ⟨false, 2, 2, [(.exp (.call 157 none [(.var 0), (.var 1)])), (.exp (.call 143 none [(.tup [(.var 0), (.var 1)])])), (.ret (.call 25 none [(.var 0), (.var 1)]))]⟩

def fd24 : Fd := ⟨false, 1, 1, [(.exp (.call 152 none [(.var 0)])), (.exp (.call 143 none [(.tup [(.var 0)])])), (.ret (.call 5 none [(.var 0)]))]⟩

def fd25 : Fd := ⟨false, 2, 5, [(.par [2] [(.call 40 none [(.call 63 none [(.var 0), (.var 1)])])]), (.par [3, 4] [(.bin .Sub (.call 40 none [(.var 0)]) (.var 2)), (.bin .Sub (.call 40 none [(.var 1)]) (.var 2))]), (.ret (.call 117 none [(.bin .Mult (.call 206 none [(.cst (.int 2)), (.var 4)]) (.call 266 none [(.var 2)])), (.bin .Mult (.call 206 none [(.cst (.int 2)), (.var 3)]) (.call 266 none [(.bin .Add (.var 2) (.var 4))]))]))]⟩

def fd26 : Fd := ⟨false, 2, 2, [(.whl (.cmp .NotEq (.var 1) (.cst (.int 0))) [(.par [0, 1] [(.var 1), (.bin .Mod (.var 0) (.var 1))])]), (.ret (.blt .abs [(.var 0)]))]⟩

def fd27 : Fd := ⟨false, 3, 6, [(.exp (.call 152 none [(.var 0)])), (.exp (.call 152 none [(.var 1)])), (.exp (.call 147 none [(.var 2)])), (.par [3] [(.call 29 none [(.var 0), (.var 1)])]), (.ite (.cmp .Is (.var 3) (.cst .none)) [(.ret (.cst .none))] []), (.asg (.tp [(.nm 4), (.nm 5)]) (.var 3)), (.ret (.bin .Add (.var 2) (.bin .Mod (.bin .Sub (.var 4) (.var 2)) (.var 5))))]⟩

def fd28 : Fd := ⟨false, 4, 7, [(.exp (.call 152 none [(.var 0)])), (.exp (.call 152 none [(.var 1)])), (.exp (.call 147 none [(.var 2)])), (.exp (.call 147 none [(.var 3)])), (.par [4] [(.call 29 none [(.var 0), (.var 1)])]), (.ite (.or (.cmp .Is (.var 4) (.cst .none)) (.cmp .Lt (.var 3) (.var 2))) [(.ret (.cst (.int 0)))] []), (.asg (.tp [(.nm 5), (.nm 6)]) (.var 4)), (.ret (.bin .Sub (.bin .FloorDiv (.bin .Sub (.var 3) (.var 5)) (.var 6)) (.bin .FloorDiv (.bin .Sub (.bin .Sub (.var 2) (.cst (.int 1))) (.var 5)) (.var 6))))]⟩

def fd29 : Fd := ⟨false, 2, 9, [(.exp (.call 152 none [(.var 0)])), (.exp (.call 152 none [(.var 1)])), (.par [2, 3] [(.call 66 none [(.var 0)]), (.call 66 none [(.var 1)])]), (.par [4, 5] [(.call 26 none [(.var 2), (.var 3)]), (.bin .Sub (.call 128 none [(.var 1)]) (.call 128 none [(.var 0)]))]), (.ite (.cmp .NotEq (.bin .Mod (.var 5) (.var 4)) (.cst (.int 0))) [(.ret (.cst .none))] []), (.par [6, 7] [(.bin .Mult (.bin .FloorDiv (.var 2) (.var 4)) (.var 3)), (.bin .FloorDiv (.var 3) (.var 4))]), (.par [8] [(.ite (.cmp .Gt (.var 7) (.cst (.int 1))) (.bin .Mod (.bin .Mult (.bin .FloorDiv (.var 5) (.var 4)) (.call 76 none [(.bin .FloorDiv (.var 2) (.var 4)), (.var 7)])) (.var 7)) (.cst (.int 0)))]), (.ret (.tup [(.bin .Mod (.bin .Add (.call 128 none [(.var 0)]) (.bin .Mult (.var 8) (.var 2))) (.var 6)), (.var 6)]))]⟩

def fd30 : Fd := ⟨false, 3, 5, [(.exp (.call 148 none [(.var 0)])), (.exp (.call 157 none [(.var 1), (.var 2)])), (.ret (.blt .sum [(.comp (.bin .Mult (.var 3) (.var 4)) (.tp [(.nm 3), (.nm 4)]) (.zip (.var 0) (.call 240 none [(.var 1), (.var 2), (.cst (.int 0))])) none)]))]⟩

def fd31 : Fd := ⟨false, 2, 2, [(.exp (.call 140 none [(.var 0), (.var 1), (.cst (.int 500))])), .stop]⟩

def fd32 : Fd := ⟨false, 2, 6, [(.exp (.call 152 none [(.var 0)])), (.exp (.call 144 none [(.var 1), (.cst (.int 0)), (.cst (.int 10000000000000000000000000000000000000000))])), (.par [2] [(.bin .Add (.bin .FloorDiv (.var 1) (.bin .Mult (.cst (.int 2)) (.call 66 none [(.var 0)]))) (.cst (.int 2)))]), (.ite (.cmp .Gt (.var 2) (.cst (.int 100000))) [.stop] []), (.par [3] [(.lrg (.bin .Add (.var 2) (.cst (.int 1))))]), (.for_ (.nm 4) (.rng [(.cst (.int 2)), (.bin .Add (.var 2) (.cst (.int 1)))]) [(.ite (.cmp .Eq (.sub (.var 3) (.var 4)) (.var 4)) [(.for_ (.nm 5) (.rng [(.var 4), (.bin .Add (.var 2) (.cst (.int 1))), (.var 4)]) [(.augIx 3 (.var 5) .Sub (.bin .FloorDiv (.sub (.var 3) (.var 5)) (.var 4)))])] [])]), (.ret (.blt .sum [(.cut (.var 3) (some (.cst (.int 2))) none)]))]⟩

def fd33 : Fd := ⟨false, 2, 6, [(.exp (.call 139 none [(.var 0)])), (.exp (.call 152 none [(.var 1)])), .stop, (.ret (.blt .sum [(.comp (.call 186 none [(.var 2), (.var 3), (.var 4), (.var 5)]) (.tp [(.nm 3), (.nm 4), (.nm 5)]) (.seq (.call 232 none [(.var 1), (.var 0)])) none)]))]⟩

def fd34 : Fd := ⟨false, 2, 3, [(.par [2] [(.call 156 none [(.var 0), (.var 1), (.cst (.int 1000000000))])]), (.ret (.ite (.cmp .IsNot (.var 2) (.cst .none)) (.call 54 none [(.var 2)]) (.cst (.int 0))))]⟩

def fd35 : Fd := ⟨false, 2, 4, [(.asg (.tp [(.nm 2), (.nm 3)]) (.call 138 none [(.var 0), (.var 1), (.cst (.int 100000))])), (.ret (.call 20 none [(.var 2), (.var 3)]))]⟩

def fd36 : Fd := ⟨false, 3, 3, [(.exp (.call 157 none [(.var 0), (.var 1)])), (.exp (.call 144 none [(.var 2), (.cst (.int 0)), (.cst (.int 60))])), (.ret (.ite (.cmp .LtE (.call 44 none [(.var 0), (.var 1)]) (.var 2)) (.call 282 none [(.var 0), (.var 1), (.var 2), (.cst (.bool false))]) (.cst (.int 0))))]⟩

def fd37 : Fd := ⟨false, 2, 8, [(.asg (.tp [(.nm 2), (.nm 3)]) (.call 138 none [(.var 0), (.var 1), (.cst (.int 100000))])), (.par [4] [(.call 21 none [(.var 2), (.var 3), (.blt .min [(.var 2), (.var 3)])])]), (.par [5] [(.call 21 none [(.var 2), (.var 3), (.blt .max [(.var 2), (.var 3)])])]), (.par [6] [(.lst [(.cst (.int 0)), (.bin .Sub (.call 20 none [(.var 2), (.var 3)]) (.var 5)), (.bin .Sub (.var 5) (.var 4)), (.var 4)])]), (.par [7] [(.bin .Add (.ite (.cmp .Gt (.var 2) (.cst (.int 1))) (.cst (.int 1)) (.cst (.int 0))) (.ite (.cmp .Gt (.var 3) (.cst (.int 1))) (.cst (.int 1)) (.cst (.int 0))))]), (.augIx 6 (.bin .Add (.var 7) (.cst (.int 1))) .Sub (.cst (.int 1))), (.augIx 6 (.var 7) .Add (.cst (.int 1))), (.ret (.blt .tuple [(.var 6)]))]⟩

def fd38 : Fd := ⟨false, 1, 1, [(.exp (.call 152 none [(.var 0)])), (.ret (.call 40 none [(.var 0)]))]⟩

def fd39 : Fd := ⟨false, 2, 6, [(.par [2] [(.call 140 none [(.var 0), (.var 1), (.cst (.int 20000))])]), .stop, (.par [4] [(.bin .Mult (.lst [(.cst (.int 0))]) (.bin .Add (.blt .max [(.var 3)]) (.cst (.int 1))))]), (.for_ (.nm 5) (.seq (.var 3)) [(.augIx 4 (.var 5) .Add (.cst (.int 1)))]), (.ret (.blt .tuple [(.var 4)]))]⟩

def fd40 : Fd := ⟨false, 1, 3, [(.ret (.blt .sum [(.comp (.var 2) (.tp [(.nm 1), (.nm 2)]) (.seq (.call 219 none [(.var 0)])) none)]))]⟩

def fd41 : Fd := ⟨false, 2, 6, [(.par [2] [(.call 140 none [(.var 0), (.var 1), (.cst (.int 20000))])]), .stop, (.for_ (.nm 4) (.seq (.var 2)) [(.par [5] [(.call 195 none [(.var 4)])]), (.ite (.cmp .IsNot (.var 5) (.cst .none)) [(.put 3 (.var 4) (.bin .Add (.sub (.var 3) (.var 5)) (.cst (.int 1))))] [])]), .stop]⟩

def fd42 : Fd := ⟨false, 2, 6, [(.par [2] [(.call 156 none [(.var 0), (.var 1), (.cst (.int 5000))])]), (.ite (.cmp .Is (.var 2) (.cst .none)) [(.ret (.cst .none))] []), (.par [4] [(.comp (.var 3) (.nm 3) (.rng [(.cst (.int 1)), (.var 2)]) (some (.cmp .Eq (.call 26 none [(.var 3), (.var 2)]) (.cst (.int 1)))))]), (.par [5] [(.comp (.call 208 none [(.blt .max [(.var 3), (.bin .Sub (.var 2) (.var 3))]), (.blt .min [(.var 3), (.bin .Sub (.var 2) (.var 3))])]) (.nm 3) (.seq (.var 4)) none)]), (.ret (.tup [(.blt .min [(.var 5)]), (.blt .max [(.var 5)])]))]⟩

def fd43 : Fd := ⟨false, 2, 2, [(.exp (.call 157 none [(.var 0), (.var 1)])), (.ret (.call 44 none [(.var 0), (.var 1)]))]⟩

def fd44 : Fd := ⟨false, 2, 4, [(.par [2, 3] [(.call 219 none [(.var 0)]), (.call 219 none [(.var 1)])]), (.ret (.bin .Sub (.bin .Add (.call 245 none [(.var 2)]) (.call 245 none [(.var 3)])) (.bin .Mult (.cst (.int 2)) (.call 245 none [(.call 223 none [(.var 2), (.var 3)])]))))]⟩

def fd45 : Fd := ⟨false, 2, 6, [.stop, (.whl (.cmp .IsNot (.var 3) (.cst .none)) [(.put 2 (.var 3) (.var 4)), (.par [3, 4] [(.call 195 none [(.var 3)]), (.bin .Add (.var 4) (.cst (.int 1)))])]), (.for_ (.nm 5) (.seq (.var 0)) [(.ite (.cmp .NotIn (.var 5) (.var 2)) [(.put 2 (.var 5) (.bin .Add (.sub (.var 2) (.call 195 none [(.var 5)])) (.cst (.int 1))))] [])]), (.ret (.var 2))]⟩

def fd46 : Fd := ⟨false, 1, 5, [(.par [1, 2] [(.lst [(.tup [(.cst (.int 1)), (.cst (.int 1))])]), (.cst (.int 2))]), (.whl (.cmp .LtE (.bin .Mult (.var 2) (.var 2)) (.var 0)) [(.ite (.cmp .Eq (.bin .Mod (.var 0) (.var 2)) (.cst (.int 0))) [(.par [1] [(.bin .Add (.var 1) (.comp (.tup [(.bin .Mult (.var 3) (.var 2)), (.neg (.var 4))]) (.tp [(.nm 3), (.nm 4)]) (.seq (.var 1)) none))]), (.whl (.cmp .Eq (.bin .Mod (.var 0) (.var 2)) (.cst (.int 0))) [(.aug 0 .FloorDiv (.var 2))])] []), (.aug 2 .Add (.cst (.int 1)))]), (.ite (.cmp .Gt (.var 0) (.cst (.int 1))) [(.par [1] [(.bin .Add (.var 1) (.comp (.tup [(.bin .Mult (.var 3) (.var 0)), (.neg (.var 4))]) (.tp [(.nm 3), (.nm 4)]) (.seq (.var 1)) none))])] []), (.ret (.var 1))]⟩

def fd47 : Fd := ⟨false, 1, 6, [(.exp (.call 152 none [(.var 0)])), (.par [1, 2] [(.blt .min [(.var 0)]), (.blt .max [(.var 0)])]), (.ite (.cmp .Gt (.bin .Sub (.var 2) (.var 1)) (.cst (.int 199))) [(.ret (.cst .none))] []), .stop, .stop]⟩

def fd48 : Fd := ⟨false, 3, 5, [(.exp (.call 153 none [(.tup [(.var 0), (.var 1)])])), (.exp (.call 144 none [(.var 2), (.cst (.int 2)), (.cst (.int 100))])), (.par [3] [(.call 44 none [(.var 0), (.var 1)])]), (.ret (.blt .tuple [(.comp (.call 203 none [(.var 0), (.var 1), (.bin .FloorDiv (.bin .Mult (.var 3) (.var 4)) (.bin .Sub (.var 2) (.cst (.int 1))))]) (.nm 4) (.rng [(.var 2)]) none)]))]⟩

def fd49 : Fd := ⟨false, 2, 8, [(.exp (.call 139 none [(.var 0)])), (.exp (.call 152 none [(.var 1)])), .stop, (.ret (.blt .max [(.comp (.bin .Add (.var 4) (.call 187 none [(.var 2), (.var 5), (.var 6), (.var 7)])) (.tp [(.nm 4), (.tp [(.nm 5), (.nm 6), (.nm 7)])]) (.enm (.var 3)) none)]))]⟩

def fd50 : Fd := ⟨false, 2, 3, [(.par [2] [(.call 140 none [(.var 0), (.var 1), (.cst (.int 20000))])]), .stop]⟩

def fd51 : Fd := ⟨false, 2, 3, [(.exp (.call 157 none [(.var 0), (.var 1)])), (.par [2] [(.call 262 none [(.var 0), (.call 203 none [(.var 0), (.var 1), (.blt .min [(.cst (.int 1)), (.call 44 none [(.var 0), (.var 1)])])])])]), (.ret (.ite (.cmp .NotEq (.var 2) (.lst [])) (.sub (.var 2) (.cst (.int 0))) (.cst .none)))]⟩

def fd52 : Fd := ⟨false, 3, 4, [(.exp (.call 157 none [(.var 0), (.var 1)])), (.exp (.call 147 none [(.var 2)])), (.par [3] [(.call 118 none [(.var 0), (.var 1), (.var 2)])]), (.ret (.ite (.cmp .NotEq (.var 3) (.lst [])) (.sub (.sub (.var 3) (.cst (.int 0))) (.cst (.int 0))) (.cst .none)))]⟩

def fd53 : Fd := ⟨false, 2, 2, [(.exp (.call 140 none [(.var 0), (.var 1), (.cst (.int 500))])), .stop]⟩

def fd54 : Fd := ⟨false, 1, 3, [(.ret (.blt .sum [(.comp (.bin .Mult (.var 2) (.bin .FloorDiv (.var 0) (.var 1))) (.tp [(.nm 1), (.nm 2)]) (.seq (.call 46 none [(.var 0)])) none)]))]⟩

def fd55 : Fd := ⟨false, 2, 4, [(.ret (.ite (.cmp .Gt (.var 1) (.cst (.int 0))) (.blt .sum [(.comp (.bin .Mult (.var 3) (.bin .FloorDiv (.var 1) (.var 2))) (.tp [(.nm 2), (.nm 3)]) (.seq (.call 46 none [(.var 0)])) none)]) (.cst (.int 0))))]⟩

def fd56 : Fd := ⟨false, 2, 2, [(.exp (.call 152 none [(.var 0)])), (.exp (.call 154 none [(.var 1)])), (.ret (.sub (.call 240 none [(.call 77 none [(.var 0), (.call 40 none [(.var 0)])]), (.var 0), (.cst (.int 0))]) (.var 1)))]⟩

def fd57 : Fd := ⟨false, 1, 1, [(.ret (.bin .Mult (.bin .Mult (.cst (.int 2)) (.call 66 none [(.var 0)])) (.bin .Sub (.blt .sum [(.call 193 none [(.var 0)])]) (.cst (.int 2)))))]⟩

def fd58 : Fd := ⟨false, 1, 1, [(.exp (.call 152 none [(.var 0)])), (.ret (.call 9 none [(.call 7 none [(.var 0)]), (.rev (.call 219 none [(.var 0)]))]))]⟩

def fd59 : Fd := ⟨false, 2, 10, [(.exp (.call 152 none [(.var 0)])), (.exp (.call 155 none [(.var 1)])), (.asg (.tp [(.nm 2), (.nm 3), (.nm 4), (.nm 5)]) (.var 1)), (.par [6] [(.lst [])]), (.whl (.cmp .NotEq (.tup [(.var 2), (.var 3), (.var 4), (.var 5)]) (.tup [(.cst (.int 1)), (.cst (.int 0)), (.cst (.int 0)), (.cst (.int 1))])) [(.ite (.and (.cmp .GtE (.var 2) (.var 4)) (.cmp .GtE (.var 3) (.var 5))) [(.par [9] [(.blt .min [(.comp (.bin .FloorDiv (.var 7) (.var 8)) (.tp [(.nm 7), (.nm 8)]) (.seq (.tup [(.tup [(.var 2), (.var 4)]), (.tup [(.var 3), (.var 5)])])) (some (.cmp .Gt (.var 8) (.cst (.int 0)))))])]), (.par [2, 3] [(.bin .Sub (.var 2) (.bin .Mult (.var 9) (.var 4))), (.bin .Sub (.var 3) (.bin .Mult (.var 9) (.var 5)))]), (.app 6 (.tup [(.cst (.str ("R" : Str))), (.var 9)]))] [(.par [9] [(.blt .min [(.comp (.bin .FloorDiv (.var 8) (.var 7)) (.tp [(.nm 7), (.nm 8)]) (.seq (.tup [(.tup [(.var 2), (.var 4)]), (.tup [(.var 3), (.var 5)])])) (some (.cmp .Gt (.var 7) (.cst (.int 0)))))])]), (.par [4, 5] [(.bin .Sub (.var 4) (.bin .Mult (.var 9) (.var 2))), (.bin .Sub (.var 5) (.bin .Mult (.var 9) (.var 3)))]), (.app 6 (.tup [(.cst (.str ("L" : Str))), (.var 9)]))])]), (.ret (.call 9 none [(.call 7 none [(.var 0)]), (.rev (.var 6))]))]⟩

def fd60 : Fd := ⟨false, 1, 1, [(.exp (.call 152 none [(.var 0)])), (.ret (.call 61 none [(.var 0)]))]⟩

def fd61 : Fd := ⟨false, 1, 4, [(.asg (.tp [(.nm 1), (.nm 2), (.nm 3)]) (.blt .sorted [(.var 0)])), (.ret (.tup [(.bin .Sub (.var 2) (.var 1)), (.bin .Sub (.var 3) (.var 2))]))]⟩

def fd62 : Fd := ⟨false, 2, 2, [(.exp (.call 157 none [(.var 0), (.var 1)])), (.ret (.call 63 none [(.var 0), (.var 1)]))]⟩

def fd63 : Fd := ⟨false, 2, 2, [(.ret (.call 9 none [(.call 7 none [(.var 0)]), (.call 223 none [(.call 219 none [(.var 0)]), (.call 219 none [(.var 1)])])]))]⟩

def fd64 : Fd := ⟨false, 2, 2, [(.ite (.or (.cmp .Eq (.var 0) (.lst [])) (.or (.cmp .Eq (.var 1) (.lst [])) (.cmp .NotEq (.sub (.sub (.var 0) (.neg (.cst (.int 1)))) (.cst (.int 0))) (.sub (.sub (.var 1) (.cst (.int 0))) (.cst (.int 0)))))) [(.ret (.bin .Add (.var 0) (.var 1)))] []), (.ret (.bin .Add (.bin .Add (.cut (.var 0) none (some (.neg (.cst (.int 1))))) (.lst [(.tup [(.sub (.sub (.var 0) (.neg (.cst (.int 1)))) (.cst (.int 0))), (.bin .Add (.sub (.sub (.var 0) (.neg (.cst (.int 1)))) (.cst (.int 1))) (.sub (.sub (.var 1) (.cst (.int 0))) (.cst (.int 1))))])])) (.cut (.var 1) (some (.cst (.int 1))) none)))]⟩

def fd65 : Fd := ⟨false, 1, 1, [(.exp (.call 152 none [(.var 0)])), (.ret (.call 66 none [(.var 0)]))]⟩

def fd66 : Fd := ⟨false, 1, 3, [(.asg (.tp [(.nm 1), (.nm 2)]) (.call 61 none [(.var 0)])), (.ret (.call 26 none [(.var 1), (.var 2)]))]⟩

def fd67 : Fd := ⟨false, 2, 3, [(.par [2] [(.call 140 none [(.var 0), (.var 1), (.cst (.int 20000))])]), (.ret (.sub (.sub (.call 71 none [(.var 2)]) (.tup [(.cst (.int 1)), (.cst (.int 1))])) (.cst (.int 0))))]⟩

def fd68 : Fd := ⟨false, 2, 2, [(.exp (.call 157 none [(.var 0), (.var 1)])), (.ret (.bin .Mult (.blt .max [(.blt .sum [(.call 193 none [(.var 0)])]), (.blt .sum [(.call 193 none [(.var 1)])])]) (.call 66 none [(.var 0)])))]⟩

def fd69 : Fd := ⟨false, 1, 1, [(.exp (.call 152 none [(.var 0)])), (.ret (.call 128 none [(.var 0)]))]⟩

def fd70 : Fd := ⟨false, 2, 2, [(.ret (.call 77 none [(.var 0), (.call 75 none [(.var 0), (.var 1)])]))]⟩

def fd71 : Fd := ⟨false, 1, 6, [.stop, (.for_ (.nm 2) (.seq (.rev (.var 0))) [.stop, (.par [3] [(.call 195 none [(.var 2)])]), (.ite (.cmp .IsNot (.var 3) (.cst .none)) [(.asg (.tp [(.nm 4), (.nm 5)]) (.sub (.var 1) (.var 2))), .stop] [])]), (.ret (.var 1))]⟩

def fd72 : Fd := ⟨false, 4, 5, [(.ite (.cmp .Eq (.var 0) (.cst (.int 0))) [(.ret (.ite (.cmp .Eq (.var 1) (.var 3)) (.lst [(.tup [(.cst (.int 0)), (.var 2)])]) (.lst [])))] []), (.par [4] [(.bin .FloorDiv (.bin .Sub (.var 3) (.var 1)) (.var 0))]), (.ret (.ite (.and (.cmp .Eq (.bin .Add (.var 1) (.bin .Mult (.var 4) (.var 0))) (.var 3)) (.cmp2 .LtE .LtE (.cst (.int 0)) (.var 4) (.var 2))) (.lst [(.tup [(.var 4), (.var 4)])]) (.lst [])))]⟩

def fd73 : Fd := ⟨false, 2, 10, [(.par [2] [(.call 140 none [(.var 0), (.var 1), (.cst (.int 20000))])]), (.par [3, 4, 5] [(.call 227 none [(.var 2)]), (.blt .len [(.var 2)]), (.lst [])]), (.for_ (.nm 6) (.seq (.var 2)) [(.asg (.tp [(.nm 7), (.nm 8)]) (.var 6)), .stop, (.ite (.cmp .LtE (.bin .Mult (.cst (.int 2)) (.blt .max [(.var 9)])) (.var 4)) [(.app 5 (.call 204 none [(.var 0), (.var 6)]))] [])]), (.ret (.blt .sorted [(.var 5)]))]⟩

def fd74 : Fd := ⟨false, 2, 2, [(.exp (.call 152 none [(.var 0)])), (.exp (.call 152 none [(.var 1)])), (.ret (.tup [(.blt .min [(.bin .Add (.var 0) (.var 1))]), (.blt .max [(.bin .Add (.var 0) (.var 1))])]))]⟩

def fd75 : Fd := ⟨false, 2, 10, [(.par [2, 3] [(.call 174 none [(.var 0)]), (.cst (.int 0))]), (.for_ (.tp [(.nm 4), (.nm 5)]) (.seq (.rev (.call 219 none [(.var 0)]))) [(.asg (.tp [(.nm 6), (.nm 7), (.nm 8)]) (.var 2)), (.par [9] [(.ite (.cmp .Eq (.var 4) (.cst (.str ("R" : Str)))) (.var 8) (.var 6))]), (.ite (.cmp .Eq (.var 1) (.var 9)) [(.ret (.var 3))] []), (.ite (.cmp .Eq (.var 1) (.var 7)) [(.aug 3 .Add (.cst (.int 1))), (.ite (.cmp .Gt (.var 5) (.cst (.int 1))) [(.ret (.var 3))] []), (.par [2] [(.call 172 none [(.var 2), (.var 4), (.cst (.int 1))])])] [(.aug 3 .Add (.var 5)), (.par [2] [(.call 172 none [(.var 2), (.var 4), (.var 5)])])])]), (.ret (.var 3))]⟩

def fd76 : Fd := ⟨false, 2, 7, [(.asg (.tp [(.nm 2), (.nm 3), (.nm 4), (.nm 5)]) (.tup [(.bin .Mod (.var 0) (.var 1)), (.var 1), (.cst (.int 1)), (.cst (.int 0))])), (.whl (.cmp .NotEq (.var 3) (.cst (.int 0))) [(.par [6] [(.bin .FloorDiv (.var 2) (.var 3))]), (.par [2, 3] [(.var 3), (.bin .Sub (.var 2) (.bin .Mult (.var 6) (.var 3)))]), (.par [4, 5] [(.var 5), (.bin .Sub (.var 4) (.bin .Mult (.var 6) (.var 5)))])]), (.ret (.bin .Mod (.var 4) (.var 1)))]⟩

def fd77 : Fd := ⟨false, 2, 6, [(.par [2, 3] [(.bin .Sub (.call 40 none [(.var 0)]) (.var 1)), (.lst [])]), (.for_ (.tp [(.nm 4), (.nm 5)]) (.seq (.call 219 none [(.var 0)])) [(.ite (.cmp .Gt (.var 2) (.cst (.int 0))) [(.app 3 (.tup [(.var 4), (.blt .min [(.var 5), (.var 2)])])), (.aug 2 .Sub (.blt .min [(.var 5), (.var 2)]))] [])]), (.ret (.call 9 none [(.call 7 none [(.var 0)]), (.var 3)]))]⟩

def fd78 : Fd := ⟨false, 1, 3, [(.exp (.call 152 none [(.var 0)])), (.asg (.tp [(.nm 1), (.nm 2)]) (.call 61 none [(.var 0)])), (.ret (.cmp .Eq (.var 1) (.var 2)))]⟩

def fd79 : Fd := ⟨false, 2, 4, [(.exp (.call 157 none [(.var 0), (.var 1)])), (.par [2, 3] [(.call 219 none [(.var 1)]), (.call 219 none [(.var 0)])]), (.ite (.cmp .Gt (.blt .len [(.var 2)]) (.blt .len [(.var 3)])) [(.ret (.cst (.bool false)))] []), (.ite (.cmp .Eq (.var 2) (.lst [])) [(.ret (.cst (.bool true)))] []), (.ret (.and (.cmp .Eq (.cut (.var 2) none (some (.neg (.cst (.int 1))))) (.cut (.var 3) none (some (.bin .Sub (.blt .len [(.var 2)]) (.cst (.int 1)))))) (.and (.cmp .Eq (.sub (.sub (.var 2) (.neg (.cst (.int 1)))) (.cst (.int 0))) (.sub (.sub (.var 3) (.bin .Sub (.blt .len [(.var 2)]) (.cst (.int 1)))) (.cst (.int 0)))) (.cmp .LtE (.sub (.sub (.var 2) (.neg (.cst (.int 1)))) (.cst (.int 1))) (.sub (.sub (.var 3) (.bin .Sub (.blt .len [(.var 2)]) (.cst (.int 1)))) (.cst (.int 1)))))))]⟩

def fd80 : Fd := ⟨false, 3, 3, [(.exp (.call 137 none [(.tup [(.var 0), (.var 1), (.var 2)])])), (.ret (.cmp .Eq (.bin .Add (.call 44 none [(.var 0), (.var 2)]) (.call 44 none [(.var 2), (.var 1)])) (.call 44 none [(.var 0), (.var 1)])))]⟩

def fd81 : Fd := ⟨false, 3, 3, [(.ret (.and (.call 82 none [(.var 0)]) (.cmp2 .LtE .LtE (.var 1) (.var 0) (.var 2))))]⟩

def fd82 : Fd := ⟨false, 1, 1, [(.ret (.and (.isa (.var 0) [.int]) (.not (.isa (.var 0) [.bool]))))]⟩

def fd83 : Fd := ⟨false, 2, 2, [(.exp (.call 152 none [(.var 0)])), (.exp (.call 152 none [(.var 1)])), (.ret (.cmp .Eq (.call 219 none [(.var 0)]) (.call 219 none [(.var 1)])))]⟩

def fd84 : Fd := ⟨false, 2, 4, [(.exp (.call 152 none [(.var 0)])), (.exp (.call 152 none [(.var 1)])), (.ret (.cmp .Eq (.call 219 none [(.var 0)]) (.comp (.tup [(.ite (.cmp .Eq (.var 2) (.cst (.str ("R" : Str)))) (.cst (.str ("L" : Str))) (.cst (.str ("R" : Str)))), (.var 3)]) (.tp [(.nm 2), (.nm 3)]) (.seq (.call 219 none [(.var 1)])) none)))]⟩

def fd85 : Fd := ⟨false, 2, 7, [(.exp (.call 157 none [(.var 0), (.var 1)])), (.par [2, 3] [(.call 219 none [(.var 0)]), (.call 219 none [(.var 1)])]), (.ite (.cmp .Eq (.var 3) (.lst [])) [(.ret (.cmp .Eq (.var 2) (.lst [])))] []), (.ite (.or (.cmp .NotEq (.bin .Mod (.call 245 none [(.var 2)]) (.call 245 none [(.var 3)])) (.cst (.int 0))) (.cmp .Eq (.var 2) (.lst []))) [(.ret (.cst (.bool false)))] []), (.par [4] [(.bin .FloorDiv (.call 245 none [(.var 2)]) (.call 245 none [(.var 3)]))]), (.ite (.cmp .Eq (.blt .len [(.var 3)]) (.cst (.int 1))) [(.ret (.cmp .Eq (.var 2) (.lst [(.tup [(.sub (.sub (.var 3) (.cst (.int 0))) (.cst (.int 0))), (.bin .Mult (.sub (.sub (.var 3) (.cst (.int 0))) (.cst (.int 1))) (.var 4))])])))] []), (.ite (.cmp .Gt (.var 4) (.blt .len [(.var 2)])) [(.ret (.cst (.bool false)))] []), (.par [5] [(.lst [])]), (.for_ (.nm 6) (.rng [(.var 4)]) [(.par [5] [(.call 64 none [(.var 5), (.var 3)])])]), (.ret (.cmp .Eq (.var 5) (.var 2)))]⟩

def fd86 : Fd := ⟨false, 1, 1, [(.ite (.or (.not (.isa (.var 0) [.tuple])) (.or (.cmp .NotEq (.blt .len [(.var 0)]) (.cst (.int 2))) (.not (.isa (.sub (.var 0) (.cst (.int 0))) [.str])))) [(.ret (.cst (.bool false)))] []), (.ret (.and (.cmp .In (.sub (.var 0) (.cst (.int 0))) (.tup [(.cst (.str ("L" : Str))), (.cst (.str ("R" : Str)))])) (.call 81 none [(.sub (.var 0) (.cst (.int 1))), (.cst (.int 1)), (.cst (.int 1000000000000000000))])))]⟩

def fd87 : Fd := ⟨false, 2, 2, [(.ite (.or (.cmp .NotEq (.call 128 none [(.var 0)]) (.call 128 none [(.var 1)])) (.cmp .NotEq (.call 66 none [(.var 0)]) (.call 66 none [(.var 1)]))) [(.ret (.cst (.bool false)))] []), (.ret (.cmp .Eq (.call 8 none [(.var 0)]) (.call 8 none [(.var 1)])))]⟩

def fd88 : Fd := ⟨false, 1, 2, [(.ite (.or (.not (.isa (.var 0) [.tuple])) (.cmp .NotEq (.blt .len [(.var 0)]) (.cst (.int 3)))) [(.ret (.cst (.bool false)))] []), (.ite (.not (.blt .all [(.comp (.call 81 none [(.var 1), (.neg (.cst (.int 1000000000000000000))), (.cst (.int 1000000000000000000))]) (.nm 1) (.seq (.var 0)) none)])) [(.ret (.cst (.bool false)))] []), (.ret (.cmp .Eq (.ndist (.var 1) (.nm 1) (.seq (.var 0))) (.cst (.int 3))))]⟩

def fd89 : Fd := ⟨false, 2, 2, [(.exp (.call 152 none [(.var 0)])), (.exp (.call 152 none [(.var 1)])), (.ret (.call 9 none [(.var 0), (.call 219 none [(.var 1)])]))]⟩

def fd90 : Fd := ⟨false, 4, 10, [(.asg (.tp [(.nm 4), (.nm 5)]) (.var 2)), (.par [6] [(.lst [(.bin .Sub (.var 0) (.bin .Mult (.var 1) (.var 5))), (.bin .Add (.var 0) (.bin .Mult (.var 1) (.bin .Sub (.var 4) (.var 5)))), (.bin .Add (.var 0) (.bin .Mult (.var 1) (.var 4)))])]), (.par [7] [(.bin .Mult (.lst [(.cst (.int 0))]) (.cst (.int 3)))]), (.for_ (.tp [(.nm 8), (.nm 9)]) (.zip (.var 3) (.var 6)) [(.put 7 (.var 8) (.var 9))]), (.ret (.blt .tuple [(.var 7)]))]⟩

def fd91 : Fd := ⟨false, 3, 7, [(.exp (.call 157 none [(.var 0), (.var 1)])), (.exp (.call 154 none [(.var 2)])), (.par [3] [(.sub (.call 240 none [(.var 0), (.var 1), (.cst (.int 0))]) (.var 2))]), (.ite (.cmp .Eq (.var 3) (.cst (.int 0))) [(.ret (.cst .none))] []), (.par [4, 5] [(.cst (.int 1)), (.call 44 none [(.var 0), (.var 1)])]), (.whl (.cmp .Lt (.var 4) (.var 5)) [(.par [6] [(.bin .FloorDiv (.bin .Add (.var 4) (.var 5)) (.cst (.int 2)))]), (.ite (.cmp .GtE (.sub (.call 240 none [(.var 0), (.call 203 none [(.var 0), (.var 1), (.var 6)]), (.cst (.int 0))]) (.var 2)) (.var 3)) [(.par [5] [(.var 6)])] [(.par [4] [(.bin .Add (.var 6) (.cst (.int 1)))])])]), (.ret (.var 4))]⟩

def fd92 : Fd := ⟨false, 3, 4, [(.exp (.call 140 none [(.var 0), (.var 1), (.cst (.int 500))])), (.ite (.or (.not (.isa (.var 2) [.tuple])) (.cmp .NotEq (.blt .len [(.var 2)]) (.cst (.int 3)))) [.stop] []), (.ite (.not (.blt .all [(.comp (.call 81 none [(.var 3), (.neg (.cst (.int 99))), (.cst (.int 99))]) (.nm 3) (.seq (.var 2)) none)])) [.stop] []), .stop]⟩

def fd93 : Fd := ⟨false, 5, 10, [(.par [5] [(.tup [(.var 1), (.var 4)])]), (.ite (.cmp .NotIn (.var 5) (.var 0)) [(.par [9] [(.comp (.bin .Sub (.sub (.var 3) (.var 6)) (.call 93 none [(.var 0), (.var 8), (.var 2), (.var 3), (.var 1)])) (.tp [(.nm 6), (.nm 7), (.nm 8)]) (.seq (.call 231 none [(.var 1), (.var 2), (.var 4)])) none)]), .stop] []), (.ret (.sub (.var 0) (.var 5)))]⟩

def fd94 : Fd := ⟨false, 3, 6, [(.par [3, 4] [(.call 203 none [(.var 0), (.var 1), (.var 2)]), (.call 203 none [(.var 0), (.var 1), (.bin .Add (.var 2) (.cst (.int 1)))])]), (.ret (.sub (.comp (.var 5) (.nm 5) (.seq (.call 100 none [(.var 3)])) (some (.cmp .Eq (.call 104 none [(.var 3), (.sub (.var 5) (.cst (.int 0))), (.sub (.var 5) (.cst (.int 1)))]) (.var 4)))) (.cst (.int 0))))]⟩

def fd95 : Fd := ⟨false, 3, 3, [(.exp (.call 157 none [(.var 0), (.var 1)])), (.exp (.call 141 none [(.var 0), (.var 1), (.var 2), (.cst (.int 1))])), (.ret (.call 94 none [(.var 0), (.var 1), (.bin .Sub (.var 2) (.cst (.int 1)))]))]⟩

def fd96 : Fd := ⟨false, 3, 13, [(.exp (.call 152 none [(.var 0)])), (.exp (.call 154 none [(.var 1)])), (.exp (.call 144 none [(.var 2), (.cst (.int 0)), (.cst (.int 500))])), .stop, (.for_ (.nm 4) (.rng [(.var 2)]) [.stop, .stop, (.par [3] [(.var 5)])]), .stop]⟩

def fd97 : Fd := ⟨false, 3, 3, [(.exp (.call 152 none [(.var 0)])), (.exp (.call 154 none [(.var 1)])), (.exp (.call 144 none [(.var 2), (.cst (.int 0)), (.cst (.int 500))])), (.ret (.blt .tuple [(.call 243 none [(.mt .index (.call 174 none [(.var 0)]) [(.var 1)]), (.var 2)])]))]⟩

def fd98 : Fd := ⟨false, 1, 1, [(.exp (.call 152 none [(.var 0)])), (.ret (.call 100 none [(.var 0)]))]⟩

def fd99 : Fd := ⟨false, 2, 3, [(.par [2] [(.call 140 none [(.var 0), (.var 1), (.cst (.int 20000))])]), (.ret (.sub (.sub (.call 71 none [(.var 2)]) (.call 193 none [(.var 0)])) (.cst (.int 0))))]⟩

def fd100 : Fd := ⟨false, 1, 7, [(.asg (.tp [(.nm 1), (.nm 2), (.nm 3)]) (.call 174 none [(.var 0)])), (.asg (.tp [(.nm 4), (.nm 5)]) (.call 61 none [(.var 0)])), (.par [6] [(.lst [(.tup [(.var 2), (.var 1)]), (.tup [(.var 2), (.var 3)])])]), (.ite (.cmp .Lt (.var 4) (.var 5)) [(.app 6 (.tup [(.var 1), (.var 2)]))] []), (.ite (.cmp .Lt (.var 5) (.var 4)) [(.app 6 (.tup [(.var 3), (.var 2)]))] []), (.ret (.blt .sorted [(.var 6)]))]⟩

def fd101 : Fd := ⟨false, 2, 6, [(.exp (.call 158 none [(.var 0), (.var 1)])), (.asg (.tp [(.nm 2), (.nm 3)]) (.blt .sorted [(.call 193 none [(.var 0)])])), (.par [4, 5] [(.blt .min [(.call 13 none [(.var 0), (.var 1)])]), (.cst (.int 1))]), (.whl (.cmp .LtE (.bin .Add (.var 2) (.var 3)) (.var 4)) [(.par [2, 3] [(.var 3), (.bin .Add (.var 2) (.var 3))]), (.aug 5 .Add (.cst (.int 1)))]), (.ret (.var 5))]⟩

def fd102 : Fd := ⟨false, 3, 8, [(.exp (.call 158 none [(.var 0), (.var 1)])), (.exp (.call 154 none [(.var 2)])), (.par [3] [(.call 140 none [(.var 0), (.var 1), (.cst (.int 20000))])]), .stop, (.for_ (.nm 6) (.seq (.var 3)) [(.par [7] [(.call 195 none [(.var 6)])]), (.ite (.cmp .IsNot (.var 7) (.cst .none)) [(.put 5 (.var 6) (.bin .Add (.sub (.var 5) (.var 7)) (.ite (.cmp .Eq (.sub (.sub (.var 4) (.var 7)) (.cst (.int 1))) (.var 2)) (.cst (.int 1)) (.cst (.int 0)))))] [])]), .stop]⟩

def fd103 : Fd := ⟨false, 3, 3, [(.exp (.call 152 none [(.var 0)])), (.exp (.call 142 none [(.var 0), (.var 1), (.var 2)])), (.ret (.call 104 none [(.var 0), (.var 1), (.var 2)]))]⟩

def fd104 : Fd := ⟨false, 3, 4, [(.par [3] [(.blt .list [(.var 0)])]), (.put 3 (.var 1) (.bin .Sub (.bin .Mult (.cst (.int 2)) (.sub (.var 0) (.var 2))) (.sub (.var 0) (.var 1)))), (.ret (.blt .tuple [(.var 3)]))]⟩

def fd105 : Fd := ⟨false, 2, 5, [(.exp (.call 152 none [(.var 0)])), (.exp (.call 147 none [(.var 1)])), (.par [2] [(.call 170 none [(.var 0), (.var 1)])]), (.ite (.cmp .Is (.var 2) (.cst .none)) [(.ret (.cst .none))] []), (.ite (.cmp .Gt (.blt .abs [(.var 2)]) (.cst (.int 5000))) [.stop] []), (.ite (.cmp .Eq (.var 2) (.cst (.int 0))) [(.ret (.tup [(.cst (.int 0)), (.call 7 none [(.var 0)])]))] []), (.asg (.tp [(.nm 3), (.nm 4)]) (.call 106 none [(.blt .abs [(.var 2)])])), (.ret (.tup [(.var 3), (.call 204 none [(.var 0), (.ite (.cmp .Gt (.var 2) (.cst (.int 0))) (.tup [(.var 2), (.var 4)]) (.tup [(.var 4), (.neg (.var 2))]))])]))]⟩

def fd106 : Fd := ⟨false, 1, 2, [(.ret (.blt .min [(.comp (.tup [(.call 208 none [(.var 0), (.var 1)]), (.var 1)]) (.nm 1) (.rng [(.cst (.int 1)), (.bin .Add (.var 0) (.cst (.int 1)))]) (some (.cmp .Eq (.call 26 none [(.var 0), (.var 1)]) (.cst (.int 1)))))]))]⟩

def fd107 : Fd := ⟨false, 2, 2, [(.exp (.call 157 none [(.var 0), (.var 1)])), (.ret (.bin .Mult (.blt .sum [(.call 193 none [(.call 63 none [(.var 0), (.var 1)])])]) (.call 66 none [(.var 0)])))]⟩

def fd108 : Fd := ⟨false, 2, 2, [(.ret (.bin .Add (.bin .Add (.cut (.var 0) none (some (.var 1))) (.tup [(.bin .Sub (.sub (.var 0) (.var 1)) (.cst (.int 1)))])) (.cut (.var 0) (some (.bin .Add (.var 1) (.cst (.int 1)))) none)))]⟩

def fd109 : Fd := ⟨false, 3, 5, [(.exp (.call 139 none [(.var 0)])), (.exp (.call 157 none [(.var 1), (.var 2)])), (.ret (.blt .all [(.comp (.cmp .LtE (.var 3) (.var 4)) (.tp [(.nm 3), (.nm 4)]) (.zip (.call 240 none [(.var 1), (.var 2), (.cst (.int 0))]) (.var 0)) none)]))]⟩

def fd110 : Fd := ⟨false, 2, 6, [(.exp (.call 152 none [(.var 0)])), (.exp (.call 144 none [(.var 1), (.cst (.int 0)), (.cst (.int 60))])), (.ite (.cmp .Gt (.var 1) (.cst (.int 8))) [.stop] []), (.par [2] [(.lst [(.call 193 none [(.var 0)])])]), (.for_ (.nm 3) (.rng [(.var 1)]) [.stop]), (.ret (.comp (.call 204 none [(.var 0), (.var 4)]) (.nm 4) (.seq (.var 2)) none))]⟩

def fd111 : Fd := ⟨false, 1, 3, [(.exp (.call 152 none [(.var 0)])), (.ite (.cmp .Gt (.call 40 none [(.var 0)]) (.cst (.int 60))) [.stop] []), (.par [1] [(.cst (.int 0))]), (.for_ (.nm 2) (.seq (.call 281 none [(.var 0)])) [(.par [1] [(.bin .Add (.bin .Mult (.cst (.int 2)) (.var 1)) (.ite (.cmp .Eq (.var 2) (.cst (.str ("R" : Str)))) (.cst (.int 1)) (.cst (.int 0))))])]), (.ret (.var 1))]⟩

def fd112 : Fd := ⟨false, 3, 6, [(.exp (.call 152 none [(.var 0)])), (.exp (.call 144 none [(.var 1), (.cst (.int 0)), (.cst (.int 60))])), (.par [3] [(.cst (.int 1))]), (.for_ (.nm 4) (.rng [(.var 1)]) [(.par [3] [(.bin .Mult (.cst (.int 2)) (.var 3))])]), (.ite (.not (.call 81 none [(.var 2), (.cst (.int 0)), (.bin .Sub (.var 3) (.cst (.int 1)))])) [.stop] []), (.par [5] [(.lst [])]), (.for_ (.nm 4) (.rng [(.var 1)]) [(.app 5 (.tup [(.ite (.cmp .Eq (.bin .Mod (.var 2) (.cst (.int 2))) (.cst (.int 1))) (.cst (.str ("R" : Str))) (.cst (.str ("L" : Str)))), (.cst (.int 1))])), (.aug 2 .FloorDiv (.cst (.int 2)))]), (.ret (.call 9 none [(.call 7 none [(.var 0)]), (.rev (.var 5))]))]⟩

def fd113 : Fd := ⟨false, 2, 4, [(.par [2] [(.call 156 none [(.var 0), (.var 1), (.cst (.int 500))])]), (.ite (.cmp .Is (.var 2) (.cst .none)) [(.ret (.lst []))] []), (.ret (.blt .sorted [(.comp (.call 204 none [(.var 0), (.tup [(.var 3), (.bin .Sub (.var 2) (.var 3))])]) (.nm 3) (.rng [(.cst (.int 1)), (.var 2)]) (some (.cmp .Eq (.call 26 none [(.var 3), (.var 2)]) (.cst (.int 1)))))]))]⟩

def fd114 : Fd := ⟨false, 2, 4, [(.par [2] [(.call 140 none [(.var 0), (.var 1), (.cst (.int 500))])]), (.ret (.blt .sorted [(.comp (.call 204 none [(.var 0), (.var 3)]) (.nm 3) (.seq (.var 2)) none)]))]⟩

def fd115 : Fd := ⟨false, 4, 9, [(.par [4] [(.tup [(.var 1), (.var 3)])]), (.ite (.cmp .NotIn (.var 4) (.var 0)) [(.par [8] [(.comp (.bin .Add (.cst (.int 1)) (.call 115 none [(.var 0), (.var 7), (.var 2), (.var 1)])) (.tp [(.nm 5), (.nm 6), (.nm 7)]) (.seq (.call 231 none [(.var 1), (.var 2), (.var 3)])) none)]), .stop] []), (.ret (.sub (.var 0) (.var 4)))]⟩

def fd116 : Fd := ⟨false, 2, 2, [(.exp (.call 140 none [(.var 0), (.var 1), (.cst (.int 500))])), .stop]⟩

def fd117 : Fd := ⟨false, 2, 3, [(.par [2] [(.call 26 none [(.var 0), (.var 1)])]), (.ret (.tup [(.bin .FloorDiv (.var 0) (.var 2)), (.bin .FloorDiv (.var 1) (.var 2))]))]⟩

def fd118 : Fd := ⟨false, 3, 12, [(.par [3, 4] [(.call 170 none [(.var 0), (.var 2)]), (.call 63 none [(.var 0), (.var 1)])]), (.ite (.cmp .Is (.var 3) (.cst .none)) [(.ret (.lst []))] []), (.par [5, 6] [(.call 40 none [(.var 0)]), (.call 40 none [(.var 4)])]), (.par [7] [(.call 119 none [(.var 4), (.call 214 none [(.call 219 none [(.var 0)]), (.var 6)]), (.var 3)])]), (.par [8] [(.call 119 none [(.var 4), (.call 214 none [(.call 219 none [(.var 1)]), (.var 6)]), (.var 3)])]), (.par [11] [(.comp (.tup [(.bin .Sub (.bin .Sub (.var 5) (.var 6)) (.var 10)), (.bin .Sub (.bin .Sub (.var 5) (.var 6)) (.var 9))]) (.tp [(.nm 9), (.nm 10)]) (.seq (.var 7)) none)]), (.ret (.blt .sorted [(.bin .Add (.var 11) (.comp (.tup [(.bin .Add (.bin .Sub (.var 5) (.var 6)) (.blt .max [(.cst (.int 1)), (.var 9)])), (.bin .Add (.bin .Sub (.var 5) (.var 6)) (.var 10))]) (.tp [(.nm 9), (.nm 10)]) (.seq (.var 8)) (some (.cmp .Gt (.var 10) (.cst (.int 0))))))]))]⟩

def fd119 : Fd := ⟨false, 3, 15, [(.par [3, 4, 5] [(.call 193 none [(.var 0)]), (.cst (.int 0)), (.lst [])]), (.asg (.tp [(.nm 6), (.nm 7)]) (.var 3)), (.ite (.cmp .In (.var 2) (.tup [(.neg (.var 7)), (.bin .Sub (.var 6) (.var 7)), (.var 6)])) [(.app 5 (.tup [(.cst (.int 0)), (.cst (.int 0))]))] []), (.for_ (.tp [(.nm 8), (.nm 9)]) (.seq (.var 1)) [(.asg (.tp [(.nm 6), (.nm 7)]) (.var 3)), (.ite (.cmp .Eq (.var 8) (.cst (.str ("R" : Str)))) [(.par [10] [(.lst [(.tup [(.cst (.int 0)), (.neg (.var 7))]), (.tup [(.var 7), (.bin .Sub (.var 6) (.var 7))]), (.tup [(.var 7), (.var 6)])])])] [(.par [10] [(.lst [(.tup [(.neg (.var 6)), (.neg (.var 7))]), (.tup [(.neg (.var 6)), (.bin .Sub (.var 6) (.var 7))]), (.tup [(.cst (.int 0)), (.var 6)])])])]), (.for_ (.tp [(.nm 11), (.nm 12)]) (.seq (.var 10)) [(.for_ (.tp [(.nm 13), (.nm 14)]) (.seq (.call 72 none [(.var 11), (.var 12), (.var 9), (.var 2)])) [(.ite (.cmp .Gt (.var 14) (.cst (.int 0))) [(.app 5 (.tup [(.bin .Add (.var 4) (.blt .max [(.cst (.int 1)), (.var 13)])), (.bin .Add (.var 4) (.var 14))]))] [])])]), (.par [3, 4] [(.call 192 none [(.var 3), (.var 8), (.var 9)]), (.bin .Add (.var 4) (.var 9))])]), (.ret (.var 5))]⟩

def fd120 : Fd := ⟨false, 2, 2, [(.ret (.ite (.cmp .Lt (.tup [(.neg (.sub (.var 0) (.cst (.int 0)))), (.sub (.var 0) (.cst (.int 1)))]) (.tup [(.neg (.sub (.var 1) (.cst (.int 0)))), (.sub (.var 1) (.cst (.int 1)))])) (.var 0) (.var 1)))]⟩

def fd121 : Fd := ⟨false, 2, 7, [(.exp (.call 152 none [(.var 0)])), (.exp (.call 144 none [(.var 1), (.cst (.int 0)), (.cst (.int 60))])), .stop, (.for_ (.nm 3) (.rng [(.var 1)]) [.stop, .stop, (.par [2] [(.var 4)])]), .stop]⟩

def fd122 : Fd := ⟨false, 3, 3, [(.exp (.call 137 none [(.tup [(.var 0), (.var 1), (.var 2)])])), (.ret (.call 123 none [(.var 0), (.var 1), (.var 2)]))]⟩

def fd123 : Fd := ⟨false, 3, 6, [(.par [3] [(.lst [(.call 63 none [(.var 0), (.var 1)]), (.call 63 none [(.var 0), (.var 2)]), (.call 63 none [(.var 1), (.var 2)])])]), (.par [5] [(.comp (.call 40 none [(.var 4)]) (.nm 4) (.seq (.var 3)) none)]), (.ret (.sub (.var 3) (.mt .index (.var 5) [(.blt .max [(.var 5)])])))]⟩

def fd124 : Fd := ⟨false, 1, 5, [(.exp (.call 153 none [(.var 0)])), (.par [1] [(.sub (.var 0) (.cst (.int 0)))]), (.for_ (.nm 2) (.rng [(.bin .Mult (.blt .len [(.var 0)]) (.blt .len [(.var 0)]))]) [(.for_ (.nm 3) (.seq (.var 0)) [(.par [4] [(.call 207 none [(.var 1), (.var 0), (.var 3)])]), (.ite (.cmp .IsNot (.var 4) (.cst .none)) [(.par [1] [(.var 4)])] [])])]), (.ret (.tup [(.call 238 none [(.var 1), (.var 0)]), (.var 1)]))]⟩

def fd125 : Fd := ⟨false, 3, 6, [(.exp (.call 158 none [(.var 0), (.var 1)])), (.exp (.call 147 none [(.var 2)])), (.par [3] [(.call 170 none [(.var 0), (.var 2)])]), (.ite (.cmp .Is (.var 3) (.cst .none)) [(.ret (.cst (.int 0)))] []), (.exp (.call 151 none [(.var 3)])), (.asg (.tp [(.nm 4), (.nm 5)]) (.call 13 none [(.var 0), (.var 1)])), (.ret (.call 126 none [(.var 4), (.var 5), (.var 3)]))]⟩

def fd126 : Fd := ⟨false, 3, 4, [(.ite (.cmp .Eq (.var 2) (.cst (.int 0))) [(.ret (.cst (.int 1)))] []), (.par [3] [(.ite (.cmp .Gt (.var 2) (.cst (.int 0))) (.blt .min [(.var 1), (.bin .Sub (.var 0) (.var 2))]) (.blt .min [(.var 0), (.bin .Add (.var 1) (.var 2))]))]), (.ret (.ite (.cmp .Gt (.var 3) (.cst (.int 0))) (.call 55 none [(.blt .abs [(.var 2)]), (.var 3)]) (.cst (.int 0))))]⟩

def fd127 : Fd := ⟨false, 2, 5, [(.exp (.call 152 none [(.var 0)])), (.exp (.call 144 none [(.var 1), (.cst (.int 0)), (.cst (.int 500))])), (.par [2] [(.bin .Mult (.lst [(.cst (.int 0))]) (.cst (.int 3)))]), .stop, (.ret (.blt .tuple [(.var 2)]))]⟩

def fd128 : Fd := ⟨false, 1, 4, [(.asg (.tp [(.nm 1), (.nm 2), (.nm 3)]) (.blt .sorted [(.var 0)])), (.ret (.bin .Sub (.bin .Add (.var 1) (.var 3)) (.var 2)))]⟩

def fd129 : Fd := ⟨false, 1, 8, [(.exp (.call 153 none [(.var 0)])), (.asg (.tp [(.nm 1), (.nm 2), (.nm 3)]) (.call 271 none [(.var 0)])), (.par [4, 5] [(.sub (.var 0) (.var 2)), (.sub (.var 0) (.var 3))]), (.par [6] [(.ite (.cmp .Eq (.bin .Mod (.var 1) (.cst (.int 2))) (.cst (.int 0))) (.lst [(.bin .FloorDiv (.var 1) (.cst (.int 2)))]) (.lst [(.bin .FloorDiv (.var 1) (.cst (.int 2))), (.bin .Add (.bin .FloorDiv (.var 1) (.cst (.int 2))) (.cst (.int 1)))]))]), (.ret (.blt .sorted [(.comp (.call 203 none [(.var 4), (.var 5), (.var 7)]) (.nm 7) (.seq (.var 6)) none)]))]⟩

def fd130 : Fd := ⟨false, 1, 2, [(.exp (.call 152 none [(.var 0)])), (.ret (.blt .tuple [(.comp (.neg (.var 1)) (.nm 1) (.seq (.var 0)) none)]))]⟩

def fd131 : Fd := ⟨false, 1, 4, [(.par [1] [(.bin .Add (.lst [(.cst (.int 0)), (.cst (.int 1))]) (.bin .Mult (.lst [(.cst (.int 0))]) (.bin .Sub (.var 0) (.cst (.int 1)))))]), (.for_ (.nm 2) (.rng [(.cst (.int 1)), (.bin .Add (.var 0) (.cst (.int 1)))]) [(.ite (.cmp .NotEq (.sub (.var 1) (.var 2)) (.cst (.int 0))) [(.for_ (.nm 3) (.rng [(.bin .Mult (.cst (.int 2)) (.var 2)), (.bin .Add (.var 0) (.cst (.int 1))), (.var 2)]) [(.augIx 1 (.var 3) .Sub (.sub (.var 1) (.var 2)))])] [])]), (.ret (.var 1))]⟩

def fd132 : Fd := ⟨false, 2, 4, [(.exp (.call 152 none [(.var 0)])), (.exp (.call 144 none [(.var 1), (.cst (.int 0)), (.cst (.int 60))])), (.asg (.tp [(.nm 2), (.nm 3)]) (.blt .sorted [(.call 193 none [(.var 0)])])), (.ret (.bin .Mult (.bin .Add (.bin .Add (.var 2) (.var 3)) (.bin .Mult (.var 1) (.var 2))) (.call 66 none [(.var 0)])))]⟩

def fd133 : Fd := ⟨false, 2, 4, [(.exp (.call 152 none [(.var 0)])), (.exp (.call 153 none [(.var 1)])), (.ite (.not (.call 87 none [(.var 0), (.sub (.var 1) (.cst (.int 0)))])) [.stop] []), (.ret (.sub (.blt .min [(.comp (.tup [(.call 44 none [(.var 0), (.var 3)]), (.var 2)]) (.tp [(.nm 2), (.nm 3)]) (.enm (.var 1)) none)]) (.cst (.int 1))))]⟩

def fd134 : Fd := ⟨false, 2, 2, [(.exp (.call 152 none [(.var 0)])), (.exp (.call 153 none [(.var 1)])), (.ite (.not (.call 87 none [(.var 0), (.sub (.var 1) (.cst (.int 0)))])) [.stop] []), (.ret (.call 135 none [(.var 0), (.var 1)]))]⟩

def fd135 : Fd := ⟨false, 2, 7, [(.par [2] [(.lst [])]), (.for_ (.tp [(.nm 3), (.nm 4)]) (.enm (.var 1)) [(.for_ (.nm 5) (.seq (.cut (.var 1) none (some (.bin .Add (.var 3) (.cst (.int 1)))))) [(.par [6] [(.call 123 none [(.var 0), (.var 4), (.var 5)])]), (.app 2 (.tup [(.call 44 none [(.var 0), (.var 6)]), (.var 6)]))])]), (.ret (.sub (.blt .min [(.var 2)]) (.cst (.int 1))))]⟩

def fd136 : Fd := ⟨false, 2, 12, [(.exp (.call 152 none [(.var 0)])), (.exp (.call 145 none [(.var 1)])), .stop, (.whl (.cst (.bool true)) [(.par [6] [(.blt .sorted [(.comp (.var 5) (.nm 5) (.seq (.var 2)) (some (.cmp .Eq (.call 174 none [(.var 5)]) (.var 1))))])]), (.ite (.cmp .NotEq (.var 6) (.lst [])) [(.ret (.tup [(.var 3), (.sub (.var 6) (.cst (.int 0)))]))] []), (.par [7] [(.lst [])]), (.for_ (.nm 8) (.seq (.var 2)) [(.for_ (.tp [(.nm 9), (.nm 10)]) (.seq (.call 100 none [(.var 8)])) [(.par [11] [(.call 104 none [(.var 8), (.var 9), (.var 10)])]), (.ite (.cmp .NotIn (.var 11) (.var 4)) [(.put 4 (.var 11) (.cst (.bool true))), (.app 7 (.var 11))] [])])]), (.par [2, 3] [(.var 7), (.bin .Add (.var 3) (.cst (.int 1)))])])]⟩

def fd137 : Fd := ⟨false, 1, 2, [(.for_ (.nm 1) (.seq (.var 0)) [(.exp (.call 152 none [(.var 1)]))]), (.ite (.not (.blt .all [(.comp (.call 87 none [(.sub (.var 0) (.cst (.int 0))), (.var 1)]) (.nm 1) (.seq (.var 0)) none)])) [.stop] [])]⟩

def fd138 : Fd := ⟨false, 3, 5, [(.exp (.call 158 none [(.var 0), (.var 1)])), (.asg (.tp [(.nm 3), (.nm 4)]) (.call 13 none [(.var 0), (.var 1)])), (.ite (.cmp .Gt (.blt .min [(.var 3), (.var 4)]) (.var 2)) [.stop] []), (.ret (.tup [(.var 3), (.var 4)]))]⟩

def fd139 : Fd := ⟨false, 1, 2, [(.ite (.or (.not (.isa (.var 0) [.tuple])) (.or (.cmp .NotEq (.blt .len [(.var 0)]) (.cst (.int 3))) (.not (.blt .all [(.comp (.call 81 none [(.var 1), (.cst (.int 0)), (.cst (.int 12))]) (.nm 1) (.seq (.var 0)) none)])))) [.stop] [])]⟩

def fd140 : Fd := ⟨false, 3, 5, [(.asg (.tp [(.nm 3), (.nm 4)]) (.call 138 none [(.var 0), (.var 1), (.cst (.int 100000))])), (.ite (.or (.cmp .Gt (.blt .max [(.var 3), (.var 4)]) (.var 2)) (.cmp .Gt (.call 20 none [(.var 3), (.var 4)]) (.var 2))) [.stop] []), (.ret (.call 194 none [(.var 3), (.var 4)]))]⟩

def fd141 : Fd := ⟨false, 4, 4, [(.exp (.call 144 none [(.var 2), (.var 3), (.call 44 none [(.var 0), (.var 1)])]))]⟩

def fd142 : Fd := ⟨false, 3, 3, [(.ite (.or (.not (.call 82 none [(.var 1)])) (.or (.not (.call 82 none [(.var 2)])) (.cmp .NotIn (.tup [(.var 1), (.var 2)]) (.call 100 none [(.var 0)])))) [.stop] [])]⟩

def fd143 : Fd := ⟨false, 1, 2, [(.ite (.cmp .Gt (.blt .max [(.comp (.call 40 none [(.var 1)]) (.nm 1) (.seq (.var 0)) none)]) (.cst (.int 200))) [.stop] [])]⟩

def fd144 : Fd := ⟨false, 3, 3, [(.ite (.not (.call 81 none [(.var 0), (.var 1), (.var 2)])) [.stop] [])]⟩

def fd145 : Fd := ⟨false, 1, 2, [(.ite (.or (.not (.isa (.var 0) [.tuple])) (.not (.blt .all [(.comp (.call 81 none [(.var 1), (.cst (.int 0)), (.bin .Sub (.cst (.int 3)) (.cst (.int 1)))]) (.nm 1) (.seq (.var 0)) none)]))) [.stop] []), (.ite (.cmp .NotEq (.blt .sorted [(.var 0)]) (.lst [(.cst (.int 0)), (.cst (.int 1)), (.cst (.int 2))])) [.stop] [])]⟩

def fd146 : Fd := ⟨false, 1, 2, [(.ite (.or (.not (.isa (.var 0) [.tuple])) (.or (.cmp .NotEq (.blt .len [(.var 0)]) (.cst (.int 3))) (.not (.blt .all [(.comp (.call 81 none [(.var 1), (.cst (.int 0)), (.cst (.int 1))]) (.nm 1) (.seq (.var 0)) none)])))) [.stop] [])]⟩

def fd147 : Fd := ⟨false, 1, 1, [(.exp (.call 144 none [(.var 0), (.bin .Mult (.neg (.cst (.int 4))) (.cst (.int 1000000000000000000))), (.bin .Mult (.cst (.int 4)) (.cst (.int 1000000000000000000)))]))]⟩

def fd148 : Fd := ⟨false, 1, 2, [(.ite (.or (.not (.isa (.var 0) [.tuple])) (.cmp .NotEq (.blt .len [(.var 0)]) (.cst (.int 3)))) [.stop] []), (.ite (.not (.blt .all [(.comp (.call 81 none [(.var 1), (.cst (.int 0)), (.cst (.int 1000000))]) (.nm 1) (.seq (.var 0)) none)])) [.stop] [])]⟩

def fd149 : Fd := ⟨false, 1, 3, [(.ite (.or (.not (.isa (.var 0) [.tuple])) (.cmp .Gt (.blt .len [(.var 0)]) (.cst (.int 100)))) [.stop] []), (.for_ (.tp [(.nm 1), (.nm 2)]) (.enm (.var 0)) [(.ite (.or (.not (.call 86 none [(.var 2)])) (.and (.cmp .Gt (.var 1) (.cst (.int 0))) (.cmp .Eq (.sub (.var 2) (.cst (.int 0))) (.sub (.sub (.var 0) (.bin .Sub (.var 1) (.cst (.int 1)))) (.cst (.int 0)))))) [.stop] [])])]⟩

def fd150 : Fd := ⟨false, 3, 4, [(.exp (.call 158 none [(.var 0), (.var 1)])), (.exp (.call 144 none [(.var 2), (.cst (.int 1)), (.bin .Mult (.cst (.int 8)) (.cst (.int 1000000000000000000)))])), (.par [3] [(.call 268 none [(.var 0), (.var 2)])]), (.ite (.and (.cmp .IsNot (.var 3) (.cst .none)) (.cmp .Gt (.var 3) (.cst (.int 1000000000)))) [.stop] []), (.ret (.var 3))]⟩

def fd151 : Fd := ⟨false, 1, 1, [(.ite (.cmp .Gt (.blt .abs [(.var 0)]) (.cst (.int 1000000000))) [.stop] [])]⟩

def fd152 : Fd := ⟨false, 1, 1, [(.ite (.not (.call 88 none [(.var 0)])) [.stop] [])]⟩

def fd153 : Fd := ⟨false, 1, 3, [(.ite (.or (.not (.isa (.var 0) [.tuple])) (.not (.cmp2 .LtE .LtE (.cst (.int 1)) (.blt .len [(.var 0)]) (.cst (.int 8))))) [.stop] []), (.for_ (.tp [(.nm 1), (.nm 2)]) (.enm (.var 0)) [(.ite (.not (.call 88 none [(.var 2)])) [.stop] [])]), (.ite (.not (.blt .all [(.comp (.call 87 none [(.sub (.var 0) (.cst (.int 0))), (.var 2)]) (.nm 2) (.seq (.var 0)) none)])) [.stop] [])]⟩

def fd154 : Fd := ⟨false, 1, 1, [(.ite (.not (.call 81 none [(.var 0), (.cst (.int 0)), (.bin .Sub (.cst (.int 3)) (.cst (.int 1)))])) [.stop] [])]⟩

def fd155 : Fd := ⟨false, 1, 2, [(.ite (.or (.not (.isa (.var 0) [.tuple])) (.or (.cmp .NotEq (.blt .len [(.var 0)]) (.cst (.int 4))) (.not (.blt .all [(.comp (.and (.call 82 none [(.var 1)]) (.cmp .GtE (.var 1) (.cst (.int 0)))) (.nm 1) (.seq (.var 0)) none)])))) [.stop] []), (.ite (.cmp .NotEq (.bin .Sub (.bin .Mult (.sub (.var 0) (.cst (.int 0))) (.sub (.var 0) (.cst (.int 3)))) (.bin .Mult (.sub (.var 0) (.cst (.int 1))) (.sub (.var 0) (.cst (.int 2))))) (.cst (.int 1))) [.stop] [])]⟩

def fd156 : Fd := ⟨false, 3, 4, [(.exp (.call 152 none [(.var 0)])), (.exp (.call 144 none [(.var 1), (.cst (.int 0)), (.cst (.int 10000000000000000000000000000000000000000))])), (.par [3] [(.call 237 none [(.var 0), (.var 1)])]), (.ite (.and (.cmp .IsNot (.var 3) (.cst .none)) (.cmp .Gt (.var 3) (.var 2))) [.stop] []), (.ret (.var 3))]⟩

def fd157 : Fd := ⟨false, 2, 2, [(.exp (.call 152 none [(.var 0)])), (.exp (.call 152 none [(.var 1)])), (.ite (.not (.call 87 none [(.var 0), (.var 1)])) [.stop] [])]⟩

def fd158 : Fd := ⟨false, 2, 2, [(.exp (.call 152 none [(.var 0)])), (.ite (.or (.not (.call 4 none [(.var 1)])) (.or (.cmp .Gt (.sub (.var 1) (.cst (.int 0))) (.blt .min [(.var 0)])) (.cmp .Lt (.sub (.var 1) (.cst (.int 1))) (.blt .max [(.var 0)])))) [.stop] [])]⟩

def fd159 : Fd := ⟨false, 1, 3, [(.exp (.call 152 none [(.var 0)])), (.ret (.blt .sorted [(.comp (.call 104 none [(.var 0), (.var 1), (.var 2)]) (.tp [(.nm 1), (.nm 2)]) (.seq (.call 100 none [(.var 0)])) none)]))]⟩

def fd160 : Fd := ⟨false, 1, 5, [(.exp (.call 153 none [(.var 0)])), (.ite (.cmp .GtE (.call 161 none [(.var 0)]) (.cst (.int 500))) [.stop] []), .stop, (.for_ (.nm 2) (.rng [(.cst (.int 1)), (.blt .len [(.var 0)])]) [(.par [3] [(.call 135 none [(.sub (.var 0) (.var 2)), (.cut (.var 0) none (some (.var 2)))])]), (.for_ (.nm 4) (.rng [(.bin .Add (.call 44 none [(.sub (.var 0) (.var 2)), (.var 3)]) (.cst (.int 1)))]) [(.put 1 (.call 203 none [(.sub (.var 0) (.var 2)), (.var 3), (.var 4)]) (.cst (.bool true)))])]), (.ret (.blt .sorted [(.var 1)]))]⟩

def fd161 : Fd := ⟨false, 1, 3, [(.par [1] [(.cst (.int 0))]), (.for_ (.nm 2) (.rng [(.cst (.int 1)), (.blt .len [(.var 0)])]) [(.aug 1 .Add (.call 44 none [(.sub (.var 0) (.var 2)), (.call 135 none [(.sub (.var 0) (.var 2)), (.cut (.var 0) none (some (.var 2)))])]))]), (.ret (.var 1))]⟩

def fd162 : Fd := ⟨false, 1, 1, [(.exp (.call 153 none [(.var 0)])), (.ret (.call 161 none [(.var 0)]))]⟩

def fd163 : Fd := ⟨false, 1, 7, [(.exp (.call 152 none [(.var 0)])), (.asg (.tp [(.nm 1), (.nm 2)]) (.call 193 none [(.var 0)])), (.par [3] [(.bin .Add (.var 1) (.var 2))]), (.ite (.cmp .Gt (.var 3) (.cst (.int 100000))) [.stop] []), (.par [4] [(.call 46 none [(.var 3)])]), (.aug 1 .Add (.cst (.int 1))), (.whl (.cmp .Lt (.var 1) (.var 3)) [(.ite (.not (.blt .any [(.comp (.and (.cmp .Gt (.var 5) (.cst (.int 1))) (.cmp .Eq (.bin .Mod (.var 1) (.var 5)) (.cst (.int 0)))) (.tp [(.nm 5), (.nm 6)]) (.seq (.var 4)) none)])) [(.ret (.call 204 none [(.var 0), (.tup [(.var 1), (.bin .Sub (.var 3) (.var 1))])]))] []), (.aug 1 .Add (.cst (.int 1)))]), (.ret (.call 204 none [(.var 0), (.tup [(.cst (.int 1)), (.var 3)])]))]⟩

def fd164 : Fd := ⟨false, 1, 4, [(.exp (.call 152 none [(.var 0)])), (.asg (.tp [(.nm 1), (.nm 2)]) (.call 193 none [(.var 0)])), (.par [3] [(.bin .Mult (.cst (.int 2)) (.call 66 none [(.var 0)]))]), (.ret (.tup [(.bin .Mult (.var 3) (.bin .Sub (.bin .Add (.bin .Mult (.cst (.int 2)) (.var 1)) (.var 2)) (.cst (.int 2)))), (.bin .Mult (.var 3) (.bin .Sub (.bin .Add (.var 1) (.bin .Mult (.cst (.int 2)) (.var 2))) (.cst (.int 2))))]))]⟩

def fd165 : Fd := ⟨false, 2, 6, [(.exp (.call 158 none [(.var 0), (.var 1)])), (.asg (.tp [(.nm 2), (.nm 3)]) (.call 13 none [(.var 0), (.var 1)])), (.asg (.tp [(.nm 4), (.nm 5)]) (.call 193 none [(.var 0)])), (.exp (.call 151 none [(.var 5)])), (.aug 4 .Add (.cst (.int 1))), (.whl (.and (.cmp .LtE (.var 4) (.var 2)) (.cmp .Gt (.call 26 none [(.var 4), (.var 5)]) (.cst (.int 1)))) [(.aug 4 .Add (.cst (.int 1)))]), (.ret (.ite (.cmp .LtE (.var 4) (.var 2)) (.call 204 none [(.var 0), (.tup [(.var 4), (.var 5)])]) (.cst .none)))]⟩

def fd166 : Fd := ⟨false, 1, 7, [(.exp (.call 152 none [(.var 0)])), (.par [1, 2] [(.call 128 none [(.var 0)]), (.call 66 none [(.var 0)])]), (.par [3] [(.bin .Mult (.lst [(.cst (.int 0))]) (.blt .len [(.var 0)]))]), (.par [4] [(.call 8 none [(.var 0)])]), (.for_ (.tp [(.nm 5), (.nm 6)]) (.enm (.var 0)) [(.put 3 (.mt .index (.var 4) [(.var 5)]) (.bin .FloorDiv (.bin .Sub (.var 6) (.var 1)) (.var 2)))]), (.ret (.blt .tuple [(.var 3)]))]⟩

def fd167 : Fd := ⟨false, 2, 6, [(.par [2] [(.cst (.int 1))]), (.par [3] [(.var 1)]), (.ite (.cmp .Eq (.cut (.var 0) (some (.var 1)) (some (.bin .Add (.var 1) (.cst (.int 1))))) (.cst (.str ("-" : Str)))) [(.par [2, 1] [(.neg (.cst (.int 1))), (.bin .Add (.var 1) (.cst (.int 1)))])] []), (.par [4] [(.var 1)]), .stop, (.par [5] [(.cut (.var 0) (some (.var 4)) (some (.var 1)))]), (.ite (.or (.cmp .Eq (.var 5) (.cst (.str ("" : Str)))) (.and (.cmp .Eq (.sub (.var 5) (.cst (.int 0))) (.cst (.str ("0" : Str)))) (.or (.cmp .Gt (.blt .len [(.var 5)]) (.cst (.int 1))) (.cmp .Lt (.var 2) (.cst (.int 0)))))) [.stop] []), (.ite (.cmp .Gt (.blt .int [(.var 5)]) (.cst (.int 1000000000000000000))) [.stop] []), (.ret (.tup [(.bin .Mult (.var 2) (.blt .int [(.var 5)])), (.var 1)]))]⟩

def fd168 : Fd := ⟨false, 2, 7, [(.asg (.tp [(.nm 2), (.nm 3)]) (.call 138 none [(.var 0), (.var 1), (.cst (.int 1000))])), (.ite (.cmp .Gt (.blt .max [(.var 2), (.var 3)]) (.cst (.int 1000))) [.stop] []), (.asg (.tp [(.nm 4), (.nm 5)]) (.call 193 none [(.var 0)])), (.ret (.blt .len [(.comp (.cst (.int 1)) (.nm 6) (.seq (.call 194 none [(.var 2), (.var 3)])) (some (.cmp .Lt (.var 6) (.tup [(.var 4), (.var 5)]))))]))]⟩

def fd169 : Fd := ⟨false, 3, 6, [(.exp (.call 158 none [(.var 0), (.var 1)])), (.ite (.or (.not (.call 82 none [(.var 2)])) (.cmp .Lt (.var 2) (.cst (.int 0)))) [.stop] []), (.asg (.tp [(.nm 3), (.nm 4)]) (.call 13 none [(.var 0), (.var 1)])), (.ite (.cmp .Gt (.blt .max [(.var 3), (.var 4)]) (.cst (.int 1000))) [.stop] []), (.par [5] [(.blt .sorted [(.call 194 none [(.var 3), (.var 4)])])]), (.exp (.call 144 none [(.var 2), (.cst (.int 0)), (.bin .Sub (.blt .len [(.var 5)]) (.cst (.int 1)))])), (.ret (.call 204 none [(.var 0), (.sub (.var 5) (.var 2))]))]⟩

def fd170 : Fd := ⟨false, 2, 4, [(.par [2, 3] [(.bin .Sub (.var 1) (.call 128 none [(.var 0)])), (.call 66 none [(.var 0)])]), (.ret (.ite (.cmp .Eq (.bin .Mod (.var 2) (.var 3)) (.cst (.int 0))) (.bin .FloorDiv (.var 2) (.var 3)) (.cst .none)))]⟩

def fd171 : Fd := ⟨false, 1, 1, [(.exp (.call 152 none [(.var 0)])), (.ret (.call 174 none [(.var 0)]))]⟩

def fd172 : Fd := ⟨false, 3, 6, [(.asg (.tp [(.nm 3), (.nm 4), (.nm 5)]) (.var 0)), (.ite (.cmp .Eq (.bin .Mod (.var 2) (.cst (.int 2))) (.cst (.int 0))) [(.ret (.var 0))] []), (.ret (.ite (.cmp .Eq (.var 1) (.cst (.str ("R" : Str)))) (.tup [(.var 3), (.var 5), (.var 4)]) (.tup [(.var 4), (.var 3), (.var 5)])))]⟩

def fd173 : Fd := ⟨false, 2, 2, [(.exp (.call 152 none [(.var 0)])), (.exp (.call 144 none [(.var 1), (.cst (.int 0)), (.cst (.int 500))])), .stop]⟩

def fd174 : Fd := ⟨false, 1, 3, [(.ret (.blt .tuple [(.comp (.var 2) (.tp [(.nm 1), (.nm 2)]) (.seq (.blt .sorted [(.comp (.tup [(.var 1), (.var 2)]) (.tp [(.nm 2), (.nm 1)]) (.enm (.var 0)) none)])) none)]))]⟩

def fd175 : Fd := ⟨false, 1, 5, [(.exp (.call 152 none [(.var 0)])), (.par [1, 2] [(.call 8 none [(.var 0)]), (.lst [(.call 8 none [(.var 0)])])]), (.for_ (.tp [(.nm 3), (.nm 4)]) (.seq (.call 219 none [(.var 0)])) [(.par [1] [(.call 172 none [(.var 1), (.var 3), (.var 4)])]), (.app 2 (.var 1))]), (.ret (.var 2))]⟩

def fd176 : Fd := ⟨false, 3, 4, [(.exp (.call 152 none [(.var 0)])), (.exp (.call 145 none [(.var 1)])), .stop, .stop]⟩

def fd177 : Fd := ⟨false, 1, 4, [(.exp (.call 152 none [(.var 0)])), (.asg (.tp [(.nm 1), (.nm 2), (.nm 3)]) (.call 174 none [(.var 0)])), (.ret (.ite (.cmp .In (.bin .Add (.bin .Add (.cmp .Lt (.var 1) (.var 2)) (.cmp .Lt (.var 2) (.var 3))) (.cmp .Lt (.var 1) (.var 3))) (.tup [(.cst (.int 1)), (.cst (.int 3))])) (.cst (.int 1)) (.neg (.cst (.int 1)))))]⟩

def fd178 : Fd := ⟨false, 2, 9, [.stop, (.for_ (.nm 3) (.rng [(.var 1)]) [.stop, .stop, (.par [2] [(.var 4)])]), (.ret (.var 2))]⟩

def fd179 : Fd := ⟨false, 2, 5, [.stop, (.for_ (.nm 3) (.seq (.var 1)) [(.par [4] [(.call 195 none [(.var 3)])]), (.ite (.cmp .IsNot (.var 4) (.cst .none)) [(.put 2 (.var 3) (.call 172 none [(.sub (.var 2) (.var 4)), (.ite (.cmp .Gt (.sub (.var 3) (.cst (.int 0))) (.sub (.var 3) (.cst (.int 1)))) (.cst (.str ("R" : Str))) (.cst (.str ("L" : Str)))), (.cst (.int 1))]))] [])]), (.ret (.var 2))]⟩

def fd180 : Fd := ⟨false, 2, 5, [(.par [2] [(.call 140 none [(.var 0), (.var 1), (.cst (.int 20000))])]), .stop, .stop, .stop]⟩

def fd181 : Fd := ⟨false, 1, 6, [(.exp (.call 153 none [(.var 0)])), .stop, (.par [3] [(.lst [])]), (.for_ (.nm 1) (.seq (.var 2)) [(.par [5] [(.blt .tuple [(.comp (.var 4) (.nm 4) (.seq (.var 2)) (some (.cmp .NotEq (.var 4) (.var 1))))])]), (.ite (.or (.cmp .Eq (.var 5) (.tup [])) (.cmp .NotEq (.call 135 none [(.var 1), (.var 5)]) (.var 1))) [(.app 3 (.var 1))] [])]), (.ret (.var 3))]⟩

def fd182 : Fd := ⟨false, 3, 6, [(.exp (.call 158 none [(.var 0), (.var 1)])), (.exp (.call 147 none [(.var 2)])), (.par [3] [(.call 170 none [(.var 0), (.var 2)])]), (.ite (.cmp .Is (.var 3) (.cst .none)) [(.ret (.cst (.int 0)))] []), (.exp (.call 151 none [(.var 3)])), (.asg (.tp [(.nm 4), (.nm 5)]) (.call 13 none [(.var 0), (.var 1)])), (.ret (.call 183 none [(.var 4), (.var 5), (.var 3)]))]⟩

def fd183 : Fd := ⟨false, 3, 5, [(.asg (.tp [(.nm 3), (.nm 4)]) (.ite (.cmp .Gt (.var 2) (.cst (.int 0))) (.tup [(.var 0), (.var 1)]) (.tup [(.var 1), (.var 0)]))), (.ret (.ite (.cmp2 .Lt .LtE (.cst (.int 0)) (.blt .abs [(.var 2)]) (.var 3)) (.call 55 none [(.blt .abs [(.var 2)]), (.var 4)]) (.cst (.int 0))))]⟩

def fd184 : Fd := ⟨false, 2, 2, [(.exp (.call 157 none [(.var 0), (.var 1)])), (.ret (.tup [(.cmp .Eq (.blt .min [(.var 0)]) (.blt .min [(.var 1)])), (.cmp .Eq (.blt .max [(.var 0)]) (.blt .max [(.var 1)]))]))]⟩

def fd185 : Fd := ⟨false, 2, 4, [(.asg (.tp [(.nm 2), (.nm 3)]) (.var 0)), (.ret (.ite (.cmp .Eq (.var 1) (.cst (.str ("L" : Str)))) (.tup [(.var 2), (.bin .Add (.var 2) (.var 3))]) (.tup [(.bin .Add (.var 2) (.var 3)), (.var 3)])))]⟩

def fd186 : Fd := ⟨false, 4, 8, [(.par [4] [(.tup [(.var 1), (.var 2), (.var 3)])]), (.ite (.cmp .NotIn (.var 4) (.var 0)) [(.par [5, 6] [(.cst (.int 1)), (.sub (.var 1) (.cst (.int 1)))]), (.ite (.cmp .Gt (.sub (.var 2) (.var 6)) (.cst (.int 0))) [(.for_ (.nm 7) (.seq (.tup [(.cst (.str ("L" : Str))), (.cst (.str ("R" : Str)))])) [(.ite (.cmp .NotEq (.var 7) (.var 3)) [(.aug 5 .Add (.call 186 none [(.var 0), (.call 172 none [(.var 1), (.var 7), (.cst (.int 1))]), (.call 108 none [(.var 2), (.var 6)]), (.cst (.str ("" : Str)))]))] [])])] []), (.put 0 (.var 4) (.var 5))] []), (.ret (.sub (.var 0) (.var 4)))]⟩

def fd187 : Fd := ⟨false, 4, 9, [(.par [4] [(.tup [(.var 1), (.var 2), (.var 3)])]), (.ite (.cmp .NotIn (.var 4) (.var 0)) [(.par [5, 6] [(.cst (.int 0)), (.sub (.var 1) (.cst (.int 1)))]), (.ite (.cmp .Gt (.sub (.var 2) (.var 6)) (.cst (.int 0))) [(.for_ (.nm 7) (.seq (.tup [(.cst (.str ("L" : Str))), (.cst (.str ("R" : Str)))])) [(.ite (.cmp .NotEq (.var 7) (.var 3)) [(.par [8] [(.call 108 none [(.var 2), (.var 6)])]), (.par [5] [(.blt .max [(.var 5), (.bin .Add (.cst (.int 1)) (.call 187 none [(.var 0), (.call 172 none [(.var 1), (.var 7), (.cst (.int 1))]), (.var 8), (.cst (.str ("" : Str)))]))])])] [])])] []), (.put 0 (.var 4) (.var 5))] []), (.ret (.sub (.var 0) (.var 4)))]⟩

def fd188 : Fd := ⟨false, 6, 11, [(.par [6] [(.tup [(.var 1), (.var 4), (.var 5)])]), (.ite (.cmp .NotIn (.var 6) (.var 0)) [(.par [7] [(.cst (.bool false))]), (.for_ (.tp [(.nm 8), (.nm 9), (.nm 10)]) (.seq (.call 231 none [(.var 1), (.var 2), (.var 5)])) [(.ite (.and (.cmp .Eq (.sub (.var 3) (.var 8)) (.var 4)) (.not (.call 188 none [(.var 0), (.var 10), (.var 2), (.var 3), (.bin .Sub (.cst (.int 1)) (.var 4)), (.var 1)]))) [(.par [7] [(.cst (.bool true))])] [])]), (.put 0 (.var 6) (.var 7))] []), (.ret (.sub (.var 0) (.var 6)))]⟩

def fd189 : Fd := ⟨false, 4, 9, [(.exp (.call 140 none [(.var 0), (.var 1), (.cst (.int 500))])), (.exp (.call 146 none [(.var 2)])), (.exp (.call 144 none [(.var 3), (.cst (.int 0)), (.cst (.int 1))])), .stop, (.for_ (.tp [(.nm 6), (.nm 7), (.nm 8)]) (.seq (.call 231 none [(.var 0), (.var 1), (.cst .none)])) [(.ite (.and (.cmp .Eq (.sub (.var 2) (.var 6)) (.var 3)) (.not (.call 188 none [(.var 4), (.var 8), (.var 1), (.var 2), (.bin .Sub (.cst (.int 1)) (.var 3)), (.var 0)]))) [(.app 5 (.tup [(.var 6), (.var 7)]))] [])]), (.ret (.var 5))]⟩

def fd190 : Fd := ⟨false, 4, 4, [(.exp (.call 140 none [(.var 0), (.var 1), (.cst (.int 500))])), (.exp (.call 146 none [(.var 2)])), (.exp (.call 144 none [(.var 3), (.cst (.int 0)), (.cst (.int 1))])), .stop]⟩

def fd191 : Fd := ⟨false, 1, 1, [(.exp (.call 152 none [(.var 0)])), (.ret (.call 193 none [(.var 0)]))]⟩

def fd192 : Fd := ⟨false, 3, 5, [(.asg (.tp [(.nm 3), (.nm 4)]) (.var 0)), (.ret (.ite (.cmp .Eq (.var 1) (.cst (.str ("R" : Str)))) (.tup [(.bin .Add (.var 3) (.bin .Mult (.var 2) (.var 4))), (.var 4)]) (.tup [(.var 3), (.bin .Add (.var 4) (.bin .Mult (.var 2) (.var 3)))])))]⟩

def fd193 : Fd := ⟨false, 1, 4, [(.asg (.tp [(.nm 1), (.nm 2)]) (.call 61 none [(.var 0)])), (.par [3] [(.call 26 none [(.var 1), (.var 2)])]), (.ret (.tup [(.bin .FloorDiv (.var 1) (.var 3)), (.bin .FloorDiv (.var 2) (.var 3))]))]⟩

def fd194 : Fd := ⟨false, 2, 6, [(.par [2, 3] [(.lst []), (.lst [(.tup [(.cst (.int 1)), (.cst (.int 1))])])]), (.whl (.cmp .NotEq (.var 3) (.lst [])) [(.asg (.tp [(.nm 4), (.nm 5)]) (.pop 3)), (.app 2 (.tup [(.var 4), (.var 5)])), (.ite (.cmp .LtE (.bin .Add (.var 4) (.var 5)) (.var 1)) [(.app 3 (.tup [(.var 4), (.bin .Add (.var 4) (.var 5))]))] []), (.ite (.cmp .LtE (.bin .Add (.var 4) (.var 5)) (.var 0)) [(.app 3 (.tup [(.bin .Add (.var 4) (.var 5)), (.var 5)]))] [])]), (.ret (.var 2))]⟩

def fd195 : Fd := ⟨false, 1, 3, [(.asg (.tp [(.nm 1), (.nm 2)]) (.var 0)), (.ite (.cmp .Eq (.var 1) (.var 2)) [(.ret (.cst .none))] []), (.ret (.ite (.cmp .Gt (.var 1) (.var 2)) (.tup [(.bin .Sub (.var 1) (.var 2)), (.var 2)]) (.tup [(.var 1), (.bin .Sub (.var 2) (.var 1))])))]⟩

def fd196 : Fd := ⟨false, 2, 2, [(.exp (.call 152 none [(.var 0)])), (.exp (.call 154 none [(.var 1)])), (.ret (.call 70 none [(.var 0), (.var 1)]))]⟩

def fd197 : Fd := ⟨false, 2, 2, [(.exp (.call 152 none [(.var 0)])), (.exp (.call 154 none [(.var 1)])), (.ret (.mt .index (.call 174 none [(.call 70 none [(.var 0), (.var 1)])]) [(.var 1)]))]⟩

def fd198 : Fd := ⟨false, 2, 2, [(.exp (.call 152 none [(.var 0)])), (.exp (.call 154 none [(.var 1)])), (.ret (.call 75 none [(.var 0), (.var 1)]))]⟩

def fd199 : Fd := ⟨false, 2, 2, [(.exp (.call 152 none [(.var 0)])), (.exp (.call 154 none [(.var 1)])), (.ret (.call 217 none [(.var 0), (.var 1)]))]⟩

def fd200 : Fd := ⟨false, 3, 5, [(.exp (.call 152 none [(.var 0)])), (.exp (.call 154 none [(.var 1)])), (.exp (.call 144 none [(.var 2), (.cst (.int 0)), (.cst (.int 1000000000000000000))])), (.ite (.cmp .Eq (.mt .index (.call 174 none [(.call 70 none [(.var 0), (.var 1)])]) [(.var 1)]) (.cst (.int 1))) [(.ret (.ite (.cmp .Eq (.var 2) (.cst (.int 0))) (.cst (.int 1)) (.cst (.int 0))))] []), (.asg (.tp [(.nm 3), (.nm 4)]) (.call 217 none [(.var 0), (.var 1)])), (.ite (.var 4) [(.ret (.ite (.cmp .Eq (.var 2) (.cst (.int 0))) (.cst (.int 1)) (.bin .Add (.call 12 none [(.var 3), (.bin .Sub (.var 2) (.cst (.int 1)))]) (.ite (.cmp .Gt (.var 2) (.cst (.int 2))) (.call 12 none [(.var 3), (.bin .Sub (.var 2) (.cst (.int 2)))]) (.cst (.int 0))))))] []), (.ret (.bin .Add (.call 12 none [(.var 3), (.var 2)]) (.call 12 none [(.var 3), (.bin .Sub (.var 2) (.cst (.int 1)))])))]⟩

def fd201 : Fd := ⟨false, 3, 11, [(.exp (.call 158 none [(.var 0), (.var 1)])), (.exp (.call 154 none [(.var 2)])), (.par [3] [(.call 70 none [(.var 0), (.var 2)])]), (.par [4] [(.mt .index (.call 174 none [(.var 3)]) [(.var 2)])]), (.ite (.cmp .Eq (.var 4) (.cst (.int 1))) [(.ret (.cst (.int 1)))] []), (.asg (.tp [(.nm 5), (.nm 6)]) (.call 13 none [(.var 0), (.var 1)])), (.asg (.tp [(.nm 7), (.nm 8)]) (.call 193 none [(.var 3)])), (.ite (.cmp .Eq (.var 4) (.cst (.int 2))) [(.asg (.tp [(.nm 5), (.nm 6), (.nm 7), (.nm 8)]) (.tup [(.var 6), (.var 5), (.var 8), (.var 7)]))] []), (.par [9] [(.bin .FloorDiv (.bin .Sub (.var 5) (.var 7)) (.var 8))]), (.par [10] [(.ite (.cmp .LtE (.bin .Add (.var 7) (.var 8)) (.var 6)) (.blt .min [(.var 9), (.bin .FloorDiv (.bin .Sub (.bin .Sub (.var 6) (.var 8)) (.var 7)) (.var 8))]) (.neg (.cst (.int 1))))]), (.ret (.bin .Add (.bin .Add (.bin .Add (.var 9) (.cst (.int 1))) (.var 10)) (.cst (.int 1))))]⟩

def fd202 : Fd := ⟨false, 2, 7, [(.exp (.call 158 none [(.var 0), (.var 1)])), (.asg (.tp [(.nm 2), (.nm 3)]) (.call 13 none [(.var 0), (.var 1)])), (.ite (.cmp .Gt (.blt .max [(.var 2), (.var 3)]) (.cst (.int 200))) [.stop] []), (.par [4] [(.lst [])]), (.for_ (.nm 5) (.rng [(.neg (.var 3)), (.bin .Add (.var 2) (.cst (.int 1)))]) [(.par [6] [(.bin .Add (.call 183 none [(.var 2), (.var 3), (.var 5)]) (.call 126 none [(.var 2), (.var 3), (.var 5)]))]), (.ite (.cmp .Gt (.var 6) (.cst (.int 0))) [(.app 4 (.tup [(.bin .Add (.call 128 none [(.var 0)]) (.bin .Mult (.var 5) (.call 66 none [(.var 0)]))), (.var 6)]))] [])]), (.ret (.blt .tuple [(.var 4)]))]⟩

def fd203 : Fd := ⟨false, 3, 7, [(.par [3, 4] [(.call 219 none [(.var 0)]), (.call 219 none [(.var 1)])]), (.par [5] [(.call 245 none [(.call 223 none [(.var 3), (.var 4)])])]), (.par [6] [(.bin .Sub (.call 245 none [(.var 3)]) (.var 5))]), (.ite (.cmp .LtE (.var 2) (.var 6)) [(.ret (.call 77 none [(.var 0), (.var 2)]))] []), (.ret (.call 77 none [(.var 1), (.bin .Sub (.bin .Sub (.bin .Add (.call 245 none [(.var 3)]) (.call 245 none [(.var 4)])) (.bin .Mult (.cst (.int 2)) (.var 5))) (.var 2))]))]⟩

def fd204 : Fd := ⟨false, 2, 3, [(.par [2] [(.call 90 none [(.call 128 none [(.var 0)]), (.call 66 none [(.var 0)]), (.var 1), (.tup [(.cst (.int 0)), (.cst (.int 1)), (.cst (.int 2))])])]), (.ret (.call 9 none [(.call 7 none [(.var 0)]), (.call 219 none [(.var 2)])]))]⟩

def fd205 : Fd := ⟨false, 4, 9, [(.par [4] [(.tup [(.var 1), (.var 3)])]), (.ite (.cmp .NotIn (.var 4) (.var 0)) [(.par [8] [(.comp (.call 205 none [(.var 0), (.var 7), (.var 2), (.var 1)]) (.tp [(.nm 5), (.nm 6), (.nm 7)]) (.seq (.call 231 none [(.var 1), (.var 2), (.var 3)])) none)]), (.put 0 (.var 4) (.ite (.cmp .NotEq (.var 8) (.lst [])) (.blt .sum [(.var 8)]) (.cst (.int 1))))] []), (.ret (.sub (.var 0) (.var 4)))]⟩

def fd206 : Fd := ⟨false, 2, 4, [(.par [2] [(.cst (.int 1))]), (.for_ (.nm 3) (.rng [(.var 1)]) [(.par [2] [(.bin .Mult (.var 2) (.var 0))])]), (.ret (.var 2))]⟩

def fd207 : Fd := ⟨false, 3, 8, [(.par [3] [(.call 44 none [(.var 0), (.var 2)])]), (.ite (.or (.cmp .Eq (.var 3) (.cst (.int 0))) (.cmp .GtE (.call 238 none [(.call 203 none [(.var 0), (.var 2), (.cst (.int 1))]), (.var 1)]) (.call 238 none [(.var 0), (.var 1)]))) [(.ret (.cst .none))] []), (.par [4, 5] [(.cst (.int 1)), (.var 3)]), (.whl (.cmp .Lt (.var 4) (.var 5)) [(.par [6] [(.bin .FloorDiv (.bin .Add (.bin .Add (.var 4) (.var 5)) (.cst (.int 1))) (.cst (.int 2)))]), (.par [7] [(.call 238 none [(.call 203 none [(.var 0), (.var 2), (.bin .Sub (.var 6) (.cst (.int 1)))]), (.var 1)])]), (.ite (.cmp .Lt (.call 238 none [(.call 203 none [(.var 0), (.var 2), (.var 6)]), (.var 1)]) (.var 7)) [(.par [4] [(.var 6)])] [(.par [5] [(.bin .Sub (.var 6) (.cst (.int 1)))])])]), (.ret (.call 203 none [(.var 0), (.var 2), (.var 4)]))]⟩

def fd208 : Fd := ⟨false, 2, 3, [(.par [2] [(.cst (.int 0))]), (.whl (.cmp .Gt (.var 1) (.cst (.int 0))) [(.aug 2 .Add (.bin .FloorDiv (.var 0) (.var 1))), (.par [0, 1] [(.var 1), (.bin .Mod (.var 0) (.var 1))])]), (.ret (.bin .Sub (.var 2) (.cst (.int 1))))]⟩

def fd209 : Fd := ⟨false, 1, 8, [(.ite (.not (.isa (.var 0) [.str])) [.stop] []), .stop, (.for_ (.nm 4) (.rng [(.cst (.int 3))]) [(.ite (.cmp .Gt (.var 4) (.cst (.int 0))) [(.ite (.cmp .NotEq (.cut (.var 0) (some (.var 3)) (some (.bin .Add (.var 3) (.cst (.int 1))))) (.cst (.str (" " : Str)))) [.stop] []), (.aug 3 .Add (.cst (.int 1)))] []), (.par [5] [(.cut (.var 0) (some (.var 3)) (some (.bin .Add (.var 3) (.cst (.int 1)))))]), (.ite (.or (.cmp .Eq (.var 5) (.cst (.str ("" : Str)))) (.or (.cmp .NotIn (.var 5) (.cst (.str ("abc" : Str)))) (.cmp .In (.var 5) (.var 1)))) [.stop] []), (.asg (.tp [(.nm 6), (.nm 7)]) (.call 167 none [(.var 0), (.bin .Add (.var 3) (.cst (.int 1)))])), (.ite (.and (.cmp .IsNot (.var 2) (.cst .none)) (.cmp .LtE (.var 6) (.var 2))) [.stop] []), .stop]), (.ite (.cmp .Lt (.var 3) (.blt .len [(.var 0)])) [.stop] []), (.ret (.blt .tuple [(.comp (.sub (.var 1) (.var 5)) (.nm 5) (.seq (.cst (.str ("abc" : Str)))) none)]))]⟩

def fd210 : Fd := ⟨false, 1, 6, [(.ite (.not (.isa (.var 0) [.str])) [.stop] []), (.par [1, 2] [(.lst []), (.cst (.int 0))]), (.whl (.cmp .Lt (.var 2) (.blt .len [(.var 0)])) [(.par [3] [(.sub (.var 0) (.var 2))]), (.ite (.or (.cmp .NotIn (.var 3) (.cst (.str ("LR" : Str)))) (.or (.and (.cmp .NotEq (.var 1) (.lst [])) (.cmp .Eq (.sub (.sub (.var 1) (.neg (.cst (.int 1)))) (.cst (.int 0))) (.var 3))) (.cmp .Eq (.blt .len [(.var 1)]) (.cst (.int 100))))) [.stop] []), (.par [4, 5] [(.cst (.int 1)), (.bin .Add (.var 2) (.cst (.int 1)))]), .stop, (.app 1 (.tup [(.var 3), (.var 4)])), (.par [2] [(.var 5)])]), (.ret (.blt .tuple [(.var 1)]))]⟩

def fd211 : Fd := ⟨false, 2, 5, [(.exp (.call 152 none [(.var 0)])), (.exp (.call 145 none [(.var 1)])), (.par [2] [(.bin .Mult (.lst [(.cst (.int 0))]) (.blt .len [(.var 0)]))]), (.for_ (.tp [(.nm 3), (.nm 4)]) (.zip (.var 1) (.var 0)) [(.put 2 (.var 3) (.var 4))]), (.ret (.blt .tuple [(.var 2)]))]⟩

def fd212 : Fd := ⟨false, 2, 5, [(.exp (.call 152 none [(.var 0)])), (.exp (.call 144 none [(.var 1), (.cst (.int 0)), (.cst (.int 40))])), (.par [2, 3] [(.call 7 none [(.var 0)]), (.call 219 none [(.var 0)])]), (.for_ (.nm 4) (.rng [(.var 1)]) [(.par [2] [(.call 9 none [(.var 2), (.var 3)])])]), (.ret (.var 2))]⟩

def fd213 : Fd := ⟨false, 2, 3, [(.exp (.call 157 none [(.var 0), (.var 1)])), (.par [2] [(.call 40 none [(.var 0)])]), (.ite (.or (.cmp .Gt (.var 2) (.call 40 none [(.var 1)])) (.cmp .NotEq (.call 77 none [(.var 1), (.bin .Sub (.call 40 none [(.var 1)]) (.var 2))]) (.var 0))) [(.ret (.cst .none))] []), (.ret (.call 9 none [(.call 7 none [(.var 0)]), (.call 214 none [(.call 219 none [(.var 1)]), (.var 2)])]))]⟩

def fd214 : Fd := ⟨false, 2, 5, [(.par [2] [(.lst [])]), (.for_ (.tp [(.nm 3), (.nm 4)]) (.seq (.var 0)) [(.ite (.cmp .Lt (.var 1) (.var 4)) [(.app 2 (.tup [(.var 3), (.bin .Sub (.var 4) (.var 1))])), (.par [1] [(.cst (.int 0))])] [(.aug 1 .Sub (.var 4))])]), (.ret (.var 2))]⟩

def fd215 : Fd := ⟨false, 1, 7, [(.exp (.call 152 none [(.var 0)])), (.par [1, 2] [(.call 40 none [(.var 0)]), (.call 219 none [(.var 0)])]), (.for_ (.nm 3) (.rng [(.ite (.cmp .Gt (.blt .len [(.var 2)]) (.cst (.int 1))) (.blt .min [(.var 1), (.bin .Add (.bin .Mult (.cst (.int 2)) (.blt .len [(.var 2)])) (.cst (.int 1)))]) (.cst (.int 0))), (.cst (.int 1)), (.neg (.cst (.int 1)))]) [(.ite (.cmp .Eq (.bin .Mod (.var 1) (.var 3)) (.cst (.int 0))) [(.par [4] [(.call 77 none [(.var 0), (.bin .Sub (.var 1) (.bin .FloorDiv (.var 1) (.var 3)))])]), (.par [5] [(.lst [])]), (.for_ (.nm 6) (.rng [(.var 3)]) [(.par [5] [(.call 64 none [(.var 5), (.call 219 none [(.var 4)])])])]), (.ite (.cmp .Eq (.var 5) (.var 2)) [(.ret (.tup [(.var 4), (.var 3)]))] [])] [])]), (.ite (.cmp .Eq (.blt .len [(.var 2)]) (.cst (.int 1))) [(.ret (.tup [(.call 9 none [(.call 7 none [(.var 0)]), (.lst [(.tup [(.sub (.sub (.var 2) (.cst (.int 0))) (.cst (.int 0))), (.cst (.int 1))])])]), (.sub (.sub (.var 2) (.cst (.int 0))) (.cst (.int 1)))]))] []), (.ret (.tup [(.var 0), (.ite (.cmp .Gt (.var 1) (.cst (.int 0))) (.cst (.int 1)) (.cst (.int 0)))]))]⟩

def fd216 : Fd := ⟨false, 1, 8, [(.exp (.call 153 none [(.var 0)])), (.par [1, 2, 3] [(.cst (.int 0)), (.cst (.int 0)), (.bin .Mult (.lst [(.cst (.int 0))]) (.cst (.int 3)))]), (.for_ (.tp [(.nm 4), (.nm 5)]) (.zip (.var 0) (.cut (.var 0) (some (.cst (.int 1))) none)) [(.aug 1 .Add (.call 44 none [(.var 4), (.var 5)])), (.aug 2 .Add (.bin .Sub (.bin .Add (.call 57 none [(.var 4)]) (.call 57 none [(.var 5)])) (.bin .Mult (.cst (.int 2)) (.call 57 none [(.call 63 none [(.var 4), (.var 5)])])))), (.par [3] [(.comp (.bin .Add (.var 6) (.var 7)) (.tp [(.nm 6), (.nm 7)]) (.zip (.var 3) (.call 240 none [(.var 4), (.var 5), (.cst (.int 0))])) none)])]), (.ret (.tup [(.var 1), (.var 2), (.blt .tuple [(.var 3)])]))]⟩

def fd217 : Fd := ⟨false, 2, 4, [(.par [2, 3] [(.mt .index (.call 174 none [(.call 70 none [(.var 0), (.var 1)])]) [(.var 1)]), (.call 75 none [(.var 0), (.var 1)])]), (.ite (.or (.cmp .Eq (.var 2) (.cst (.int 1))) (.cmp .Eq (.mt .index (.call 174 none [(.var 0)]) [(.var 1)]) (.var 2))) [(.ret (.tup [(.var 3), (.cst (.bool false))]))] []), (.ret (.tup [(.bin .Sub (.var 3) (.cst (.int 1))), (.cst (.bool true))]))]⟩

def fd218 : Fd := ⟨false, 1, 1, [(.exp (.call 152 none [(.var 0)])), (.ret (.blt .tuple [(.call 219 none [(.var 0)])]))]⟩

def fd219 : Fd := ⟨false, 1, 5, [(.asg (.tp [(.nm 1), (.nm 2)]) (.call 193 none [(.var 0)])), (.par [3] [(.lst [])]), (.whl (.cmp .NotEq (.var 1) (.var 2)) [(.ite (.cmp .Gt (.var 1) (.var 2)) [(.par [4] [(.bin .FloorDiv (.bin .Sub (.var 1) (.cst (.int 1))) (.var 2))]), (.app 3 (.tup [(.cst (.str ("R" : Str))), (.var 4)])), (.aug 1 .Sub (.bin .Mult (.var 4) (.var 2)))] [(.par [4] [(.bin .FloorDiv (.bin .Sub (.var 2) (.cst (.int 1))) (.var 1))]), (.app 3 (.tup [(.cst (.str ("L" : Str))), (.var 4)])), (.aug 2 .Sub (.bin .Mult (.var 4) (.var 1)))])]), (.ret (.rev (.var 3)))]⟩

def fd220 : Fd := ⟨false, 4, 7, [(.for_ (.nm 4) (.seq (.tup [(.var 0), (.var 1), (.var 2), (.var 3)])) [(.exp (.call 152 none [(.var 4)]))]), (.exp (.call 157 none [(.var 0), (.var 1)])), (.exp (.call 157 none [(.var 2), (.var 3)])), (.par [5, 6] [(.cst (.int 0)), (.blt .min [(.call 44 none [(.var 0), (.var 1)]), (.call 44 none [(.var 2), (.var 3)]), (.cst (.int 300))])]), (.whl (.and (.cmp .Lt (.var 5) (.var 6)) (.cmp .Eq (.call 94 none [(.var 0), (.var 1), (.var 5)]) (.call 94 none [(.var 2), (.var 3), (.var 5)]))) [(.aug 5 .Add (.cst (.int 1)))]), (.ret (.var 5))]⟩

def fd221 : Fd := ⟨false, 2, 2, [(.exp (.call 152 none [(.var 0)])), (.exp (.call 152 none [(.var 1)])), (.ret (.and (.cmp .Eq (.call 128 none [(.var 0)]) (.call 128 none [(.var 1)])) (.cmp .Eq (.call 66 none [(.var 0)]) (.call 66 none [(.var 1)]))))]⟩

def fd222 : Fd := ⟨false, 2, 2, [(.exp (.call 152 none [(.var 0)])), (.exp (.call 152 none [(.var 1)])), (.ret (.call 87 none [(.var 0), (.var 1)]))]⟩

def fd223 : Fd := ⟨false, 2, 5, [(.par [2] [(.lst [])]), (.for_ (.tp [(.nm 3), (.nm 4)]) (.zip (.var 0) (.var 1)) [(.ite (.cmp .NotEq (.sub (.var 3) (.cst (.int 0))) (.sub (.var 4) (.cst (.int 0)))) [(.ret (.var 2))] []), (.app 2 (.tup [(.sub (.var 3) (.cst (.int 0))), (.blt .min [(.sub (.var 3) (.cst (.int 1))), (.sub (.var 4) (.cst (.int 1)))])])), (.ite (.cmp .NotEq (.sub (.var 3) (.cst (.int 1))) (.sub (.var 4) (.cst (.int 1)))) [(.ret (.var 2))] [])]), (.ret (.var 2))]⟩

def fd224 : Fd := ⟨false, 2, 5, [(.exp (.call 157 none [(.var 0), (.var 1)])), (.par [2] [(.call 240 none [(.var 0), (.var 1), (.cst (.int 0))])]), (.ret (.blt .tuple [(.comp (.var 4) (.tp [(.nm 3), (.nm 4)]) (.seq (.blt .sorted [(.comp (.tup [(.neg (.var 3)), (.var 4)]) (.tp [(.nm 4), (.nm 3)]) (.enm (.var 2)) none)])) none)]))]⟩

def fd225 : Fd := ⟨false, 2, 3, [(.exp (.call 152 none [(.var 0)])), (.exp (.call 144 none [(.var 1), (.neg (.cst (.int 1000000000000000000))), (.cst (.int 1000000000000000000))])), (.ret (.blt .tuple [(.comp (.bin .Add (.var 2) (.var 1)) (.nm 2) (.seq (.var 0)) none)]))]⟩

def fd226 : Fd := ⟨false, 2, 5, [(.exp (.call 153 none [(.var 0)])), (.ite (.or (.not (.isa (.var 1) [.tuple])) (.not (.blt .all [(.comp (.call 81 none [(.var 2), (.cst (.int 0)), (.bin .Sub (.blt .len [(.var 0)]) (.cst (.int 1)))]) (.nm 2) (.seq (.var 1)) none)]))) [(.ret (.cst (.bool false)))] []), (.ite (.or (.cmp .NotEq (.blt .sorted [(.var 1)]) (.lrg (.blt .len [(.var 0)]))) (.cmp .NotEq (.sub (.var 1) (.cst (.int 0))) (.cst (.int 0)))) [(.ret (.cst (.bool false)))] []), (.ret (.cmp .Eq (.blt .sum [(.comp (.call 44 none [(.sub (.var 0) (.var 3)), (.sub (.var 0) (.var 4))]) (.tp [(.nm 3), (.nm 4)]) (.zip (.var 1) (.cut (.var 1) (some (.cst (.int 1))) none)) none)]) (.call 248 none [(.var 0)])))]⟩

def fd227 : Fd := ⟨false, 1, 4, [.stop, (.for_ (.nm 2) (.seq (.rev (.var 0))) [.stop, (.par [3] [(.call 195 none [(.var 2)])]), (.ite (.cmp .IsNot (.var 3) (.cst .none)) [.stop] [])]), (.ret (.var 1))]⟩

def fd228 : Fd := ⟨false, 2, 6, [(.exp (.call 152 none [(.var 0)])), (.exp (.call 144 none [(.var 1), (.cst (.int 0)), (.cst (.int 60))])), (.par [2, 3] [(.call 40 none [(.var 0)]), (.call 206 none [(.cst (.int 2)), (.var 1)])]), (.for_ (.nm 4) (.rng [(.cst (.int 1)), (.bin .Add (.blt .min [(.var 2), (.var 1)]) (.cst (.int 1)))]) [(.par [5] [(.bin .Sub (.var 1) (.var 4))]), (.aug 3 .Add (.ite (.cmp .Eq (.var 5) (.cst (.int 0))) (.cst (.int 1)) (.call 206 none [(.cst (.int 2)), (.bin .Sub (.var 5) (.cst (.int 1)))])))]), (.ret (.var 3))]⟩

def fd229 : Fd := ⟨false, 2, 2, [(.ite (.cmp .Eq (.var 0) (.cst (.int 1))) [(.ret (.ite (.cmp .Eq (.var 1) (.cst (.str ("R" : Str)))) (.tup [(.cst (.int 2)), (.cst (.int 1))]) (.tup [(.cst (.int 0)), (.cst (.int 1))])))] []), (.ite (.cmp .Eq (.var 0) (.cst (.int 0))) [(.ret (.ite (.cmp .Eq (.var 1) (.cst (.str ("R" : Str)))) (.tup [(.cst (.int 0)), (.cst (.int 0))]) (.tup [(.cst (.int 1)), (.cst (.int 0))])))] []), (.ret (.ite (.cmp .Eq (.var 1) (.cst (.str ("R" : Str)))) (.tup [(.cst (.int 1)), (.cst (.int 0))]) (.tup [(.cst (.int 2)), (.cst (.int 0))])))]⟩

def fd230 : Fd := ⟨false, 3, 3, [(.exp (.call 157 none [(.var 0), (.var 1)])), (.exp (.call 144 none [(.var 2), (.cst (.int 0)), (.call 44 none [(.var 0), (.var 1)])])), (.ret (.call 203 none [(.var 0), (.var 1), (.var 2)]))]⟩

def fd231 : Fd := ⟨false, 3, 7, [(.par [3] [(.lst [])]), (.for_ (.tp [(.nm 4), (.nm 5)]) (.seq (.call 100 none [(.var 0)])) [(.par [6] [(.call 104 none [(.var 0), (.var 4), (.var 5)])]), (.ite (.and (.cmp .NotEq (.var 6) (.var 2)) (.and (.cmp .LtE (.sub (.var 1) (.cst (.int 0))) (.blt .min [(.var 6)])) (.cmp .LtE (.blt .max [(.var 6)]) (.sub (.var 1) (.cst (.int 1)))))) [(.app 3 (.tup [(.var 4), (.var 5), (.var 6)]))] [])]), (.ret (.var 3))]⟩

def fd232 : Fd := ⟨false, 2, 8, [(.par [2, 3] [(.call 174 none [(.var 0)]), (.lst [(.tup [(.call 174 none [(.var 0)]), (.var 1), (.cst (.str ("" : Str)))])])]), (.for_ (.tp [(.nm 4), (.nm 5)]) (.seq (.rev (.call 219 none [(.var 0)]))) [(.for_ (.nm 6) (.rng [(.var 5)]) [(.par [7] [(.ite (.cmp .Eq (.var 4) (.cst (.str ("R" : Str)))) (.sub (.var 2) (.cst (.int 2))) (.sub (.var 2) (.cst (.int 0))))]), (.ite (.cmp .Eq (.sub (.var 1) (.var 7)) (.cst (.int 0))) [(.ret (.var 3))] []), (.par [2, 1] [(.call 172 none [(.var 2), (.var 4), (.cst (.int 1))]), (.call 108 none [(.var 1), (.var 7)])]), (.app 3 (.tup [(.var 2), (.var 1), (.var 4)]))])]), (.ret (.var 3))]⟩

def fd233 : Fd := ⟨false, 2, 2, [(.exp (.call 152 none [(.var 0)])), (.exp (.call 147 none [(.var 1)])), (.ret (.ite (.cmp .In (.var 1) (.var 0)) (.mt .index (.var 0) [(.var 1)]) (.cst .none)))]⟩

def fd234 : Fd := ⟨false, 3, 11, [(.exp (.call 158 none [(.var 0), (.var 1)])), (.exp (.call 147 none [(.var 2)])), (.par [3] [(.call 140 none [(.var 0), (.var 1), (.cst (.int 20000))])]), (.par [4, 5, 6] [(.call 128 none [(.var 0)]), (.call 66 none [(.var 0)]), (.bin .Mult (.lst [(.cst (.int 0))]) (.cst (.int 3)))]), .stop, (.ret (.blt .tuple [(.var 6)]))]⟩

def fd235 : Fd := ⟨false, 2, 4, [(.exp (.call 157 none [(.var 0), (.var 1)])), (.ret (.blt .tuple [(.comp (.var 2) (.tp [(.nm 2), (.nm 3)]) (.enm (.call 240 none [(.var 0), (.var 1), (.cst (.int 0))])) (some (.cmp .Eq (.var 3) (.cst (.int 0)))))]))]⟩

def fd236 : Fd := ⟨false, 2, 3, [(.exp (.call 152 none [(.var 0)])), (.exp (.call 144 none [(.var 1), (.cst (.int 1)), (.cst (.int 1000000000))])), (.ret (.blt .tuple [(.comp (.bin .Mult (.var 2) (.var 1)) (.nm 2) (.seq (.var 0)) none)]))]⟩

def fd237 : Fd := ⟨false, 2, 3, [(.par [2] [(.bin .Mult (.cst (.int 2)) (.call 66 none [(.var 0)]))]), (.ret (.ite (.cmp .Eq (.bin .Mod (.var 1) (.var 2)) (.cst (.int 0))) (.bin .Add (.bin .FloorDiv (.var 1) (.var 2)) (.cst (.int 2))) (.cst .none)))]⟩

def fd238 : Fd := ⟨false, 2, 3, [(.ret (.blt .sum [(.comp (.call 44 none [(.var 0), (.var 2)]) (.nm 2) (.seq (.var 1)) none)]))]⟩

def fd239 : Fd := ⟨false, 2, 3, [(.par [2] [(.call 140 none [(.var 0), (.var 1), (.cst (.int 20000))])]), .stop]⟩

def fd240 : Fd := ⟨false, 3, 10, [(.par [3] [(.call 63 none [(.var 0), (.var 1)])]), (.par [4] [(.bin .Mult (.lst [(.cst (.int 0))]) (.cst (.int 3)))]), (.for_ (.nm 5) (.seq (.tup [(.var 0), (.var 1)])) [(.par [6] [(.call 214 none [(.call 219 none [(.var 5)]), (.call 40 none [(.var 3)])])]), (.par [7] [(.sub (.call 258 none [(.call 174 none [(.var 3)]), (.var 6), (.call 193 none [(.var 3)])]) (.var 2))]), (.par [4] [(.comp (.bin .Add (.var 8) (.var 9)) (.tp [(.nm 8), (.nm 9)]) (.zip (.var 4) (.var 7)) none)])]), (.ret (.blt .tuple [(.var 4)]))]⟩

def fd241 : Fd := ⟨false, 1, 1, [(.exp (.call 152 none [(.var 0)])), (.ret (.call 242 none [(.call 219 none [(.var 0)])]))]⟩

def fd242 : Fd := ⟨false, 1, 7, [(.asg (.tp [(.nm 1), (.nm 2), (.nm 3), (.nm 4)]) (.tup [(.cst (.int 1)), (.cst (.int 0)), (.cst (.int 0)), (.cst (.int 1))])), (.for_ (.tp [(.nm 5), (.nm 6)]) (.seq (.var 0)) [(.ite (.cmp .Eq (.var 5) (.cst (.str ("R" : Str)))) [(.par [1, 2] [(.bin .Add (.var 1) (.bin .Mult (.var 6) (.var 3))), (.bin .Add (.var 2) (.bin .Mult (.var 6) (.var 4)))])] [(.par [3, 4] [(.bin .Add (.var 3) (.bin .Mult (.var 6) (.var 1))), (.bin .Add (.var 4) (.bin .Mult (.var 6) (.var 2)))])])]), (.ret (.tup [(.var 1), (.var 2), (.var 3), (.var 4)]))]⟩

def fd243 : Fd := ⟨false, 2, 15, [.stop, (.for_ (.nm 3) (.rng [(.var 1)]) [.stop, .stop, (.par [2] [(.var 4)])]), .stop, (.ret (.comp (.blt .sum [(.comp (.sub (.var 14) (.var 11)) (.nm 14) (.seq (.var 13)) none)]) (.nm 11) (.rng [(.bin .Add (.var 1) (.cst (.int 1)))]) none))]⟩

def fd244 : Fd := ⟨false, 3, 7, [(.exp (.call 157 none [(.var 0), (.var 1)])), (.exp (.call 147 none [(.var 2)])), (.asg (.tp [(.nm 3), (.nm 4)]) (.tup [(.cst (.int 0)), (.neg (.cst (.int 1)))])), (.for_ (.tp [(.nm 5), (.nm 6)]) (.seq (.call 118 none [(.var 0), (.var 1), (.var 2)])) [(.aug 3 .Add (.blt .max [(.cst (.int 0)), (.bin .Add (.bin .Sub (.var 6) (.blt .max [(.var 5), (.bin .Add (.var 4) (.cst (.int 1)))])) (.cst (.int 1)))])), (.par [4] [(.blt .max [(.var 4), (.var 6)])])]), (.ret (.var 3))]⟩

def fd245 : Fd := ⟨false, 1, 3, [(.ret (.blt .sum [(.comp (.var 2) (.tp [(.nm 1), (.nm 2)]) (.seq (.var 0)) none)]))]⟩

def fd246 : Fd := ⟨false, 1, 4, [(.par [1] [(.lrg (.bin .Add (.var 0) (.cst (.int 1))))]), (.for_ (.nm 2) (.rng [(.cst (.int 2)), (.bin .Add (.var 0) (.cst (.int 1)))]) [(.ite (.cmp .Eq (.sub (.var 1) (.var 2)) (.var 2)) [(.for_ (.nm 3) (.rng [(.var 2), (.bin .Add (.var 0) (.cst (.int 1))), (.var 2)]) [(.augIx 1 (.var 3) .Sub (.bin .FloorDiv (.sub (.var 1) (.var 3)) (.var 2)))])] [])]), (.ret (.var 1))]⟩

def fd247 : Fd := ⟨false, 1, 2, [(.exp (.call 153 none [(.var 0)])), (.ret (.bin .Sub (.bin .Mult (.cst (.int 2)) (.call 161 none [(.var 0)])) (.blt .max [(.comp (.call 44 none [(.sub (.var 0) (.cst (.int 0))), (.var 1)]) (.nm 1) (.seq (.var 0)) none)])))]⟩

def fd248 : Fd := ⟨false, 1, 2, [(.ret (.bin .Sub (.bin .Mult (.cst (.int 2)) (.call 161 none [(.var 0)])) (.blt .max [(.comp (.call 44 none [(.sub (.var 0) (.cst (.int 0))), (.var 1)]) (.nm 1) (.seq (.var 0)) none)])))]⟩

def fd249 : Fd := ⟨false, 2, 2, [(.exp (.call 157 none [(.var 0), (.var 1)])), (.ret (.bin .Sub (.bin .Add (.call 57 none [(.var 0)]) (.call 57 none [(.var 1)])) (.bin .Mult (.cst (.int 2)) (.call 57 none [(.call 63 none [(.var 0), (.var 1)])]))))]⟩

def fd250 : Fd := ⟨false, 1, 3, [(.exp (.call 152 none [(.var 0)])), (.asg (.tp [(.nm 1), (.nm 2)]) (.call 193 none [(.var 0)])), (.ite (.cmp .Gt (.bin .Add (.var 1) (.var 2)) (.cst (.int 100000))) [.stop] []), (.ret (.bin .Add (.blt .sum [(.cut (.call 246 none [(.bin .Add (.var 1) (.var 2))]) (some (.cst (.int 2))) (some (.bin .Add (.var 1) (.var 2))))]) (.call 55 none [(.bin .Add (.var 1) (.var 2)), (.bin .Sub (.var 1) (.cst (.int 1)))])))]⟩

def fd251 : Fd := ⟨false, 2, 11, [(.exp (.call 152 none [(.var 0)])), (.exp (.call 144 none [(.var 1), (.cst (.int 0)), (.cst (.int 1000000000))])), (.par [2] [(.cst (.int 64))]), (.par [3] [(.call 246 none [(.var 2)])]), (.whl (.cmp .LtE (.blt .sum [(.cut (.var 3) (some (.cst (.int 2))) none)]) (.var 1)) [(.par [2] [(.bin .Mult (.cst (.int 2)) (.var 2))]), (.par [3] [(.call 246 none [(.var 2)])])]), (.par [4] [(.cst (.int 2))]), (.whl (.cmp .GtE (.var 1) (.sub (.var 3) (.var 4))) [(.aug 1 .Sub (.sub (.var 3) (.var 4))), (.aug 4 .Add (.cst (.int 1)))]), (.par [5, 6] [(.cst (.int 1)), (.bin .Sub (.var 4) (.cst (.int 1)))]), (.par [7] [(.call 46 none [(.var 4)])]), (.whl (.cmp .Lt (.var 5) (.var 6)) [(.par [8] [(.bin .FloorDiv (.bin .Add (.var 5) (.var 6)) (.cst (.int 2)))]), (.ite (.cmp .Gt (.blt .sum [(.comp (.bin .Mult (.var 10) (.bin .FloorDiv (.var 8) (.var 9))) (.tp [(.nm 9), (.nm 10)]) (.seq (.var 7)) none)]) (.var 1)) [(.par [6] [(.var 8)])] [(.par [5] [(.bin .Add (.var 8) (.cst (.int 1)))])])]), (.ret (.call 204 none [(.var 0), (.tup [(.var 5), (.bin .Sub (.var 4) (.var 5))])]))]⟩

def fd252 : Fd := ⟨false, 2, 10, [(.asg (.tp [(.nm 2), (.nm 3)]) (.call 138 none [(.var 0), (.var 1), (.cst (.int 100000))])), (.par [4, 5] [(.call 131 none [(.blt .min [(.var 2), (.var 3)])]), (.cst (.int 0))]), (.for_ (.tp [(.nm 6), (.nm 7)]) (.enm (.var 4)) [(.ite (.cmp .NotEq (.var 7) (.cst (.int 0))) [(.par [8, 9] [(.bin .FloorDiv (.var 2) (.var 6)), (.bin .FloorDiv (.var 3) (.var 6))]), (.aug 5 .Add (.bin .Mult (.var 7) (.bin .Sub (.bin .Mult (.var 6) (.bin .Add (.bin .Mult (.bin .FloorDiv (.bin .Mult (.var 8) (.bin .Add (.var 8) (.cst (.int 1)))) (.cst (.int 2))) (.var 9)) (.bin .Mult (.bin .FloorDiv (.bin .Mult (.var 9) (.bin .Add (.var 9) (.cst (.int 1)))) (.cst (.int 2))) (.var 8)))) (.bin .Mult (.bin .Mult (.cst (.int 2)) (.var 8)) (.var 9)))))] [])]), (.ret (.bin .Mult (.bin .Mult (.cst (.int 2)) (.call 66 none [(.var 0)])) (.var 5)))]⟩

def fd253 : Fd := ⟨false, 2, 7, [(.exp (.call 157 none [(.var 0), (.var 1)])), (.asg (.tp [(.nm 2), (.nm 3), (.nm 4)]) (.blt .sorted [(.var 0)])), (.par [5] [(.bin .FloorDiv (.bin .Sub (.var 3) (.var 2)) (.sub (.call 193 none [(.var 0)]) (.cst (.int 0))))]), (.ret (.blt .tuple [(.comp (.bin .Mult (.var 5) (.var 6)) (.nm 6) (.seq (.call 240 none [(.var 0), (.var 1), (.cst (.int 1))])) none)]))]⟩

def fd254 : Fd := ⟨false, 1, 4, [(.exp (.call 152 none [(.var 0)])), (.par [1] [(.call 219 none [(.var 0)])]), (.ret (.tup [(.blt .sum [(.comp (.var 3) (.tp [(.nm 2), (.nm 3)]) (.seq (.var 1)) (some (.cmp .Eq (.var 2) (.cst (.str ("L" : Str))))))]), (.blt .sum [(.comp (.var 3) (.tp [(.nm 2), (.nm 3)]) (.seq (.var 1)) (some (.cmp .Eq (.var 2) (.cst (.str ("R" : Str))))))])]))]⟩

def fd255 : Fd := ⟨false, 3, 7, [(.par [3, 4] [(.cst (.int 0)), (.blt .min [(.var 0), (.bin .Sub (.var 2) (.cst (.int 1)))])]), (.par [5] [(.blt .max [(.cst (.int 0)), (.blt .min [(.var 4), (.bin .Sub (.var 2) (.var 1))])])]), (.par [6] [(.blt .max [(.cst (.int 0)), (.bin .Sub (.var 4) (.var 5))])]), (.par [3] [(.bin .Add (.bin .Mult (.var 5) (.var 1)) (.bin .FloorDiv (.bin .Mult (.var 6) (.bin .Sub (.bin .Sub (.bin .Sub (.bin .Mult (.cst (.int 2)) (.var 2)) (.var 5)) (.cst (.int 1))) (.var 4))) (.cst (.int 2))))]), (.ret (.var 3))]⟩

def fd256 : Fd := ⟨false, 2, 2, [(.exp (.call 157 none [(.var 0), (.var 1)])), (.ret (.call 240 none [(.var 0), (.var 1), (.cst (.int 0))]))]⟩

def fd257 : Fd := ⟨false, 3, 3, [(.exp (.call 157 none [(.var 0), (.var 1)])), (.exp (.call 141 none [(.var 0), (.var 1), (.var 2), (.cst (.int 0))])), (.ret (.call 240 none [(.var 0), (.call 203 none [(.var 0), (.var 1), (.var 2)]), (.cst (.int 0))]))]⟩

def fd258 : Fd := ⟨false, 3, 12, [(.par [3, 4] [(.bin .Mult (.lst [(.cst (.int 0))]) (.cst (.int 3))), (.bin .Mult (.lst [(.cst (.int 0))]) (.cst (.int 3)))]), (.for_ (.tp [(.nm 5), (.nm 6)]) (.seq (.var 1)) [(.asg (.tp [(.nm 7), (.nm 8), (.nm 9)]) (.var 0)), (.par [10] [(.ite (.cmp .Eq (.var 5) (.cst (.str ("R" : Str)))) (.var 9) (.var 7))]), (.par [11] [(.ite (.cmp .Eq (.var 5) (.cst (.str ("R" : Str)))) (.sub (.var 2) (.cst (.int 1))) (.sub (.var 2) (.cst (.int 0))))]), (.augIx 3 (.var 8) .Add (.bin .FloorDiv (.bin .Add (.var 6) (.cst (.int 1))) (.cst (.int 2)))), (.augIx 3 (.var 10) .Add (.bin .FloorDiv (.var 6) (.cst (.int 2)))), (.augIx 4 (.var 8) .Add (.bin .Mult (.bin .Mult (.bin .FloorDiv (.bin .Add (.var 6) (.cst (.int 1))) (.cst (.int 2))) (.cst (.int 2))) (.var 11))), (.augIx 4 (.var 10) .Add (.bin .Mult (.bin .Mult (.bin .FloorDiv (.var 6) (.cst (.int 2))) (.cst (.int 2))) (.var 11))), (.par [2, 0] [(.call 192 none [(.var 2), (.var 5), (.var 6)]), (.call 172 none [(.var 0), (.var 5), (.var 6)])])]), (.ret (.tup [(.var 3), (.var 4)]))]⟩

def fd259 : Fd := ⟨false, 1, 4, [(.exp (.call 153 none [(.var 0)])), (.par [1] [(.blt .len [(.var 0)])]), (.par [2] [(.call 265 none [(.var 0)])]), (.ret (.sub (.blt .min [(.comp (.sub (.var 2) (.tup [(.bin .Sub (.bin .LShift (.cst (.int 1)) (.var 1)) (.cst (.int 1))), (.var 3)])) (.nm 3) (.rng [(.var 1)]) (some (.cmp .In (.tup [(.bin .Sub (.bin .LShift (.cst (.int 1)) (.var 1)) (.cst (.int 1))), (.var 3)]) (.var 2))))]) (.cst (.int 1))))]⟩

def fd260 : Fd := ⟨false, 2, 4, [(.exp (.call 157 none [(.var 0), (.var 1)])), (.exp (.call 143 none [(.tup [(.var 0), (.var 1)])])), (.par [2, 3] [(.call 25 none [(.var 0), (.var 1)]), (.call 5 none [(.var 1)])]), (.ret (.call 117 none [(.bin .Mult (.sub (.var 2) (.cst (.int 0))) (.sub (.var 3) (.cst (.int 1)))), (.bin .Mult (.sub (.var 2) (.cst (.int 1))) (.bin .Sub (.sub (.var 3) (.cst (.int 1))) (.sub (.var 3) (.cst (.int 0)))))]))]⟩

def fd261 : Fd := ⟨false, 2, 14, [(.exp (.call 157 none [(.var 0), (.var 1)])), (.ite (.cmp .Gt (.call 44 none [(.var 0), (.var 1)]) (.cst (.int 500))) [.stop] []), (.par [2, 3] [(.var 0), (.lst [])]), (.par [4] [(.call 63 none [(.var 0), (.var 1)])]), (.for_ (.nm 5) (.rng [(.call 44 none [(.var 0), (.var 4)])]) [(.asg (.tp [(.nm 6), (.nm 7), (.nm 8)]) (.call 174 none [(.var 2)])), (.asg (.tp [(.nm 9), (.nm 10)]) (.call 61 none [(.var 2)])), (.par [11] [(.ite (.cmp .Lt (.var 9) (.var 10)) (.tup [(.var 6), (.var 7)]) (.tup [(.var 8), (.var 7)]))]), (.app 3 (.var 11)), (.par [2] [(.call 104 none [(.var 2), (.sub (.var 11) (.cst (.int 0))), (.sub (.var 11) (.cst (.int 1)))])])]), (.for_ (.tp [(.nm 12), (.nm 13)]) (.seq (.call 214 none [(.call 219 none [(.var 1)]), (.call 40 none [(.var 4)])])) [(.for_ (.nm 5) (.rng [(.var 13)]) [(.asg (.tp [(.nm 6), (.nm 7), (.nm 8)]) (.call 174 none [(.var 2)])), (.par [11] [(.ite (.cmp .Eq (.var 12) (.cst (.str ("L" : Str)))) (.tup [(.var 7), (.var 6)]) (.tup [(.var 7), (.var 8)]))]), (.app 3 (.var 11)), (.par [2] [(.call 104 none [(.var 2), (.sub (.var 11) (.cst (.int 0))), (.sub (.var 11) (.cst (.int 1)))])])])]), (.ret (.var 3))]⟩

def fd262 : Fd := ⟨false, 2, 6, [(.par [2] [(.lst [])]), (.for_ (.nm 3) (.rng [(.call 44 none [(.var 0), (.var 1)])]) [(.par [4] [(.call 203 none [(.var 0), (.var 1), (.bin .Add (.var 3) (.cst (.int 1)))])]), (.par [2] [(.bin .Add (.var 2) (.comp (.var 5) (.nm 5) (.seq (.call 100 none [(.var 0)])) (some (.cmp .Eq (.call 104 none [(.var 0), (.sub (.var 5) (.cst (.int 0))), (.sub (.var 5) (.cst (.int 1)))]) (.var 4)))))]), (.par [0] [(.var 4)])]), (.ret (.var 2))]⟩

def fd263 : Fd := ⟨false, 4, 9, [(.exp (.call 152 none [(.var 0)])), (.exp (.call 142 none [(.var 0), (.var 1), (.var 2)])), (.exp (.call 158 none [(.var 0), (.var 3)])), (.par [4] [(.call 104 none [(.var 0), (.var 1), (.var 2)])]), (.ite (.or (.cmp .Lt (.blt .min [(.var 4)]) (.sub (.var 3) (.cst (.int 0)))) (.cmp .Gt (.blt .max [(.var 4)]) (.sub (.var 3) (.cst (.int 1))))) [.stop] []), (.par [5] [(.call 140 none [(.var 0), (.var 3), (.cst (.int 20000))])]), (.par [6, 7] [(.call 193 none [(.var 0)]), (.call 193 none [(.var 4)])]), (.par [8] [(.sub (.call 227 none [(.var 5)]) (.sub (.blt .max [(.tup [(.blt .sum [(.var 6)]), (.var 6)]), (.tup [(.blt .sum [(.var 7)]), (.var 7)])]) (.cst (.int 1))))]), (.ret (.bin .Mult (.var 8) (.bin .Sub (.blt .len [(.var 5)]) (.var 8))))]⟩

def fd264 : Fd := ⟨false, 2, 3, [(.exp (.call 157 none [(.var 0), (.var 1)])), (.par [2] [(.call 245 none [(.call 223 none [(.call 219 none [(.var 0)]), (.call 219 none [(.var 1)])])])]), (.ret (.tup [(.bin .Sub (.call 40 none [(.var 0)]) (.var 2)), (.blt .tuple [(.call 214 none [(.call 219 none [(.var 1)]), (.var 2)])])]))]⟩

def fd265 : Fd := ⟨false, 1, 13, [(.par [1] [(.blt .len [(.var 0)])]), (.par [4] [(.comp (.comp (.call 44 none [(.var 3), (.var 2)]) (.nm 2) (.seq (.var 0)) none) (.nm 3) (.seq (.var 0)) none)]), .stop, (.for_ (.nm 6) (.rng [(.cst (.int 1)), (.bin .LShift (.cst (.int 1)) (.var 1))]) [(.for_ (.nm 7) (.rng [(.var 1)]) [(.ite (.cmp .In (.tup [(.var 6), (.var 7)]) (.var 5)) [(.asg (.tp [(.nm 8), (.nm 9)]) (.sub (.var 5) (.tup [(.var 6), (.var 7)]))), (.for_ (.nm 10) (.rng [(.var 1)]) [(.ite (.not (.bin .BitAnd (.bin .RShift (.var 6) (.var 10)) (.cst (.int 1)))) [(.par [11] [(.tup [(.bin .BitOr (.var 6) (.bin .LShift (.cst (.int 1)) (.var 10))), (.var 10)])]), .stop, (.ite (.or (.cmp .NotIn (.var 11) (.var 5)) (.cmp .Lt (.var 12) (.sub (.var 5) (.var 11)))) [(.put 5 (.var 11) (.var 12))] [])] [])])] [])])]), (.ret (.var 5))]⟩

def fd266 : Fd := ⟨false, 1, 1, [(.ret (.bin .FloorDiv (.bin .Add (.bin .Mult (.cst (.int 2)) (.call 206 none [(.cst (.int 4)), (.var 0)])) (.cst (.int 1))) (.cst (.int 3))))]⟩

def fd267 : Fd := ⟨false, 4, 7, [(.exp (.call 157 none [(.var 0), (.var 1)])), (.exp (.call 154 none [(.var 2)])), (.exp (.call 144 none [(.var 3), (.cst (.int 1)), (.cst (.int 1000000000000000000000000000000))])), (.ite (.cmp .Lt (.sub (.call 240 none [(.var 0), (.var 1), (.cst (.int 0))]) (.var 2)) (.var 3)) [(.ret (.cst .none))] []), (.par [4, 5] [(.cst (.int 1)), (.call 44 none [(.var 0), (.var 1)])]), (.whl (.cmp .Lt (.var 4) (.var 5)) [(.par [6] [(.bin .FloorDiv (.bin .Add (.var 4) (.var 5)) (.cst (.int 2)))]), (.ite (.cmp .GtE (.sub (.call 240 none [(.var 0), (.call 203 none [(.var 0), (.var 1), (.var 6)]), (.cst (.int 0))]) (.var 2)) (.var 3)) [(.par [5] [(.var 6)])] [(.par [4] [(.bin .Add (.var 6) (.cst (.int 1)))])])]), (.ret (.var 4))]⟩

def fd268 : Fd := ⟨false, 2, 3, [(.par [2] [(.call 66 none [(.var 0)])]), (.ret (.ite (.cmp .Eq (.bin .Mod (.var 1) (.var 2)) (.cst (.int 0))) (.bin .FloorDiv (.var 1) (.var 2)) (.cst .none)))]⟩

def fd269 : Fd := ⟨false, 1, 1, [(.exp (.call 153 none [(.var 0)])), (.ret (.call 271 none [(.var 0)]))]⟩

def fd270 : Fd := ⟨false, 2, 5, [(.exp (.call 152 none [(.var 0)])), (.exp (.call 144 none [(.var 1), (.cst (.int 0)), (.cst (.int 60))])), (.asg (.tp [(.nm 2), (.nm 3)]) (.blt .sorted [(.call 193 none [(.var 0)])])), (.for_ (.nm 4) (.rng [(.var 1)]) [(.par [2, 3] [(.var 3), (.bin .Add (.var 2) (.var 3))])]), (.ret (.bin .Mult (.bin .Add (.var 2) (.var 3)) (.call 66 none [(.var 0)])))]⟩

def fd271 : Fd := ⟨false, 1, 8, [(.par [1] [(.lst [])]), (.for_ (.tp [(.nm 2), (.nm 3)]) (.enm (.var 0)) [(.for_ (.nm 4) (.rng [(.bin .Add (.var 2) (.cst (.int 1)))]) [(.app 1 (.tup [(.neg (.call 44 none [(.var 3), (.sub (.var 0) (.var 4))])), (.var 4), (.var 2)]))])]), (.asg (.tp [(.nm 5), (.nm 6), (.nm 7)]) (.blt .min [(.var 1)])), (.ret (.tup [(.neg (.var 5)), (.var 6), (.var 7)]))]⟩

def fd272 : Fd := ⟨false, 2, 4, [(.exp (.call 152 none [(.var 0)])), (.exp (.call 144 none [(.var 1), (.cst (.int 0)), (.cst (.int 60))])), (.par [2] [(.bin .Mult (.blt .sum [(.call 193 none [(.var 0)])]) (.call 66 none [(.var 0)]))]), (.for_ (.nm 3) (.rng [(.var 1)]) [(.par [2] [(.bin .Mult (.cst (.int 3)) (.var 2))])]), (.ret (.var 2))]⟩

def fd273 : Fd := ⟨false, 2, 5, [(.exp (.call 157 none [(.var 0), (.var 1)])), (.par [2] [(.call 63 none [(.var 0), (.var 1)])]), (.par [3] [(.blt .sum [(.call 193 none [(.var 2)])])]), (.for_ (.nm 4) (.seq (.tup [(.var 0), (.var 1)])) [(.aug 3 .Add (.call 275 none [(.call 193 none [(.var 2)]), (.call 214 none [(.call 219 none [(.var 4)]), (.call 40 none [(.var 2)])])]))]), (.ret (.bin .Mult (.var 3) (.call 66 none [(.var 0)])))]⟩

def fd274 : Fd := ⟨false, 2, 10, [(.par [2] [(.call 140 none [(.var 0), (.var 1), (.cst (.int 20000))])]), .stop, (.for_ (.nm 5) (.seq (.rev (.var 2))) [.stop, (.par [4] [(.blt .max [(.var 4), (.bin .Add (.var 6) (.var 7))])]), (.par [8] [(.call 195 none [(.var 5)])]), (.ite (.cmp .IsNot (.var 8) (.cst .none)) [.stop, (.put 3 (.var 8) (.tup [(.sub (.var 9) (.cst (.int 2))), (.sub (.var 9) (.cst (.int 1)))]))] [])]), (.ret (.var 4))]⟩

def fd275 : Fd := ⟨false, 2, 8, [(.par [2] [(.cst (.int 0))]), (.for_ (.tp [(.nm 3), (.nm 4)]) (.seq (.var 1)) [(.asg (.tp [(.nm 5), (.nm 6)]) (.var 0)), (.par [7] [(.ite (.cmp .Eq (.var 3) (.cst (.str ("R" : Str)))) (.var 6) (.var 5))]), (.aug 2 .Add (.bin .Add (.bin .Mult (.var 4) (.bin .Add (.var 5) (.var 6))) (.bin .Mult (.var 7) (.bin .FloorDiv (.bin .Mult (.var 4) (.bin .Add (.var 4) (.cst (.int 1)))) (.cst (.int 2)))))), (.par [0] [(.call 192 none [(.var 0), (.var 3), (.var 4)])])]), (.ret (.var 2))]⟩

def fd276 : Fd := ⟨false, 2, 7, [(.par [2] [(.call 140 none [(.var 0), (.var 1), (.cst (.int 20000))])]), .stop, (.for_ (.nm 5) (.seq (.var 2)) [(.par [6] [(.bin .Mult (.blt .sum [(.var 5)]) (.var 4))]), .stop]), .stop]⟩

def fd277 : Fd := ⟨false, 2, 7, [(.exp (.call 140 none [(.var 0), (.var 1), (.cst (.int 500))])), .stop, (.for_ (.tp [(.nm 4), (.nm 5), (.nm 6)]) (.seq (.call 231 none [(.var 0), (.var 1), (.cst .none)])) [(.ite (.not (.call 278 none [(.var 2), (.var 6), (.var 1), (.var 0)])) [(.app 3 (.tup [(.var 4), (.var 5)]))] [])]), (.ret (.var 3))]⟩

def fd278 : Fd := ⟨false, 4, 9, [(.par [4] [(.tup [(.var 1), (.var 3)])]), (.ite (.cmp .NotIn (.var 4) (.var 0)) [(.par [8] [(.comp (.call 278 none [(.var 0), (.var 7), (.var 2), (.var 1)]) (.tp [(.nm 5), (.nm 6), (.nm 7)]) (.seq (.call 231 none [(.var 1), (.var 2), (.var 3)])) none)]), (.put 0 (.var 4) (.not (.blt .all [(.var 8)])))] []), (.ret (.sub (.var 0) (.var 4)))]⟩

def fd279 : Fd := ⟨false, 3, 7, [(.par [3] [(.call 150 none [(.var 0), (.var 1), (.var 2)])]), (.ite (.cmp .Is (.var 3) (.cst .none)) [(.ret (.cst (.int 0)))] []), (.asg (.tp [(.nm 4), (.nm 5)]) (.call 13 none [(.var 0), (.var 1)])), (.par [6] [(.ite (.cmp .LtE (.var 3) (.var 4)) (.call 55 none [(.var 3), (.var 5)]) (.cst (.int 0)))]), (.aug 6 .Add (.ite (.cmp .LtE (.var 3) (.var 5)) (.call 55 none [(.var 3), (.var 4)]) (.cst (.int 0)))), (.ret (.bin .Sub (.var 6) (.ite (.cmp .Eq (.var 3) (.cst (.int 1))) (.cst (.int 1)) (.cst (.int 0)))))]⟩

def fd280 : Fd := ⟨false, 3, 8, [(.par [3] [(.call 150 none [(.var 0), (.var 1), (.var 2)])]), (.ite (.or (.cmp .Is (.var 3) (.cst .none)) (.cmp .Lt (.var 3) (.cst (.int 2)))) [(.ret (.cst (.int 0)))] []), (.asg (.tp [(.nm 4), (.nm 5)]) (.call 13 none [(.var 0), (.var 1)])), (.par [6, 7] [(.blt .min [(.var 4), (.bin .Sub (.var 3) (.cst (.int 1)))]), (.blt .max [(.cst (.int 1)), (.bin .Sub (.var 3) (.var 5))])]), (.ret (.ite (.cmp .LtE (.var 7) (.var 6)) (.bin .Sub (.call 55 none [(.var 3), (.var 6)]) (.call 55 none [(.var 3), (.bin .Sub (.var 7) (.cst (.int 1)))])) (.cst (.int 0))))]⟩

def fd281 : Fd := ⟨false, 1, 3, [(.ret (.mt .join (.cst (.str ("" : Str))) [(.comp (.bin .Mult (.var 1) (.var 2)) (.tp [(.nm 1), (.nm 2)]) (.seq (.call 219 none [(.var 0)])) none)]))]⟩

def fd282 : Fd := ⟨false, 4, 17, [(.par [4, 5] [(.call 40 none [(.var 1)]), (.call 40 none [(.call 63 none [(.var 0), (.var 1)])])]), .stop, (.for_ (.nm 7) (.rng [(.var 2)]) [.stop, .stop, (.par [6] [(.var 8)])]), .stop]⟩

def fd283 : Fd := ⟨false, 1, 2, [(.exp (.call 152 none [(.var 0)])), .stop]⟩

def fd284 : Fd := ⟨false, 1, 3, [(.exp (.call 149 none [(.var 0)])), .stop]⟩

def fd300 : Fd := ⟨true, 2, 4, [(.ite (.cmp .Gt (.sub (.var 0) (.cst (.int 3))) (.cst (.int 0))) [(.par [2] [(.bin .Mod (.blt .int [(.sub (.var 0) (.cst (.int 3)))]) (.var 1))]), (.put 0 (.cst (.int 3)) (.bin .FloorDiv (.sub (.var 0) (.cst (.int 3))) (.var 1))), (.ret (.var 2))] []), (.put 0 (.cst (.int 1)) (.bin .Add (.sub (.var 0) (.cst (.int 1))) (.cst (.int 1)))), (.ite (.cmp .Gt (.sub (.var 0) (.cst (.int 1))) (.blt .len [(.sub (.var 0) (.cst (.int 0)))])) [(.put 0 (.cst (.int 2)) (.bin .Mod (.blt .int [(.bin .Add (.bin .Mult (.sub (.var 0) (.cst (.int 2))) (.cst (.int 48271))) (.cst (.int 11)))]) (.cst (.int 2147483647)))), (.ret (.bin .Mod (.blt .int [(.bin .FloorDiv (.sub (.var 0) (.cst (.int 2))) (.cst (.int 7)))]) (.var 1)))] []), (.par [3] [(.sub (.sub (.var 0) (.cst (.int 0))) (.bin .Sub (.sub (.var 0) (.cst (.int 1))) (.cst (.int 1))))]), (.put 0 (.cst (.int 2)) (.bin .Mod (.blt .int [(.bin .Add (.bin .Add (.bin .Mult (.sub (.var 0) (.cst (.int 2))) (.cst (.int 48271))) (.var 3)) (.cst (.int 11)))]) (.cst (.int 2147483647)))), (.ite (.cmp .GtE (.var 3) (.bin .Pow (.cst (.int 10)) (.cst (.int 18)))) [(.put 0 (.cst (.int 3)) (.bin .FloorDiv (.var 3) (.var 1)))] []), (.ret (.bin .Mod (.blt .int [(.var 3)]) (.var 1)))]⟩

def fd301 : Fd := ⟨true, 2, 2, [(.ret (.sub (.var 1) (.call 300 (some 0) [(.blt .len [(.var 1)])])))]⟩

def fd302 : Fd := ⟨false, 2, 3, [(.ite (.isa (.var 1) [.tuple, .list]) [(.ite (.or (.not (.isa (.var 0) [.tuple, .list])) (.cmp .NotEq (.isa (.var 0) [.list]) (.isa (.var 1) [.list]))) [(.ret (.cst (.bool false)))] []), (.ite (.cmp .NotEq (.blt .len [(.var 0)]) (.blt .len [(.var 1)])) [(.ret (.cst (.bool false)))] []), (.ret (.cmp .Eq (.comp (.var 2) (.nm 2) (.rng [(.blt .len [(.var 1)])]) (some (.not (.call 302 none [(.sub (.var 0) (.var 2)), (.sub (.var 1) (.var 2))])))) (.lst [])))] []), (.ite (.or (.cmp .Is (.var 1) (.cst .none)) (.isa (.var 1) [.str])) [(.ret (.and (.cmp .Eq (.var 0) (.var 1)) (.cmp .Eq (.isa (.var 0) [.str]) (.isa (.var 1) [.str]))))] []), (.ret (.and (.isa (.var 0) [.int]) (.and (.cmp .Eq (.isa (.var 0) [.bool]) (.isa (.var 1) [.bool])) (.cmp .Eq (.var 0) (.var 1)))))]⟩

def fd303 : Fd := ⟨true, 2, 7, [(.par [2, 3] [(.bin .Sub (.call 300 (some 0) [(.cst (.int 41))]) (.cst (.int 20))), (.call 301 (some 0) [(.lst [(.cst (.int 1)), (.cst (.int 1)), (.cst (.int 2)), (.cst (.int 3)), (.cst (.int 10))])])]), (.par [4] [(.call 301 (some 0) [(.lst [(.tup [(.cst (.int 0)), (.cst (.int 1)), (.cst (.int 2))]), (.tup [(.cst (.int 0)), (.cst (.int 2)), (.cst (.int 1))]), (.tup [(.cst (.int 1)), (.cst (.int 0)), (.cst (.int 2))]), (.tup [(.cst (.int 1)), (.cst (.int 2)), (.cst (.int 0))]), (.tup [(.cst (.int 2)), (.cst (.int 0)), (.cst (.int 1))]), (.tup [(.cst (.int 2)), (.cst (.int 1)), (.cst (.int 0))])])])]), (.par [5] [(.lst [(.cst (.int 0)), (.cst (.int 0)), (.cst (.int 0))])]), (.for_ (.nm 6) (.rng [(.cst (.int 3))]) [(.put 5 (.sub (.var 4) (.var 6)) (.bin .Add (.var 2) (.bin .Mult (.bin .Sub (.var 6) (.cst (.int 1))) (.var 3))))]), (.ret (.call 304 (some 0) [(.blt .tuple [(.var 5)]), (.var 1)]))]⟩

def fd304 : Fd := ⟨true, 3, 7, [(.for_ (.nm 3) (.rng [(.call 300 (some 0) [(.bin .Add (.var 2) (.cst (.int 1)))])]) [(.asg (.tp [(.nm 4), (.nm 5), (.nm 6)]) (.call 305 none [(.var 1)])), (.par [1] [(.call 306 none [(.var 1), (.var 5), (.call 301 (some 0) [(.lst [(.var 4), (.var 6)])])])])]), (.ret (.var 1))]⟩

def fd305 : Fd := ⟨false, 1, 3, [(.ret (.comp (.var 2) (.tp [(.nm 1), (.nm 2)]) (.seq (.blt .sorted [(.comp (.tup [(.sub (.var 0) (.var 2)), (.var 2)]) (.nm 2) (.seq (.lst [(.cst (.int 0)), (.cst (.int 1)), (.cst (.int 2))])) none)])) none))]⟩

def fd306 : Fd := ⟨false, 3, 4, [(.par [3] [(.blt .list [(.var 0)])]), (.put 3 (.var 1) (.bin .Sub (.bin .Mult (.cst (.int 2)) (.sub (.var 0) (.var 2))) (.sub (.var 0) (.var 1)))), (.ret (.blt .tuple [(.var 3)]))]⟩

def fd307 : Fd := ⟨false, 1, 8, [(.par [1] [(.lst [])]), (.for_ (.nm 2) (.seq (.lst [(.cst (.int 0)), (.cst (.int 1)), (.cst (.int 2))])) [(.for_ (.nm 3) (.seq (.lst [(.cst (.int 0)), (.cst (.int 1)), (.cst (.int 2))])) [(.ite (.cmp .NotEq (.var 3) (.var 2)) [(.par [4, 5] [(.bin .Sub (.bin .Sub (.cst (.int 3)) (.var 2)) (.var 3)), (.bin .Sub (.bin .Mult (.cst (.int 2)) (.sub (.var 0) (.var 3))) (.sub (.var 0) (.var 2)))]), (.par [6, 7] [(.blt .min [(.var 5), (.sub (.var 0) (.var 2))]), (.blt .max [(.var 5), (.sub (.var 0) (.var 2))])]), (.ite (.not (.cmp2 .LtE .LtE (.var 6) (.sub (.var 0) (.var 4)) (.var 7))) [(.app 1 (.tup [(.var 2), (.var 3)]))] [])] [])])]), (.ret (.var 1))]⟩

def fd308 : Fd := ⟨false, 2, 2, [(.par [0, 1] [(.blt .abs [(.var 0)]), (.blt .abs [(.var 1)])]), (.whl (.cmp .NotEq (.var 1) (.cst (.int 0))) [(.par [0, 1] [(.var 1), (.bin .Mod (.var 0) (.var 1))])]), (.ret (.var 0))]⟩

def fd309 : Fd := ⟨false, 1, 6, [(.asg (.tp [(.nm 1), (.nm 2), (.nm 3)]) (.blt .sorted [(.var 0)])), (.par [4, 5] [(.call 308 none [(.bin .Sub (.var 2) (.var 1)), (.bin .Sub (.var 3) (.var 2))]), (.bin .Sub (.bin .Add (.var 1) (.var 3)) (.var 2))]), (.ret (.tup [(.var 5), (.var 4), (.tup [(.bin .FloorDiv (.bin .Sub (.var 3) (.var 5)) (.var 4)), (.bin .FloorDiv (.bin .Sub (.var 5) (.var 1)) (.var 4))])]))]⟩

def fd310 : Fd := ⟨false, 1, 1, [.stop, (.ret (.cst (.str ("" : Str))))]⟩

def fd311 : Fd := ⟨false, 1, 6, [(.asg (.tp [(.nm 1), (.nm 2), (.nm 3)]) (.call 305 none [(.var 0)])), (.par [4, 5] [(.bin .Sub (.sub (.var 0) (.var 2)) (.sub (.var 0) (.var 1))), (.bin .Sub (.sub (.var 0) (.var 3)) (.sub (.var 0) (.var 2)))]), (.ite (.cmp .Eq (.var 4) (.var 5)) [(.ret (.cst .none))] []), (.ret (.ite (.cmp .Lt (.var 4) (.var 5)) (.call 306 none [(.var 0), (.var 1), (.var 2)]) (.call 306 none [(.var 0), (.var 3), (.var 2)])))]⟩

def fd312 : Fd := ⟨false, 1, 2, [(.par [1] [(.lst [(.var 0)])]), (.whl (.cmp .IsNot (.call 311 none [(.sub (.var 1) (.neg (.cst (.int 1))))]) (.cst .none)) [(.app 1 (.call 311 none [(.sub (.var 1) (.neg (.cst (.int 1))))]))]), (.ret (.rev (.var 1)))]⟩

def fd313 : Fd := ⟨false, 1, 5, [(.par [1, 2] [(.call 312 none [(.var 0)]), (.cst (.str ("" : Str)))]), (.for_ (.tp [(.nm 3), (.nm 4)]) (.zip (.var 1) (.cut (.var 1) (some (.cst (.int 1))) none)) [(.par [2] [(.bin .Add (.var 2) (.ite (.cmp .Eq (.blt .max [(.var 3)]) (.blt .max [(.var 4)])) (.cst (.str ("L" : Str))) (.cst (.str ("R" : Str)))))])]), (.ret (.var 2))]⟩

def fd314 : Fd := ⟨false, 1, 3, [(.par [1] [(.lst [])]), (.for_ (.nm 2) (.seq (.var 0)) [(.ite (.and (.cmp .NotEq (.var 1) (.lst [])) (.cmp .Eq (.sub (.sub (.var 1) (.neg (.cst (.int 1)))) (.cst (.int 0))) (.var 2))) [(.put 1 (.neg (.cst (.int 1))) (.tup [(.var 2), (.bin .Add (.sub (.sub (.var 1) (.neg (.cst (.int 1)))) (.cst (.int 1))) (.cst (.int 1)))]))] [(.app 1 (.tup [(.var 2), (.cst (.int 1))]))])]), (.ret (.blt .tuple [(.var 1)]))]⟩

def fd315 : Fd := ⟨true, 1, 10, [(.par [1, 2] [(.bin .Sub (.call 300 (some 0) [(.bin .Pow (.cst (.int 10)) (.cst (.int 6)))]) (.cst (.int 500000))), (.call 301 (some 0) [(.lst [(.cst (.int 1)), (.cst (.int 1)), (.cst (.int 7)), (.cst (.int 1000))])])]), (.par [3, 4] [(.bin .Add (.cst (.int 1)) (.call 300 (some 0) [(.bin .Pow (.cst (.int 10)) (.cst (.int 7)))])), (.bin .Add (.cst (.int 1)) (.call 300 (some 0) [(.bin .Pow (.cst (.int 10)) (.cst (.int 7)))]))]), (.par [5] [(.call 308 none [(.var 3), (.var 4)])]), (.par [3, 4] [(.bin .FloorDiv (.var 3) (.var 5)), (.bin .FloorDiv (.var 4) (.var 5))]), (.par [6] [(.lst [(.bin .Sub (.var 1) (.bin .Mult (.var 2) (.var 4))), (.bin .Add (.var 1) (.bin .Mult (.var 2) (.bin .Sub (.var 3) (.var 4)))), (.bin .Add (.var 1) (.bin .Mult (.var 2) (.var 3)))])]), (.par [7] [(.call 301 (some 0) [(.lst [(.tup [(.cst (.int 0)), (.cst (.int 1)), (.cst (.int 2))]), (.tup [(.cst (.int 0)), (.cst (.int 2)), (.cst (.int 1))]), (.tup [(.cst (.int 1)), (.cst (.int 0)), (.cst (.int 2))]), (.tup [(.cst (.int 1)), (.cst (.int 2)), (.cst (.int 0))]), (.tup [(.cst (.int 2)), (.cst (.int 0)), (.cst (.int 1))]), (.tup [(.cst (.int 2)), (.cst (.int 1)), (.cst (.int 0))])])])]), (.par [8] [(.lst [(.cst (.int 0)), (.cst (.int 0)), (.cst (.int 0))])]), (.for_ (.nm 9) (.rng [(.cst (.int 3))]) [(.put 8 (.sub (.var 7) (.var 9)) (.sub (.var 6) (.var 9)))]), (.ret (.blt .tuple [(.var 8)]))]⟩

def fd316 : Fd := ⟨true, 3, 4, [(.par [3] [(.call 312 none [(.var 1)])]), (.ret (.call 304 (some 0) [(.call 301 (some 0) [(.var 3)]), (.var 2)]))]⟩

def fd317 : Fd := ⟨false, 2, 6, [(.for_ (.nm 2) (.seq (.var 1)) [(.asg (.tp [(.nm 3), (.nm 4), (.nm 5)]) (.call 305 none [(.var 0)])), (.par [0] [(.call 306 none [(.var 0), (.var 4), (.ite (.cmp .Eq (.var 2) (.cst (.str ("L" : Str)))) (.var 3) (.var 5))])])]), (.ret (.var 0))]⟩

def fd318 : Fd := ⟨false, 1, 2, [(.ret (.cmp .Eq (.comp (.var 1) (.nm 1) (.seq (.var 0)) (some (.or (.not (.isa (.var 1) [.int])) (.isa (.var 1) [.bool])))) (.lst [])))]⟩

def fd319 : Fd := ⟨false, 2, 7, [(.par [2, 3] [(.call 312 none [(.var 0)]), (.call 312 none [(.var 1)])]), (.par [6] [(.blt .len [(.comp (.cst (.int 1)) (.tp [(.nm 4), (.nm 5)]) (.zip (.var 2) (.var 3)) (some (.cmp .Eq (.var 4) (.var 5))))])]), (.ret (.bin .Add (.rev (.cut (.var 2) (some (.bin .Sub (.var 6) (.cst (.int 1)))) none)) (.cut (.var 3) (some (.var 6)) none)))]⟩

def fd320 : Fd := ⟨false, 2, 3, [(.ret (.sub (.comp (.var 2) (.nm 2) (.seq (.lst [(.cst (.int 0)), (.cst (.int 1)), (.cst (.int 2))])) (some (.cmp .NotEq (.sub (.var 0) (.var 2)) (.sub (.var 1) (.var 2))))) (.cst (.int 0))))]⟩

def fd321 : Fd := ⟨false, 1, 5, [(.par [3] [(.comp (.call 320 none [(.var 1), (.var 2)]) (.tp [(.nm 1), (.nm 2)]) (.zip (.var 0) (.cut (.var 0) (some (.cst (.int 1))) none)) none)]), (.ret (.blt .tuple [(.comp (.mt .count (.var 3) [(.var 4)]) (.nm 4) (.seq (.lst [(.cst (.int 0)), (.cst (.int 1)), (.cst (.int 2))])) none)]))]⟩

def fd322 : Fd := ⟨false, 1, 5, [(.par [1] [(.lst [])]), (.for_ (.tp [(.nm 2), (.nm 3)]) (.zip (.var 0) (.cut (.var 0) (some (.cst (.int 1))) none)) [(.par [1] [(.bin .Add (.var 1) (.comp (.var 4) (.nm 4) (.seq (.call 307 none [(.var 2)])) (some (.cmp .Eq (.call 306 none [(.var 2), (.sub (.var 4) (.cst (.int 0))), (.sub (.var 4) (.cst (.int 1)))]) (.var 3)))))])]), (.ret (.var 1))]⟩

def fd323 : Fd := ⟨false, 2, 2, [(.ret (.bin .Sub (.blt .len [(.call 319 none [(.var 0), (.var 1)])]) (.cst (.int 1))))]⟩

def fd324 : Fd := ⟨false, 1, 6, [(.par [1] [(.lst [(.tup [(.cst (.int 0))])])]), (.for_ (.nm 2) (.rng [(.bin .Sub (.var 0) (.cst (.int 1)))]) [(.par [3] [(.lst [])]), (.for_ (.nm 4) (.seq (.var 1)) [(.par [3] [(.bin .Add (.var 3) (.comp (.bin .Add (.var 4) (.tup [(.var 5)])) (.nm 5) (.rng [(.var 0)]) (some (.cmp .NotIn (.var 5) (.var 4)))))])]), (.par [1] [(.var 3)])]), (.ret (.var 1))]⟩

def fd325 : Fd := ⟨true, 2, 5, [(.par [2, 3] [(.call 301 (some 0) [(.cst (.str ("LR" : Str)))]), (.lst [])]), (.for_ (.nm 4) (.rng [(.bin .Add (.cst (.int 1)) (.call 300 (some 0) [(.cst (.int 3))]))]) [(.app 3 (.tup [(.var 2), (.bin .Add (.cst (.int 1)) (.call 300 (some 0) [(.cst (.int 5000))]))])), (.par [2] [(.ite (.cmp .Eq (.var 2) (.cst (.str ("L" : Str)))) (.cst (.str ("R" : Str))) (.cst (.str ("L" : Str))))])]), (.ret (.call 0 none [(.var 1), (.blt .tuple [(.var 3)])]))]⟩

def fd326 : Fd := ⟨false, 2, 9, [(.par [2] [(.lst [(.var 0)])]), (.for_ (.nm 3) (.rng [(.var 1)]) [(.par [4] [(.lst [])]), (.for_ (.nm 5) (.seq (.var 2)) [(.asg (.tp [(.nm 6), (.nm 7), (.nm 8)]) (.call 305 none [(.var 5)])), (.par [4] [(.bin .Add (.var 4) (.lst [(.call 306 none [(.var 5), (.var 7), (.var 6)]), (.call 306 none [(.var 5), (.var 7), (.var 8)])]))])]), (.par [2] [(.var 4)])]), (.ret (.var 2))]⟩

def fd327 : Fd := ⟨false, 2, 5, [(.par [2, 3] [(.lst [(.sub (.call 312 none [(.var 0)]) (.cst (.int 0)))]), (.cst (.int 0))]), (.whl (.cmp .Lt (.var 3) (.blt .len [(.var 2)])) [(.for_ (.nm 4) (.seq (.call 326 none [(.sub (.var 2) (.var 3)), (.cst (.int 1))])) [(.ite (.and (.cmp .LtE (.sub (.var 1) (.cst (.int 0))) (.blt .min [(.var 4)])) (.cmp .LtE (.blt .max [(.var 4)]) (.sub (.var 1) (.cst (.int 1))))) [(.app 2 (.var 4))] [])]), (.par [3] [(.bin .Add (.var 3) (.cst (.int 1)))])]), (.ret (.var 2))]⟩

def fd328 : Fd := ⟨true, 3, 3, [(.ret (.tup [(.bin .Sub (.blt .min [(.var 1)]) (.call 300 (some 0) [(.bin .Add (.var 2) (.cst (.int 1)))])), (.bin .Add (.blt .max [(.var 1)]) (.call 300 (some 0) [(.bin .Add (.var 2) (.cst (.int 1)))]))]))]⟩

def fd329 : Fd := ⟨false, 1, 3, [(.par [1] [(.cst (.int 1))]), (.for_ (.nm 2) (.rng [(.var 0)]) [(.par [1] [(.bin .Mult (.cst (.int 3)) (.var 1))])]), (.ret (.var 1))]⟩

def fd330 : Fd := ⟨false, 2, 3, [(.par [2] [(.call 308 none [(.var 0), (.var 1)])]), (.ret (.tup [(.bin .FloorDiv (.var 0) (.var 2)), (.bin .FloorDiv (.var 1) (.var 2))]))]⟩

def fd331 : Fd := ⟨false, 2, 2, [(.ret (.call 330 none [(.bin .Add (.bin .Mult (.sub (.var 0) (.cst (.int 0))) (.sub (.var 1) (.cst (.int 1)))) (.bin .Mult (.sub (.var 1) (.cst (.int 0))) (.sub (.var 0) (.cst (.int 1))))), (.bin .Mult (.sub (.var 0) (.cst (.int 1))) (.sub (.var 1) (.cst (.int 1))))]))]⟩

def fd332 : Fd := ⟨false, 3, 6, [(.for_ (.tp [(.nm 3), (.nm 4)]) (.seq (.call 307 none [(.var 0)])) [(.par [5] [(.call 306 none [(.var 0), (.var 3), (.var 4)])]), (.ite (.and (.cmp .NotEq (.var 5) (.var 2)) (.and (.cmp .LtE (.sub (.var 1) (.cst (.int 0))) (.blt .min [(.var 5)])) (.cmp .LtE (.blt .max [(.var 5)]) (.sub (.var 1) (.cst (.int 1)))))) [(.ite (.not (.call 332 none [(.var 5), (.var 1), (.var 0)])) [(.ret (.cst (.bool true)))] [])] [])]), (.ret (.cst (.bool false)))]⟩

def fd333 : Fd := ⟨false, 5, 8, [(.for_ (.tp [(.nm 5), (.nm 6)]) (.seq (.call 307 none [(.var 0)])) [(.par [7] [(.call 306 none [(.var 0), (.var 5), (.var 6)])]), (.ite (.and (.cmp .Eq (.sub (.var 2) (.var 5)) (.var 3)) (.and (.cmp .NotEq (.var 7) (.var 4)) (.and (.cmp .LtE (.sub (.var 1) (.cst (.int 0))) (.blt .min [(.var 7)])) (.cmp .LtE (.blt .max [(.var 7)]) (.sub (.var 1) (.cst (.int 1))))))) [(.ite (.not (.call 333 none [(.var 7), (.var 1), (.var 2), (.bin .Sub (.cst (.int 1)) (.var 3)), (.var 0)])) [(.ret (.cst (.bool true)))] [])] [])]), (.ret (.cst (.bool false)))]⟩

def fd334 : Fd := ⟨false, 4, 11, [(.par [4] [(.lst [])]), (.for_ (.tp [(.nm 5), (.nm 6)]) (.seq (.call 307 none [(.var 0)])) [(.par [7] [(.call 306 none [(.var 0), (.var 5), (.var 6)])]), (.ite (.and (.cmp .NotEq (.var 7) (.var 3)) (.and (.cmp .LtE (.sub (.var 1) (.cst (.int 0))) (.blt .min [(.var 7)])) (.cmp .LtE (.blt .max [(.var 7)]) (.sub (.var 1) (.cst (.int 1)))))) [(.asg (.tp [(.nm 8), (.nm 9), (.nm 10)]) (.call 334 none [(.var 7), (.var 1), (.var 2), (.var 0)])), (.app 4 (.tup [(.bin .Add (.cst (.int 1)) (.var 8)), (.var 9), (.bin .Sub (.sub (.var 2) (.var 5)) (.var 10))]))] [])]), (.ite (.cmp .Eq (.var 4) (.lst [])) [(.ret (.tup [(.cst (.int 0)), (.cst (.int 1)), (.cst (.int 0))]))] []), (.ret (.tup [(.blt .max [(.comp (.var 8) (.tp [(.nm 8), (.nm 9), (.nm 10)]) (.seq (.var 4)) none)]), (.blt .sum [(.comp (.var 9) (.tp [(.nm 8), (.nm 9), (.nm 10)]) (.seq (.var 4)) none)]), (.blt .max [(.comp (.var 10) (.tp [(.nm 8), (.nm 9), (.nm 10)]) (.seq (.var 4)) none)])]))]⟩

def fd335 : Fd := ⟨false, 1, 2, [(.ret (.mt .join (.cst (.str ("" : Str))) [(.comp (.ite (.cmp .Eq (.var 1) (.cst (.str ("L" : Str)))) (.cst (.str ("R" : Str))) (.cst (.str ("L" : Str)))) (.nm 1) (.seq (.var 0)) none)]))]⟩

def fd336 : Fd := ⟨false, 2, 4, [(.par [2] [(.lst [(.cst (.int 0)), (.cst (.int 0)), (.cst (.int 0))])]), (.for_ (.nm 3) (.seq (.lst [(.cst (.int 0)), (.cst (.int 1)), (.cst (.int 2))])) [(.put 2 (.sub (.var 1) (.var 3)) (.sub (.var 0) (.var 3)))]), (.ret (.blt .tuple [(.var 2)]))]⟩

def fd337 : Fd := ⟨false, 2, 4, [(.ret (.cmp .Eq (.comp (.cst (.int 1)) (.tp [(.nm 2), (.nm 3)]) (.zip (.var 0) (.var 1)) (some (.cmp .Gt (.var 2) (.var 3)))) (.lst [])))]⟩

def GT (lw : Fd) : Tab := fun i => match i with
  | 0 => some fd0
  | 1 => some fd1
  | 2 => some fd2
  | 3 => some fd3
  | 4 => some fd4
  | 5 => some fd5
  | 6 => some fd6
  | 7 => some fd7
  | 8 => some fd8
  | 9 => some fd9
  | 10 => some fd10
  | 11 => some fd11
  | 12 => some fd12
  | 13 => some fd13
  | 14 => some fd14
  | 15 => some fd15
  | 16 => some fd16
  | 17 => some fd17
  | 18 => some fd18
  | 19 => some fd19
  | 20 => some fd20
  | 21 => some fd21
  | 22 => some fd22
  | 23 => some fd23
  | 24 => some fd24
  | 25 => some fd25
  | 26 => some fd26
  | 27 => some fd27
  | 28 => some fd28
  | 29 => some fd29
  | 30 => some fd30
  | 31 => some fd31
  | 32 => some fd32
  | 33 => some fd33
  | 34 => some fd34
  | 35 => some fd35
  | 36 => some fd36
  | 37 => some fd37
  | 38 => some fd38
  | 39 => some fd39
  | 40 => some fd40
  | 41 => some fd41
  | 42 => some fd42
  | 43 => some fd43
  | 44 => some fd44
  | 45 => some fd45
  | 46 => some fd46
  | 47 => some fd47
  | 48 => some fd48
  | 49 => some fd49
  | 50 => some fd50
  | 51 => some fd51
  | 52 => some fd52
  | 53 => some fd53
  | 54 => some fd54
  | 55 => some fd55
  | 56 => some fd56
  | 57 => some fd57
  | 58 => some fd58
  | 59 => some fd59
  | 60 => some fd60
  | 61 => some fd61
  | 62 => some fd62
  | 63 => some fd63
  | 64 => some fd64
  | 65 => some fd65
  | 66 => some fd66
  | 67 => some fd67
  | 68 => some fd68
  | 69 => some fd69
  | 70 => some fd70
  | 71 => some fd71
  | 72 => some fd72
  | 73 => some fd73
  | 74 => some fd74
  | 75 => some fd75
  | 76 => some fd76
  | 77 => some fd77
  | 78 => some fd78
  | 79 => some fd79
  | 80 => some fd80
  | 81 => some fd81
  | 82 => some fd82
  | 83 => some fd83
  | 84 => some fd84
  | 85 => some fd85
  | 86 => some fd86
  | 87 => some fd87
  | 88 => some fd88
  | 89 => some fd89
  | 90 => some fd90
  | 91 => some fd91
  | 92 => some fd92
  | 93 => some fd93
  | 94 => some fd94
  | 95 => some fd95
  | 96 => some fd96
  | 97 => some fd97
  | 98 => some fd98
  | 99 => some fd99
  | 100 => some fd100
  | 101 => some fd101
  | 102 => some fd102
  | 103 => some fd103
  | 104 => some fd104
  | 105 => some fd105
  | 106 => some fd106
  | 107 => some fd107
  | 108 => some fd108
  | 109 => some fd109
  | 110 => some fd110
  | 111 => some fd111
  | 112 => some fd112
  | 113 => some fd113
  | 114 => some fd114
  | 115 => some fd115
  | 116 => some fd116
  | 117 => some fd117
  | 118 => some fd118
  | 119 => some fd119
  | 120 => some fd120
  | 121 => some fd121
  | 122 => some fd122
  | 123 => some fd123
  | 124 => some fd124
  | 125 => some fd125
  | 126 => some fd126
  | 127 => some fd127
  | 128 => some fd128
  | 129 => some fd129
  | 130 => some fd130
  | 131 => some fd131
  | 132 => some fd132
  | 133 => some fd133
  | 134 => some fd134
  | 135 => some fd135
  | 136 => some fd136
  | 137 => some fd137
  | 138 => some fd138
  | 139 => some fd139
  | 140 => some fd140
  | 141 => some fd141
  | 142 => some fd142
  | 143 => some fd143
  | 144 => some fd144
  | 145 => some fd145
  | 146 => some fd146
  | 147 => some fd147
  | 148 => some fd148
  | 149 => some fd149
  | 150 => some fd150
  | 151 => some fd151
  | 152 => some fd152
  | 153 => some fd153
  | 154 => some fd154
  | 155 => some fd155
  | 156 => some fd156
  | 157 => some fd157
  | 158 => some fd158
  | 159 => some fd159
  | 160 => some fd160
  | 161 => some fd161
  | 162 => some fd162
  | 163 => some fd163
  | 164 => some fd164
  | 165 => some fd165
  | 166 => some fd166
  | 167 => some fd167
  | 168 => some fd168
  | 169 => some fd169
  | 170 => some fd170
  | 171 => some fd171
  | 172 => some fd172
  | 173 => some fd173
  | 174 => some fd174
  | 175 => some fd175
  | 176 => some fd176
  | 177 => some fd177
  | 178 => some fd178
  | 179 => some fd179
  | 180 => some fd180
  | 181 => some fd181
  | 182 => some fd182
  | 183 => some fd183
  | 184 => some fd184
  | 185 => some fd185
  | 186 => some fd186
  | 187 => some fd187
  | 188 => some fd188
  | 189 => some fd189
  | 190 => some fd190
  | 191 => some fd191
  | 192 => some fd192
  | 193 => some fd193
  | 194 => some fd194
  | 195 => some fd195
  | 196 => some fd196
  | 197 => some fd197
  | 198 => some fd198
  | 199 => some fd199
  | 200 => some fd200
  | 201 => some fd201
  | 202 => some fd202
  | 203 => some fd203
  | 204 => some fd204
  | 205 => some fd205
  | 206 => some fd206
  | 207 => some fd207
  | 208 => some fd208
  | 209 => some fd209
  | 210 => some fd210
  | 211 => some fd211
  | 212 => some fd212
  | 213 => some fd213
  | 214 => some fd214
  | 215 => some fd215
  | 216 => some fd216
  | 217 => some fd217
  | 218 => some fd218
  | 219 => some fd219
  | 220 => some fd220
  | 221 => some fd221
  | 222 => some fd222
  | 223 => some fd223
  | 224 => some fd224
  | 225 => some fd225
  | 226 => some fd226
  | 227 => some fd227
  | 228 => some fd228
  | 229 => some fd229
  | 230 => some fd230
  | 231 => some fd231
  | 232 => some fd232
  | 233 => some fd233
  | 234 => some fd234
  | 235 => some fd235
  | 236 => some fd236
  | 237 => some fd237
  | 238 => some fd238
  | 239 => some fd239
  | 240 => some fd240
  | 241 => some fd241
  | 242 => some fd242
  | 243 => some fd243
  | 244 => some fd244
  | 245 => some fd245
  | 246 => some fd246
  | 247 => some fd247
  | 248 => some fd248
  | 249 => some fd249
  | 250 => some fd250
  | 251 => some fd251
  | 252 => some fd252
  | 253 => some fd253
  | 254 => some fd254
  | 255 => some fd255
  | 256 => some fd256
  | 257 => some fd257
  | 258 => some fd258
  | 259 => some fd259
  | 260 => some fd260
  | 261 => some fd261
  | 262 => some fd262
  | 263 => some fd263
  | 264 => some fd264
  | 265 => some fd265
  | 266 => some fd266
  | 267 => some fd267
  | 268 => some fd268
  | 269 => some fd269
  | 270 => some fd270
  | 271 => some fd271
  | 272 => some fd272
  | 273 => some fd273
  | 274 => some fd274
  | 275 => some fd275
  | 276 => some fd276
  | 277 => some fd277
  | 278 => some fd278
  | 279 => some fd279
  | 280 => some fd280
  | 281 => some fd281
  | 282 => some fd282
  | 283 => some fd283
  | 284 => some fd284
  | 300 => some fd300
  | 301 => some fd301
  | 302 => some fd302
  | 303 => some fd303
  | 304 => some fd304
  | 305 => some fd305
  | 306 => some fd306
  | 307 => some fd307
  | 308 => some fd308
  | 309 => some fd309
  | 310 => some fd310
  | 311 => some fd311
  | 312 => some fd312
  | 313 => some fd313
  | 314 => some fd314
  | 315 => some fd315
  | 316 => some fd316
  | 317 => some fd317
  | 318 => some fd318
  | 319 => some fd319
  | 320 => some fd320
  | 321 => some fd321
  | 322 => some fd322
  | 323 => some fd323
  | 324 => some fd324
  | 325 => some fd325
  | 326 => some fd326
  | 327 => some fd327
  | 328 => some fd328
  | 329 => some fd329
  | 330 => some fd330
  | 331 => some fd331
  | 332 => some fd332
  | 333 => some fd333
  | 334 => some fd334
  | 335 => some fd335
  | 336 => some fd336
  | 337 => some fd337
  | 999 => some lw
  | _ => none
end Lp
set_option autoImplicit false
set_option linter.all false
set_option maxRecDepth 100000
set_option maxHeartbeats 1000000
namespace Lp
open PySem
variable {lw : Fd}
theorem call_eq {T : Tab} {n f : Nat} {c : Option D} {ds : List D} {fd : Fd} (h : T f = some fd) : callF T (n + 1) f c ds = runF (callF T n) fd c ds := by
  rw [callF]
  simp only [h]
/-! ### plumbing -/
class Kn (A B : Type) where
  f : A → B
def bnd {A B : Type} (x : R A) [k : Kn A (R B)] : R B := Except.bind x k.f
def mpd {A B : Type} (x : R A) [k : Kn A B] : R B := Except.map k.f x
@[simp↓] theorem bind_cg {A B : Type} (x : R A) (f : A → R B) : Except.bind x f = @bnd A B x ⟨f⟩ := rfl
@[simp↓] theorem map_cg {A B : Type} (x : R A) (f : A → B) : Except.map f x = @mpd A B x ⟨f⟩ := rfl
@[simp] theorem bnd_ok {A B : Type} (a : A) (f : A → R B) : @bnd A B (Except.ok a : R A) ⟨f⟩ = f a := rfl
@[simp] theorem mpd_ok {A B : Type} (a : A) (f : A → B) : @mpd A B (Except.ok a : R A) ⟨f⟩ = .ok (f a) := rfl
@[simp] theorem bnd_bad {A B : Type} (f : A → R B) : @bnd A B (bad : R A) ⟨f⟩ = bad := rfl
@[simp] theorem mpd_bad {A B : Type} (f : A → B) : @mpd A B (bad : R A) ⟨f⟩ = bad := rfl
@[simp] theorem gd_true {A : Type} (x : R A) : gd true x = x := rfl
@[simp] theorem gd_false {A : Type} (x : R A) : gd false x = bad := rfl
theorem ok_bind {A B : Type} (a : A) (f : A → R B) : Except.bind (Except.ok a : R A) f = f a := rfl
theorem ok_map {A B : Type} (a : A) (f : A → B) : Except.map f (Except.ok a : R A) = .ok (f a) := rfl
@[simp] theorem ofO_some {A : Type} (a : A) : ofO (some a) = .ok a := rfl
@[simp] theorem at_0 (s : Sl) (v : En) : En.at (s :: v) 0 = s := rfl
@[simp] theorem at_s (s : Sl) (v : En) (i : Nat) : En.at (s :: v) (i + 1) = En.at v i := rfl
theorem setV_0 (s0 s : Sl) (v : En) : setV (s0 :: v) 0 s = if notIo s0 = true then .ok (s :: v) else bad := by
  unfold setV
  simp
  cases notIo s0 <;> rfl
@[simp] theorem setV_un (s : Sl) (v : En) : setV (.un :: v) 0 s = .ok (s :: v) := setV_0 _ _ _
@[simp] theorem setV_fz (d : D) (s : Sl) (v : En) : setV (.fz d :: v) 0 s = .ok (s :: v) := setV_0 _ _ _
@[simp] theorem setV_ow (d : D) (s : Sl) (v : En) : setV (.ow d :: v) 0 s = .ok (s :: v) := setV_0 _ _ _
@[simp] theorem setV_s (s0 s : Sl) (v : En) (i : Nat) : setV (s0 :: v) (i + 1) s = (setV v i s).map (s0 :: ·) := by
  unfold setV
  simp only [at_s, List.length_cons, Nat.add_lt_add_iff_right, List.set_cons_succ]
  cases (decide (i < v.length) && notIo (v.at i)) <;> rfl
@[simp] theorem putAt_ow (d d' : D) (v : En) : putAt (.ow d :: v) 0 d' = .ow d' :: v := rfl
@[simp] theorem putAt_io (d d' : D) (v : En) : putAt (.io d :: v) 0 d' = .io d' :: v := rfl
@[simp] theorem putAt_s (s : Sl) (v : En) (i : Nat) (d : D) : putAt (s :: v) (i + 1) d = s :: putAt v i d := by
  unfold putAt
  simp only [at_s, List.set_cons_succ]
  cases v.at i <;> rfl
theorem getV_def (v : En) (i : Nat) : getV v i = match v.at i with
  | .fz d => .ok (d, v)
  | .ow d => .ok (d, v.set i (.fz d))
  | _ => bad := rfl
theorem peekV_def (v : En) (i : Nat) : peekV v i = match v.at i with
  | .fz d => .ok d
  | .ow d => .ok d
  | .io d => .ok d
  | _ => bad := rfl
theorem lzV_def (v : En) (i : Nat) : lzV v i = match v.at i with
  | .fz d => .ok (.inr d, v)
  | .ow _ => .ok (.inl i, v)
  | .io _ => .ok (.inl i, v)
  | .un => bad := rfl
theorem ownAt_def (v : En) (i : Nat) : ownAt v i = match v.at i with
  | .ow d => .ok d
  | .io d => .ok d
  | _ => bad := rfl
@[simp] theorem lz_inl (v : En) (i : Nat) : Lz.get v (.inl i) = peekV v i := rfl
@[simp] theorem lz_inr (v : En) (d : D) : Lz.get v (.inr d) = .ok d := rfl
@[simp] theorem lzs_nil (v : En) : Lz.gets v [] = .ok [] := rfl
@[simp] theorem lzs_cons (v : En) (z : Lz) (r : List Lz) : Lz.gets v (z :: r) = (z.get v).bind fun d => (Lz.gets v r).map (d :: ·) := rfl
@[simp] theorem flD_rt (d : D) : flD (.rt d) = d := rfl
@[simp] theorem flD_nx : flD .nx = .none := rfl
@[simp] theorem ioAt_io (d : D) (v : En) : ioAt (.io d :: v) = some d := rfl
@[simp] theorem ioAt_fz (d : D) (v : En) : ioAt (.fz d :: v) = none := rfl
@[simp] theorem ioAt_ow (d : D) (v : En) : ioAt (.ow d :: v) = none := rfl
@[simp] theorem ioAt_un (v : En) : ioAt (.un :: v) = none := rfl
/-! ### values -/
theorem ordG_ii (a b : Int) : ordG (.int a) (.int b) = true := rfl
theorem cmp_lt' (p q : D) : cmp .Lt p q = gd (ordG p q) (.ok (W.dataLt p q)) := by cases p <;> cases q <;> rfl
theorem cmp_le' (p q : D) : cmp .LtE p q = gd (ordG p q) (.ok (!W.dataLt q p)) := by cases p <;> cases q <;> rfl
theorem cmp_gt' (p q : D) : cmp .Gt p q = gd (ordG p q) (.ok (W.dataLt q p)) := by cases p <;> cases q <;> rfl
theorem cmp_ge' (p q : D) : cmp .GtE p q = gd (ordG p q) (.ok (!W.dataLt p q)) := by cases p <;> cases q <;> rfl
@[simp] theorem cmp_lt (a b : Int) : cmp .Lt (.int a) (.int b) = .ok (decide (a < b)) := by rw [cmp_lt', ordG_ii, W.dataLt_int]; rfl
@[simp] theorem cmp_le (a b : Int) : cmp .LtE (.int a) (.int b) = .ok (decide (a ≤ b)) := by
  rw [cmp_le', ordG_ii, W.dataLt_int]
  show Except.ok _ = Except.ok _
  congr 1
  by_cases h : a ≤ b
  · rw [decide_eq_true h, decide_eq_false (by omega)]; rfl
  · rw [decide_eq_false h, decide_eq_true (by omega)]; rfl
@[simp] theorem cmp_gt (a b : Int) : cmp .Gt (.int a) (.int b) = .ok (decide (b < a)) := by rw [cmp_gt', ordG_ii, W.dataLt_int]; rfl
@[simp] theorem cmp_ge (a b : Int) : cmp .GtE (.int a) (.int b) = .ok (decide (b ≤ a)) := by
  rw [cmp_ge', ordG_ii, W.dataLt_int]
  show Except.ok _ = Except.ok _
  congr 1
  by_cases h : b ≤ a
  · rw [decide_eq_true h, decide_eq_false (by omega)]; rfl
  · rw [decide_eq_false h, decide_eq_true (by omega)]; rfl
@[simp] theorem cmp_eq (a b : Int) : cmp .Eq (.int a) (.int b) = .ok (a == b) := rfl
@[simp] theorem cmp_ne (a b : Int) : cmp .NotEq (.int a) (.int b) = .ok (!(a == b)) := rfl
@[simp] theorem cmp_eqb (a b : Bool) : cmp .Eq (.bool a) (.bool b) = .ok (a == b) := rfl
@[simp] theorem cmp_neb (a b : Bool) : cmp .NotEq (.bool a) (.bool b) = .ok (!(a == b)) := rfl
@[simp] theorem cmp_isb (a b : Bool) : cmp .Is (.bool a) (.bool b) = .ok (a == b) := rfl
@[simp] theorem cmp_isnb (a b : Bool) : cmp .IsNot (.bool a) (.bool b) = .ok (!(a == b)) := rfl
@[simp] theorem cmp_is (a : D) : cmp .Is a .none = .ok (isN a) := by cases a <;> rfl
@[simp] theorem cmp_isn (a : D) : cmp .IsNot a .none = .ok (!isN a) := by cases a <;> rfl
@[simp] theorem bin_add (a b : Int) : bin .Add (.int a) (.int b) = .ok (.int (a + b)) := rfl
@[simp] theorem bin_sub (a b : Int) : bin .Sub (.int a) (.int b) = .ok (.int (a - b)) := rfl
theorem bin_mul (a b : Int) (h : a.natAbs.log2 + b.natAbs.log2 < 1000000) : bin .Mult (.int a) (.int b) = .ok (.int (a * b)) := by
  show gd (decide _) _ = _
  rw [decide_eq_true h]
  rfl
@[simp] theorem tru_b (b : Bool) : tru (.bool b) = .ok b := rfl
@[simp] theorem tru_i (b : Int) : tru (.int b) = .ok (b != 0) := rfl
@[simp] theorem tru_n : tru .none = .ok false := rfl
@[simp] theorem tru_l (b : List D) : tru (.list b) = .ok (!b.isEmpty) := rfl
@[simp] theorem tru_t (b : List D) : tru (.tuple b) = .ok (!b.isEmpty) := rfl
@[simp] theorem len_l (b : List D) : blt .len [.list b] = .ok (.int b.length) := rfl
@[simp] theorem len_t (b : List D) : blt .len [.tuple b] = .ok (.int b.length) := rfl
@[simp] theorem list_l (b : List D) : blt .list [.list b] = .ok (.list b) := rfl
@[simp] theorem list_t (b : List D) : blt .list [.tuple b] = .ok (.list b) := rfl
@[simp] theorem tup_l (b : List D) : blt .tuple [.list b] = .ok (.tuple b) := rfl
@[simp] theorem tup_t (b : List D) : blt .tuple [.tuple b] = .ok (.tuple b) := rfl
@[simp] theorem sort_l (b : List D) : blt .sorted [.list b] = sortD b := rfl
@[simp] theorem sort_t (b : List D) : blt .sorted [.tuple b] = sortD b := rfl
@[simp] theorem abs_i (a : Int) : blt .abs [.int a] = .ok (.int (if a < 0 then -a else a)) := rfl
@[simp] theorem max_i (a b : Int) : blt .max [.int a, .int b] = .ok (.int (if b > a then b else a)) := rfl
@[simp] theorem min_i (a b : Int) : blt .min [.int a, .int b] = .ok (.int (if b < a then b else a)) := rfl
@[simp] theorem int_i (a : Int) : blt .int [.int a] = .ok (.int a) := rfl
/-! ### trees -/
section
variable (cf : Cf) (v : En)
@[simp] theorem e_var (i : Nat) : ev cf (.var i) v = getV v i := by rw [ev]
@[simp] theorem e_cst (d : D) : ev cf (.cst d) v = .ok (d, v) := by rw [ev]
@[simp] theorem lz_v (i : Nat) (r : En → R (D × En)) : lzOf (.var i) r v = lzV v i := rfl
end
theorem is_int_eq (n : Nat) (h : 1 ≤ n) (i : Int) : callF (GT lw) n 82 none [.int i] = .ok (.bool true, none) := by
  obtain ⟨m, rfl⟩ : ∃ m, n = m + 1 := ⟨n - 1, by omega⟩
  rw [call_eq (fd := fd82) rfl]
  rfl
theorem is_in_eq (n : Nat) (h : 2 ≤ n) (i a b : Int) : callF (GT lw) n 81 none [.int i, .int a, .int b] = .ok (.bool (decide (a ≤ i) && decide (i ≤ b)), none) := by
  obtain ⟨m, rfl⟩ : ∃ m, n = m + 1 := ⟨n - 1, by omega⟩
  rw [call_eq (fd := fd81) rfl]
  have h1 : callF (GT lw) m 82 none [.int i] = .ok (.bool true, none) := is_int_eq m (by omega) i
  simp [runF, fd81, begin_, exs, ex, ev, evs, h1, callE, rdy, getV_def, peekV_def, lzV_def, lzOf, flD, ioAt]
  by_cases q : a ≤ i
  · simp [q, flD, ioAt]
  · simp [q, flD, ioAt]
/-! ### drawing -/
def RowOk (d : D) : Prop := ∃ (sc : List Int) (pos seed rest : Int), d = .list [.list (sc.map .int), .int pos, .int seed, .int rest] ∧ 0 ≤ pos ∧ 0 ≤ seed ∧ seed < 2147483648 ∧ 0 ≤ rest
theorem log_lt {a : Int} {k : Nat} (h : a.natAbs < 2 ^ k) (hk : k ≠ 0) : a.natAbs.log2 < k := by
  by_cases z : a.natAbs = 0
  · rw [z]; simp; omega
  · exact (Nat.log2_lt z).mpr h
@[simp] theorem bin_mod (a b : Int) (h : 0 < b) : bin .Mod (.int a) (.int b) = .ok (.int (a % b)) := by
  show gd (decide _) _ = _
  rw [decide_eq_true h]; rfl
theorem bin_fdiv (a b : Int) (h : 0 < b) (h2 : b < 2 ^ 64) : bin .FloorDiv (.int a) (.int b) = .ok (.int (a / b)) := by
  show (if 0 < b then gd (decide (b.natAbs.log2 < 9000)) (.ok (PyData.int (a / b))) else _) = _
  rw [if_pos h, decide_eq_true (show b.natAbs.log2 < 9000 from Nat.lt_trans (log_lt (k := 64) (by omega) (by decide)) (by decide))]; rfl
theorem pow18 : bin .Pow (.int 10) (.int 18) = .ok (.int 1000000000000000000) := rfl
theorem pick_map {sc : List Int} {i : Int} (h0 : 0 ≤ i) (h1 : i < sc.length) : ∃ c, pick (sc.map PyData.int) i = .ok (.int c) := by
  refine ⟨sc[i.toNat]'(by omega), ?_⟩
  unfold pick ixAt
  rw [List.length_map, if_pos h0, if_pos h1]
  have : (sc.map PyData.int)[i.toNat]? = some (.int (sc[i.toNat]'(by omega))) := by
    rw [List.getElem?_map, List.getElem?_eq_getElem (by omega)]; rfl
  rw [Option.bind_some, this]
  rfl
theorem taken (n : Nat) (hn : 1 ≤ n) {row : D} (hr : RowOk row) (m : Int) (hm : 0 < m) (hm2 : m < 2 ^ 64) : ∃ v row', callF (GT lw) n 300 (some row) [.int m] = .ok (.int v, some row') ∧ RowOk row' ∧ 0 ≤ v ∧ v < m := by
  obtain ⟨k, rfl⟩ : ∃ k, n = k + 1 := ⟨n - 1, by omega⟩
  obtain ⟨sc, pos, seed, rest, rfl, h1, h2, h3, h4⟩ := hr
  rw [call_eq (fd := fd300) rfl]
  have md : ∀ a : Int, 0 ≤ a % m ∧ a % m < m := fun a => ⟨Int.emod_nonneg _ (by omega), Int.emod_lt_of_pos _ hm⟩
  have mul1 : bin .Mult (.int seed) (.int 48271) = .ok (.int (seed * 48271)) := bin_mul _ _ (by
    have := log_lt (a := seed) (k := 31) (by omega) (by decide)
    have h : (48271 : Int).natAbs.log2 < 20 := by decide
    omega)
  by_cases c1 : 0 < rest
  · refine ⟨rest % m, .list [.list (sc.map .int), .int pos, .int seed, .int (rest / m)], ?_, ⟨sc, pos, seed, rest / m, rfl, h1, h2, h3, Int.ediv_nonneg (by omega) (by omega)⟩, md _⟩
    simp [runF, fd300, begin_, exs, ex, ev, evs, lzs, two, rdy, getV_def, peekV_def, lzV_def, ownAt_def, lzOf, flD, ioAt, sub, pick, ixAt, test, truOf, c1, setAll, held, isNew, ownable, bin_mod _ m hm, bin_fdiv _ m hm hm2, store]
  · have md2 : ∀ a : Int, 0 ≤ a % 2147483647 ∧ a % 2147483647 < 2147483647 := fun a => ⟨Int.emod_nonneg _ (by omega), Int.emod_lt_of_pos _ (by omega)⟩
    by_cases c2 : (sc.length : Int) < pos + 1
    · refine ⟨(seed * 48271 + 11) % 2147483647 / 7 % m, .list [.list (sc.map .int), .int (pos + 1), .int ((seed * 48271 + 11) % 2147483647), .int rest], ?_, ⟨sc, pos + 1, _, rest, rfl, by omega, (md2 _).1, by have := (md2 (seed * 48271 + 11)).2; omega, h4⟩, md _⟩
      simp [runF, fd300, begin_, exs, ex, ev, evs, lzs, two, rdy, getV_def, peekV_def, lzV_def, ownAt_def, lzOf, flD, ioAt, sub, pick, ixAt, test, truOf, c1, c2, setAll, held, isNew, ownable, bin_mod _ m hm, bin_fdiv _ m hm hm2, store, mul1, bin_mod _ 2147483647 (by omega), bin_fdiv _ 7 (by omega) (by omega)]
    · obtain ⟨c, hc⟩ := pick_map (sc := sc) (i := pos) h1 (by omega)
      have hp : pos + 1 - 1 = pos := by omega
      by_cases c3 : 1000000000000000000 ≤ c
      · refine ⟨c % m, .list [.list (sc.map .int), .int (pos + 1), .int ((seed * 48271 + c + 11) % 2147483647), .int (c / m)], ?_, ⟨sc, pos + 1, _, c / m, rfl, by omega, (md2 _).1, by have := (md2 (seed * 48271 + c + 11)).2; omega, Int.ediv_nonneg (by omega) (by omega)⟩, md _⟩
        have hc' : sub (.list (sc.map .int)) (.int pos) = .ok (.int c) := hc
        have e3 : ∀ a b c d : D, sub (.list [a, b, c, d]) (.int 0) = .ok a := fun _ _ _ _ => rfl
        have e4 : ∀ a b c d : D, sub (.list [a, b, c, d]) (.int 1) = .ok b := fun _ _ _ _ => rfl
        have e5 : ∀ a b c d : D, sub (.list [a, b, c, d]) (.int 2) = .ok c := fun _ _ _ _ => rfl
        have e6 : ∀ a b c d : D, sub (.list [a, b, c, d]) (.int 3) = .ok d := fun _ _ _ _ => rfl
        simp [runF, fd300, begin_, exs, ex, ev, evs, lzs, two, rdy, getV_def, peekV_def, lzV_def, ownAt_def, lzOf, flD, ioAt, e3, e4, e5, e6, ixAt, test, truOf, c1, c2, c3, setAll, held, isNew, ownable, bin_mod _ m hm, bin_fdiv _ m hm hm2, store, mul1, bin_mod _ 2147483647 (by omega), hp, hc', pow18]
      · refine ⟨c % m, .list [.list (sc.map .int), .int (pos + 1), .int ((seed * 48271 + c + 11) % 2147483647), .int rest], ?_, ⟨sc, pos + 1, _, rest, rfl, by omega, (md2 _).1, by have := (md2 (seed * 48271 + c + 11)).2; omega, h4⟩, md _⟩
        have hc' : sub (.list (sc.map .int)) (.int pos) = .ok (.int c) := hc
        have e3 : ∀ a b c d : D, sub (.list [a, b, c, d]) (.int 0) = .ok a := fun _ _ _ _ => rfl
        have e4 : ∀ a b c d : D, sub (.list [a, b, c, d]) (.int 1) = .ok b := fun _ _ _ _ => rfl
        have e5 : ∀ a b c d : D, sub (.list [a, b, c, d]) (.int 2) = .ok c := fun _ _ _ _ => rfl
        have e6 : ∀ a b c d : D, sub (.list [a, b, c, d]) (.int 3) = .ok d := fun _ _ _ _ => rfl
        simp [runF, fd300, begin_, exs, ex, ev, evs, lzs, two, rdy, getV_def, peekV_def, lzV_def, ownAt_def, lzOf, flD, ioAt, e3, e4, e5, e6, ixAt, test, truOf, c1, c2, c3, setAll, held, isNew, ownable, bin_mod _ m hm, bin_fdiv _ m hm hm2, store, mul1, bin_mod _ 2147483647 (by omega), hp, hc', pow18]
end Lp

set_option autoImplicit false
set_option linter.all false
set_option maxRecDepth 100000
set_option maxHeartbeats 1000000
namespace Lp
open PySem
variable {lw : Fd}
def turnP (t : Tg) (gc : En → R (Bool × En)) (fe : En → R (D × En)) (d : D) (v1 : En) : R (Option D × En) :=
  (asgT t d (wipeE v1 t.own)).bind fun v2 => (gc v2).bind fun b => match b.1 with
      | true => (fe b.2).map fun y => (some y.1, y.2)
      | false => .ok (none, b.2)
def turnQ (t : Tg) (fe : En → R (D × En)) (d : D) (v1 : En) : R (Option D × En) := (asgT t d (wipeE v1 t.own)).bind fun v2 => (fe v2).map fun y => (some y.1, y.2)
def turnX (t : Tg) (f : En → R (Fl × En)) (d : D) (v1 : En) : R (Fl × En) := (asgT t d v1).bind f
@[simp] theorem turnP_eq (t : Tg) (gc : En → R (Bool × En)) (fe : En → R (D × En)) (d : D) (v1 : En) : turnP t gc fe d v1 = (asgT t d (wipeE v1 t.own)).bind fun v2 => (gc v2).bind fun b => match b.1 with
      | true => (fe b.2).map fun y => (some y.1, y.2)
      | false => .ok (none, b.2) := rfl
@[simp] theorem turnQ_eq (t : Tg) (fe : En → R (D × En)) (d : D) (v1 : En) : turnQ t fe d v1 = (asgT t d (wipeE v1 t.own)).bind fun v2 => (fe v2).map fun y => (some y.1, y.2) := rfl
@[simp] theorem turnX_eq (t : Tg) (f : En → R (Fl × En)) (d : D) (v1 : En) : turnX t f d v1 = (asgT t d v1).bind f := rfl
section
variable (cf : Cf) (v : En)
@[simp] theorem e_bin' (op : Operator) (a b : E) : ev cf (.bin op a b) v = two a b (ev cf a) (ev cf b) v fun p q v' => (bin op p q).map fun d => (d, v') := by rw [ev]
@[simp] theorem e_cmp' (op : CmpOp) (a b : E) : ev cf (.cmp op a b) v = two a b (ev cf a) (ev cf b) v fun p q v' => (cmp op p q).map fun d => (.bool d, v') := by rw [ev]
@[simp] theorem e_neg (a : E) : ev cf (.neg a) v = one a (ev cf a) v fun p v' => match p with
    | .int i => .ok (.int (-i), v')
    | _ => bad := by rw [ev] <;> rfl
@[simp] theorem e_not (a : E) : ev cf (.not a) v = (truOf (ev cf a v)).map fun x => (.bool (!x.1), x.2) := by rw [ev]
@[simp] theorem e_and (a b : E) : ev cf (.and a b) v = (ev cf a v).bind fun x => (tru x.1).bind fun t => match t with
    | true => ev cf b x.2
    | false => .ok x := by rw [ev] <;> rfl
@[simp] theorem e_or (a b : E) : ev cf (.or a b) v = (ev cf a v).bind fun x => (tru x.1).bind fun t => match t with
    | false => ev cf b x.2
    | true => .ok x := by rw [ev] <;> rfl
@[simp] theorem e_ite (c a b : E) : ev cf (.ite c a b) v = (truOf (ev cf c v)).bind fun x => match x.1 with
    | true => ev cf a x.2
    | false => ev cf b x.2 := by rw [ev] <;> rfl
@[simp] theorem e_tup (es : List E) : ev cf (.tup es) v = (evs cf es v).map fun x => (.tuple x.1, x.2) := by rw [ev]
@[simp] theorem e_lst (es : List E) : ev cf (.lst es) v = (evs cf es v).map fun x => (.list x.1, x.2) := by rw [ev]
@[simp] theorem e_sub (a i : E) : ev cf (.sub a i) v = two a i (ev cf a) (ev cf i) v fun p q v' => (Lp.sub p q).map fun d => (d, v') := by rw [ev]
@[simp] theorem e_isa (a : E) (ts : List Ty) : ev cf (.isa a ts) v = one a (ev cf a) v fun p v' => .ok (.bool (ts.any fun t => isTy t p), v') := by rw [ev]
@[simp] theorem e_blt (f : Blt) (es : List E) : ev cf (.blt f es) v = (lzs cf es v).bind fun x => (Lz.gets x.2 x.1).bind fun ds => (blt f ds).map fun d => (d, x.2) := by rw [ev]
@[simp] theorem e_call (f : Nat) (io : Option Nat) (es : List E) : ev cf (.call f io es) v = gd (rdy io v) ((evs cf es v).bind fun x => callE cf f io x.1 x.2) := by rw [ev]
@[simp] theorem e_comp (e : E) (t : Tg) (it : It) (c : Option E) : ev cf (.comp e t it c) v = (its cf it v).bind fun x => gd (okBack x.2 t.own) ((mapE (turnP t (tests cf c) (ev cf e)) x.1 x.2).bind fun r => gd (decide (r.1.length ≤ lim)) (.ok (.list r.1, backE x.2 r.2 t.own))) := by rw [ev] <;> rfl
@[simp] theorem e_ndist (e : E) (t : Tg) (it : It) : ev cf (.ndist e t it) v = (its cf it v).bind fun x => gd (okBack x.2 t.own) ((mapE (turnQ t (ev cf e)) x.1 x.2).bind fun r =>
    (ofO (intsD r.1)).bind fun ns => gd (decide (r.1.length ≤ lim)) (.ok (.int (nubI [] ns).length, backE x.2 r.2 t.own))) := by rw [ev] <;> rfl
@[simp] theorem e_lrg (a : E) : ev cf (.lrg a) v = (ev cf a v).bind fun x => (lrgD x.1).map fun d => (d, x.2) := by rw [ev]
@[simp] theorem e_pop (i : Nat) : ev cf (.pop i) v = gd (rdy (some i) v) ((ownAt v i).bind fun d => (popD d).map fun p => (p.1, putAt v i p.2)) := by rw [ev]
@[simp] theorem es_nil : evs cf [] v = .ok ([], v) := by rw [evs]
@[simp] theorem es_cons (e : E) (r : List E) : evs cf (e :: r) v = (ev cf e v).bind fun x => (evs cf r x.2).map fun y => (x.1 :: y.1, y.2) := by rw [evs]
@[simp] theorem zs_nil : lzs cf [] v = .ok ([], v) := by rw [lzs]
@[simp] theorem zs_cons (e : E) (r : List E) : lzs cf (e :: r) v = (lzOf e (ev cf e) v).bind fun x => (lzs cf r x.2).map fun y => (x.1 :: y.1, y.2) := by rw [lzs]
@[simp] theorem ts_none : tests cf none v = .ok (true, v) := by rw [tests]
@[simp] theorem ts_some (e : E) : tests cf (some e) v = truOf (ev cf e v) := by rw [tests]
@[simp] theorem i_seq (e : E) : its cf (.seq e) v = (ev cf e v).bind fun x => (itemsOf x.1).map fun ds => (ds, x.2) := by rw [its]
@[simp] theorem i_rng (es : List E) : its cf (.rng es) v = (evs cf es v).bind fun x => (rangeItems x.1).map fun ds => (ds, x.2) := by rw [its]
@[simp] theorem i_enm (e : E) : its cf (.enm e) v = (ev cf e v).bind fun x => (seqOf x.1).map fun ds => (enumFrom 0 ds, x.2) := by rw [its]
@[simp] theorem i_zip (a b : E) : its cf (.zip a b) v = (ev cf a v).bind fun x => (ev cf b x.2).bind fun y => (zipOf x.1 y.1).map fun ds => (ds, y.2) := by rw [its]
@[simp] theorem x_nil : exs cf [] v = .ok (.nx, v) := by rw [exs]
@[simp] theorem x_cons (s : S) (r : List S) : exs cf (s :: r) v = (ex cf s v).bind fun x => match x.1 with
    | .nx => exs cf r x.2
    | .rt d => .ok (.rt d, x.2) := by rw [exs] <;> rfl
@[simp] theorem x_ret (e : E) : ex cf (.ret e) v = (ev cf e v).map fun x => (.rt x.1, x.2) := by rw [ex]
@[simp] theorem x_exp (e : E) : ex cf (.exp e) v = (ev cf e v).map fun x => (.nx, x.2) := by rw [ex]
@[simp] theorem x_asg (t : Tg) (e : E) : ex cf (.asg t e) v = (ev cf e v).bind fun x => (asgT t x.1 x.2).map fun v' => (.nx, v') := by rw [ex]
@[simp] theorem x_par (is : List Nat) (es : List E) : ex cf (.par is es) v = (evs cf es v).bind fun x => (setAll is es x.1 x.2).map fun v' => (.nx, v') := by rw [ex]
@[simp] theorem x_app (i : Nat) (e : E) : ex cf (.app i e) v = gd (rdy (some i) v) ((ev cf e v).bind fun x => (ownAt x.2 i).bind fun d => (appD d x.1).map fun d' => (.nx, putAt x.2 i d')) := by rw [ex]
@[simp] theorem x_put (i : Nat) (k e : E) : ex cf (.put i k e) v = (ev cf e v).bind fun x => gd (rdy (some i) x.2) ((ev cf k x.2).bind fun y => (ownAt y.2 i).bind fun d => (store d y.1 x.1).map fun d' => (.nx, putAt y.2 i d')) := by rw [ex]
@[simp] theorem x_ite (c : E) (a b : List S) : ex cf (.ite c a b) v = (test cf c v).bind fun x => match x.1 with
    | true => exs cf a x.2
    | false => exs cf b x.2 := by rw [ex] <;> rfl
@[simp] theorem x_for (t : Tg) (it : It) (b : List S) : ex cf (.for_ t it b) v = (its cf it v).bind fun x => forL (turnX t (exs cf b)) x.1 x.2 := by rw [ex] <;> rfl
end
@[simp] theorem a_nm (i : Nat) (d : D) (v : En) : asgT (.nm i) d v = setV v i (.fz d) := by rw [asgT]
@[simp] theorem a_tl (ts : List Tg) (ds : List D) (v : En) : asgT (.tp ts) (.list ds) v = asgTs ts ds v := by rw [asgT]
@[simp] theorem a_tt (ts : List Tg) (ds : List D) (v : En) : asgT (.tp ts) (.tuple ds) v = asgTs ts ds v := by rw [asgT]
@[simp] theorem as_nil (v : En) : asgTs [] [] v = .ok v := by rw [asgTs]
@[simp] theorem as_cons (t : Tg) (ts : List Tg) (d : D) (ds : List D) (v : En) : asgTs (t :: ts) (d :: ds) v = (asgT t d v).bind fun v1 => asgTs ts ds v1 := by rw [asgTs]
@[simp] theorem io_l (xs : List D) : itemsOf (.list xs) = .ok xs := rfl
@[simp] theorem io_t (xs : List D) : itemsOf (.tuple xs) = .ok xs := rfl
@[simp] theorem so_l (xs : List D) : seqOf (.list xs) = .ok xs := rfl
@[simp] theorem so_t (xs : List D) : seqOf (.tuple xs) = .ok xs := rfl
@[simp] theorem zp_l (xs ys : List D) : zipOf (.list xs) (.list ys) = .ok (zipD xs ys) := rfl
@[simp] theorem zp_m (xs ys : List D) : zipOf (.tuple xs) (.list ys) = .ok (zipD xs ys) := rfl
@[simp] theorem zp_t (xs ys : List D) : zipOf (.tuple xs) (.tuple ys) = .ok (zipD xs ys) := rfl
@[simp] theorem sub_l (xs : List D) (i : Int) : Lp.sub (.list xs) (.int i) = pick xs i := rfl
@[simp] theorem sub_t (xs : List D) (i : Int) : Lp.sub (.tuple xs) (.int i) = pick xs i := rfl
@[simp] theorem own_nm (i : Nat) : Tg.own (.nm i) = [i] := by rw [Tg.own]
@[simp] theorem own_tp (ts : List Tg) : Tg.own (.tp ts) = Tg.owns ts := by rw [Tg.own]
@[simp] theorem owns_nil : Tg.owns [] = [] := by rw [Tg.owns]
@[simp] theorem owns_cons (t : Tg) (ts : List Tg) : Tg.owns (t :: ts) = t.own ++ Tg.owns ts := by rw [Tg.owns]
@[simp] theorem mapE_nil (f : D → En → R (Option D × En)) (v : En) : mapE f [] v = .ok ([], v) := rfl
@[simp] theorem mapE_cons (f : D → En → R (Option D × En)) (d : D) (ds : List D) (v : En) : mapE f (d :: ds) v = (f d v).bind fun r => (mapE f ds r.2).map fun q => (match r.1 with
    | some x => x :: q.1
    | none => q.1, q.2) := rfl
@[simp] theorem forL_nil (f : D → En → R (Fl × En)) (v : En) : forL f [] v = .ok (.nx, v) := rfl
@[simp] theorem forL_cons (f : D → En → R (Fl × En)) (d : D) (ds : List D) (v : En) : forL f (d :: ds) v = (f d v).bind fun r => match r.1 with
    | .nx => forL f ds r.2
    | .rt x => .ok (.rt x, r.2) := rfl
@[simp] theorem enum_nil (n : Nat) : enumFrom n [] = [] := rfl
@[simp] theorem enum_cons (n : Nat) (d : D) (ds : List D) : enumFrom n (d :: ds) = .tuple [.int n, d] :: enumFrom (n + 1) ds := rfl
@[simp] theorem pick0 (x : D) (xs : List D) : pick (x :: xs) 0 = .ok x := by
  unfold pick ixAt
  rw [if_pos (by omega), if_pos (by simp only [List.length_cons]; omega)]
  rfl
@[simp] theorem pick1 (x y : D) (xs : List D) : pick (x :: y :: xs) 1 = .ok y := by
  unfold pick ixAt
  rw [if_pos (by omega), if_pos (by simp only [List.length_cons]; omega)]
  rfl
@[simp] theorem pick2 (x y z : D) (xs : List D) : pick (x :: y :: z :: xs) 2 = .ok z := by
  unfold pick ixAt
  rw [if_pos (by omega), if_pos (by simp only [List.length_cons]; omega)]
  rfl
@[simp] theorem lim_ge (n : Nat) (h : n ≤ 1000) : decide (n ≤ lim) = true := decide_eq_true (Nat.le_trans h (by decide))
/-! ### three in order -/
theorem sort3 {A : Type} (le : A → A → Bool) (a b c : A) : [a, b, c].mergeSort le = (if le a b = true then (if le a c = true then (if le b c = true then [a, b, c] else [a, c, b]) else [c, a, b]) else (if le b c = true then (if le a c = true then [b, a, c] else [b, c, a]) else [c, b, a])) := by
  have m2 : ∀ x y : A, [x, y].mergeSort le = if le x y = true then [x, y] else [y, x] := fun x y => by
    simp [List.mergeSort, List.MergeSort.Internal.splitInTwo, List.merge]
  have m1 : ∀ x : A, [x].mergeSort le = [x] := fun x => by simp
  have m3 : [a, b, c].mergeSort le = List.merge ([a, b].mergeSort le) ([c].mergeSort le) le := by
    conv => lhs; rw [List.mergeSort]
    simp [List.MergeSort.Internal.splitInTwo]
  rw [m3, m2, m1]
  split
  · by_cases h : le a c = true
    · by_cases h2 : le b c = true
      · simp [List.merge, h, h2]
      · simp [List.merge, h, h2]
    · simp [List.merge, h]
  · by_cases h : le b c = true
    · by_cases h2 : le a c = true
      · simp [List.merge, h, h2]
      · simp [List.merge, h, h2]
    · simp [List.merge, h]
theorem le_ii (a b : Int) : W.dataLe false id (.int a) (.int b) = decide (a ≤ b) := by
  show (!W.dataLt (.int b) (.int a)) = _
  rw [W.dataLt_int]
  by_cases h : a ≤ b
  · rw [decide_eq_true h, decide_eq_false (by omega)]; rfl
  · rw [decide_eq_false h, decide_eq_true (by omega)]; rfl
theorem le_pp (a b i j : Int) : W.dataLe false id (.tuple [.int a, .int i]) (.tuple [.int b, .int j]) = decide (a < b ∨ (a = b ∧ i ≤ j)) := by
  show (!W.dataLt (.tuple [.int b, .int j]) (.tuple [.int a, .int i])) = _
  rw [W.dataLt_ii]
  by_cases h : a < b ∨ (a = b ∧ i ≤ j)
  · rw [decide_eq_true h, decide_eq_false (by omega)]; rfl
  · rw [decide_eq_false h, decide_eq_true (by omega)]; rfl
theorem sortG3 (a b c : Int) : sortG [.int a, .int b, .int c] = true := rfl
theorem sortG3p (a b c i j k : Int) : sortG [.tuple [.int a, .int i], .tuple [.int b, .int j], .tuple [.int c, .int k]] = true := rfl
def up3 (a b c : Int) : List Int := if a ≤ b then (if a ≤ c then (if b ≤ c then [a, b, c] else [a, c, b]) else [c, a, b]) else (if b ≤ c then (if a ≤ c then [b, a, c] else [b, c, a]) else [c, b, a])
def ord3 (a b c : Int) : List Int := if a < b then (if a < c then (if b < c then [0, 1, 2] else [0, 2, 1]) else [2, 0, 1]) else (if b < c then (if a < c then [1, 0, 2] else [1, 2, 0]) else [2, 1, 0])
theorem sortD3 (a b c : Int) : sortD [.int a, .int b, .int c] = .ok (.list ((up3 a b c).map .int)) := by
  unfold sortD
  rw [sortG3, gd_true, sort3]
  simp only [le_ii, up3, decide_eq_true_eq]
  repeat' split
  all_goals rfl
theorem sortD3p {a b c : Int} (h1 : a ≠ b) (h2 : a ≠ c) (h3 : b ≠ c) : sortD [.tuple [.int a, .int 0], .tuple [.int b, .int 1], .tuple [.int c, .int 2]] = .ok (.list ((ord3 a b c).map fun i => .tuple [.int (if i = 0 then a else if i = 1 then b else c), .int i])) := by
  unfold sortD
  rw [sortG3p, gd_true, sort3]
  have e1 : (a < b ∨ (a = b ∧ (0 : Int) ≤ 1)) ↔ a < b := ⟨fun h => by omega, fun h => .inl h⟩
  have e2 : (a < c ∨ (a = c ∧ (0 : Int) ≤ 2)) ↔ a < c := ⟨fun h => by omega, fun h => .inl h⟩
  have e3 : (b < c ∨ (b = c ∧ (1 : Int) ≤ 2)) ↔ b < c := ⟨fun h => by omega, fun h => .inl h⟩
  simp only [le_pp, decide_eq_true_eq, e1, e2, e3, ord3]
  repeat' split
  all_goals simp
end Lp

set_option autoImplicit false
set_option linter.all false
set_option maxRecDepth 100000
set_option maxHeartbeats 2000000
namespace Lp
open PySem
variable {lw : Fd}
abbrev T3 (a b c : Int) : D := .tuple [.int a, .int b, .int c]
abbrev pl3 (a b c i : Int) : Int := if i = 0 then a else if i = 1 then b else c
theorem ord3_cases {a b c : Int} (h1 : a ≠ b) (h2 : a ≠ c) (h3 : b ≠ c) : (a < b ∧ b < c ∧ ord3 a b c = [0, 1, 2] ∧ up3 a b c = [a, b, c]) ∨ (a < c ∧ c < b ∧ ord3 a b c = [0, 2, 1] ∧ up3 a b c = [a, c, b]) ∨ (c < a ∧ a < b ∧ ord3 a b c = [2, 0, 1] ∧ up3 a b c = [c, a, b]) ∨
    (b < a ∧ a < c ∧ ord3 a b c = [1, 0, 2] ∧ up3 a b c = [b, a, c]) ∨ (b < c ∧ c < a ∧ ord3 a b c = [1, 2, 0] ∧ up3 a b c = [b, c, a]) ∨ (c < b ∧ b < a ∧ ord3 a b c = [2, 1, 0] ∧ up3 a b c = [c, b, a]) := by
  unfold ord3 up3
  rcases Int.lt_or_lt_of_ne h1 with q1 | q1 <;> rcases Int.lt_or_lt_of_ne h2 with q2 | q2 <;> rcases Int.lt_or_lt_of_ne h3 with q3 | q3
  · left; refine ⟨q1, q3, ?_, ?_⟩ <;> simp [q1, q2, q3, Int.le_of_lt q1, Int.le_of_lt q2, Int.le_of_lt q3]
  · right; left; refine ⟨q2, q3, ?_, ?_⟩ <;> simp [q1, q2, q3, Int.le_of_lt q1, Int.le_of_lt q2, Int.not_le.mpr q3, Int.not_lt.mpr (Int.le_of_lt q3)]
  · omega
  · right; right; left; refine ⟨q2, q1, ?_, ?_⟩ <;> simp [q1, q2, q3, Int.le_of_lt q1, Int.not_le.mpr q2, Int.not_lt.mpr (Int.le_of_lt q2)]
  · right; right; right; left; refine ⟨q1, q2, ?_, ?_⟩ <;> simp [q1, q2, q3, Int.not_le.mpr q1, Int.not_lt.mpr (Int.le_of_lt q1), Int.le_of_lt q2, Int.le_of_lt q3]
  · omega
  · right; right; right; right; left; refine ⟨q3, q2, ?_, ?_⟩ <;> simp [q1, q2, q3, Int.not_le.mpr q1, Int.not_lt.mpr (Int.le_of_lt q1), Int.not_le.mpr q2, Int.not_lt.mpr (Int.le_of_lt q2), Int.le_of_lt q3]
  · right; right; right; right; right; refine ⟨q3, q1, ?_, ?_⟩ <;> simp [q1, q2, q3, Int.not_le.mpr q1, Int.not_lt.mpr (Int.le_of_lt q1), Int.not_le.mpr q3, Int.not_lt.mpr (Int.le_of_lt q3)]
theorem order_of_eq (n : Nat) (hn : 1 ≤ n) {a b c : Int} (h1 : a ≠ b) (h2 : a ≠ c) (h3 : b ≠ c) : callF (GT lw) n 174 none [T3 a b c] = .ok (.tuple ((ord3 a b c).map .int), none) := by
  obtain ⟨m, rfl⟩ : ∃ m, n = m + 1 := ⟨n - 1, by omega⟩
  rw [call_eq (fd := fd174) rfl]
  have s := sortD3p h1 h2 h3
  rcases ord3_cases h1 h2 h3 with ⟨_, _, e, _⟩ | ⟨_, _, e, _⟩ | ⟨_, _, e, _⟩ | ⟨_, _, e, _⟩ | ⟨_, _, e, _⟩ | ⟨_, _, e, _⟩ <;> rw [e] at s ⊢ <;>
    simp [runF, fd174, begin_, getV_def, lzV_def, lzOf, flD, ioAt, okBack, wipeE, backE, s]
theorem gaps_of_eq (n : Nat) (hn : 1 ≤ n) {a b c x y z : Int} (h : up3 a b c = [x, y, z]) : callF (GT lw) n 61 none [T3 a b c] = .ok (.tuple [.int (y - x), .int (z - y)], none) := by
  obtain ⟨m, rfl⟩ : ∃ m, n = m + 1 := ⟨n - 1, by omega⟩
  rw [call_eq (fd := fd61) rfl]
  have s := sortD3 a b c
  rw [h] at s
  simp [runF, fd61, begin_, getV_def, lzV_def, lzOf, flD, ioAt, s, two]
theorem law_order_eq (n : Nat) (hn : 1 ≤ n) {a b c : Int} (h1 : a ≠ b) (h2 : a ≠ c) (h3 : b ≠ c) : callF (GT lw) n 305 none [T3 a b c] = .ok (.list ((ord3 a b c).map .int), none) := by
  obtain ⟨m, rfl⟩ : ∃ m, n = m + 1 := ⟨n - 1, by omega⟩
  rw [call_eq (fd := fd305) rfl]
  have s := sortD3p h1 h2 h3
  rcases ord3_cases h1 h2 h3 with ⟨_, _, e, _⟩ | ⟨_, _, e, _⟩ | ⟨_, _, e, _⟩ | ⟨_, _, e, _⟩ | ⟨_, _, e, _⟩ | ⟨_, _, e, _⟩ <;> rw [e] at s ⊢ <;>
    simp [runF, fd305, begin_, getV_def, lzV_def, lzOf, flD, ioAt, okBack, wipeE, backE, s, two]
end Lp

set_option autoImplicit false
set_option linter.all false
set_option maxRecDepth 100000
set_option maxHeartbeats 2000000
namespace Lp
open PySem
variable {lw : Fd}
/-! ### alike -/
mutual
def gdD : D → Bool
  | .list xs => decide (xs.length ≤ 1000) && gdDs xs
  | .tuple xs => decide (xs.length ≤ 1000) && gdDs xs
  | .dict _ => false
  | .str s => PyData.strOk s
  | _ => true
def gdDs : List D → Bool
  | [] => true
  | x :: xs => gdD x && gdDs xs
end
theorem gdDs_mem : ∀ {xs : List D} {x : D}, gdDs xs = true → x ∈ xs → gdD x = true
  | y :: r, x, h, m => by
    unfold gdDs at h
    rw [Bool.and_eq_true] at h
    rcases List.mem_cons.mp m with e | e
    · rw [e]; exact h.1
    · exact gdDs_mem h.2 e
theorem depthAll_mem : ∀ {ds : List D} {d : D}, d ∈ ds → d.depth ≤ PyData.depthAll ds
  | x :: r, d, h => by
    unfold PyData.depthAll
    rcases List.mem_cons.mp h with e | e
    · rw [e]; omega
    · have := depthAll_mem e; omega
theorem depth_l (xs : List D) : (PyData.list xs).depth = 1 + PyData.depthAll xs := by rw [PyData.depth, Nat.add_comm]
theorem depth_t (xs : List D) : (PyData.tuple xs).depth = 1 + PyData.depthAll xs := by rw [PyData.depth, Nat.add_comm]
theorem pick_nat (xs : List D) (i : Nat) (h : i < xs.length) : pick xs (i : Int) = .ok xs[i] := by
  unfold pick ixAt
  rw [if_pos (by omega), if_pos (by omega)]
  simp [h]
@[simp] theorem isa_l (d : List D) : isTy .list (.list d) = true := rfl
@[simp] theorem isa_lt (d : List D) : isTy .list (.tuple d) = false := rfl
@[simp] theorem isa_t (d : List D) : isTy .tuple (.tuple d) = true := rfl
@[simp] theorem isa_tl (d : List D) : isTy .tuple (.list d) = false := rfl
@[simp] theorem isa_ti (i : Int) : isTy .tuple (.int i) = false := rfl
@[simp] theorem isa_li (i : Int) : isTy .list (.int i) = false := rfl
@[simp] theorem isa_ii (i : Int) : isTy .int (.int i) = true := rfl
@[simp] theorem isa_bi (i : Int) : isTy .bool (.int i) = false := rfl
@[simp] theorem isa_si (i : Int) : isTy .str (.int i) = false := rfl
@[simp] theorem isa_tb (i : Bool) : isTy .tuple (.bool i) = false := rfl
@[simp] theorem isa_lb (i : Bool) : isTy .list (.bool i) = false := rfl
@[simp] theorem isa_ib (i : Bool) : isTy .int (.bool i) = true := rfl
@[simp] theorem isa_bb (i : Bool) : isTy .bool (.bool i) = true := rfl
@[simp] theorem isa_sb (i : Bool) : isTy .str (.bool i) = false := rfl
@[simp] theorem isa_ts (i : Str) : isTy .tuple (.str i) = false := rfl
@[simp] theorem isa_ls (i : Str) : isTy .list (.str i) = false := rfl
@[simp] theorem isa_ss (i : Str) : isTy .str (.str i) = true := rfl
@[simp] theorem isa_tn : isTy .tuple .none = false := rfl
@[simp] theorem isa_ln : isTy .list .none = false := rfl
@[simp] theorem isa_sn : isTy .str .none = false := rfl
@[simp] theorem isN_i (i : Int) : isN (.int i) = false := rfl
@[simp] theorem isN_b (i : Bool) : isN (.bool i) = false := rfl
@[simp] theorem isN_s (i : Str) : isN (.str i) = false := rfl
@[simp] theorem isN_l (i : List D) : isN (.list i) = false := rfl
@[simp] theorem isN_t (i : List D) : isN (.tuple i) = false := rfl
@[simp] theorem isN_n : isN .none = true := rfl
@[simp] theorem cmp_nil : cmp .Eq (.list []) (.list []) = .ok true := rfl
@[simp] theorem cmp_nn : cmp .Eq .none .none = .ok true := rfl
theorem cmp_ss (s : Str) (h : PyData.strOk s = true) : cmp .Eq (.str s) (.str s) = .ok true := by
  show gd _ (.ok (s == s)) = _
  rw [beq_self_eq_true, show (shp (.str s) && shp (.str s)) = true by simp [shp, SeqAt.shaped, PyData.canLay0, PyData.depth, h]]
  rfl
theorem rangeOk_n (n : Nat) (h : n ≤ 1000) : rangeOk 0 (n : Nat) = true := by
  unfold rangeOk
  rw [decide_eq_true (by omega), decide_eq_true (by omega), decide_eq_true (by omega), decide_eq_true (by omega)]
  rfl
theorem rangeI1 (b : Int) : rangeItems [.int b] = gd (rangeOk 0 b) (.ok (rangeN 0 b)) := by rw [rangeItems]
theorem range_one (n : Nat) (h : n ≤ 1000) : rangeItems [.int (n : Nat)] = .ok ((List.range n).map fun (i : Nat) => .int i) := by
  rw [rangeI1, rangeOk_n n h, gd_true]
  unfold rangeN
  simp
@[simp] theorem rdy_none (v : En) : rdy none v = true := rfl
theorem cn_none (cf : Cf) (f : Nat) (ds : List D) (v : En) : callE cf f none ds v = (cf f none ds).map fun r => (r.1, v) := rfl
theorem alike_loop (m : Nat) (p : D) (xs : List D) (hx : ∀ x ∈ xs, callF (GT lw) m 302 none [x, x] = .ok (.bool true, none)) (hp : ∀ i : Int, Lp.sub p (.int i) = pick xs i) : ∀ (is : List Nat) (s : Sl), (∀ i ∈ is, i < xs.length) →
    ∃ s', mapE (turnP (.nm 2) (tests (callF (GT lw) m) (some (.not (.call 302 none [.sub (.var 0) (.var 2), .sub (.var 1) (.var 2)])))) (ev (callF (GT lw) m) (.var 2))) (is.map fun (i : Nat) => PyData.int i) [.fz p, .fz p, s] = .ok ([], [.fz p, .fz p, s'])
  | [], s, _ => ⟨s, rfl⟩
  | i :: r, s, hi => by
    have hlt := hi i List.mem_cons_self
    obtain ⟨s', e⟩ := alike_loop m p xs hx hp r (.fz (.int i)) fun j hj => hi j (List.mem_cons_of_mem _ hj)
    have hc := hx xs[i] (List.getElem_mem hlt)
    refine ⟨s', ?_⟩
    rw [List.map_cons, mapE_cons]
    have e2 : turnP (.nm 2) (tests (callF (GT lw) m) (some (.not (.call 302 none [.sub (.var 0) (.var 2), .sub (.var 1) (.var 2)])))) (ev (callF (GT lw) m) (.var 2)) (.int i) [.fz p, .fz p, s] = .ok (none, [.fz p, .fz p, .fz (.int i)]) := by
      simp [wipeE, two, lzV_def, getV_def, hp, pick_nat xs i hlt, truOf, cn_none, hc]
    rw [e2]
    simp only [ok_bind, e, ok_map]
theorem alike_seq (m : Nat) (p : D) (xs : List D) (hx : ∀ x ∈ xs, callF (GT lw) m 302 none [x, x] = .ok (.bool true, none)) (hp : ∀ i : Int, Lp.sub p (.int i) = pick xs i) (hl : xs.length ≤ 1000) (hn : blt .len [p] = .ok (.int xs.length)) :
    ev (callF (GT lw) m) (.comp (.var 2) (.nm 2) (.rng [.blt .len [.var 1]]) (some (.not (.call 302 none [.sub (.var 0) (.var 2), .sub (.var 1) (.var 2)])))) [.fz p, .fz p, .un] = .ok (.list [], [.fz p, .fz p, .un]) := by
  obtain ⟨s', e⟩ := alike_loop m p xs hx hp (List.range xs.length) .un fun i hi => List.mem_range.mp hi
  have r1 := range_one xs.length hl
  have hi : its (callF (GT lw) m) (.rng [.blt .len [.var 1]]) [.fz p, .fz p, .un] = .ok ((List.range xs.length).map fun (i : Nat) => PyData.int i, [.fz p, .fz p, .un]) := by
    rw [i_rng]
    have h1 : evs (callF (GT lw) m) [.blt .len [.var 1]] [.fz p, .fz p, .un] = .ok ([.int (xs.length : Nat)], [.fz p, .fz p, .un]) := by
      simp only [es_cons, es_nil, e_blt, zs_cons, zs_nil, lz_v, lzV_def, at_0, at_s, ok_bind, ok_map, lzs_cons, lzs_nil, lz_inr, hn]
    rw [h1, ok_bind, r1, ok_map]
  rw [e_comp, hi, ok_bind]
  simp only [own_nm]
  rw [e]
  simp [okBack, backE]
theorem alike_refl (n : Nat) : ∀ (d : D), gdD d = true → d.depth < n → callF (GT lw) n 302 none [d, d] = .ok (.bool true, none) := by
  induction n with
  | zero => intro d _ h; exact absurd h (Nat.not_lt_zero _)
  | succ m ih =>
    intro d g h
    rw [call_eq (fd := fd302) rfl]
    cases d with
    | none => simp -implicitDefEqProofs [runF, fd302, begin_, test, truOf, one, two, lzV_def, getV_def, lzOf, flD, ioAt]
    | bool b => cases b <;> simp -implicitDefEqProofs [runF, fd302, begin_, test, truOf, one, two, lzV_def, getV_def, lzOf, flD, ioAt]
    | int i => simp -implicitDefEqProofs [runF, fd302, begin_, test, truOf, one, two, lzV_def, getV_def, lzOf, flD, ioAt]
    | str s => simp -implicitDefEqProofs [runF, fd302, begin_, test, truOf, one, two, lzV_def, getV_def, lzOf, flD, ioAt, cmp_ss s (by unfold gdD at g; exact g)]
    | list xs =>
      have g : xs.length ≤ 1000 ∧ gdDs xs = true := by
        unfold gdD at g
        simpa using g
      have hx : ∀ x ∈ xs, callF (GT lw) m 302 none [x, x] = .ok (.bool true, none) := fun x hm => ih x (gdDs_mem g.2 hm) (by have := depthAll_mem hm; rw [depth_l] at h; omega)
      have hcomp := alike_seq (lw := lw) m (.list xs) xs hx (fun _ => rfl) g.1 rfl
      simp -implicitDefEqProofs [-e_comp, runF, fd302, begin_, test, truOf, one, two, lzV_def, lzOf, flD, ioAt, hcomp]
    | tuple xs =>
      have g : xs.length ≤ 1000 ∧ gdDs xs = true := by
        unfold gdD at g
        simpa using g
      have hx : ∀ x ∈ xs, callF (GT lw) m 302 none [x, x] = .ok (.bool true, none) := fun x hm => ih x (gdDs_mem g.2 hm) (by have := depthAll_mem hm; rw [depth_t] at h; omega)
      have hcomp := alike_seq (lw := lw) m (.tuple xs) xs hx (fun _ => rfl) g.1 rfl
      simp -implicitDefEqProofs [-e_comp, runF, fd302, begin_, test, truOf, one, two, lzV_def, lzOf, flD, ioAt, hcomp]
    | dict _ => cases g
end Lp

set_option autoImplicit false
set_option linter.all false
set_option maxRecDepth 100000
set_option maxHeartbeats 2000000
namespace Lp
open PySem
variable {lw : Fd}
theorem cio_io (cf : Cf) (f : Nat) (c : D) (ds : List D) (v : En) : callE cf f (some 0) ds (.io c :: v) = (cf f (some c) ds).bind fun r => (ofO r.2).map fun c' => (r.1, .io c' :: v) := rfl
theorem picked (n : Nat) (hn : 2 ≤ n) {row : D} (hr : RowOk row) (xs : List D) (hx : xs ≠ []) (hl : xs.length ≤ 1000) : ∃ x row', x ∈ xs ∧ callF (GT lw) n 301 (some row) [.list xs] = .ok (x, some row') ∧ RowOk row' := by
  obtain ⟨m, rfl⟩ : ∃ m, n = m + 1 := ⟨n - 1, by omega⟩
  have h1 : 0 < xs.length := List.length_pos_iff.mpr hx
  obtain ⟨v, row', e, hr', v0, v1⟩ := taken (lw := lw) m (by omega) hr xs.length (by omega) (by omega)
  obtain ⟨k, rfl⟩ : ∃ k : Nat, v = k := ⟨v.toNat, by omega⟩
  have hk : k < xs.length := by omega
  refine ⟨xs[k], row', List.getElem_mem hk, ?_, hr'⟩
  rw [call_eq (fd := fd301) rfl]
  simp -implicitDefEqProofs [runF, fd301, begin_, two, lzV_def, lzOf, flD, ioAt, rdy, cio_io, e, pick_nat xs k hk]
def Sm (a : Int) : Prop := a.natAbs < 2 ^ 200
theorem mul2 {a : Int} (h : Sm a) : bin .Mult (.int 2) (.int a) = .ok (.int (2 * a)) := bin_mul _ _ (by
  have h1 : a.natAbs.log2 < 200 := log_lt h (by decide)
  have h2 : (2 : Int).natAbs.log2 < 2 := by decide
  omega)
def leap3 (a b c s o : Int) : D := .tuple [.int (if s = 0 then 2 * pl3 a b c o - a else a), .int (if s = 1 then 2 * pl3 a b c o - b else b), .int (if s = 2 then 2 * pl3 a b c o - c else c)]
def Ix (s : Int) : Prop := s = 0 ∨ s = 1 ∨ s = 2
theorem law_leapt_eq (n : Nat) (hn : 1 ≤ n) {a b c s o : Int} (ha : Sm a) (hb : Sm b) (hc : Sm c) (hs : Ix s) (ho : Ix o) : callF (GT lw) n 306 none [T3 a b c, .int s, .int o] = .ok (leap3 a b c s o, none) := by
  obtain ⟨m, rfl⟩ : ∃ m, n = m + 1 := ⟨n - 1, by omega⟩
  rw [call_eq (fd := fd306) rfl]
  rcases hs with rfl | rfl | rfl <;> rcases ho with rfl | rfl | rfl <;>
    simp -implicitDefEqProofs [runF, fd306, begin_, two, lzV_def, getV_def, peekV_def, ownAt_def, lzOf, flD, ioAt, setAll, held, isNew, ownable, rdy, mul2 ha, mul2 hb, mul2 hc, store, ixAt, leap3, pl3]
end Lp

set_option autoImplicit false
set_option linter.all false
set_option maxRecDepth 100000
set_option maxHeartbeats 2000000
namespace Lp
open PySem
variable {lw : Fd}
@[simp] theorem ow_i (i : Int) : ownable (.int i) = false := rfl
@[simp] theorem ow_b (i : Bool) : ownable (.bool i) = false := rfl
@[simp] theorem ow_s (i : Str) : ownable (.str i) = false := rfl
@[simp] theorem ow_n : ownable .none = false := rfl
@[simp] theorem ow_t (xs : List D) : ownable (.tuple xs) = false := rfl
@[simp] theorem ow_l (xs : List D) : ownable (.list xs) = true := rfl
def okB (a b c s o : Int) : Bool := !(decide ((if pl3 a b c s < 2 * pl3 a b c o - pl3 a b c s then pl3 a b c s else 2 * pl3 a b c o - pl3 a b c s) ≤ pl3 a b c (3 - s - o)) && decide (pl3 a b c (3 - s - o) ≤ (if pl3 a b c s > 2 * pl3 a b c o - pl3 a b c s then pl3 a b c s else 2 * pl3 a b c o - pl3 a b c s)))
def prD (s o : Int) : D := .tuple [.int s, .int o]
def lawLps (a b c : Int) : List D := (if okB a b c 0 1 then [prD 0 1] else []) ++ (if okB a b c 0 2 then [prD 0 2] else []) ++ (if okB a b c 1 0 then [prD 1 0] else []) ++ (if okB a b c 1 2 then [prD 1 2] else []) ++ (if okB a b c 2 0 then [prD 2 0] else []) ++ (if okB a b c 2 1 then [prD 2 1] else [])
theorem chnE (cf : Cf) (op op' : CmpOp) (a b c : E) (v : En) : ev cf (.cmp2 op op' a b c) v = (lzOf a (ev cf a) v).bind fun x => (lzOf b (ev cf b) x.2).bind fun y => (x.1.get y.2).bind fun p => (y.1.get y.2).bind fun q => (cmp op p q).bind fun d =>
    match d with
    | true => (lzOf c (ev cf c) y.2).bind fun z => (y.1.get z.2).bind fun q' => (z.1.get z.2).bind fun r => (cmp op' q' r).map fun d' => (.bool d', z.2)
    | false => .ok (.bool false, y.2) := by rw [ev] <;> rfl
end Lp

set_option autoImplicit false
set_option linter.all false
set_option maxRecDepth 100000
set_option maxHeartbeats 2000000
namespace Lp
open PySem
variable {lw : Fd}
abbrev lpBody : List S := [(.ite (.cmp .NotEq (.var 3) (.var 2)) [(.par [4, 5] [(.bin .Sub (.bin .Sub (.cst (.int 3)) (.var 2)) (.var 3)), (.bin .Sub (.bin .Mult (.cst (.int 2)) (.sub (.var 0) (.var 3))) (.sub (.var 0) (.var 2)))]), (.par [6, 7] [(.blt .min [(.var 5), (.sub (.var 0) (.var 2))]), (.blt .max [(.var 5), (.sub (.var 0) (.var 2))])]), (.ite (.not (.cmp2 .LtE .LtE (.var 6) (.sub (.var 0) (.var 4)) (.var 7))) [(.app 1 (.tup [(.var 2), (.var 3)]))] [])] [])]
def lpL (a b c s : Int) : List D := (if s ≠ 0 ∧ okB a b c s 0 = true then [prD s 0] else []) ++ (if s ≠ 1 ∧ okB a b c s 1 = true then [prD s 1] else []) ++ (if s ≠ 2 ∧ okB a b c s 2 = true then [prD s 2] else [])
theorem gd_true_of {A : Type} {b : Bool} {x : R A} (h : b = true) : gd b x = x := by subst h; rfl
end Lp

set_option autoImplicit false
set_option linter.all false
set_option maxRecDepth 100000
set_option maxHeartbeats 2000000
namespace Lp
open PySem
variable {lw : Fd}
end Lp

set_option autoImplicit false
set_option linter.all false
set_option maxRecDepth 100000
set_option maxHeartbeats 2000000
namespace Lp
open PySem
variable {lw : Fd}
def Pl1 (i : Int) : Prop := -1000000000000000000 ≤ i ∧ i ≤ 1000000000000000000
structure St (a b c : Int) : Prop where
  ab : a ≠ b
  ac : a ≠ c
  bc : b ≠ c
  a1 : Pl1 a
  b1 : Pl1 b
  c1 : Pl1 c
theorem Pl1.sm {i : Int} (h : Pl1 i) : Sm i := by
  unfold Sm
  have := h.1; have := h.2
  have : i.natAbs ≤ 1000000000000000000 := by omega
  exact Nat.lt_of_le_of_lt this (by decide)
@[simp] theorem all_l (b : List D) : blt .all [.list b] = bAll b := rfl
@[simp] theorem ball_3 (x y z : Bool) : bAll [.bool x, .bool y, .bool z] = .ok (.bool (x && (y && z))) := by
  show Except.ok (PyData.bool (List.all [x, y, z] id)) = _
  simp
theorem is_state_eq (n : Nat) (hn : 3 ≤ n) {a b c : Int} (h : St a b c) : callF (GT lw) n 88 none [T3 a b c] = .ok (.bool true, none) := by
  obtain ⟨m, rfl⟩ : ∃ m, n = m + 1 := ⟨n - 1, by omega⟩
  rw [call_eq (fd := fd88) rfl]
  have e1 := is_in_eq (lw := lw) m (by omega) a (-1000000000000000000) 1000000000000000000
  have e2 := is_in_eq (lw := lw) m (by omega) b (-1000000000000000000) 1000000000000000000
  have e3 := is_in_eq (lw := lw) m (by omega) c (-1000000000000000000) 1000000000000000000
  rw [decide_eq_true h.a1.1, decide_eq_true h.a1.2] at e1
  rw [decide_eq_true h.b1.1, decide_eq_true h.b1.2] at e2
  rw [decide_eq_true h.c1.1, decide_eq_true h.c1.2] at e3
  have h1 : ¬ b = a := fun q => h.ab q.symm
  have h2 : ¬ c = a := fun q => h.ac q.symm
  have h3 : ¬ c = b := fun q => h.bc q.symm
  have id3 : intsD [.int a, .int b, .int c] = some [a, b, c] := rfl
  have nb : nubI [] [a, b, c] = [a, b, c] := by simp [nubI, h1, h2, h3]
  simp -implicitDefEqProofs [runF, fd88, begin_, two, one, lzV_def, getV_def, peekV_def, ownAt_def, lzOf, flD, ioAt, setAll, held, isNew, rdy, test, truOf, cn_none, okBack, wipeE, backE, e1, e2, e3, id3, nb]
theorem need_state_eq (n : Nat) (hn : 4 ≤ n) {a b c : Int} (h : St a b c) : callF (GT lw) n 152 none [T3 a b c] = .ok (.none, none) := by
  obtain ⟨m, rfl⟩ : ∃ m, n = m + 1 := ⟨n - 1, by omega⟩
  rw [call_eq (fd := fd152) rfl]
  have e := is_state_eq (lw := lw) m (by omega) h
  simp -implicitDefEqProofs [runF, fd152, begin_, one, lzV_def, getV_def, lzOf, flD, ioAt, rdy, test, truOf, cn_none, e]
def lps (a b c : Int) : List D := lpL a b c 0 ++ lpL a b c 1 ++ lpL a b c 2
def Lpp (a b c s o : Int) : Prop := Ix s ∧ Ix o ∧ s ≠ o ∧ okB a b c s o = true
/-! ### shapes -/
theorem shpL {xs : List D} (h : ∀ x ∈ xs, PyData.canLay0 x = true ∧ x.depth ≤ 50) : shp (.list xs) = true ∧ shp (.tuple xs) = true := by
  have h1 : PyData.canLayAll0 xs = true ∧ PyData.depthAll xs ≤ 50 := by
    induction xs with
    | nil => exact ⟨rfl, by simp [PyData.depthAll]⟩
    | cons x xs ih =>
      have a := h x (List.mem_cons_self ..)
      have b := ih fun y hy => h y (List.mem_cons_of_mem _ hy)
      refine ⟨?_, ?_⟩
      · rw [PyData.canLayAll0, a.1, b.1]; rfl
      · rw [PyData.depthAll]; have := a.2; have := b.2; omega
  constructor
  · show (PyData.canLay0 (.list xs) && decide _) = true
    rw [PyData.canLay0, h1.1, decide_eq_true (by rw [PyData.depth]; omega)]; rfl
  · show (PyData.canLay0 (.tuple xs) && decide _) = true
    rw [PyData.canLay0, h1.1, decide_eq_true (by rw [PyData.depth]; omega)]; rfl
theorem lay_ints : ∀ ns : List Int, PyData.canLayAll0 (ns.map .int) = true ∧ PyData.depthAll (ns.map .int) = 0
  | [] => ⟨rfl, rfl⟩
  | n :: r => by
    have h := lay_ints r
    rw [List.map_cons, PyData.canLayAll0, PyData.depthAll, h.1, h.2]
    exact ⟨rfl, rfl⟩
theorem lay_tup (ns : List Int) : PyData.canLay0 (.tuple (ns.map .int)) = true ∧ (PyData.tuple (ns.map .int)).depth ≤ 50 := by
  rw [PyData.canLay0, PyData.depth, (lay_ints ns).1, (lay_ints ns).2]
  exact ⟨rfl, by omega⟩
theorem alikes_of {xs : List D} (h : ∀ x ∈ xs, ∀ y ∈ xs, W.alike x y = true) : alikes xs = true := by
  cases xs with
  | nil => rfl
  | cons x r =>
    show ((x :: r).all fun y => (x :: r).all fun z => W.alike y z) = true
    rw [List.all_eq_true]
    intro y hy
    rw [List.all_eq_true]
    exact fun z hz => h y hy z hz
theorem depthAll_le {k : Nat} : ∀ {xs : List D}, (∀ x ∈ xs, x.depth ≤ k) → PyData.depthAll xs ≤ k
  | [], _ => by simp [PyData.depthAll]
  | x :: r, h => by
    rw [PyData.depthAll]
    have := h x (List.mem_cons_self ..)
    have := depthAll_le (xs := r) fun y hy => h y (List.mem_cons_of_mem _ hy)
    omega
/-! ### loops -/
theorem forL_at (P : Nat → En → Prop) (f : D → En → R (Fl × En)) : ∀ (ds : List D) (k : Nat), (∀ i, (hi : i < ds.length) → ∀ v, P (k + i) v → ∃ v', f ds[i] v = .ok (.nx, v') ∧ P (k + i + 1) v') → ∀ v, P k v → ∃ v', forL f ds v = .ok (.nx, v') ∧ P (k + ds.length) v'
  | [], _, _, v, hv => ⟨v, rfl, hv⟩
  | d :: r, k, h, v, hv => by
    obtain ⟨v1, e1, p1⟩ := h 0 (by simp) v hv
    obtain ⟨v2, e2, p2⟩ := forL_at P f r (k + 1) (fun i hi w hw => by
      have := h (i + 1) (by simp; omega) w (by rw [show k + (i + 1) = k + 1 + i by omega]; exact hw)
      rw [show k + 1 + i + 1 = k + (i + 1) + 1 by omega]
      exact this) v1 p1
    refine ⟨v2, ?_, by rw [List.length_cons, show k + (r.length + 1) = k + 1 + r.length by omega]; exact p2⟩
    rw [forL_cons]
    have e1' : f d v = .ok (.nx, v1) := e1
    rw [e1', ok_bind]
    exact e2
end Lp

set_option autoImplicit false
set_option linter.all false
set_option maxRecDepth 100000
set_option maxHeartbeats 2000000
namespace Lp
open PySem
variable {lw : Fd}
def behind (a b c : Int) : D → D
  | .tuple [.int s, .int o] => leap3 a b c s o
  | d => d
def bhs (a b c : Int) : List D := (lps a b c).map (behind a b c)
end Lp

set_option autoImplicit false
set_option linter.all false
set_option maxRecDepth 100000
set_option maxHeartbeats 2000000
namespace Lp
open PySem
variable {lw : Fd}
structure Wk (B : Int) (a b c : Int) : Prop where
  ab : a ≠ b
  ac : a ≠ c
  bc : b ≠ c
  a1 : -B ≤ a ∧ a ≤ B
  b1 : -B ≤ b ∧ b ≤ B
  c1 : -B ≤ c ∧ c ≤ B
theorem Wk.st {B a b c : Int} (h : Wk B a b c) (hB : B ≤ 1000000000000000000) : St a b c := by
  obtain ⟨h1, h2, h3, h4, h5, h6⟩ := h
  exact ⟨h1, h2, h3, by unfold Pl1; omega, by unfold Pl1; omega, by unfold Pl1; omega⟩
theorem Wk.mono {B C a b c : Int} (h : Wk B a b c) (hB : B ≤ C) : Wk C a b c := by
  obtain ⟨h1, h2, h3, h4, h5, h6⟩ := h
  exact ⟨h1, h2, h3, by omega, by omega, by omega⟩
theorem out_leap {B a b c : Int} (h : Wk B a b c) : ∃ l m r, ord3 a b c = [l, m, r] ∧ Ix l ∧ Ix m ∧ Ix r ∧ ∀ o, o = l ∨ o = r → ∃ a' b' c', leap3 a b c m o = T3 a' b' c' ∧ Wk (3 * B) a' b' c' := by
  obtain ⟨h1, h2, h3, h4, h5, h6⟩ := h
  rcases ord3_cases h1 h2 h3 with ⟨p, q, e, _⟩ | ⟨p, q, e, _⟩ | ⟨p, q, e, _⟩ | ⟨p, q, e, _⟩ | ⟨p, q, e, _⟩ | ⟨p, q, e, _⟩ <;>
    refine ⟨_, _, _, e, by unfold Ix; omega, by unfold Ix; omega, by unfold Ix; omega, ?_⟩ <;> rintro o (rfl | rfl) <;> refine ⟨_, _, _, rfl, ?_⟩ <;> simp [pl3] <;> constructor <;> omega
def wkBody : List S := [(.asg (.tp [(.nm 4), (.nm 5), (.nm 6)]) (.call 305 none [(.var 1)])), (.par [1] [(.call 306 none [(.var 1), (.var 5), (.call 301 (some 0) [(.lst [(.var 4), (.var 6)])])])])]
theorem walk_turn (m : Nat) (hm : 2 ≤ m) {B : Int} (hB : B ≤ 1000000000000000000) {row : D} (hr : RowOk row) {a b c : Int} (h : Wk B a b c) (d M : D) (s3 s4 s5 s6 : Sl) (h3 : notIo s3 = true) (h4 : notIo s4 = true) (h5 : notIo s5 = true) (h6 : notIo s6 = true) :
    ∃ row' a' b' c' t3 t4 t5 t6, turnX (.nm 3) (exs (callF (GT lw) m) wkBody) d [.io row, .fz (T3 a b c), .fz M, s3, s4, s5, s6] = .ok (.nx, [.io row', .fz (T3 a' b' c'), .fz M, t3, t4, t5, t6]) ∧ RowOk row' ∧ Wk (3 * B) a' b' c' ∧ notIo t3 = true ∧ notIo t4 = true ∧ notIo t5 = true ∧ notIo t6 = true := by
  have sv : ∀ (s0 s : Sl) (v : En), notIo s0 = true → setV (s0 :: v) 0 s = .ok (s :: v) := fun s0 s v h => by rw [setV_0, if_pos h]
  obtain ⟨l, k, r, e, hl, hk, hrr, hout⟩ := out_leap h
  obtain ⟨x, row', hx, e2, hr'⟩ := picked (lw := lw) m hm hr [.int l, .int r] (by simp) (by simp)
  obtain ⟨o, rfl, ho⟩ : ∃ o, x = .int o ∧ (o = l ∨ o = r) := by
    simp only [List.mem_cons, List.not_mem_nil, or_false] at hx
    rcases hx with rfl | rfl
    · exact ⟨l, rfl, .inl rfl⟩
    · exact ⟨r, rfl, .inr rfl⟩
  obtain ⟨a', b', c', e3, w⟩ := hout o ho
  have hio : Ix o := by rcases ho with rfl | rfl <;> assumption
  have s := h.st hB
  have e1 := law_order_eq (lw := lw) m (by omega) h.ab h.ac h.bc
  rw [e] at e1
  have e4 := law_leapt_eq (lw := lw) m (by omega) s.a1.sm s.b1.sm s.c1.sm hk hio
  rw [e3] at e4
  refine ⟨row', a', b', c', .fz d, .fz (.int l), .fz (.int k), .fz (.int r), ?_, hr', w, rfl, rfl, rfl, rfl⟩
  simp -implicitDefEqProofs [wkBody, sv _ _ _ h3, sv _ _ _ h4, sv _ _ _ h5, sv _ _ _ h6, e1, cn_none, getV_def, cio_io, rdy, e2, e4, setAll, held, isNew]
theorem law_walk_eq (n : Nat) (hn : 3 ≤ n) {B : Int} {k : Nat} (h0 : 0 ≤ B) (hB : 3 ^ k * B ≤ 1000000000000000000) (hk : k ≤ 900) {row : D} (hr : RowOk row) {a b c : Int} (h : Wk B a b c) :
    ∃ row' a' b' c', callF (GT lw) n 304 (some row) [T3 a b c, .int (k : Nat)] = .ok (T3 a' b' c', some row') ∧ RowOk row' ∧ Wk (3 ^ k * B) a' b' c' := by
  obtain ⟨m, rfl⟩ : ∃ m, n = m + 1 := ⟨n - 1, by omega⟩
  rw [call_eq (fd := fd304) rfl]
  obtain ⟨v, row1, e1, hr1, v0, v1⟩ := taken (lw := lw) m (by omega) hr ((k : Int) + 1) (by omega) (by omega)
  obtain ⟨t, rfl⟩ : ∃ t : Nat, v = t := ⟨v.toNat, by omega⟩
  have rg := range_one t (by omega)
  have mono : ∀ i j : Nat, i ≤ j → (3 : Int) ^ i * B ≤ 3 ^ j * B := fun i j hij => Int.mul_le_mul_of_nonneg_right (by
    have := Nat.pow_le_pow_right (n := 3) (by decide) hij
    exact_mod_cast this) h0
  obtain ⟨v', e2, row', a', b', c', t3, t4, t5, t6, rfl, hr', w, _, _, _, _⟩ := forL_at (fun i v => ∃ row' a' b' c' t3 t4 t5 t6, v = [.io row', .fz (T3 a' b' c'), .fz (.int (k : Nat)), t3, t4, t5, t6] ∧ RowOk row' ∧ Wk (3 ^ i * B) a' b' c' ∧ notIo t3 = true ∧ notIo t4 = true ∧ notIo t5 = true ∧ notIo t6 = true)
    (turnX (.nm 3) (exs (callF (GT lw) m) wkBody)) ((List.range t).map fun (i : Nat) => .int i) 0 (by
      rintro i hi v ⟨row', a', b', c', t3, t4, t5, t6, rfl, hr', w, g3, g4, g5, g6⟩
      simp only [List.length_map, List.length_range] at hi
      obtain ⟨row2, a2, b2, c2, u3, u4, u5, u6, e, hr2, w2, k3, k4, k5, k6⟩ := walk_turn (lw := lw) m (by omega) (B := 3 ^ (0 + i) * B) (Int.le_trans (mono _ k (by omega)) hB) hr' w (((List.range t).map fun (i : Nat) => PyData.int i)[i]'(by simpa using hi)) (.int (k : Nat)) t3 t4 t5 t6 g3 g4 g5 g6
      exact ⟨_, e, row2, a2, b2, c2, u3, u4, u5, u6, rfl, hr2, by rw [Int.pow_succ, Int.mul_comm (3 ^ (0 + i)) 3, Int.mul_assoc]; exact w2, k3, k4, k5, k6⟩)
    [.io row1, .fz (T3 a b c), .fz (.int (k : Nat)), .un, .un, .un, .un] ⟨row1, a, b, c, _, _, _, _, rfl, hr1, by simpa using h, rfl, rfl, rfl, rfl⟩
  refine ⟨row', a', b', c', ?_, hr', w.mono (by simpa using mono t k (by omega))⟩
  unfold wkBody at e2
  simp -implicitDefEqProofs [runF, fd304, begin_, two, lzV_def, getV_def, lzOf, flD, ioAt, cio_io, rdy, e1, rg]
  rw [e2]
  simp -implicitDefEqProofs [getV_def, ioAt]
end Lp

set_option autoImplicit false
set_option linter.all false
set_option maxRecDepth 100000
set_option maxHeartbeats 2000000
namespace Lp
open PySem
variable {lw : Fd}
abbrev T6 : List D := [T3 0 1 2, T3 0 2 1, T3 1 0 2, T3 1 2 0, T3 2 0 1, T3 2 1 0]
theorem sml (a : Int) (b : Int) (ha : a.natAbs < 2 ^ 64) (hb : b.natAbs < 2 ^ 64) : bin .Mult (.int a) (.int b) = .ok (.int (a * b)) := bin_mul _ _ (by
  have h1 : a.natAbs.log2 < 64 := log_lt ha (by decide)
  have h2 : b.natAbs.log2 < 64 := log_lt hb (by decide)
  omega)
abbrev stBody : List S := [(.put 5 (.sub (.var 4) (.var 6)) (.bin .Add (.var 2) (.bin .Mult (.bin .Sub (.var 6) (.cst (.int 1))) (.var 3))))]
theorem st_loop (cf : Cf) (row M : D) (st u : Int) (hu : u.natAbs < 2 ^ 64) (x : D) (hx : x ∈ T6) : ∃ a b c, forL (turnX (.nm 6) (exs cf stBody)) [.int 0, .int 1, .int 2] [.io row, .fz M, .fz (.int st), .fz (.int u), .fz x, .ow (.list [.int 0, .int 0, .int 0]), .un] = .ok (.nx, [.io row, .fz M, .fz (.int st), .fz (.int u), .fz x, .ow (.list [.int a, .int b, .int c]), .fz (.int 2)]) ∧
    ((a = st - u ∧ b = st ∧ c = st + u) ∨ (a = st - u ∧ c = st ∧ b = st + u) ∨ (b = st - u ∧ a = st ∧ c = st + u) ∨ (b = st - u ∧ c = st ∧ a = st + u) ∨ (c = st - u ∧ a = st ∧ b = st + u) ∨ (c = st - u ∧ b = st ∧ a = st + u)) := by
  have m1 := sml (-1) u (by decide) hu
  have m2 := sml 0 u (by decide) hu
  have m3 := sml 1 u (by decide) hu
  have e0 : st + -u = st - u := by omega
  have e1 : st + -1 * u = st - u := by omega
  have e2 : st + 0 * u = st := by omega
  have e3 : st + 1 * u = st + u := by omega
  simp only [List.mem_cons, List.not_mem_nil, or_false] at hx
  rcases hx with rfl | rfl | rfl | rfl | rfl | rfl
  · refine ⟨st - u, st, st + u, ?_, by omega⟩
    simp -implicitDefEqProofs [two, lzV_def, getV_def, peekV_def, ownAt_def, lzOf, rdy, m1, m2, m3, store, ixAt, e0, e1, e2, e3]
  · refine ⟨st - u, st + u, st, ?_, by omega⟩
    simp -implicitDefEqProofs [two, lzV_def, getV_def, peekV_def, ownAt_def, lzOf, rdy, m1, m2, m3, store, ixAt, e0, e1, e2, e3]
  · refine ⟨st, st - u, st + u, ?_, by omega⟩
    simp -implicitDefEqProofs [two, lzV_def, getV_def, peekV_def, ownAt_def, lzOf, rdy, m1, m2, m3, store, ixAt, e0, e1, e2, e3]
  · refine ⟨st + u, st - u, st, ?_, by omega⟩
    simp -implicitDefEqProofs [two, lzV_def, getV_def, peekV_def, ownAt_def, lzOf, rdy, m1, m2, m3, store, ixAt, e0, e1, e2, e3]
  · refine ⟨st, st + u, st - u, ?_, by omega⟩
    simp -implicitDefEqProofs [two, lzV_def, getV_def, peekV_def, ownAt_def, lzOf, rdy, m1, m2, m3, store, ixAt, e0, e1, e2, e3]
  · refine ⟨st + u, st, st - u, ?_, by omega⟩
    simp -implicitDefEqProofs [two, lzV_def, getV_def, peekV_def, ownAt_def, lzOf, rdy, m1, m2, m3, store, ixAt, e0, e1, e2, e3]
theorem law_state_eq (n : Nat) (hn : 4 ≤ n) {k : Nat} (hk : k ≤ 34) {row : D} (hr : RowOk row) :
    ∃ row' a b c, callF (GT lw) n 303 (some row) [.int (k : Nat)] = .ok (T3 a b c, some row') ∧ RowOk row' ∧ Wk (3 ^ k * 30) a b c := by
  obtain ⟨m, rfl⟩ : ∃ m, n = m + 1 := ⟨n - 1, by omega⟩
  rw [call_eq (fd := fd303) rfl]
  obtain ⟨v, row1, e1, hr1, v0, v1⟩ := taken (lw := lw) m (by omega) hr 41 (by omega) (by omega)
  obtain ⟨x, row2, hx, e2, hr2⟩ := picked (lw := lw) m (by omega) hr1 [.int 1, .int 1, .int 2, .int 3, .int 10] (by simp) (by simp)
  obtain ⟨u, rfl, hu⟩ : ∃ u, x = .int u ∧ 1 ≤ u ∧ u ≤ 10 := by
    simp only [List.mem_cons, List.not_mem_nil, or_false] at hx
    rcases hx with rfl | rfl | rfl | rfl | rfl <;> exact ⟨_, rfl, by decide, by decide⟩
  obtain ⟨y, row3, hy, e3, hr3⟩ := picked (lw := lw) m (by omega) hr2 T6 (by simp) (by simp)
  obtain ⟨a, b, c, e4, hc⟩ := st_loop (callF (GT lw) m) row3 (.int (k : Nat)) (v - 20) u (by omega) y hy
  have w : Wk 30 a b c := by constructor <;> omega
  have le : (3 : Int) ^ k * 30 ≤ 3 ^ 34 * 30 := by
    have := Nat.pow_le_pow_right (n := 3) (by decide) hk
    exact_mod_cast Nat.mul_le_mul_right 30 this
  obtain ⟨row4, a', b', c', e5, hr4, w'⟩ := law_walk_eq (lw := lw) m (by omega) (k := k) (B := 30) (by omega) (Int.le_trans le (by decide)) (by omega) hr3 w
  refine ⟨row4, a', b', c', ?_, hr4, w'⟩
  have rg := range_one 3 (by omega)
  have r3 : (List.range 3).map (fun (i : Nat) => PyData.int i) = [.int 0, .int 1, .int 2] := rfl
  rw [r3] at rg
  have rg' : rangeItems [.int 3] = .ok [.int 0, .int 1, .int 2] := rg
  simp -implicitDefEqProofs [runF, fd303, begin_, two, one, lzV_def, getV_def, peekV_def, ownAt_def, lzOf, flD, ioAt, cio_io, rdy, e1, e2, e3, setAll, held, isNew, rg', e4, e5]
end Lp

set_option autoImplicit false
set_option linter.all false
set_option maxRecDepth 100000
set_option maxHeartbeats 2000000
namespace Lp
open PySem
variable {lw : Fd}
theorem cio_1 (cf : Cf) (f : Nat) (c : D) (ds : List D) (s : Sl) (v : En) : callE cf f (some 1) ds (s :: .ow c :: v) = (cf f (some c) ds).bind fun r => (ofO r.2).map fun c' => (r.1, s :: .ow c' :: v) := rfl
theorem row0 (ns : List Int) (s : Int) (h : 0 ≤ s) (h2 : s < 2147483648) : RowOk (.list [.list (ns.map .int), .int 0, .int s, .int 0]) := ⟨ns, 0, s, 0, rfl, by omega, h, h2, by omega⟩
theorem alike_r {n : Nat} {d : D} (h : gdD d = true ∧ d.depth < n) : callF (GT lw) n 302 none [d, d] = .ok (.bool true, none) := alike_refl n d h.1 h.2
def okZ : Sl → Bool
  | .un => true
  | .fz _ => true
  | _ => false
theorem okB_cons (v : En) (i : Nat) (is : List Nat) : okBack v (i :: is) = (okZ (v.at i) && okBack v is) := by
  show ((match v.at i with
    | .un => true
    | .fz _ => true
    | _ => false) && okBack v is) = _
  unfold okZ
  cases v.at i <;> rfl
theorem okB_nil (v : En) : okBack v [] = true := rfl
end Lp

set_option autoImplicit false
set_option linter.all false
namespace Wd
/-! ### runs and words: true is R, false is L -/
abbrev Word := List Bool
abbrev Runs := List (Bool × Nat)
def un : Runs → Word
  | [] => []
  | (c, n) :: r => List.replicate n c ++ un r
def Alt : Runs → Prop
  | [] => True
  | [(c, n)] => 1 ≤ n
  | (c, n) :: (d, m) :: r => 1 ≤ n ∧ c ≠ d ∧ Alt ((d, m) :: r)
def rl : Word → Runs
  | [] => []
  | c :: w => match rl w with
    | [] => [(c, 1)]
    | (d, n) :: r => if c = d then (d, n + 1) :: r else (c, 1) :: (d, n) :: r
theorem un_rl : ∀ w : Word, un (rl w) = w
  | [] => rfl
  | c :: w => by
    have ih := un_rl w
    unfold rl
    split
    · rename_i h
      rw [h] at ih
      simp only [un] at ih
      simp [un, ← ih]
    · rename_i d n r h
      rw [h] at ih
      split
      · rename_i q
        subst q
        rw [← ih]
        simp [un, List.replicate_succ]
      · rw [← ih]
        simp [un]
theorem alt_rl : ∀ w : Word, Alt (rl w)
  | [] => trivial
  | c :: w => by
    have ih := alt_rl w
    unfold rl
    split
    · exact Nat.le_refl 1
    · rename_i d n r h
      rw [h] at ih
      split
      · rename_i q
        cases r with
        | nil => exact Nat.le_add_left 1 n
        | cons x r => obtain ⟨e, m⟩ := x; exact ⟨Nat.le_add_left 1 n, ih.2⟩
      · rename_i q
        exact ⟨Nat.le_refl 1, q, ih⟩
theorem Alt.pos {c : Bool} {n : Nat} {r : Runs} (h : Alt ((c, n) :: r)) : 1 ≤ n := by
  cases r with
  | nil => exact h
  | cons y r => exact h.1
/-! ### from the end -/
theorem alt_snoc : ∀ {rs : Runs} {c : Bool} {n : Nat}, Alt (rs ++ [(c, n)]) → Alt rs ∧ 1 ≤ n ∧ ∀ d m q, rs = q ++ [(d, m)] → d ≠ c
  | [], c, n, h => ⟨trivial, h, fun d m q e => by simp at e⟩
  | [(d, m)], c, n, h => ⟨h.1, h.2.2, fun d' m' q e => by
      have := List.append_inj' (s₁ := []) (t₁ := [(d, m)]) e rfl
      simp at this
      rw [this.2.1.symm]
      exact h.2.1⟩
  | (d, m) :: (e, k) :: r, c, n, h => by
    have ih := alt_snoc (rs := (e, k) :: r) (c := c) (n := n) h.2.2
    refine ⟨⟨h.1, h.2.1, ih.1⟩, ih.2.1, ?_⟩
    intro d' m' q eq
    cases q with
    | nil => simp at eq
    | cons y q =>
      simp only [List.cons_append, List.cons.injEq] at eq
      exact ih.2.2 d' m' q eq.2
theorem un_app : ∀ (a b : Runs), un (a ++ b) = un a ++ un b
  | [], b => rfl
  | (c, n) :: r, b => by
    show List.replicate n c ++ un (r ++ b) = (List.replicate n c ++ un r) ++ un b
    rw [un_app r b, List.append_assoc]
def tot (rs : Runs) : Nat := (rs.map (·.2)).sum
def shR : Runs → Runs → Runs
  | (c, n) :: r, (d, m) :: s => if c ≠ d then [] else if n ≠ m then [(c, min n m)] else (c, n) :: shR r s
  | _, _ => []
def lcp : Word → Word → Word
  | c :: u, d :: v => if c = d then c :: lcp u v else []
  | _, _ => []
theorem lcp_nil_l (v : Word) : lcp [] v = [] := by unfold lcp; rfl
theorem lcp_nil_r (u : Word) : lcp u [] = [] := by cases u <;> rfl
theorem lcp_comm : ∀ (u v : Word), lcp u v = lcp v u
  | [], v => by rw [lcp_nil_l, lcp_nil_r]
  | c :: u, [] => rfl
  | c :: u, d :: v => by
    unfold lcp
    by_cases h : c = d
    · subst h; rw [if_pos rfl, if_pos rfl, lcp_comm u v]
    · rw [if_neg h, if_neg fun e => h e.symm]
def NoC (c : Bool) (w : Word) : Prop := ∀ v, w ≠ c :: v
def restR : Runs → Nat → Runs
  | [], _ => []
  | (c, n) :: r, t => if t < n then (c, n - t) :: restR r 0 else restR r (t - n)
def inR : Runs → Nat → Runs
  | [], _ => []
  | (c, n) :: r, t => if 0 < t then (c, min n t) :: inR r (t - min n t) else inR r t
end Wd

set_option autoImplicit false
set_option linter.all false
namespace Wd
/-! ### positions: what stays, the grain, the pair, the stones from left to right -/
structure Po where
  h : Int
  g : Int
  p : Int
  q : Int
  l : Int
  m : Int
  r : Int
def Pm (l m r : Int) : Prop := (l = 0 ∧ m = 1 ∧ r = 2) ∨ (l = 0 ∧ m = 2 ∧ r = 1) ∨ (l = 1 ∧ m = 0 ∧ r = 2) ∨ (l = 1 ∧ m = 2 ∧ r = 0) ∨ (l = 2 ∧ m = 0 ∧ r = 1) ∨ (l = 2 ∧ m = 1 ∧ r = 0)
def Po.R (s : Po) : Po := ⟨s.h, s.g, s.p + s.q, s.q, s.l, s.r, s.m⟩
def Po.L (s : Po) : Po := ⟨s.h, s.g, s.p, s.q + s.p, s.m, s.l, s.r⟩
def Po.st (s : Po) (c : Bool) : Po := match c with
  | true => s.R
  | false => s.L
def Po.go (s : Po) : Word → Po
  | [] => s
  | c :: w => (s.st c).go w
structure Po.ok (s : Po) : Prop where
  g1 : 1 ≤ s.g
  p1 : 1 ≤ s.p
  q1 : 1 ≤ s.q
  pm : Pm s.l s.m s.r
  cop : Int.gcd s.p s.q = 1
structure Po.bg (s : Po) : Prop where
  ok : s.ok
  p1 : s.p = 1
  q1 : s.q = 1
instance (l m r : Int) : Decidable (Pm l m r) := by unfold Pm; infer_instance
theorem go_app (s : Po) : ∀ (u v : Word), s.go (u ++ v) = (s.go u).go v := by
  intro u
  induction u generalizing s with
  | nil => intro v; rfl
  | cons c u ih => intro v; exact ih (s.st c) v
theorem go_snoc (s : Po) (u : Word) (c : Bool) : s.go (u ++ [c]) = (s.go u).st c := go_app s u [c]
theorem Pm.R {l m r : Int} (h : Pm l m r) : Pm l r m := by
  rcases h with ⟨rfl, rfl, rfl⟩ | ⟨rfl, rfl, rfl⟩ | ⟨rfl, rfl, rfl⟩ | ⟨rfl, rfl, rfl⟩ | ⟨rfl, rfl, rfl⟩ | ⟨rfl, rfl, rfl⟩ <;> decide
theorem Pm.L {l m r : Int} (h : Pm l m r) : Pm m l r := by
  rcases h with ⟨rfl, rfl, rfl⟩ | ⟨rfl, rfl, rfl⟩ | ⟨rfl, rfl, rfl⟩ | ⟨rfl, rfl, rfl⟩ | ⟨rfl, rfl, rfl⟩ | ⟨rfl, rfl, rfl⟩ <;> decide
theorem gcd_R (p q : Int) : Int.gcd (p + q) q = Int.gcd p q := by simp
theorem gcd_L (p q : Int) : Int.gcd p (q + p) = Int.gcd p q := by simp
theorem Po.ok.st {s : Po} (h : s.ok) (c : Bool) : (s.st c).ok := by
  obtain ⟨h1, h2, h3, h4, h5⟩ := h
  cases c with
  | true => exact ⟨h1, show 1 ≤ s.p + s.q by omega, h3, h4.R, (gcd_R _ _).trans h5⟩
  | false => exact ⟨h1, h2, show 1 ≤ s.q + s.p by omega, h4.L, (gcd_L _ _).trans h5⟩
theorem Po.ok.go {s : Po} (h : s.ok) (w : Word) : (s.go w).ok := by
  induction w generalizing s with
  | nil => exact h
  | cons c w ih => exact ih (h.st c)
theorem go_h (s : Po) (w : Word) : (s.go w).h = s.h := by
  induction w generalizing s with
  | nil => rfl
  | cons c w ih => cases c <;> exact (ih _).trans rfl
theorem go_g (s : Po) (w : Word) : (s.go w).g = s.g := by
  induction w generalizing s with
  | nil => rfl
  | cons c w ih => cases c <;> exact (ih _).trans rfl
theorem go_Rn (s : Po) : ∀ n : Nat, s.go (List.replicate n true) = ⟨s.h, s.g, s.p + n * s.q, s.q, s.l, if n % 2 = 0 then s.m else s.r, if n % 2 = 0 then s.r else s.m⟩
  | 0 => by simp [Po.go]
  | n + 1 => by
    rw [List.replicate_succ', go_snoc, go_Rn s n]
    show Po.R _ = _
    unfold Po.R
    simp only [Po.mk.injEq, true_and, and_true]
    refine ⟨?_, ?_, ?_⟩
    · rw [show ((n + 1 : Nat) : Int) = n + 1 from rfl, Int.add_mul]; omega
    · by_cases h : n % 2 = 0
      · rw [if_pos h, if_neg (by omega)]
      · rw [if_neg h, if_pos (by omega)]
    · by_cases h : n % 2 = 0
      · rw [if_pos h, if_neg (by omega)]
      · rw [if_neg h, if_pos (by omega)]
theorem go_Ln (s : Po) : ∀ n : Nat, s.go (List.replicate n false) = ⟨s.h, s.g, s.p, s.q + n * s.p, if n % 2 = 0 then s.l else s.m, if n % 2 = 0 then s.m else s.l, s.r⟩
  | 0 => by simp [Po.go]
  | n + 1 => by
    rw [List.replicate_succ', go_snoc, go_Ln s n]
    show Po.L _ = _
    unfold Po.L
    simp only [Po.mk.injEq, true_and, and_true]
    refine ⟨?_, ?_, ?_⟩
    · rw [show ((n + 1 : Nat) : Int) = n + 1 from rfl, Int.add_mul]; omega
    · by_cases h : n % 2 = 0
      · rw [if_pos h, if_neg (by omega)]
      · rw [if_neg h, if_pos (by omega)]
    · by_cases h : n % 2 = 0
      · rw [if_pos h, if_neg (by omega)]
      · rw [if_neg h, if_pos (by omega)]
theorem go_ends {s : Po} (h : s.bg) (w : Word) : ((w = [] ∨ ∃ v, w = v ++ [false]) → (s.go w).p ≤ (s.go w).q) ∧ ((w = [] ∨ ∃ v, w = v ++ [true]) → (s.go w).q ≤ (s.go w).p) := by
  constructor
  · rintro (rfl | ⟨v, rfl⟩)
    · show s.p ≤ s.q; rw [h.p1, h.q1]; omega
    · rw [go_snoc]
      have := (h.ok.go v).q1
      show (s.go v).p ≤ (s.go v).q + (s.go v).p
      omega
  · rintro (rfl | ⟨v, rfl⟩)
    · show s.q ≤ s.p; rw [h.p1, h.q1]; omega
    · rw [go_snoc]
      have := (h.ok.go v).p1
      show (s.go v).q ≤ (s.go v).p + (s.go v).q
      omega
theorem go_R {s : Po} (h : s.bg) (v : Word) : (s.go (v ++ [true])).q < (s.go (v ++ [true])).p := by
  rw [go_snoc]
  have := (h.ok.go v).p1
  show (s.go v).q < (s.go v).p + (s.go v).q
  omega
theorem go_L {s : Po} (h : s.bg) (v : Word) : (s.go (v ++ [false])).p < (s.go (v ++ [false])).q := by
  rw [go_snoc]
  have := (h.ok.go v).q1
  show (s.go v).p < (s.go v).q + (s.go v).p
  omega
theorem snoc_cases (w : Word) : w = [] ∨ ∃ v c, w = v ++ [c] := by
  rcases List.eq_nil_or_concat w with h | ⟨v, c, h⟩
  · exact .inl h
  · exact .inr ⟨v, c, by rw [h, List.concat_eq_append]⟩
theorem go_inj {s t : Po} (hs : s.bg) (ht : t.bg) : ∀ (n : Nat) (u v : Word), u.length ≤ n → (s.go u).p = (t.go v).p → (s.go u).q = (t.go v).q → u = v
  | n, u, v, hn, ep, eq => by
    rcases snoc_cases u with rfl | ⟨u, c, rfl⟩ <;> rcases snoc_cases v with rfl | ⟨v, d, rfl⟩
    · rfl
    · have e1 : (1 : Int) = (t.go (v ++ [d])).p := by rw [← ep]; exact hs.p1.symm
      have e2 : (1 : Int) = (t.go (v ++ [d])).q := by rw [← eq]; exact hs.q1.symm
      cases d
      · have := go_L ht v; omega
      · have := go_R ht v; omega
    · have e1 : (s.go (u ++ [c])).p = 1 := by rw [ep]; exact ht.p1
      have e2 : (s.go (u ++ [c])).q = 1 := by rw [eq]; exact ht.q1
      cases c
      · have := go_L hs u; omega
      · have := go_R hs u; omega
    · cases n with
      | zero => simp at hn
      | succ n =>
        have hu : u.length ≤ n := by simp at hn; omega
        cases c <;> cases d
        · rw [go_snoc, go_snoc] at ep eq
          have ep : (s.go u).p = (t.go v).p := ep
          have eq : (s.go u).q + (s.go u).p = (t.go v).q + (t.go v).p := eq
          rw [go_inj hs ht n u v hu ep (by omega)]
        · have := go_L hs u; have := go_R ht v; omega
        · have := go_R hs u; have := go_L ht v; omega
        · rw [go_snoc, go_snoc] at ep eq
          have eq : (s.go u).q = (t.go v).q := eq
          have ep : (s.go u).p + (s.go u).q = (t.go v).p + (t.go v).q := ep
          rw [go_inj hs ht n u v hu (by omega) eq]
theorem begin_ex : ∀ (n : Nat) (s : Po), s.ok → s.p.toNat + s.q.toNat ≤ n → ∃ (b : Po) (w : Word), b.bg ∧ s = b.go w
  | 0, s, h, hn => by have := h.p1; omega
  | n + 1, s, h, hn => by
    obtain ⟨h1, h2, h3, h4, h5⟩ := h
    rcases Int.lt_trichotomy s.p s.q with c | c | c
    · let t : Po := ⟨s.h, s.g, s.p, s.q - s.p, s.m, s.l, s.r⟩
      have ht : t.ok := ⟨h1, h2, show 1 ≤ s.q - s.p by omega, h4.L, by
        have := gcd_L s.p (s.q - s.p)
        rw [Int.sub_add_cancel] at this
        exact this.symm.trans h5⟩
      obtain ⟨b, w, hb, e⟩ := begin_ex n t ht (by show s.p.toNat + (s.q - s.p).toNat ≤ n; omega)
      refine ⟨b, w ++ [false], hb, ?_⟩
      rw [go_snoc, ← e]
      show s = t.L
      unfold Po.L
      simp only [t, Int.sub_add_cancel]
    · refine ⟨s, [], ⟨⟨h1, h2, h3, h4, h5⟩, ?_, ?_⟩, rfl⟩
      · rw [← c, Int.gcd_self] at h5; omega
      · rw [← c, Int.gcd_self] at h5; omega
    · let t : Po := ⟨s.h, s.g, s.p - s.q, s.q, s.l, s.r, s.m⟩
      have ht : t.ok := ⟨h1, show 1 ≤ s.p - s.q by omega, h3, h4.R, by
        have := gcd_R (s.p - s.q) s.q
        rw [Int.sub_add_cancel] at this
        exact this.symm.trans h5⟩
      obtain ⟨b, w, hb, e⟩ := begin_ex n t ht (by show (s.p - s.q).toNat + s.q.toNat ≤ n; omega)
      refine ⟨b, w ++ [true], hb, ?_⟩
      rw [go_snoc, ← e]
      show s = t.R
      unfold Po.R
      simp only [t, Int.sub_add_cancel]
theorem go_len {s : Po} (h : s.ok) (w : Word) : (w.length : Int) + s.p + s.q ≤ (s.go w).p + (s.go w).q := by
  induction w generalizing s with
  | nil => show (0 : Int) + s.p + s.q ≤ s.p + s.q; omega
  | cons c w ih =>
    have := ih (h.st c)
    have e : (s.go (c :: w)) = (s.st c).go w := rfl
    rw [e]
    have h1 := h.p1
    have h2 := h.q1
    have : s.p + s.q + 1 ≤ (s.st c).p + (s.st c).q := by
      cases c
      · show s.p + s.q + 1 ≤ s.p + (s.q + s.p); omega
      · show s.p + s.q + 1 ≤ (s.p + s.q) + s.q; omega
    simp only [List.length_cons]
    omega
theorem go_mono {s : Po} (h : s.ok) (w : Word) : s.p ≤ (s.go w).p ∧ s.q ≤ (s.go w).q := by
  induction w generalizing s with
  | nil => exact ⟨Int.le_refl _, Int.le_refl _⟩
  | cons c w ih =>
    have := ih (h.st c)
    have e : (s.go (c :: w)) = (s.st c).go w := rfl
    rw [e]
    have h1 := h.p1
    have h2 := h.q1
    have : s.p ≤ (s.st c).p ∧ s.q ≤ (s.st c).q := by
      cases c
      · exact ⟨Int.le_refl _, show s.q ≤ s.q + s.p by omega⟩
      · exact ⟨show s.p ≤ s.p + s.q by omega, Int.le_refl _⟩
    omega
/-! ### places -/
def Po.x (s : Po) : Int := s.h - s.g * s.q
def Po.y (s : Po) : Int := s.h + s.g * (s.p - s.q)
def Po.z (s : Po) : Int := s.h + s.g * s.p
def Po.at (s : Po) (i : Int) : Int := if i = s.l then s.x else if i = s.m then s.y else s.z
theorem Po.yx (s : Po) : s.y - s.x = s.g * s.p := by unfold Po.y Po.x; rw [Int.mul_sub]; omega
theorem Po.zy (s : Po) : s.z - s.y = s.g * s.q := by unfold Po.y Po.z; rw [Int.mul_sub]; omega
theorem Po.ok.xy {s : Po} (h : s.ok) : s.x < s.y := by
  have := s.yx
  have : 0 < s.g * s.p := Int.mul_pos (by have := h.g1; omega) (by have := h.p1; omega)
  omega
theorem Po.ok.yz {s : Po} (h : s.ok) : s.y < s.z := by
  have := s.zy
  have : 0 < s.g * s.q := Int.mul_pos (by have := h.g1; omega) (by have := h.q1; omega)
  omega
theorem R_x (s : Po) : s.R.x = s.x := rfl
theorem R_y (s : Po) : s.R.y = s.z := by show s.h + s.g * (s.p + s.q - s.q) = s.h + s.g * s.p; rw [Int.add_sub_cancel]
theorem R_z (s : Po) : s.R.z = 2 * s.z - s.y := by
  show s.h + s.g * (s.p + s.q) = _
  have := s.zy
  have : s.z = s.h + s.g * s.p := rfl
  rw [Int.mul_add]; omega
theorem L_z (s : Po) : s.L.z = s.z := rfl
theorem L_y (s : Po) : s.L.y = s.x := by
  show s.h + s.g * (s.p - (s.q + s.p)) = s.h - s.g * s.q
  rw [show s.p - (s.q + s.p) = -s.q by omega, Int.mul_neg]; omega
theorem L_x (s : Po) : s.L.x = 2 * s.x - s.y := by
  show s.h - s.g * (s.q + s.p) = _
  have := s.yx
  have : s.x = s.h - s.g * s.q := rfl
  rw [Int.mul_add]; omega
end Wd

set_option autoImplicit false
set_option linter.all false
set_option maxRecDepth 100000
set_option maxHeartbeats 2000000
namespace Lp
open PySem Wd
variable {lw : Fd}
abbrev PD (s : Po) : D := T3 (s.at 0) (s.at 1) (s.at 2)
theorem at_all {s : Po} (h : s.ok) : s.at s.l = s.x ∧ s.at s.m = s.y ∧ s.at s.r = s.z := by
  obtain ⟨hh, g, p, q, l, m, r⟩ := s
  have pm := h.pm
  rcases pm with ⟨a, b, c⟩ | ⟨a, b, c⟩ | ⟨a, b, c⟩ | ⟨a, b, c⟩ | ⟨a, b, c⟩ | ⟨a, b, c⟩ <;> (simp only at a b c; subst a b c; simp [Po.at])
theorem sorted3 {s : Po} (h : s.ok) : ord3 (s.at 0) (s.at 1) (s.at 2) = [s.l, s.m, s.r] ∧ up3 (s.at 0) (s.at 1) (s.at 2) = [s.x, s.y, s.z] := by
  have h1 := h.xy
  have h2 := h.yz
  have pm := h.pm
  generalize hx : s.x = x at *
  generalize hy : s.y = y at *
  generalize hz : s.z = z at *
  unfold Po.at ord3 up3
  rw [hx, hy, hz]
  obtain ⟨hh, g, p, q, l, m, r⟩ := s
  clear hx hy hz h
  simp only at pm
  rcases pm with ⟨a, b, c⟩ | ⟨a, b, c⟩ | ⟨a, b, c⟩ | ⟨a, b, c⟩ | ⟨a, b, c⟩ | ⟨a, b, c⟩ <;> subst a b c <;> simp <;> constructor <;> (repeat' split) <;> first | rfl | omega
theorem apart {s : Po} (h : s.ok) : s.at 0 ≠ s.at 1 ∧ s.at 0 ≠ s.at 2 ∧ s.at 1 ≠ s.at 2 := by
  have h1 := h.xy
  have h2 := h.yz
  have pm := h.pm
  generalize hx : s.x = x at *
  generalize hy : s.y = y at *
  generalize hz : s.z = z at *
  unfold Po.at
  rw [hx, hy, hz]
  obtain ⟨hh, g, p, q, l, m, r⟩ := s
  clear hx hy hz h
  simp only at pm
  rcases pm with ⟨a, b, c⟩ | ⟨a, b, c⟩ | ⟨a, b, c⟩ | ⟨a, b, c⟩ | ⟨a, b, c⟩ | ⟨a, b, c⟩ <;> subst a b c <;> simp <;> omega
def In (s : Po) : Prop := -1000000000000000000 ≤ s.x ∧ s.z ≤ 1000000000000000000
theorem at_in {s : Po} (h : s.ok) (i : Int) : s.x ≤ s.at i ∧ s.at i ≤ s.z := by
  have h1 := h.xy
  have h2 := h.yz
  unfold Po.at
  split
  · omega
  · split <;> omega
theorem In.st {s : Po} (h : s.ok) (i : In s) : St (s.at 0) (s.at 1) (s.at 2) := by
  have a := apart h
  have h0 := at_in h 0
  have h1 := at_in h 1
  have h2 := at_in h 2
  obtain ⟨i1, i2⟩ := i
  exact ⟨a.1, a.2.1, a.2.2, ⟨by omega, by omega⟩, ⟨by omega, by omega⟩, ⟨by omega, by omega⟩⟩
theorem pos_ex {a b c : Int} (h1 : a ≠ b) (h2 : a ≠ c) (h3 : b ≠ c) : ∃ s : Po, s.ok ∧ s.at 0 = a ∧ s.at 1 = b ∧ s.at 2 = c := by
  have mk : ∀ x y z l m r : Int, x < y → y < z → Pm l m r → ∃ s : Po, s.ok ∧ s.l = l ∧ s.m = m ∧ s.r = r ∧ s.x = x ∧ s.y = y ∧ s.z = z := by
    intro x y z l m r hx hz pm
    let g : Int := Int.gcd (y - x) (z - y)
    have g0 : 0 < Int.gcd (y - x) (z - y) := Int.gcd_pos_of_ne_zero_left _ (by omega)
    have gp : 0 < g := by show (0 : Int) < (Int.gcd (y - x) (z - y) : Int); omega
    obtain ⟨p, hp⟩ : g ∣ (y - x) := Int.gcd_dvd_left ..
    obtain ⟨q, hq⟩ : g ∣ (z - y) := Int.gcd_dvd_right ..
    have p1 : 1 ≤ p := by
      have : 0 < g * p := by rw [← hp]; omega
      have := Int.pos_of_mul_pos_right this gp
      omega
    have q1 : 1 ≤ q := by
      have : 0 < g * q := by rw [← hq]; omega
      have := Int.pos_of_mul_pos_right this gp
      omega
    have cop : Int.gcd p q = 1 := by
      have e : Int.gcd (y - x) (z - y) = g.natAbs * Int.gcd p q := by rw [hp, hq, Int.gcd_mul_left]
      have ga : g.natAbs = Int.gcd (y - x) (z - y) := rfl
      rw [ga] at e
      have : Int.gcd (y - x) (z - y) * 1 = Int.gcd (y - x) (z - y) * Int.gcd p q := by rw [Nat.mul_one]; exact e
      exact (Nat.eq_of_mul_eq_mul_left g0 this).symm
    refine ⟨⟨x + z - y, g, p, q, l, m, r⟩, ⟨by show 1 ≤ g; omega, p1, q1, pm, cop⟩, rfl, rfl, rfl, ?_, ?_, ?_⟩
    · show x + z - y - g * q = x; rw [← hq]; omega
    · show x + z - y + g * (p - q) = y; rw [Int.mul_sub, ← hq, ← hp]; omega
    · show x + z - y + g * p = z; rw [← hp]; omega
  rcases ord3_cases h1 h2 h3 with ⟨p, q, _, _⟩ | ⟨p, q, _, _⟩ | ⟨p, q, _, _⟩ | ⟨p, q, _, _⟩ | ⟨p, q, _, _⟩ | ⟨p, q, _, _⟩
  · obtain ⟨s, hs, e1, e2, e3, e4, e5, e6⟩ := mk a b c 0 1 2 p q (by decide)
    exact ⟨s, hs, by simp [Po.at, e1, e2, e3, e4, e5, e6], by simp [Po.at, e1, e2, e3, e4, e5, e6], by simp [Po.at, e1, e2, e3, e4, e5, e6]⟩
  · obtain ⟨s, hs, e1, e2, e3, e4, e5, e6⟩ := mk a c b 0 2 1 p q (by decide)
    exact ⟨s, hs, by simp [Po.at, e1, e2, e3, e4, e5, e6], by simp [Po.at, e1, e2, e3, e4, e5, e6], by simp [Po.at, e1, e2, e3, e4, e5, e6]⟩
  · obtain ⟨s, hs, e1, e2, e3, e4, e5, e6⟩ := mk c a b 2 0 1 p q (by decide)
    exact ⟨s, hs, by simp [Po.at, e1, e2, e3, e4, e5, e6], by simp [Po.at, e1, e2, e3, e4, e5, e6], by simp [Po.at, e1, e2, e3, e4, e5, e6]⟩
  · obtain ⟨s, hs, e1, e2, e3, e4, e5, e6⟩ := mk b a c 1 0 2 p q (by decide)
    exact ⟨s, hs, by simp [Po.at, e1, e2, e3, e4, e5, e6], by simp [Po.at, e1, e2, e3, e4, e5, e6], by simp [Po.at, e1, e2, e3, e4, e5, e6]⟩
  · obtain ⟨s, hs, e1, e2, e3, e4, e5, e6⟩ := mk b c a 1 2 0 p q (by decide)
    exact ⟨s, hs, by simp [Po.at, e1, e2, e3, e4, e5, e6], by simp [Po.at, e1, e2, e3, e4, e5, e6], by simp [Po.at, e1, e2, e3, e4, e5, e6]⟩
  · obtain ⟨s, hs, e1, e2, e3, e4, e5, e6⟩ := mk c b a 2 1 0 p q (by decide)
    exact ⟨s, hs, by simp [Po.at, e1, e2, e3, e4, e5, e6], by simp [Po.at, e1, e2, e3, e4, e5, e6], by simp [Po.at, e1, e2, e3, e4, e5, e6]⟩
theorem tree_ex {a b c : Int} (h1 : a ≠ b) (h2 : a ≠ c) (h3 : b ≠ c) : ∃ (s : Po) (w : Word), s.bg ∧ (s.go w).at 0 = a ∧ (s.go w).at 1 = b ∧ (s.go w).at 2 = c := by
  obtain ⟨t, ht, e⟩ := pos_ex h1 h2 h3
  obtain ⟨s, w, hs, rfl⟩ := begin_ex _ t ht (Nat.le_refl _)
  exact ⟨s, w, hs, e⟩
/-! ### what the program tells of a position -/
theorem o_of {s : Po} (h : s.ok) (n : Nat) (hn : 1 ≤ n) : callF (GT lw) n 174 none [PD s] = .ok (T3 s.l s.m s.r, none) := by
  have e := order_of_eq (lw := lw) n hn (apart h).1 (apart h).2.1 (apart h).2.2
  rw [(sorted3 h).1] at e
  exact e
theorem lo_of {s : Po} (h : s.ok) (n : Nat) (hn : 1 ≤ n) : callF (GT lw) n 305 none [PD s] = .ok (.list [.int s.l, .int s.m, .int s.r], none) := by
  have e := law_order_eq (lw := lw) n hn (apart h).1 (apart h).2.1 (apart h).2.2
  rw [(sorted3 h).1] at e
  exact e
theorem g_of {s : Po} (h : s.ok) (n : Nat) (hn : 1 ≤ n) : callF (GT lw) n 61 none [PD s] = .ok (.tuple [.int (s.g * s.p), .int (s.g * s.q)], none) := by
  have e := gaps_of_eq (lw := lw) n hn (sorted3 h).2
  rw [s.yx, s.zy] at e
  exact e
theorem srt_of {s : Po} (h : s.ok) : sortD [.int (s.at 0), .int (s.at 1), .int (s.at 2)] = .ok (.list [.int s.x, .int s.y, .int s.z]) := by
  have e := sortD3 (s.at 0) (s.at 1) (s.at 2)
  rw [(sorted3 h).2] at e
  exact e
theorem m_of {s : Po} (h : s.ok) (n : Nat) (hn : 1 ≤ n) : callF (GT lw) n 128 none [PD s] = .ok (.int s.h, none) := by
  obtain ⟨m, rfl⟩ : ∃ m, n = m + 1 := ⟨n - 1, by omega⟩
  rw [call_eq (fd := fd128) rfl]
  have e : s.x + s.z - s.y = s.h := by
    have := s.zy
    have : s.x = s.h - s.g * s.q := rfl
    omega
  simp -implicitDefEqProofs [runF, fd128, begin_, two, lzV_def, getV_def, lzOf, srt_of h, e]
/-! ### loops that go on while something holds -/
theorem whlN_mono {c : En → R (Bool × En)} {b : En → R (Fl × En)} : ∀ (n : Nat) (v : En) (r : R (Fl × En)), whlN c b n v = some r → ∀ m, n ≤ m → whlN c b m v = some r
  | 0, v, r, h, m, _ => by cases h
  | n + 1, v, r, h, m, hm => by
    obtain ⟨m, rfl⟩ : ∃ k, m = k + 1 := ⟨m - 1, by omega⟩
    unfold whlN at h ⊢
    split at h
    · exact h
    · exact h
    · split at h
      · exact h
      · exact h
      · exact whlN_mono n _ r h m (by omega)
theorem whl_of {c : En → R (Bool × En)} {b : En → R (Fl × En)} {v : En} {r : R (Fl × En)} {n : Nat} (h : whlN c b n v = some r) : whl c b v = r := by
  have hex : ∃ n r, whlN c b n v = some r := ⟨n, r, h⟩
  unfold whl
  rw [dif_pos hex]
  have h2 := hex.choose_spec.choose_spec
  have h3 := whlN_mono _ _ _ h2 (max n hex.choose) (Nat.le_max_right ..)
  have h4 := whlN_mono _ _ _ h (max n hex.choose) (Nat.le_max_left ..)
  rw [h3] at h4
  exact Option.some.inj h4
theorem whl_no {c : En → R (Bool × En)} {b : En → R (Fl × En)} {v v' : En} (h : c v = .ok (false, v')) : whl c b v = .ok (.nx, v') := by
  refine whl_of (n := 1) ?_
  unfold whlN
  rw [h]
theorem whl_go {c : En → R (Bool × En)} {b : En → R (Fl × En)} {v v' v2 : En} (h : c v = .ok (true, v')) (h2 : b v' = .ok (.nx, v2)) : whl c b v = whl c b v2 := by
  have st : ∀ n, whlN c b (n + 1) v = whlN c b n v2 := fun n => by
    rw [whlN, h]
    simp only [h2]
  by_cases q : ∃ n r, whlN c b n v2 = some r
  · obtain ⟨n, r, e⟩ := q
    rw [whl_of e, whl_of ((st n).trans e)]
  · have q2 : ¬∃ n r, whlN c b n v = some r := by
      rintro ⟨n, r, e⟩
      cases n with
      | zero => cases e
      | succ n => exact q ⟨n, r, (st n).symm.trans e⟩
    unfold whl
    rw [dif_neg q, dif_neg q2]
noncomputable def whlE (cf : Cf) (c : E) (b : List S) (v : En) : R (Fl × En) := whl (fun v => test cf c v) (fun v => exs cf b v) v
@[simp] theorem x_whl (cf : Cf) (c : E) (b : List S) (v : En) : ex cf (.whl c b) v = whlE cf c b v := by rw [ex] <;> rfl
theorem whlE_no {cf : Cf} {c : E} {b : List S} {v v' : En} (h : test cf c v = .ok (false, v')) : whlE cf c b v = .ok (.nx, v') := whl_no h
theorem whlE_go {cf : Cf} {c : E} {b : List S} {v v' v2 : En} (h : test cf c v = .ok (true, v')) (h2 : exs cf b v' = .ok (.nx, v2)) : whlE cf c b v = whlE cf c b v2 := whl_go h h2
/-! ### the greatest common divisor -/
theorem common_loop (cf : Cf) (n : Nat) : ∀ (a b : Int), 0 ≤ a → 0 ≤ b → b ≤ n → whlE cf (.cmp .NotEq (.var 1) (.cst (.int 0))) [(.par [0, 1] [(.var 1), (.bin .Mod (.var 0) (.var 1))])] [.fz (.int a), .fz (.int b)] = .ok (.nx, [.fz (.int (Int.gcd a b)), .fz (.int 0)]) := by
  induction n with
  | zero =>
    intro a b ha hb hn
    have : b = 0 := by omega
    subst this
    rw [whlE_no (v' := [.fz (.int a), .fz (.int 0)]) (by simp -implicitDefEqProofs [test, truOf, two, lzV_def, lzOf])]
    rw [Int.gcd_zero_right, show ((a.natAbs : Nat) : Int) = a by omega]
  | succ n ih =>
    intro a b ha hb hn
    by_cases z : b = 0
    · subst z
      rw [whlE_no (v' := [.fz (.int a), .fz (.int 0)]) (by simp -implicitDefEqProofs [test, truOf, two, lzV_def, lzOf])]
      rw [Int.gcd_zero_right, show ((a.natAbs : Nat) : Int) = a by omega]
    · have hz : (b == (0 : Int)) = false := beq_eq_false_iff_ne.mpr z
      rw [whlE_go (v' := [.fz (.int a), .fz (.int b)]) (v2 := [.fz (.int b), .fz (.int (a % b))]) (by simp -implicitDefEqProofs [test, truOf, two, lzV_def, lzOf, hz])
        (by simp -implicitDefEqProofs [test, truOf, two, lzV_def, getV_def, lzOf, setAll, held, isNew, bin_mod a b (by omega)])]
      have h1 := Int.emod_nonneg a z
      have h2 := Int.emod_lt_of_pos a (show 0 < b by omega)
      rw [ih b (a % b) hb h1 (by omega)]
      rw [Int.gcd_comm a b, ← Int.gcd_add_mul_left_right b (a % b) (a / b)]
      first | rw [Int.emod_add_mul_ediv] | rw [Int.emod_add_ediv]
theorem common_eq (n : Nat) (hn : 1 ≤ n) (a b : Int) (ha : 0 ≤ a) (hb : 0 ≤ b) : callF (GT lw) n 26 none [.int a, .int b] = .ok (.int (Int.gcd a b), none) := by
  obtain ⟨m, rfl⟩ : ∃ m, n = m + 1 := ⟨n - 1, by omega⟩
  rw [call_eq (fd := fd26) rfl]
  have e := common_loop (callF (GT lw) m) b.toNat a b ha hb (by omega)
  have : ¬ ((Int.gcd a b : Nat) : Int) < 0 := by omega
  simp -implicitDefEqProofs [runF, fd26, begin_, e, lzV_def, lzOf, this]
end Lp

set_option autoImplicit false
set_option linter.all false
set_option maxRecDepth 100000
set_option maxHeartbeats 2000000
namespace Lp
open PySem Wd
variable {lw : Fd}
/-! ### great numbers -/
def BIG : Nat := 2 ^ 8000
def Bn (a : Int) : Prop := a.natAbs < BIG
theorem Bn.log {a : Int} (h : Bn a) : a.natAbs.log2 < 8000 := log_lt h (by decide)
theorem big_ge : 4611686018427387904 ≤ BIG := by
  show 4611686018427387904 ≤ 2 ^ 8000
  exact Nat.le_trans (show 4611686018427387904 ≤ 2 ^ 62 by decide) (Nat.pow_le_pow_right (by decide) (by decide))
theorem Bn.of_le {a b : Int} (h : Bn b) (h1 : -b ≤ a) (h2 : a ≤ b) : Bn a := by unfold Bn at *; omega
theorem Bn.sm {a : Int} (h1 : -4000000000000000000 ≤ a) (h2 : a ≤ 4000000000000000000) : Bn a := by
  unfold Bn
  have := big_ge
  omega
theorem mulB {a b : Int} (ha : Bn a) (hb : Bn b) : bin .Mult (.int a) (.int b) = .ok (.int (a * b)) := bin_mul _ _ (by have := ha.log; have := hb.log; omega)
theorem fdivB {a b : Int} (h : 0 < b) (hb : Bn b) : bin .FloorDiv (.int a) (.int b) = .ok (.int (a / b)) := by
  show (if 0 < b then gd (decide (b.natAbs.log2 < 9000)) (.ok (PyData.int (a / b))) else _) = _
  rw [if_pos h, decide_eq_true (show b.natAbs.log2 < 9000 by have := hb.log; omega)]; rfl
structure Bs (s : Po) : Prop where
  g : Bn s.g
  s : Bn (s.p + s.q)
theorem Bs.p {s : Po} (b : Bs s) (h : s.ok) : Bn s.p := b.s.of_le (by have := h.p1; have := h.q1; omega) (by have := h.q1; omega)
theorem Bs.q {s : Po} (b : Bs s) (h : s.ok) : Bn s.q := b.s.of_le (by have := h.p1; have := h.q1; omega) (by have := h.p1; omega)
theorem In.bs {s : Po} (h : s.ok) (i : In s) : Bs s := by
  obtain ⟨i1, i2⟩ := i
  have h1 := h.g1
  have h2 := h.p1
  have h3 := h.q1
  have y := s.yx
  have z := s.zy
  have e1 : s.g * 1 ≤ s.g * s.p := Int.mul_le_mul_of_nonneg_left h2 (by omega)
  have e2 : 1 * s.p ≤ s.g * s.p := Int.mul_le_mul_of_nonneg_right h1 (by omega)
  have e3 : 1 * s.q ≤ s.g * s.q := Int.mul_le_mul_of_nonneg_right h1 (by omega)
  have := h.xy
  have := h.yz
  exact ⟨Bn.sm (by omega) (by omega), Bn.sm (by omega) (by omega)⟩
theorem Bs.mono {s : Po} (h : s.ok) {w : Word} (b : Bs (s.go w)) : Bs s := by
  have := go_mono h w
  have := h.p1
  have := h.q1
  refine ⟨by have := b.g; rw [go_g] at this; exact this, b.s.of_le (by omega) (by omega)⟩
theorem Bs.pre {s : Po} (h : s.ok) {u v : Word} (b : Bs (s.go (u ++ v))) : Bs (s.go u) := by
  rw [go_app] at b
  exact b.mono (h.go u)
/-! ### grain, pair -/
theorem gcd_gg {s : Po} (h : s.ok) : ((Int.gcd (s.g * s.p) (s.g * s.q) : Nat) : Int) = s.g := by
  rw [Int.gcd_mul_left, h.cop, Nat.mul_one]
  have := h.g1
  omega
theorem gpos {s : Po} (h : s.ok) : 0 ≤ s.g * s.p ∧ 0 ≤ s.g * s.q := ⟨Int.mul_nonneg (by have := h.g1; omega) (by have := h.p1; omega), Int.mul_nonneg (by have := h.g1; omega) (by have := h.q1; omega)⟩
theorem gr_of {s : Po} (h : s.ok) (n : Nat) (hn : 2 ≤ n) : callF (GT lw) n 66 none [PD s] = .ok (.int s.g, none) := by
  obtain ⟨m, rfl⟩ : ∃ m, n = m + 1 := ⟨n - 1, by omega⟩
  rw [call_eq (fd := fd66) rfl]
  have e1 := g_of (lw := lw) h m (by omega)
  have e2 := common_eq (lw := lw) m (by omega) _ _ (gpos h).1 (gpos h).2
  rw [gcd_gg h] at e2
  simp -implicitDefEqProofs [runF, fd66, begin_, getV_def, rdy, cn_none, e1, e2]
theorem pr_of {s : Po} (h : s.ok) (b : Bs s) (n : Nat) (hn : 2 ≤ n) : callF (GT lw) n 193 none [PD s] = .ok (.tuple [.int s.p, .int s.q], none) := by
  obtain ⟨m, rfl⟩ : ∃ m, n = m + 1 := ⟨n - 1, by omega⟩
  rw [call_eq (fd := fd193) rfl]
  have e1 := g_of (lw := lw) h m (by omega)
  have e2 := common_eq (lw := lw) m (by omega) _ _ (gpos h).1 (gpos h).2
  rw [gcd_gg h] at e2
  have g1 := h.g1
  have f1 := fdivB (a := s.g * s.p) (show 0 < s.g by omega) b.g
  have f2 := fdivB (a := s.g * s.q) (show 0 < s.g by omega) b.g
  rw [Int.mul_ediv_cancel_left _ (by omega)] at f1 f2
  simp -implicitDefEqProofs [runF, fd193, begin_, two, getV_def, lzV_def, lzOf, rdy, cn_none, setAll, held, isNew, e1, e2, f1, f2]
/-! ### laid -/
theorem laid_of {s : Po} (h : s.ok) (b : Bs s) (n : Nat) (hn : 1 ≤ n) : callF (GT lw) n 90 none [.int s.h, .int s.g, .tuple [.int s.p, .int s.q], T3 s.l s.m s.r] = .ok (PD s, none) := by
  obtain ⟨m, rfl⟩ : ∃ m, n = m + 1 := ⟨n - 1, by omega⟩
  rw [call_eq (fd := fd90) rfl]
  have m1 := mulB b.g (b.q h)
  have m2 : bin .Mult (.int s.g) (.int (s.p - s.q)) = .ok (.int (s.g * (s.p - s.q))) := mulB b.g (b.s.of_le (by have := h.p1; have := h.q1; omega) (by have := h.p1; have := h.q1; omega))
  have m3 := mulB b.g (b.p h)
  have rp : bin .Mult (.list [.int 0]) (.int 3) = .ok (.list [.int 0, .int 0, .int 0]) := rfl
  have ex1 : s.h - s.g * s.q = s.x := rfl
  have ey1 : s.h + s.g * (s.p - s.q) = s.y := rfl
  have ez1 : s.h + s.g * s.p = s.z := rfl
  have pm := h.pm
  rcases pm with ⟨hl, hm, hr⟩ | ⟨hl, hm, hr⟩ | ⟨hl, hm, hr⟩ | ⟨hl, hm, hr⟩ | ⟨hl, hm, hr⟩ | ⟨hl, hm, hr⟩ <;>
    simp -implicitDefEqProofs [runF, fd90, begin_, two, lzV_def, getV_def, peekV_def, ownAt_def, lzOf, rdy, setAll, held, isNew, m1, m2, m3, rp, ex1, ey1, ez1, hl, hm, hr, zipD, store, ixAt, Po.at]
/-! ### a run outward -/
def sgn (c : Bool) : Str := if c then "R" else "L"
def runD (x : Bool × Nat) : D := .tuple [.str (sgn x.1), .int x.2]
def rsD (rs : Runs) : List D := rs.map runD
theorem cmp_R (c : Bool) : cmp .Eq (.str (sgn c)) (.str ("R" : Str)) = .ok c := by cases c <;> kernel_rfl
theorem go_rep (s : Po) (c : Bool) (n : Nat) : (s.go (List.replicate n c)) = if c = true then ⟨s.h, s.g, s.p + n * s.q, s.q, s.l, if n % 2 = 0 then s.m else s.r, if n % 2 = 0 then s.r else s.m⟩ else ⟨s.h, s.g, s.p, s.q + n * s.p, if n % 2 = 0 then s.l else s.m, if n % 2 = 0 then s.m else s.l, s.r⟩ := by
  cases c
  · rw [go_Ln]; rfl
  · rw [go_Rn]; rfl
theorem rep_n {s : Po} (h : s.ok) {c : Bool} {n : Nat} (b : Bs (s.go (List.replicate n c))) : Bn (n : Int) := by
  have := go_len h (List.replicate n c)
  rw [List.length_replicate] at this
  have := h.p1
  have := h.q1
  exact b.s.of_le (by omega) (by omega)
theorem pb_of {s : Po} (h : s.ok) (c : Bool) (t : Nat) (b : Bs (s.go (List.replicate t c))) (n : Nat) (hn : 1 ≤ n) :
    callF (GT lw) n 192 none [.tuple [.int s.p, .int s.q], .str (sgn c), .int t] = .ok (.tuple [.int (s.go (List.replicate t c)).p, .int (s.go (List.replicate t c)).q], none) := by
  obtain ⟨m, rfl⟩ : ∃ m, n = m + 1 := ⟨n - 1, by omega⟩
  rw [call_eq (fd := fd192) rfl]
  have bs := b.mono h
  have m1 := mulB (rep_n h b) (bs.q h)
  have m2 := mulB (rep_n h b) (bs.p h)
  have k := cmp_R c
  rw [go_rep]
  cases c
  · simp -implicitDefEqProofs [runF, fd192, begin_, two, lzV_def, getV_def, lzOf, truOf, k, m1, m2]
  · simp -implicitDefEqProofs [runF, fd192, begin_, two, lzV_def, getV_def, lzOf, truOf, k, m1, m2]
theorem ob_of {s : Po} (c : Bool) (t : Nat) (n : Nat) (hn : 1 ≤ n) :
    callF (GT lw) n 172 none [T3 s.l s.m s.r, .str (sgn c), .int t] = .ok (T3 (s.go (List.replicate t c)).l (s.go (List.replicate t c)).m (s.go (List.replicate t c)).r, none) := by
  obtain ⟨m, rfl⟩ : ∃ m, n = m + 1 := ⟨n - 1, by omega⟩
  rw [call_eq (fd := fd172) rfl]
  have md := bin_mod (t : Int) 2 (by omega)
  have k := cmp_R c
  rw [go_rep]
  by_cases p : t % 2 = 0
  · have p2 : ((t : Int) % 2 == (0 : Int)) = true := by rw [beq_iff_eq]; omega
    cases c <;> simp -implicitDefEqProofs [runF, fd172, begin_, two, lzV_def, getV_def, lzOf, test, truOf, k, md, p, p2]
  · have p2 : ((t : Int) % 2 == (0 : Int)) = false := by rw [beq_eq_false_iff_ne]; omega
    cases c <;> simp -implicitDefEqProofs [runF, fd172, begin_, two, lzV_def, getV_def, lzOf, test, truOf, k, md, p, p2]
end Lp

set_option autoImplicit false
set_option linter.all false
set_option maxRecDepth 100000
set_option maxHeartbeats 2000000
namespace Lp
open PySem Wd
variable {lw : Fd}
section
variable (cf : Cf) (v : En)
@[simp] theorem e_rev (a : E) : ev cf (.rev a) v = one a (ev cf a) v fun p v' => (rev p).map fun d => (d, v') := by rw [ev]
@[simp] theorem e_cut (a : E) (lo hi : Option E) : ev cf (.cut a lo hi) v = (lzOf a (ev cf a) v).bind fun x => (evo cf lo x.2).bind fun y => (evo cf hi y.2).bind fun z => (x.1.get z.2).bind fun p => (cutD p y.1 z.1).map fun d => (d, z.2) := by rw [ev]
@[simp] theorem eo_none : evo cf none v = .ok (none, v) := by rw [evo]
@[simp] theorem eo_some (e : E) : evo cf (some e) v = (ev cf e v).bind fun x => match x.1 with
    | .int i => .ok (some i, x.2)
    | _ => bad := by rw [evo] <;> rfl
@[simp] theorem e_mt (m : Mt) (o : E) (es : List E) : ev cf (.mt m o es) v = (ev cf o v).bind fun y => (lzs cf es y.2).bind fun x => (Lz.gets x.2 x.1).bind fun ds => (mt m y.1 ds).map fun d => (d, x.2) := by rw [ev]
end
/-! ### the number of the runs -/
theorem last_of {rs : Runs} {c : Bool} {n : Nat} (h : Alt (rs ++ [(c, n)])) : un rs = [] ∨ ∃ v, un rs = v ++ [!c] := by
  obtain ⟨h1, h2, h3⟩ := alt_snoc h
  rcases List.eq_nil_or_concat rs with e | ⟨q, ⟨d, m⟩, e⟩
  · left; rw [e]; rfl
  · right
    rw [List.concat_eq_append] at e
    have dc := h3 d m q e
    have m1 : 1 ≤ m := by rw [e] at h1; exact (alt_snoc h1).2.1
    obtain ⟨m, rfl⟩ : ∃ k, m = k + 1 := ⟨m - 1, by omega⟩
    refine ⟨un q ++ List.replicate m d, ?_⟩
    have : d = !c := by cases d <;> cases c <;> simp_all
    rw [e, un_app, List.append_assoc, ← this]
    congr 1
    show List.replicate (m + 1) d ++ [] = _
    rw [List.append_nil, List.replicate_succ']
theorem front {b : Po} (hb : b.bg) {rs : Runs} {c : Bool} {n : Nat} (h : Alt (rs ++ [(c, n)])) : (c = true → (b.go (un rs)).p ≤ (b.go (un rs)).q) ∧ (c = false → (b.go (un rs)).q ≤ (b.go (un rs)).p) := by
  have l := last_of h
  have e := go_ends hb (un rs)
  constructor
  · rintro rfl; exact e.1 l
  · rintro rfl; exact e.2 l
theorem snoc_go (b : Po) (rs : Runs) (c : Bool) (n : Nat) : b.go (un (rs ++ [(c, n)])) = (b.go (un rs)).go (List.replicate n c) := by
  rw [un_app, go_app]
  show (b.go (un rs)).go (List.replicate n c ++ []) = _
  rw [List.append_nil]
theorem rs_sq {b : Po} (hb : b.bg) : ∀ (k : Nat) (rs : Runs), rs.length ≤ k → Alt rs → ∃ S : Nat, ((b.go (un rs)).p + (b.go (un rs)).q) = S ∧ 2 ^ rs.length ≤ S * S := by
  intro k
  induction k with
  | zero =>
    intro rs hl _
    have : rs = [] := List.length_eq_zero_iff.mp (by omega)
    subst this
    exact ⟨2, by show b.p + b.q = 2; rw [hb.p1, hb.q1]; rfl, by decide⟩
  | succ k ih =>
    intro rs hl ha
    rcases List.eq_nil_or_concat rs with e | ⟨q, ⟨c, n⟩, e⟩
    · subst e
      exact ⟨2, by show b.p + b.q = 2; rw [hb.p1, hb.q1]; rfl, by decide⟩
    · rw [List.concat_eq_append] at e
      subst e
      obtain ⟨h1, h2, h3⟩ := alt_snoc ha
      obtain ⟨S, e1, e2⟩ := ih q (by simp at hl; omega) h1
      have fr := front hb ha
      have ok := hb.ok.go (un q)
      have p1 := ok.p1
      have q1 := ok.q1
      have n1 : (1 : Int) ≤ n := by omega
      rw [snoc_go]
      have key : ∃ T : Nat, (((b.go (un q)).go (List.replicate n c)).p + ((b.go (un q)).go (List.replicate n c)).q : Int) = T ∧ 3 * S ≤ 2 * T := by
        cases c
        · have := fr.2 rfl
          have m := Int.mul_le_mul_of_nonneg_right n1 (show 0 ≤ (b.go (un q)).p by omega)
          rw [go_Ln]
          refine ⟨((b.go (un q)).p + ((b.go (un q)).q + n * (b.go (un q)).p)).toNat, ?_, ?_⟩
          · show (b.go (un q)).p + ((b.go (un q)).q + n * (b.go (un q)).p) = _; omega
          · omega
        · have := fr.1 rfl
          have m := Int.mul_le_mul_of_nonneg_right n1 (show 0 ≤ (b.go (un q)).q by omega)
          rw [go_Rn]
          refine ⟨((b.go (un q)).p + n * (b.go (un q)).q + (b.go (un q)).q).toNat, ?_, ?_⟩
          · show (b.go (un q)).p + n * (b.go (un q)).q + (b.go (un q)).q = _; omega
          · omega
      obtain ⟨T, t1, t2⟩ := key
      refine ⟨T, t1, ?_⟩
      have m1 : (3 * S) * (3 * S) ≤ (2 * T) * (2 * T) := Nat.mul_le_mul t2 t2
      have m2 : (3 * S) * (3 * S) = 9 * (S * S) := by rw [Nat.mul_mul_mul_comm]
      have m3 : (2 * T) * (2 * T) = 4 * (T * T) := by rw [Nat.mul_mul_mul_comm]
      rw [List.length_append, List.length_singleton, Nat.pow_succ]
      omega
theorem rs_len {b : Po} (hb : b.bg) {rs : Runs} (ha : Alt rs) (hs : Bs (b.go (un rs))) : rs.length ≤ 16000 := by
  obtain ⟨S, e1, e2⟩ := rs_sq hb _ rs (Nat.le_refl _) ha
  have s := hs.s
  rw [e1] at s
  have s : S < BIG := by unfold Bn at s; omega
  have : S * S < 2 ^ 16000 := by
    have h1 : S * S < BIG * BIG := Nat.mul_lt_mul'' s s
    have h2 : BIG * BIG = 2 ^ 16000 := by
      show 2 ^ 8000 * 2 ^ 8000 = 2 ^ 16000
      rw [← Nat.pow_add]
    omega
  have lt : 2 ^ rs.length < 2 ^ 16000 := Nat.lt_of_le_of_lt e2 this
  exact Nat.le_of_lt ((Nat.pow_lt_pow_iff_right (by decide)).mp lt)
/-! ### the runs -/
abbrev rnC : E := (.cmp .NotEq (.var 1) (.var 2))
abbrev rnB : List S := [(.ite (.cmp .Gt (.var 1) (.var 2)) [(.par [4] [(.bin .FloorDiv (.bin .Sub (.var 1) (.cst (.int 1))) (.var 2))]), (.app 3 (.tup [(.cst (.str ("R" : Str))), (.var 4)])), (.aug 1 .Sub (.bin .Mult (.var 4) (.var 2)))] [(.par [4] [(.bin .FloorDiv (.bin .Sub (.var 2) (.cst (.int 1))) (.var 1))]), (.app 3 (.tup [(.cst (.str ("L" : Str))), (.var 4)])), (.aug 2 .Sub (.bin .Mult (.var 4) (.var 1)))])]
@[simp] theorem x_aug (cf : Cf) (v : En) (i : Nat) (op : Operator) (e : E) : ex cf (.aug i op e) v = (peekV v i).bind fun p => (ev cf e v).bind fun x => (ibin op p x.1).bind fun d => (setV x.2 i (.fz d)).map fun v' => (.nx, v') := by rw [ex]
@[simp] theorem ib_sub (a b : Int) : ibin .Sub (.int a) (.int b) = .ok (.int (a - b)) := rfl
@[simp] theorem ib_add (a b : Int) : ibin .Add (.int a) (.int b) = .ok (.int (a + b)) := rfl
theorem app_l {acc : List D} (h : acc.length < 16000000) (x : D) : appD (.list acc) x = .ok (.list (acc ++ [x])) := by
  show gd (decide (acc.length < lim)) _ = _
  rw [decide_eq_true (Nat.lt_trans h (by decide))]; rfl
theorem svn (s0 s : Sl) (v : En) (h : notIo s0 = true) : setV (s0 :: v) 0 s = .ok (s :: v) := by rw [setV_0, if_pos h]
theorem ediv_run {a n q : Int} (h1 : 1 ≤ a) (h2 : a ≤ q) : (a + n * q - 1) / q = n := by
  have : a + n * q - 1 = (a - 1) + n * q := by omega
  rw [this, Int.add_mul_ediv_right _ _ (by omega), Int.ediv_eq_zero_of_lt (by omega) (by omega)]
  omega
theorem runs_loop (cf : Cf) {b : Po} (hb : b.bg) (X : D) : ∀ (k : Nat) (rs : Runs), rs.length ≤ k → Alt rs → Bs (b.go (un rs)) → ∀ (acc : List D) (t : Sl), acc.length + rs.length ≤ 16000 → notIo t = true →
    ∃ t', whlE cf rnC rnB [.fz X, .fz (.int (b.go (un rs)).p), .fz (.int (b.go (un rs)).q), .ow (.list acc), t] = .ok (.nx, [.fz X, .fz (.int 1), .fz (.int 1), .ow (.list (acc ++ (rsD rs).reverse)), t']) := by
  intro k
  induction k with
  | zero =>
    intro rs hl _ _ acc t _ _
    have : rs = [] := List.length_eq_zero_iff.mp (by omega)
    subst this
    refine ⟨t, ?_⟩
    rw [show (b.go (un [])).p = 1 from hb.p1, show (b.go (un [])).q = 1 from hb.q1]
    rw [whlE_no (v' := [.fz X, .fz (.int 1), .fz (.int 1), .ow (.list acc), t]) (by simp -implicitDefEqProofs [test, truOf, two, lzV_def])]
    simp [rsD]
  | succ k ih =>
    intro rs hl ha hs acc t hacc ht
    rcases List.eq_nil_or_concat rs with e | ⟨q, ⟨c, n⟩, e⟩
    · subst e
      refine ⟨t, ?_⟩
      rw [show (b.go (un [])).p = 1 from hb.p1, show (b.go (un [])).q = 1 from hb.q1]
      rw [whlE_no (v' := [.fz X, .fz (.int 1), .fz (.int 1), .ow (.list acc), t]) (by simp -implicitDefEqProofs [test, truOf, two, lzV_def])]
      simp [rsD]
    · rw [List.concat_eq_append] at e
      subst e
      obtain ⟨h1, h2, h3⟩ := alt_snoc ha
      have fr := front hb ha
      have ok := hb.ok.go (un q)
      have p1 := ok.p1
      have q1 := ok.q1
      have n1 : (1 : Int) ≤ n := by omega
      have okn := ok.go (List.replicate n c)
      rw [snoc_go] at hs ⊢
      have nB := rep_n ok hs
      have bs := hs.mono ok
      have hP := hs.p okn
      have hQ := hs.q okn
      have al : (acc ++ [runD (c, n)]).length + q.length ≤ 16000 := by simp at hacc ⊢; omega
      obtain ⟨t', e⟩ := ih q (by simp at hl; omega) h1 bs (acc ++ [runD (c, n)]) (.fz (.int n)) al rfl
      refine ⟨t', ?_⟩
      have rev : acc ++ (rsD (q ++ [(c, n)])).reverse = acc ++ [runD (c, n)] ++ (rsD q).reverse := by simp [rsD]
      rw [rev, ← e]
      have muP := mulB nB (bs.p ok)
      have muQ := mulB nB (bs.q ok)
      have bP := bs.p ok
      have bQ := bs.q ok
      cases c
      · have f := fr.2 rfl
        have m := Int.mul_le_mul_of_nonneg_right n1 (show 0 ≤ (b.go (un q)).p by omega)
        have dv := fdivB (a := (b.go (un q)).q + n * (b.go (un q)).p - 1) (show 0 < (b.go (un q)).p by omega) bP
        rw [ediv_run q1 f] at dv
        rw [go_Ln]
        generalize (b.go (un q)).p = p0 at *
        generalize (b.go (un q)).q = q0 at *
        have c1 : (p0 == q0 + ↑n * p0) = false := by rw [beq_eq_false_iff_ne]; omega
        have c2 : ¬ (q0 + ↑n * p0 < p0) := by omega
        have e3 : q0 + ↑n * p0 - ↑n * p0 = q0 := by omega
        refine whlE_go (v' := [.fz X, .fz (.int p0), .fz (.int (q0 + n * p0)), .ow (.list acc), t]) ?_ ?_
        · simp -implicitDefEqProofs [test, truOf, two, lzV_def, c1]
        · simp -implicitDefEqProofs [test, truOf, two, lzV_def, getV_def, peekV_def, ownAt_def, lzOf, rdy, setAll, held, isNew, c2, dv, muP, svn _ _ _ ht, app_l (show acc.length < 16000000 by omega), e3, runD, sgn]
      · have f := fr.1 rfl
        have m := Int.mul_le_mul_of_nonneg_right n1 (show 0 ≤ (b.go (un q)).q by omega)
        have dv := fdivB (a := (b.go (un q)).p + n * (b.go (un q)).q - 1) (show 0 < (b.go (un q)).q by omega) bQ
        rw [ediv_run p1 f] at dv
        rw [go_Rn]
        generalize (b.go (un q)).p = p0 at *
        generalize (b.go (un q)).q = q0 at *
        have c1 : (p0 + ↑n * q0 == q0) = false := by rw [beq_eq_false_iff_ne]; omega
        have c2 : q0 < p0 + ↑n * q0 := by omega
        have e3 : p0 + ↑n * q0 - ↑n * q0 = p0 := by omega
        refine whlE_go (v' := [.fz X, .fz (.int (p0 + n * q0)), .fz (.int q0), .ow (.list acc), t]) ?_ ?_
        · simp -implicitDefEqProofs [test, truOf, two, lzV_def, c1]
        · simp -implicitDefEqProofs [test, truOf, two, lzV_def, getV_def, peekV_def, ownAt_def, lzOf, rdy, setAll, held, isNew, c2, dv, muQ, svn _ _ _ ht, app_l (show acc.length < 16000000 by omega), e3, runD, sgn]
theorem runs_of_eq {b : Po} (hb : b.bg) (w : Word) (hs : Bs (b.go w)) (n : Nat) (hn : 3 ≤ n) : callF (GT lw) n 219 none [PD (b.go w)] = .ok (.list (rsD (rl w)), none) := by
  obtain ⟨m, rfl⟩ : ∃ m, n = m + 1 := ⟨n - 1, by omega⟩
  rw [call_eq (fd := fd219) rfl]
  have e1 := pr_of (lw := lw) (hb.ok.go w) hs m (by omega)
  have hs' : Bs (b.go (un (rl w))) := by rw [un_rl]; exact hs
  have ln := rs_len hb (alt_rl w) hs'
  obtain ⟨t', e2⟩ := runs_loop (callF (GT lw) m) hb (PD (b.go w)) _ (rl w) (Nat.le_refl _) (alt_rl w) hs' [] .un (by simpa using ln) rfl
  rw [un_rl, List.nil_append] at e2
  have rv : rev (.list (rsD (rl w)).reverse) = .ok (.list (rsD (rl w))) := by
    show Except.ok (PyData.list (rsD (rl w)).reverse.reverse) = _
    rw [List.reverse_reverse]
  simp -implicitDefEqProofs [runF, fd219, begin_, getV_def, rdy, cn_none, e1, setAll, held, isNew, e2, one, lzV_def, peekV_def, rv]
end Lp

set_option autoImplicit false
set_option linter.all false
set_option maxRecDepth 100000
set_option maxHeartbeats 2000000
namespace Lp
open PySem Wd
variable {lw : Fd}
/-! ### behind runs -/
abbrev bhB : List S := [(.par [2, 3] [(.call 192 none [(.var 2), (.var 4), (.var 5)]), (.call 172 none [(.var 3), (.var 4), (.var 5)])])]
theorem behind_loop (m : Nat) (hm : 1 ≤ m) (X Y : D) : ∀ (rs : Runs) (s : Po), s.ok → Bs (s.go (un rs)) → ∀ (t4 t5 : Sl), notIo t4 = true → notIo t5 = true →
    ∃ t4' t5', forL (turnX (.tp [(.nm 4), (.nm 5)]) (exs (callF (GT lw) m) bhB)) (rsD rs) [.fz X, .fz Y, .fz (.tuple [.int s.p, .int s.q]), .fz (T3 s.l s.m s.r), t4, t5] =
      .ok (.nx, [.fz X, .fz Y, .fz (.tuple [.int (s.go (un rs)).p, .int (s.go (un rs)).q]), .fz (T3 (s.go (un rs)).l (s.go (un rs)).m (s.go (un rs)).r), t4', t5'])
  | [], s, _, _, t4, t5, _, _ => ⟨t4, t5, rfl⟩
  | (c, n) :: r, s, h, hs, t4, t5, h4, h5 => by
    have e0 : s.go (un ((c, n) :: r)) = (s.go (List.replicate n c)).go (un r) := go_app s (List.replicate n c) (un r)
    rw [e0] at hs ⊢
    have ok2 := h.go (List.replicate n c)
    have bs2 := hs.mono ok2
    obtain ⟨u4, u5, e⟩ := behind_loop m hm X Y r (s.go (List.replicate n c)) ok2 hs (.fz (.str (sgn c))) (.fz (.int n)) rfl rfl
    refine ⟨u4, u5, ?_⟩
    have e1 := pb_of (lw := lw) h c n bs2 m hm
    have e2 := ob_of (lw := lw) (s := s) c n m hm
    rw [show rsD ((c, n) :: r) = runD (c, n) :: rsD r from rfl, forL_cons]
    have e3 : turnX (.tp [(.nm 4), (.nm 5)]) (exs (callF (GT lw) m) bhB) (runD (c, n)) [.fz X, .fz Y, .fz (.tuple [.int s.p, .int s.q]), .fz (T3 s.l s.m s.r), t4, t5] =
        .ok (.nx, [.fz X, .fz Y, .fz (.tuple [.int (s.go (List.replicate n c)).p, .int (s.go (List.replicate n c)).q]), .fz (T3 (s.go (List.replicate n c)).l (s.go (List.replicate n c)).m (s.go (List.replicate n c)).r), .fz (.str (sgn c)), .fz (.int n)]) := by
      simp -implicitDefEqProofs [runD, svn _ _ _ h4, svn _ _ _ h5, getV_def, rdy, cn_none, e1, e2, setAll, held, isNew]
    rw [e3, ok_bind]
    exact e
theorem laid_go {s : Po} (h : s.ok) (w : Word) (b : Bs (s.go w)) (n : Nat) (hn : 1 ≤ n) : callF (GT lw) n 90 none [.int s.h, .int s.g, .tuple [.int (s.go w).p, .int (s.go w).q], T3 (s.go w).l (s.go w).m (s.go w).r] = .ok (PD (s.go w), none) := by
  have e := laid_of (lw := lw) (h.go w) b n hn
  rw [go_h, go_g] at e
  exact e
theorem behind_eq {s : Po} (h : s.ok) (rs : Runs) (b : Bs (s.go (un rs))) (d : D) (hd : itemsOf d = .ok (rsD rs)) (n : Nat) (hn : 3 ≤ n) : callF (GT lw) n 9 none [PD s, d] = .ok (PD (s.go (un rs)), none) := by
  obtain ⟨m, rfl⟩ : ∃ m, n = m + 1 := ⟨n - 1, by omega⟩
  rw [call_eq (fd := fd9) rfl]
  have bs := b.mono h
  have e1 := pr_of (lw := lw) h bs m (by omega)
  have e2 := o_of (lw := lw) h m (by omega)
  have e3 := m_of (lw := lw) h m (by omega)
  have e4 := gr_of (lw := lw) h m (by omega)
  obtain ⟨t4, t5, e5⟩ := behind_loop (lw := lw) m (by omega) (PD s) d rs s h b .un .un rfl rfl
  have e6 := laid_go (lw := lw) h (un rs) b m (by omega)
  simp -implicitDefEqProofs [runF, fd9, begin_, getV_def, rdy, cn_none, e1, e2, setAll, held, isNew, hd, e5, e3, e4, e6]
/-! ### back to the begin -/
theorem ob_back {s : Po} (c : Bool) (t : Nat) (n : Nat) (hn : 1 ≤ n) :
    callF (GT lw) n 172 none [T3 (s.go (List.replicate t c)).l (s.go (List.replicate t c)).m (s.go (List.replicate t c)).r, .str (sgn c), .int t] = .ok (T3 s.l s.m s.r, none) := by
  have e := ob_of (lw := lw) (s := s.go (List.replicate t c)) c t n hn
  rw [e]
  have : ((s.go (List.replicate t c)).go (List.replicate t c)).l = s.l ∧ ((s.go (List.replicate t c)).go (List.replicate t c)).m = s.m ∧ ((s.go (List.replicate t c)).go (List.replicate t c)).r = s.r := by
    rw [go_rep, go_rep]
    by_cases p : t % 2 = 0 <;> cases c <;> simp [p]
  rw [this.1, this.2.1, this.2.2]
theorem order_loop (m : Nat) (hm : 1 ≤ m) (X : D) (b : Po) : ∀ (k : Nat) (rs : Runs), rs.length ≤ k → ∀ (t2 t3 : Sl), notIo t2 = true → notIo t3 = true →
    ∃ t2' t3', forL (turnX (.tp [(.nm 2), (.nm 3)]) (exs (callF (GT lw) m) [(.par [1] [(.call 172 none [(.var 1), (.var 2), (.var 3)])])])) (rsD rs).reverse [.fz X, .fz (T3 (b.go (un rs)).l (b.go (un rs)).m (b.go (un rs)).r), t2, t3] =
      .ok (.nx, [.fz X, .fz (T3 b.l b.m b.r), t2', t3']) := by
  intro k
  induction k with
  | zero =>
    intro rs hl t2 t3 _ _
    have : rs = [] := List.length_eq_zero_iff.mp (by omega)
    subst this
    exact ⟨t2, t3, rfl⟩
  | succ k ih =>
    intro rs hl t2 t3 h2 h3
    rcases List.eq_nil_or_concat rs with e | ⟨q, ⟨c, n⟩, e⟩
    · subst e; exact ⟨t2, t3, rfl⟩
    · rw [List.concat_eq_append] at e
      subst e
      obtain ⟨u2, u3, e⟩ := ih q (by simp at hl; omega) (.fz (.str (sgn c))) (.fz (.int n)) rfl rfl
      refine ⟨u2, u3, ?_⟩
      have e1 := ob_back (lw := lw) (s := b.go (un q)) c n m hm
      rw [snoc_go, show (rsD (q ++ [(c, n)])).reverse = runD (c, n) :: (rsD q).reverse by simp [rsD], forL_cons]
      have e3 : turnX (.tp [(.nm 2), (.nm 3)]) (exs (callF (GT lw) m) [(.par [1] [(.call 172 none [(.var 1), (.var 2), (.var 3)])])]) (runD (c, n)) [.fz X, .fz (T3 ((b.go (un q)).go (List.replicate n c)).l ((b.go (un q)).go (List.replicate n c)).m ((b.go (un q)).go (List.replicate n c)).r), t2, t3] =
          .ok (.nx, [.fz X, .fz (T3 (b.go (un q)).l (b.go (un q)).m (b.go (un q)).r), .fz (.str (sgn c)), .fz (.int n)]) := by
        simp -implicitDefEqProofs [runD, svn _ _ _ h2, svn _ _ _ h3, getV_def, rdy, cn_none, e1, setAll, held, isNew]
      rw [e3, ok_bind]
      exact e
theorem begin_order_eq {b : Po} (hb : b.bg) (w : Word) (hs : Bs (b.go w)) (n : Nat) (hn : 4 ≤ n) : callF (GT lw) n 8 none [PD (b.go w)] = .ok (T3 b.l b.m b.r, none) := by
  obtain ⟨m, rfl⟩ : ∃ m, n = m + 1 := ⟨n - 1, by omega⟩
  rw [call_eq (fd := fd8) rfl]
  have e1 := runs_of_eq (lw := lw) hb w hs m (by omega)
  have e2 := o_of (lw := lw) (hb.ok.go w) m (by omega)
  obtain ⟨t2, t3, e3⟩ := order_loop (lw := lw) m (by omega) (PD (b.go w)) b _ (rl w) (Nat.le_refl _) .un .un rfl rfl
  rw [un_rl] at e3
  have rv : rev (.list (rsD (rl w))) = .ok (.list (rsD (rl w)).reverse) := rfl
  simp -implicitDefEqProofs [runF, fd8, begin_, one, lzOf, getV_def, rdy, cn_none, e1, e2, setAll, held, isNew, rv, e3]
theorem begin_of_eq {b : Po} (hb : b.bg) (w : Word) (hs : Bs (b.go w)) (n : Nat) (hn : 5 ≤ n) : callF (GT lw) n 7 none [PD (b.go w)] = .ok (PD b, none) := by
  obtain ⟨m, rfl⟩ : ∃ m, n = m + 1 := ⟨n - 1, by omega⟩
  rw [call_eq (fd := fd7) rfl]
  have ok := hb.ok.go w
  have e1 := begin_order_eq (lw := lw) hb w hs m (by omega)
  have e3 := m_of (lw := lw) ok m (by omega)
  have e4 := gr_of (lw := lw) ok m (by omega)
  rw [go_h] at e3
  rw [go_g] at e4
  have e6 := laid_of (lw := lw) hb.ok (hs.mono hb.ok) m (by omega)
  rw [hb.p1, hb.q1] at e6
  simp -implicitDefEqProofs [runF, fd7, begin_, getV_def, rdy, cn_none, e1, e3, e4, e6]
/-! ### sums of leaps -/
def sndD : D → D
  | .tuple [_, x] => x
  | d => d
end Lp

set_option autoImplicit false
set_option linter.all false
set_option maxRecDepth 100000
set_option maxHeartbeats 2000000
namespace Lp
open PySem Wd
variable {lw : Fd}
theorem need_st {s : Po} (h : s.ok) (i : In s) (n : Nat) (hn : 4 ≤ n) : callF (GT lw) n 152 none [PD s] = .ok (.none, none) := need_state_eq n hn (i.st h)
/-! ### runs that are told -/
@[simp] theorem isa_st (c : Bool) : isTy .str (.str (sgn c)) = true := rfl
/-! ### the calls of the interface -/
end Lp

set_option autoImplicit false
set_option linter.all false
set_option maxRecDepth 100000
set_option maxHeartbeats 2000000
namespace Lp
open PySem Wd
variable {lw : Fd}
/-! ### leaps of positions -/
theorem pl3_at (s : Po) {i : Int} (hi : Ix i) : pl3 (s.at 0) (s.at 1) (s.at 2) i = s.at i := by
  rcases hi with rfl | rfl | rfl <;> rfl
theorem leap3_at (s : Po) (i : Int) {o : Int} (ho : Ix o) : leap3 (s.at 0) (s.at 1) (s.at 2) i o = T3 (if i = 0 then 2 * s.at o - s.at 0 else s.at 0) (if i = 1 then 2 * s.at o - s.at 1 else s.at 1) (if i = 2 then 2 * s.at o - s.at 2 else s.at 2) := by
  unfold leap3
  rw [pl3_at s ho]
theorem ixs {s : Po} (h : s.ok) : Ix s.l ∧ Ix s.m ∧ Ix s.r := by have := h.pm; unfold Pm at this; unfold Ix; omega
theorem leapR {s : Po} (h : s.ok) : leap3 (s.at 0) (s.at 1) (s.at 2) s.m s.r = PD s.R := by
  rw [leap3_at s _ (ixs h).2.2, (at_all h).2.2]
  have e1 := R_x s
  have e2 := R_y s
  have e3 := R_z s
  have pm := h.pm
  have el : s.R.l = s.l := rfl
  have em : s.R.m = s.r := rfl
  have er : s.R.r = s.m := rfl
  unfold PD Po.at
  rw [el, em, e1, e2, e3]
  rcases pm with ⟨a, b, c⟩ | ⟨a, b, c⟩ | ⟨a, b, c⟩ | ⟨a, b, c⟩ | ⟨a, b, c⟩ | ⟨a, b, c⟩ <;> simp [a, b, c]
theorem leapL {s : Po} (h : s.ok) : leap3 (s.at 0) (s.at 1) (s.at 2) s.m s.l = PD s.L := by
  rw [leap3_at s _ (ixs h).1, (at_all h).1]
  have e1 := L_x s
  have e2 := L_y s
  have e3 := L_z s
  have pm := h.pm
  have el : s.L.l = s.m := rfl
  have em : s.L.m = s.l := rfl
  have er : s.L.r = s.r := rfl
  unfold PD Po.at
  rw [el, em, e1, e2, e3]
  rcases pm with ⟨a, b, c⟩ | ⟨a, b, c⟩ | ⟨a, b, c⟩ | ⟨a, b, c⟩ | ⟨a, b, c⟩ | ⟨a, b, c⟩ <;> simp [a, b, c]
def Far (B : Int) (s : Po) : Prop := -B ≤ s.x ∧ s.z ≤ B
theorem Far.in {B : Int} {s : Po} (f : Far B s) (hB : B ≤ 1000000000000000000) : In s := ⟨by have := f.1; omega, by have := f.2; omega⟩
theorem Far.mono {B C : Int} {s : Po} (f : Far B s) (h : B ≤ C) : Far C s := ⟨by have := f.1; omega, by have := f.2; omega⟩
theorem Wk.far {B : Int} {s : Po} (h : s.ok) (w : Wk B (s.at 0) (s.at 1) (s.at 2)) : Far B s := by
  have a := at_all h
  have pl : ∀ j, Ix j → -B ≤ s.at j ∧ s.at j ≤ B := by
    rintro j (rfl | rfl | rfl)
    · exact w.a1
    · exact w.b1
    · exact w.c1
  have h1 := pl s.l (ixs h).1
  have h2 := pl s.r (ixs h).2.2
  rw [a.1] at h1
  rw [a.2.2] at h2
  exact ⟨h1.1, h2.2⟩
theorem Wk.pos {B a b c : Int} (w : Wk B a b c) : ∃ (t : Po) (v : Word), t.bg ∧ (t.go v).at 0 = a ∧ (t.go v).at 1 = b ∧ (t.go v).at 2 = c ∧ Far B (t.go v) := by
  obtain ⟨t, v, ht, e0, e1, e2⟩ := tree_ex w.ab w.ac w.bc
  refine ⟨t, v, ht, e0, e1, e2, Wk.far (ht.ok.go v) ?_⟩
  rw [e0, e1, e2]
  exact w
theorem drawn (n : Nat) (hn : 4 ≤ n) {k : Nat} (hk : k ≤ 34) {row : D} (hr : RowOk row) :
    ∃ (row' : D) (t : Po) (v : Word), callF (GT lw) n 303 (some row) [.int (k : Nat)] = .ok (PD (t.go v), some row') ∧ RowOk row' ∧ t.bg ∧ Far (3 ^ k * 30) (t.go v) := by
  obtain ⟨row', a, b, c, e, hr', w⟩ := law_state_eq (lw := lw) n hn hk hr
  obtain ⟨t, v, ht, rfl, rfl, rfl, f⟩ := w.pos
  exact ⟨row', t, v, e, hr', ht, f⟩
/-! ### the law's own pair -/
end Lp

set_option autoImplicit false
set_option linter.all false
set_option maxRecDepth 100000
set_option maxHeartbeats 2000000
namespace Lp
open PySem Wd
variable {lw : Fd}
theorem p3 (j : Nat) (B : Int) : 3 * ((3 : Int) ^ j * B) = 3 ^ (j + 1) * B := by rw [Int.pow_succ, Int.mul_comm (3 ^ j) 3, Int.mul_assoc]
theorem alike_int (a : Int) (n : Nat) (hn : 2 ≤ n) : callF (GT lw) n 302 none [.int a, .int a] = .ok (.bool true, none) := alike_r ⟨rfl, by simp [PyData.depth]; omega⟩
/-! ### a sign is drawn -/
/-! ### runs, one more -/
theorem far_run {s : Po} (h : s.ok) {B : Int} (f : Far B s) (c : Bool) (n : Nat) : Far ((2 * n + 1) * B) (s.go (List.replicate n c)) := by
  obtain ⟨f1, f2⟩ := f
  have xy := h.xy
  have yz := h.yz
  have e1 := s.yx
  have e2 := s.zy
  have gp := gpos h
  have n1 : (n : Int) * (s.g * s.p) ≤ n * (2 * B) := Int.mul_le_mul_of_nonneg_left (by omega) (by omega)
  have n2 : (n : Int) * (s.g * s.q) ≤ n * (2 * B) := Int.mul_le_mul_of_nonneg_left (by omega) (by omega)
  have n3 : 0 ≤ (n : Int) * (s.g * s.p) := Int.mul_nonneg (by omega) gp.1
  have n4 : 0 ≤ (n : Int) * (s.g * s.q) := Int.mul_nonneg (by omega) gp.2
  have hB : (2 * (n : Int) + 1) * B = n * (2 * B) + B := by rw [Int.add_mul, Int.one_mul, Int.mul_assoc, Int.mul_left_comm]
  unfold Far
  rw [hB, go_rep]
  have hx : s.x = s.h - s.g * s.q := rfl
  have hz : s.z = s.h + s.g * s.p := rfl
  cases c
  · show -(n * (2 * B) + B) ≤ s.h - s.g * (s.q + n * s.p) ∧ s.h + s.g * s.p ≤ n * (2 * B) + B
    rw [Int.mul_add, Int.mul_left_comm s.g]
    omega
  · show -(n * (2 * B) + B) ≤ s.h - s.g * s.q ∧ s.h + s.g * (s.p + n * s.q) ≤ n * (2 * B) + B
    rw [Int.mul_add, Int.mul_left_comm s.g]
    omega
theorem leap_sg {s : Po} (h : s.ok) (c : Bool) : leap3 (s.at 0) (s.at 1) (s.at 2) s.m (if c = true then s.r else s.l) = PD (s.st c) := by
  cases c
  · exact leapL h
  · exact leapR h
theorem law_leapt_pd {s : Po} (h : s.ok) (i : In s) (c : Bool) (n : Nat) (hn : 1 ≤ n) : callF (GT lw) n 306 none [PD s, .int s.m, .int (if c = true then s.r else s.l)] = .ok (PD (s.st c), none) := by
  have st := i.st h
  have e := law_leapt_eq (lw := lw) n hn st.a1.sm st.b1.sm st.c1.sm (ixs h).2.1 (show Ix (if c = true then s.r else s.l) by cases c; exact (ixs h).1; exact (ixs h).2.2)
  rw [leap_sg h] at e
  exact e
end Lp

set_option autoImplicit false
set_option linter.all false
set_option maxRecDepth 100000
set_option maxHeartbeats 2000000
namespace Lp
open PySem Wd
variable {lw : Fd}
/-! ### two positions of one tree -/
theorem cmp_nei (a : Int) : cmp .NotEq (.int a) (.int a) = .ok false := by rw [cmp_ne]; simp
/-! ### nearer to the begin -/
abbrev inB : List S := [(.ite (.cmp .Gt (.var 2) (.cst (.int 0))) [(.app 3 (.tup [(.var 4), (.blt .min [(.var 5), (.var 2)])])), (.aug 2 .Sub (.blt .min [(.var 5), (.var 2)]))] [])]
/-! ### runs that two have -/
abbrev shB : List S := [(.ite (.cmp .NotEq (.sub (.var 3) (.cst (.int 0))) (.sub (.var 4) (.cst (.int 0)))) [(.ret (.var 2))] []), (.app 2 (.tup [(.sub (.var 3) (.cst (.int 0))), (.blt .min [(.sub (.var 3) (.cst (.int 1))), (.sub (.var 4) (.cst (.int 1)))])])), (.ite (.cmp .NotEq (.sub (.var 3) (.cst (.int 1))) (.sub (.var 4) (.cst (.int 1)))) [(.ret (.var 2))] [])]
/-! ### the runs behind the first leaps -/
abbrev rsB : List S := [(.ite (.cmp .Lt (.var 1) (.var 4)) [(.app 2 (.tup [(.var 3), (.bin .Sub (.var 4) (.var 1))])), (.par [1] [(.cst (.int 0))])] [(.aug 1 .Sub (.var 4))])]
/-! ### gate, distance, a place on the way -/
theorem lcp_pre : ∀ (u v : Word), ∃ x, u = lcp u v ++ x
  | [], v => ⟨[], by rw [lcp_nil_l]; rfl⟩
  | c :: u, [] => ⟨c :: u, by rw [lcp_nil_r]; rfl⟩
  | c :: u, d :: v => by
    unfold lcp
    split
    · obtain ⟨x, e⟩ := lcp_pre u v
      exact ⟨x, by rw [List.cons_append, ← e]⟩
    · exact ⟨c :: u, rfl⟩
theorem lcp_le (u v : Word) : (lcp u v).length ≤ u.length ∧ (lcp u v).length ≤ v.length := by
  obtain ⟨x, e⟩ := lcp_pre u v
  obtain ⟨y, e2⟩ := lcp_pre v u
  have l1 := congrArg List.length e
  have l2 := congrArg List.length e2
  rw [lcp_comm v u] at l2
  rw [List.length_append] at l1 l2
  omega
def dst (u v : Word) : Nat := u.length + v.length - 2 * (lcp u v).length
def onW (u v : Word) (i : Nat) : Word := if i ≤ u.length - (lcp u v).length then u.take (u.length - i) else v.take (v.length - (dst u v - i))
end Lp

set_option autoImplicit false
set_option linter.all false
set_option maxRecDepth 100000
set_option maxHeartbeats 2000000
namespace Lp
open PySem Wd
variable {lw : Fd}
/-! ### the drawing, with words -/
theorem far_st {s : Po} (h : s.ok) {B : Int} (f : Far B s) (c : Bool) : Far (3 * B) (s.st c) := by
  have := far_run h f c 1
  exact this.mono (by omega)
theorem walk_tn (m : Nat) (hm : 2 ≤ m) {s : Po} (h : s.ok) (i : In s) {row : D} (hr : RowOk row) (d M : D) (s3 s4 s5 s6 : Sl) (h3 : notIo s3 = true) (h4 : notIo s4 = true) (h5 : notIo s5 = true) (h6 : notIo s6 = true) :
    ∃ row' c t3 t4 t5 t6, turnX (.nm 3) (exs (callF (GT lw) m) wkBody) d [.io row, .fz (PD s), .fz M, s3, s4, s5, s6] = .ok (.nx, [.io row', .fz (PD (s.st c)), .fz M, t3, t4, t5, t6]) ∧ RowOk row' ∧ notIo t3 = true ∧ notIo t4 = true ∧ notIo t5 = true ∧ notIo t6 = true := by
  obtain ⟨x, row', hx, e2, hr'⟩ := picked (lw := lw) m hm hr [.int s.l, .int s.r] (by simp) (by simp)
  obtain ⟨c, rfl⟩ : ∃ c : Bool, x = .int (if c = true then s.r else s.l) := by
    simp only [List.mem_cons, List.not_mem_nil, or_false] at hx
    rcases hx with rfl | rfl
    · exact ⟨false, rfl⟩
    · exact ⟨true, rfl⟩
  have e1 := lo_of (lw := lw) h m (by omega)
  have e4 := law_leapt_pd (lw := lw) h i c m (by omega)
  refine ⟨row', c, .fz d, .fz (.int s.l), .fz (.int s.m), .fz (.int s.r), ?_, hr', rfl, rfl, rfl, rfl⟩
  generalize (if c = true then s.r else s.l) = o at *
  simp -implicitDefEqProofs [wkBody, svn _ _ _ h3, svn _ _ _ h4, svn _ _ _ h5, svn _ _ _ h6, e1, cn_none, getV_def, cio_io, rdy, e2, e4, setAll, held, isNew]
theorem walk_po (n : Nat) (hn : 3 ≤ n) {B : Int} {k : Nat} (h0 : 0 ≤ B) (hB : 3 ^ k * B ≤ 1000000000000000000) (hk : k ≤ 900) {row : D} (hr : RowOk row) {s : Po} (h : s.ok) (f : Far B s) :
    ∃ (row' : D) (v : Word), callF (GT lw) n 304 (some row) [PD s, .int (k : Nat)] = .ok (PD (s.go v), some row') ∧ RowOk row' ∧ Far (3 ^ k * B) (s.go v) ∧ v.length ≤ k := by
  obtain ⟨m, rfl⟩ : ∃ m, n = m + 1 := ⟨n - 1, by omega⟩
  rw [call_eq (fd := fd304) rfl]
  obtain ⟨x, row1, e1, hr1, v0, v1⟩ := taken (lw := lw) m (by omega) hr ((k : Int) + 1) (by omega) (by omega)
  obtain ⟨t, rfl⟩ : ∃ t : Nat, x = t := ⟨x.toNat, by omega⟩
  have rg := range_one t (by omega)
  have mono : ∀ i j : Nat, i ≤ j → (3 : Int) ^ i * B ≤ 3 ^ j * B := fun i j hij => Int.mul_le_mul_of_nonneg_right (by
    have := Nat.pow_le_pow_right (n := 3) (by decide) hij
    exact_mod_cast this) h0
  obtain ⟨v', e2, row', v, t3, t4, t5, t6, rfl, hr', w, hv, _, _, _, _⟩ := forL_at (fun i e => ∃ (row' : D) (v : Word) (t3 t4 t5 t6 : Sl), e = [.io row', .fz (PD (s.go v)), .fz (.int (k : Nat)), t3, t4, t5, t6] ∧ RowOk row' ∧ Far (3 ^ i * B) (s.go v) ∧ v.length = i ∧ notIo t3 = true ∧ notIo t4 = true ∧ notIo t5 = true ∧ notIo t6 = true)
    (turnX (.nm 3) (exs (callF (GT lw) m) wkBody)) ((List.range t).map fun (i : Nat) => .int i) 0 (by
      rintro i hi e ⟨row', v, t3, t4, t5, t6, rfl, hr', w, hv, g3, g4, g5, g6⟩
      simp only [List.length_map, List.length_range] at hi
      obtain ⟨row2, c, u3, u4, u5, u6, e, hr2, k3, k4, k5, k6⟩ := walk_tn (lw := lw) m (by omega) (h.go v) (w.in (Int.le_trans (mono _ k (by omega)) hB)) hr' (((List.range t).map fun (i : Nat) => PyData.int i)[i]'(by simpa using hi)) (.int (k : Nat)) t3 t4 t5 t6 g3 g4 g5 g6
      refine ⟨_, e, row2, v ++ [c], u3, u4, u5, u6, by rw [go_snoc], hr2, ?_, by rw [List.length_append, hv]; rfl, k3, k4, k5, k6⟩
      rw [go_snoc, ← p3]
      exact far_st (h.go v) w c)
    [.io row1, .fz (PD s), .fz (.int (k : Nat)), .un, .un, .un, .un] ⟨row1, [], _, _, _, _, rfl, hr1, by rw [Int.pow_zero, Int.one_mul]; exact f, rfl, rfl, rfl, rfl, rfl⟩
  simp only [List.length_map, List.length_range] at hv
  refine ⟨row', v, ?_, hr', w.mono (by simpa using mono t k (by omega)), by omega⟩
  unfold wkBody at e2
  simp -implicitDefEqProofs [runF, fd304, begin_, two, lzV_def, getV_def, lzOf, flD, ioAt, cio_io, rdy, e1, rg]
  rw [e2]
  simp -implicitDefEqProofs [getV_def, ioAt]
theorem begin_of6 {a b c st u : Int} (hu : 1 ≤ u) (h : (a = st - u ∧ b = st ∧ c = st + u) ∨ (a = st - u ∧ c = st ∧ b = st + u) ∨ (b = st - u ∧ a = st ∧ c = st + u) ∨ (b = st - u ∧ c = st ∧ a = st + u) ∨ (c = st - u ∧ a = st ∧ b = st + u) ∨ (c = st - u ∧ b = st ∧ a = st + u)) :
    ∃ t : Po, t.bg ∧ T3 a b c = PD t ∧ t.h = st ∧ t.g = u := by
  have mk : ∀ l m r : Int, Pm l m r → (⟨st, u, 1, 1, l, m, r⟩ : Po).bg := fun l m r p => ⟨⟨hu, by show (1 : Int) ≤ 1; omega, by show (1 : Int) ≤ 1; omega, p, by show Int.gcd 1 1 = 1; decide⟩, rfl, rfl⟩
  rcases h with ⟨rfl, rfl, rfl⟩ | ⟨rfl, rfl, rfl⟩ | ⟨rfl, rfl, rfl⟩ | ⟨rfl, rfl, rfl⟩ | ⟨rfl, rfl, rfl⟩ | ⟨rfl, rfl, rfl⟩
  · exact ⟨⟨_, u, 1, 1, 0, 1, 2⟩, mk _ _ _ (by decide), by simp [Po.at, Po.x, Po.y, Po.z], rfl, rfl⟩
  · exact ⟨⟨_, u, 1, 1, 0, 2, 1⟩, mk _ _ _ (by decide), by simp [Po.at, Po.x, Po.y, Po.z], rfl, rfl⟩
  · exact ⟨⟨_, u, 1, 1, 1, 0, 2⟩, mk _ _ _ (by decide), by simp [Po.at, Po.x, Po.y, Po.z], rfl, rfl⟩
  · exact ⟨⟨_, u, 1, 1, 1, 2, 0⟩, mk _ _ _ (by decide), by simp [Po.at, Po.x, Po.y, Po.z], rfl, rfl⟩
  · exact ⟨⟨_, u, 1, 1, 2, 0, 1⟩, mk _ _ _ (by decide), by simp [Po.at, Po.x, Po.y, Po.z], rfl, rfl⟩
  · exact ⟨⟨_, u, 1, 1, 2, 1, 0⟩, mk _ _ _ (by decide), by simp [Po.at, Po.x, Po.y, Po.z], rfl, rfl⟩
/-! ### the law's own ways: leap by leap -/
def inwD (b : Po) (w : Word) : D := if w = [] then .none else PD (b.go w.dropLast)
def lineW (b : Po) (w : Word) : List D := (List.range (w.length + 1)).map fun i => PD (b.go (w.take i))
theorem lineW_len (b : Po) (w : Word) : (lineW b w).length = w.length + 1 := by simp [lineW]
theorem lineW_snoc (b : Po) (v : Word) (c : Bool) : lineW b (v ++ [c]) = lineW b v ++ [PD (b.go (v ++ [c]))] := by
  unfold lineW
  rw [List.length_append, List.length_singleton, List.range_succ, List.map_append, List.map_singleton]
  congr 1
  · apply List.map_congr_left
    intro i hi
    rw [List.mem_range] at hi
    rw [List.take_append_of_le_length (by omega)]
  · rw [List.take_of_length_le (by simp)]
abbrev lnC : E := (.cmp .IsNot (.call 311 none [(.sub (.var 1) (.neg (.cst (.int 1))))]) (.cst .none))
abbrev lnB : List S := [(.app 1 (.call 311 none [(.sub (.var 1) (.neg (.cst (.int 1))))]))]
end Lp

set_option autoImplicit false
set_option linter.all false
set_option maxRecDepth 100000
set_option maxHeartbeats 2000000
namespace Lp
open PySem Wd
variable {lw : Fd}
/-! ### equal positions -/
/-! ### the way, position by position -/
def wayW (b : Po) (u v : Word) : List D := (List.range (dst u v + 1)).map fun i => PD (b.go (onW u v i))
theorem wayW_len (b : Po) (u v : Word) : (wayW b u v).length = dst u v + 1 := by simp [wayW]
theorem way_parts (b : Po) (u v : Word) : wayW b u v = ((lineW b u).drop (lcp u v).length).reverse ++ (lineW b v).drop ((lcp u v).length + 1) := by
  have le := lcp_le u v
  refine List.ext_getElem ?_ ?_
  · simp [wayW, lineW_len, dst]; omega
  · intro i h1 h2
    rw [wayW_len] at h1
    unfold dst at h1
    rw [List.getElem_append]
    simp only [wayW, List.getElem_map, List.getElem_range]
    split
    · rename_i q
      simp only [List.length_reverse, List.length_drop, lineW_len] at q
      rw [List.getElem_reverse, List.getElem_drop]
      simp only [lineW, List.getElem_map, List.getElem_range, List.length_drop, List.length_map, List.length_range]
      rw [show onW u v i = u.take (u.length - i) from if_pos (by omega)]
      congr 3 <;> congr 1 <;> congr 1 <;> congr 1 <;> omega
    · rename_i q
      simp only [List.length_reverse, List.length_drop, lineW_len] at q
      rw [List.getElem_drop]
      simp only [lineW, List.getElem_map, List.getElem_range, List.length_reverse, List.length_drop, List.length_map, List.length_range]
      rw [show onW u v i = v.take (v.length - (dst u v - i)) from if_neg (by omega)]
      unfold dst
      congr 3 <;> congr 1 <;> congr 1 <;> congr 1 <;> omega
theorem cut_from {A : Type} (xs : List A) (k : Nat) (h : k ≤ xs.length) : cut xs (some (k : Int)) none = xs.drop k := by
  unfold cut cutAt
  simp only
  rw [if_neg (by omega), show min (k : Int).toNat xs.length = k by omega]
  exact List.take_of_length_le (by simp)
end Lp

set_option autoImplicit false
set_option linter.all false
set_option maxRecDepth 100000
set_option maxHeartbeats 2000000
namespace Lp
open PySem Wd
variable {lw : Fd}
/-! ### greatest, least, sums of numbers -/
@[simp] theorem max_l (b : List D) : blt .max [.list b] = bMaxL b := rfl
@[simp] theorem max_t (b : List D) : blt .max [.tuple b] = bMaxL b := rfl
@[simp] theorem min_l (b : List D) : blt .min [.list b] = bMinL b := rfl
@[simp] theorem min_t (b : List D) : blt .min [.tuple b] = bMinL b := rfl
@[simp] theorem sum_l (b : List D) : blt .sum [.list b] = bSum b := rfl
@[simp] theorem sum_t (b : List D) : blt .sum [.tuple b] = bSum b := rfl
/-! ### the positions behind each leap of a word -/
def pathL (s : Po) : Word → List Po
  | [] => []
  | c :: w => s.st c :: pathL (s.st c) w
theorem pathL_app (s : Po) : ∀ (u v : Word), pathL s (u ++ v) = pathL s u ++ pathL (s.go u) v := by
  intro u
  induction u generalizing s with
  | nil => intro v; rfl
  | cons c u ih => intro v; show s.st c :: pathL (s.st c) (u ++ v) = _; rw [ih]; rfl
theorem pathL_len (s : Po) : ∀ w : Word, (pathL s w).length = w.length := by
  intro w
  induction w generalizing s with
  | nil => rfl
  | cons c w ih => show (pathL (s.st c) w).length + 1 = _; rw [ih]; rfl
theorem pathL_snoc (s : Po) (u : Word) (c : Bool) : pathL s (u ++ [c]) = pathL s u ++ [s.go (u ++ [c])] := by
  rw [pathL_app, go_snoc]; rfl
theorem lineW_path (b : Po) : ∀ (k : Nat) (w : Word), w.length ≤ k → lineW b w = PD b :: (pathL b w).map PD := by
  intro k
  induction k with
  | zero =>
    intro w hw
    have : w = [] := List.length_eq_zero_iff.mp (by omega)
    subst this; rfl
  | succ k ih =>
    intro w hw
    rcases snoc_cases w with rfl | ⟨v, c, rfl⟩
    · rfl
    · rw [lineW_snoc, ih v (by simp at hw; omega), pathL_snoc]
      simp
theorem line_drop (b : Po) (w : Word) (k : Nat) (hk : k ≤ w.length) : (lineW b w).drop (k + 1) = (pathL (b.go (w.take k)) (w.drop k)).map PD := by
  rw [lineW_path b _ w (Nat.le_refl _), List.drop_succ_cons, ← List.map_drop]
  congr 1
  have e := pathL_app b (w.take k) (w.drop k)
  rw [List.take_append_drop] at e
  rw [e, List.drop_append, pathL_len, List.length_take, show k - min k w.length = 0 by omega, List.drop_zero, List.drop_of_length_le (by rw [pathL_len, List.length_take]; omega), List.nil_append]
theorem line_drop0 (b : Po) (w : Word) (k : Nat) (hk : k ≤ w.length) : (lineW b w).drop k = PD (b.go (w.take k)) :: (pathL (b.go (w.take k)) (w.drop k)).map PD := by
  rw [← line_drop b w k hk]
  rw [List.drop_eq_getElem_cons (by rw [lineW_len]; omega)]
  simp [lineW]
theorem take_lcp_l (u v : Word) : u.take (lcp u v).length = lcp u v := by
  obtain ⟨x, e⟩ := lcp_pre u v
  generalize lcp u v = g at *
  rw [e]; simp
theorem take_lcp_r (u v : Word) : v.take (lcp u v).length = lcp u v := by rw [lcp_comm u v]; exact take_lcp_l v u
def upP (b : Po) (u v : Word) : List Po := pathL (b.go (lcp u v)) (u.drop (lcp u v).length)
def dnP (b : Po) (u v : Word) : List Po := pathL (b.go (lcp u v)) (v.drop (lcp u v).length)
theorem wayW_path (b : Po) (u v : Word) : wayW b u v = ((b.go (lcp u v) :: upP b u v).reverse ++ dnP b u v).map PD := by
  have le := lcp_le u v
  rw [way_parts, line_drop0 b u _ le.1, line_drop b v _ le.2, take_lcp_l, take_lcp_r]
  simp [upP, dnP]
theorem go_up (b : Po) (u v : Word) : (b.go (lcp u v)).go (u.drop (lcp u v).length) = b.go u := by
  rw [← go_app]
  congr 1
  have := List.take_append_drop (lcp u v).length u
  rw [take_lcp_l] at this
  exact this
def WS (s : Po) (w : Word) : Int := ((pathL s w).map fun t => t.p + t.q).sum
def stepP (s : Po) (c : Bool) : Int := if c = true then s.q else s.p
end Lp

set_option autoImplicit false
set_option linter.all false
set_option maxRecDepth 100000
set_option maxHeartbeats 2000000
namespace Lp
open PySem Wd
variable {lw : Fd}
/-! ### sums of widths -/
theorem mulZ {a b : Int} (ha : a.natAbs < 2 ^ 400) (hb : b.natAbs < 2 ^ 400) : bin .Mult (.int a) (.int b) = .ok (.int (a * b)) := bin_mul _ _ (by
  have h1 : a.natAbs.log2 < 400 := log_lt ha (by decide)
  have h2 : b.natAbs.log2 < 400 := log_lt hb (by decide)
  omega)
theorem z400 {a : Int} (h0 : 0 ≤ a) (h : a ≤ 1000000000000000000000000000000000000000000000000000000000000) : a.natAbs < 2 ^ 400 := by
  have : a.natAbs ≤ 1000000000000000000000000000000000000000000000000000000000000 := by omega
  exact Nat.lt_of_le_of_lt this (by decide)
def Sp (s : Po) : Prop := s.p + s.q ≤ 4000000000000000000
theorem In.sp {s : Po} (h : s.ok) (i : In s) : Sp s := by
  obtain ⟨i1, i2⟩ := i
  have h1 := h.g1
  have y := s.yx
  have z := s.zy
  have e2 : 1 * s.p ≤ s.g * s.p := Int.mul_le_mul_of_nonneg_right h1 (by have := h.p1; omega)
  have e3 : 1 * s.q ≤ s.g * s.q := Int.mul_le_mul_of_nonneg_right h1 (by have := h.q1; omega)
  unfold Sp
  omega
theorem Sp.mono {s : Po} (h : s.ok) {w : Word} (b : Sp (s.go w)) : Sp s := by
  have := go_mono h w
  unfold Sp at *
  omega
abbrev waB : List S := [(.asg (.tp [(.nm 5), (.nm 6)]) (.var 0)), (.par [7] [(.ite (.cmp .Eq (.var 3) (.cst (.str ("R" : Str)))) (.var 6) (.var 5))]), (.aug 2 .Add (.bin .Add (.bin .Mult (.var 4) (.bin .Add (.var 5) (.var 6))) (.bin .Mult (.var 7) (.bin .FloorDiv (.bin .Mult (.var 4) (.bin .Add (.var 4) (.cst (.int 1)))) (.cst (.int 2)))))), (.par [0] [(.call 192 none [(.var 0), (.var 3), (.var 4)])])]
def wayS (b : Po) (u v : Word) : Int := (b.go (lcp u v)).p + (b.go (lcp u v)).q + WS (b.go (lcp u v)) (u.drop (lcp u v).length) + WS (b.go (lcp u v)) (v.drop (lcp u v).length)
end Lp

set_option autoImplicit false
set_option linter.all false
set_option maxRecDepth 100000
set_option maxHeartbeats 4000000
namespace Lp
open PySem Wd
variable {lw : Fd}
def sm (s : Po) : Int := s.p + s.q
theorem need_number_eq (n : Nat) (hn : 3 ≤ n) (i a b : Int) (h1 : a ≤ i) (h2 : i ≤ b) : callF (GT lw) n 144 none [.int i, .int a, .int b] = .ok (.none, none) := by
  obtain ⟨m, rfl⟩ : ∃ m, n = m + 1 := ⟨n - 1, by omega⟩
  rw [call_eq (fd := fd144) rfl]
  have e := is_in_eq (lw := lw) m (by omega) i a b
  rw [decide_eq_true h1, decide_eq_true h2] at e
  simp -implicitDefEqProofs [runF, fd144, begin_, getV_def, rdy, cn_none, test, truOf, e]
/-! ### places on a way -/
theorem lcp_take : ∀ (u : Word) (k : Nat), lcp u (u.take k) = u.take k
  | [], k => by simp [lcp_nil_l]
  | c :: u, 0 => by simp [lcp_nil_r]
  | c :: u, k + 1 => by simp [lcp, lcp_take u k]
theorem lcp_take_ge : ∀ (u v : Word) (k : Nat), (lcp u v).length ≤ k → lcp (u.take k) v = lcp u v
  | [], v, k, _ => by simp
  | c :: u, [], k, _ => by simp [lcp_nil_r]
  | c :: u, d :: v, 0, h => by
    unfold lcp at h ⊢
    split at h
    · simp at h
    · rename_i q; simp [q]
  | c :: u, d :: v, k + 1, h => by
    simp only [List.take_succ_cons]
    unfold lcp at h ⊢
    split at h
    · rename_i q
      rw [if_pos q, if_pos q, lcp_take_ge u v k (by simpa using h)]
    · rename_i q; rw [if_neg q, if_neg q]
theorem onW_cases (u v : Word) (i : Nat) (hi : i ≤ dst u v) : (∃ k, (lcp u v).length ≤ k ∧ k ≤ u.length ∧ onW u v i = u.take k ∧ i = u.length - k) ∨ (∃ k, (lcp u v).length ≤ k ∧ k ≤ v.length ∧ onW u v i = v.take k ∧ i + v.length = dst u v + k) := by
  have le := lcp_le u v
  unfold onW
  split
  · exact .inl ⟨u.length - i, by omega, by omega, rfl, by omega⟩
  · exact .inr ⟨v.length - (dst u v - i), by unfold dst at *; omega, by omega, rfl, by unfold dst at *; omega⟩
theorem dst_comm (u v : Word) : dst u v = dst v u := by unfold dst; rw [lcp_comm u v]; omega
end Lp

set_option autoImplicit false
set_option linter.all false
set_option maxRecDepth 100000
set_option maxHeartbeats 4000000
namespace Lp
open PySem Wd
variable {lw : Fd}
/-! ### leaps of each stone, and their lengths -/
def US (s : Po) : Word → Int → Int
  | [], _ => 0
  | c :: w, j => (if s.m = j then 1 else 0) + US (s.st c) w j
def LS (s : Po) : Word → Int → Int
  | [], _ => 0
  | c :: w, j => (if s.m = j then 2 * stepP s c else 0) + LS (s.st c) w j
theorem US_app (s : Po) (u v : Word) (j : Int) : US s (u ++ v) j = US s u j + US (s.go u) v j := by
  induction u generalizing s with
  | nil => show _ = 0 + _; rw [Int.zero_add]; rfl
  | cons c u ih => show _ + US (s.st c) (u ++ v) j = _ + US (s.st c) u j + US ((s.st c).go u) v j; rw [ih]; omega
def othr (s : Po) (c : Bool) : Int := if c = true then s.r else s.l
def vec (f : Int → Int) : List D := [.int (f 0), .int (f 1), .int (f 2)]
def upV (f : Int → Int) (j x : Int) : Int → Int := fun i => if i = j then x else f i
@[simp] theorem x_augIx (cf : Cf) (v : En) (i : Nat) (k : E) (op : Operator) (e : E) : ex cf (.augIx i k op e) v = gd (rdy (some i) v) ((ev cf k v).bind fun y => (ownAt y.2 i).bind fun d => (Lp.sub d y.1).bind fun p => (ev cf e y.2).bind fun x => (ibin op p x.1).bind fun q =>
      (ownAt x.2 i).bind fun d' => (store d' y.1 q).map fun d2 => (.nx, putAt x.2 i d2)) := by rw [ex]
abbrev usB : List S := [(.asg (.tp [(.nm 7), (.nm 8), (.nm 9)]) (.var 0)), (.par [10] [(.ite (.cmp .Eq (.var 5) (.cst (.str ("R" : Str)))) (.var 9) (.var 7))]), (.par [11] [(.ite (.cmp .Eq (.var 5) (.cst (.str ("R" : Str)))) (.sub (.var 2) (.cst (.int 1))) (.sub (.var 2) (.cst (.int 0))))]), (.augIx 3 (.var 8) .Add (.bin .FloorDiv (.bin .Add (.var 6) (.cst (.int 1))) (.cst (.int 2)))), (.augIx 3 (.var 10) .Add (.bin .FloorDiv (.var 6) (.cst (.int 2)))), (.augIx 4 (.var 8) .Add (.bin .Mult (.bin .Mult (.bin .FloorDiv (.bin .Add (.var 6) (.cst (.int 1))) (.cst (.int 2))) (.cst (.int 2))) (.var 11))), (.augIx 4 (.var 10) .Add (.bin .Mult (.bin .Mult (.bin .FloorDiv (.var 6) (.cst (.int 2))) (.cst (.int 2))) (.var 11))), (.par [2, 0] [(.call 192 none [(.var 2), (.var 5), (.var 6)]), (.call 172 none [(.var 0), (.var 5), (.var 6)])])]
def wayF (F : Po → Word → Int → Int) (b : Po) (u v : Word) (j : Int) : Int := F (b.go (lcp u v)) (u.drop (lcp u v).length) j + F (b.go (lcp u v)) (v.drop (lcp u v).length) j
def whF (w : Nat) : Po → Word → Int → Int := if w = 0 then US else LS
abbrev smB : List S := [(.par [6] [(.call 214 none [(.call 219 none [(.var 5)]), (.call 40 none [(.var 3)])])]), (.par [7] [(.sub (.call 258 none [(.call 174 none [(.var 3)]), (.var 6), (.call 193 none [(.var 3)])]) (.var 2))]), (.par [4] [(.comp (.bin .Add (.var 8) (.var 9)) (.tp [(.nm 8), (.nm 9)]) (.zip (.var 4) (.var 7)) none)])]
end Lp

set_option autoImplicit false
set_option linter.all false
set_option maxRecDepth 100000
set_option maxHeartbeats 4000000
namespace Lp
open PySem Wd
variable {lw : Fd}
/-! ### the positions of a way -/
def wayP (b : Po) (u v : Word) : List Po := (b.go (lcp u v) :: upP b u v).reverse ++ dnP b u v
theorem wayW_P (b : Po) (u v : Word) : wayW b u v = (wayP b u v).map PD := wayW_path b u v
def adj : List Po → List (Po × Po)
  | a :: b :: r => (a, b) :: adj (b :: r)
  | _ => []
theorem adj_end : ∀ (l : List Po) (a b : Po), adj (l ++ [a, b]) = adj (l ++ [a]) ++ [(a, b)]
  | [], a, b => rfl
  | [x], a, b => rfl
  | x :: y :: l, a, b => by
    show (x, y) :: adj (y :: l ++ [a, b]) = (x, y) :: (adj (y :: l ++ [a]) ++ [(a, b)])
    rw [adj_end (y :: l) a b]
theorem adj_rev : ∀ l : List Po, adj l.reverse = ((adj l).map fun x => (x.2, x.1)).reverse
  | [] => rfl
  | [x] => rfl
  | x :: y :: r => by
    have ih := adj_rev (y :: r)
    rw [List.reverse_cons] at ih
    rw [List.reverse_cons, List.reverse_cons, List.append_assoc]
    show adj (r.reverse ++ [y, x]) = _
    rw [adj_end, ih]
    show _ = (((y, x) :: (adj (y :: r)).map fun x => (x.2, x.1))).reverse
    rw [List.reverse_cons]
theorem adj_mid : ∀ (l : List Po) (x : Po) (r : List Po), adj (l ++ x :: r) = adj (l ++ [x]) ++ adj (x :: r)
  | [], x, r => rfl
  | [y], x, r => rfl
  | y :: z :: l, x, r => by
    show (y, z) :: adj (z :: l ++ x :: r) = (y, z) :: (adj (z :: l ++ [x]) ++ adj (x :: r))
    rw [adj_mid (z :: l) x r]
def Nb (s t : Po) : Prop := ∃ r c, r.ok ∧ ((s = r ∧ t = r.st c) ∨ (s = r.st c ∧ t = r))
theorem adj_way (b : Po) (u v : Word) : adj (wayP b u v) = ((adj (b.go (lcp u v) :: upP b u v)).map fun x => (x.2, x.1)).reverse ++ adj (b.go (lcp u v) :: dnP b u v) := by
  unfold wayP
  rw [List.reverse_cons, List.append_assoc, List.singleton_append, adj_mid, ← List.reverse_cons, adj_rev]
/-! ### what changes in a leap -/
theorem st_at {s : Po} (h : s.ok) (c : Bool) {k : Int} (hk : Ix k) : (s.st c).at k = if s.m = k then 2 * s.at (othr s c) - s.y else s.at k := by
  have io : Ix (othr s c) := by unfold othr; split; exact (ixs h).2.2; exact (ixs h).1
  have e := leap_sg h c
  rw [leap3_at s _ (show Ix (if c = true then s.r else s.l) from io)] at e
  simp only [T3, PyData.tuple.injEq, List.cons.injEq, PyData.int.injEq, and_true] at e
  have aa := (at_all h).2.1
  rcases hk with rfl | rfl | rfl
  · rw [← e.1]
    by_cases q : s.m = 0
    · rw [if_pos q, if_pos q, ← aa, q]; rfl
    · rw [if_neg q, if_neg q]
  · rw [← e.2.1]
    by_cases q : s.m = 1
    · rw [if_pos q, if_pos q, ← aa, q]; rfl
    · rw [if_neg q, if_neg q]
  · rw [← e.2.2]
    by_cases q : s.m = 2
    · rw [if_pos q, if_pos q, ← aa, q]; rfl
    · rw [if_neg q, if_neg q]
theorem st_far {s : Po} (h : s.ok) (c : Bool) : 2 * s.at (othr s c) - s.y - s.y = (if c = true then 1 else -1) * (s.g * (2 * stepP s c)) := by
  have aa := at_all h
  have yx := s.yx
  have zy := s.zy
  cases c
  · show 2 * s.at s.l - s.y - s.y = -1 * (s.g * (2 * s.p))
    rw [aa.1, Int.mul_left_comm s.g]; omega
  · show 2 * s.at s.r - s.y - s.y = 1 * (s.g * (2 * s.q))
    rw [aa.2.2, Int.mul_left_comm s.g]; omega
def abI (a : Int) : Int := if a < 0 then -a else a
theorem gst {s : Po} (h : s.ok) (c : Bool) : 0 < s.g * (2 * stepP s c) := Int.mul_pos (by have := h.g1; omega) (by unfold stepP; have := h.p1; have := h.q1; split <;> omega)
def cM (s t : Po) (j : Int) : Int := if s.at j = t.at j then 0 else 1
def cL (s t : Po) (j : Int) : Int := abI (s.at j - t.at j)
theorem cM_sym (s t : Po) (j : Int) : cM s t j = cM t s j := by unfold cM; by_cases h : s.at j = t.at j <;> simp [h, eq_comm]
theorem cM_st {s : Po} (h : s.ok) (c : Bool) {j : Int} (hj : Ix j) : cM s (s.st c) j = if s.m = j then 1 else 0 := by
  unfold cM
  rw [st_at h c hj]
  by_cases q : s.m = j
  · rw [if_pos q, if_pos q]
    have f := st_far h c
    have g := gst h c
    have aa := (at_all h).2.1
    rw [if_neg]
    rw [← q, aa]
    cases c <;> simp only [if_true, if_false, Bool.false_eq_true] at f <;> omega
  · rw [if_neg q, if_neg q, if_pos rfl]
def sumA (f : Po → Po → Int) (l : List (Po × Po)) : Int := (l.map fun x => f x.1 x.2).sum
theorem sumA_app (f : Po → Po → Int) (a b : List (Po × Po)) : sumA f (a ++ b) = sumA f a + sumA f b := by unfold sumA; simp
theorem sumA_swap (f : Po → Po → Int) (hf : ∀ s t, f s t = f t s) (l : List (Po × Po)) : sumA f ((l.map fun x => (x.2, x.1)).reverse) = sumA f l := by
  unfold sumA
  rw [List.map_reverse, List.sum_reverse, List.map_map]
  congr 1
  exact List.map_congr_left fun x _ => hf _ _
theorem sumA_M {j : Int} (hj : Ix j) : ∀ (w : Word) (s : Po), s.ok → sumA (fun s t => cM s t j) (adj (s :: pathL s w)) = US s w j
  | [], s, _ => rfl
  | c :: w, s, h => by
    have e : adj (s :: pathL s (c :: w)) = [(s, s.st c)] ++ adj (s.st c :: pathL (s.st c) w) := rfl
    rw [e, sumA_app, sumA_M hj w (s.st c) (h.st c)]
    show (cM s (s.st c) j + 0) + _ = (if s.m = j then 1 else 0) + US (s.st c) w j
    rw [cM_st h c hj, Int.add_zero]
theorem way_M {b : Po} (hb : b.bg) (u v : Word) {j : Int} (hj : Ix j) : sumA (fun s t => cM s t j) (adj (wayP b u v)) = wayF US b u v j := by
  have og := hb.ok.go (lcp u v)
  rw [adj_way, sumA_app, sumA_swap _ (fun s t => cM_sym s t j)]
  unfold upP dnP
  rw [sumA_M hj _ _ og, sumA_M hj _ _ og]; rfl
end Lp

set_option autoImplicit false
set_option linter.all false
set_option maxRecDepth 100000
set_option maxHeartbeats 4000000
namespace Lp
open PySem Wd
variable {lw : Fd}
/-! ### travels -/
def trv (b : Po) (u v : Word) : Int := 2 * b.g * (sm (b.go u) - 2) + 2 * b.g * (sm (b.go v) - 2) - 2 * (2 * b.g * (sm (b.go (lcp u v)) - 2))
/-! ### great positions -/
abbrev grB : List S := [(.put 8 (.sub (.var 7) (.var 9)) (.sub (.var 6) (.var 9)))]
end Lp

set_option autoImplicit false
set_option linter.all false
set_option maxRecDepth 100000
set_option maxHeartbeats 4000000
namespace Lp
open PySem Wd
variable {lw : Fd}
/-! ### places on ways: distances -/
theorem dst_take (u : Word) (k : Nat) (h : k ≤ u.length) : dst u (u.take k) = u.length - k := by
  unfold dst
  rw [lcp_take, List.length_take]
  omega
theorem dst_on_l (u v : Word) (k : Nat) (h1 : (lcp u v).length ≤ k) (h2 : k ≤ u.length) : dst (u.take k) v = k + v.length - 2 * (lcp u v).length := by
  unfold dst
  rw [lcp_take_ge u v k h1, List.length_take]
  omega
theorem on_dst (u v : Word) (i : Nat) (hi : i ≤ dst u v) : dst u (onW u v i) = i ∧ dst (onW u v i) v = dst u v - i := by
  have le := lcp_le u v
  rcases onW_cases u v i hi with ⟨k, h1, h2, e, j⟩ | ⟨k, h1, h2, e, j⟩
  · rw [e, dst_take u k h2, dst_on_l u v k h1 h2]
    unfold dst at *
    omega
  · rw [e]
    have c := lcp_comm u v
    rw [dst_comm u (v.take k), dst_on_l v u k (by rw [← c]; exact h1) h2, dst_comm (v.take k) v, dst_take v k h2, ← c]
    unfold dst at *
    omega
theorem on_back (u v : Word) (i : Nat) (hi : i ≤ dst u v) : onW v u (dst u v - i) = onW u v i := by
  have le := lcp_le u v
  have c := lcp_comm u v
  unfold onW
  rw [← c, dst_comm v u]
  by_cases a : i ≤ u.length - (lcp u v).length
  · rw [if_pos a]
    by_cases b : dst u v - i ≤ v.length - (lcp u v).length
    · rw [if_pos b]
      have e1 : v.length - (dst u v - i) = (lcp u v).length := by unfold dst at *; omega
      have e2 : u.length - i = (lcp u v).length := by unfold dst at *; omega
      rw [e1, e2, take_lcp_l, take_lcp_r]
    · rw [if_neg b]
      congr 1
      omega
  · rw [if_neg a, if_pos (by unfold dst at *; omega)]
theorem on_zero (u v : Word) : onW u v 0 = u := by
  unfold onW
  rw [if_pos (Nat.zero_le _)]
  simp
/-! ### leaps of a way, split at a place -/
theorem wayF_comm (F : Po → Word → Int → Int) (b : Po) (u v : Word) (j : Int) : wayF F b u v j = wayF F b v u j := by
  unfold wayF
  rw [lcp_comm u v]
  omega
theorem wayF_split_u (F : Po → Word → Int → Int) (h0 : ∀ s j, F s [] j = 0) (ha : ∀ s u v j, F s (u ++ v) j = F s u j + F (s.go u) v j) (b : Po) (u v : Word) (k : Nat) (h1 : (lcp u v).length ≤ k) (h2 : k ≤ u.length) (j : Int) : wayF F b u (u.take k) j + wayF F b (u.take k) v j = wayF F b u v j := by
  have t : (u.take k).length = k := by rw [List.length_take]; omega
  have e1 : wayF F b u (u.take k) j = F (b.go (u.take k)) (u.drop k) j := by
    unfold wayF
    have z : (u.take k).drop k = [] := List.drop_of_length_le (by omega)
    rw [lcp_take, t, z, h0]
    omega
  have e2 : F (b.go (lcp u v)) (u.drop (lcp u v).length) j = F (b.go (lcp u v)) ((u.take k).drop (lcp u v).length) j + F (b.go (u.take k)) (u.drop k) j := by
    have g : (b.go (lcp u v)).go ((u.take k).drop (lcp u v).length) = b.go (u.take k) := by
      have := go_up b (u.take k) v
      rw [lcp_take_ge u v k h1] at this
      exact this
    rw [← g, ← ha]
    congr 1
    have := List.take_append_drop k u
    generalize (lcp u v).length = c at h1 ⊢
    conv => lhs; rw [← this]
    rw [List.drop_append, t, show c - k = 0 by omega, List.drop_zero]
  have e3 : wayF F b (u.take k) v j = F (b.go (lcp u v)) ((u.take k).drop (lcp u v).length) j + F (b.go (lcp u v)) (v.drop (lcp u v).length) j := by
    unfold wayF
    rw [lcp_take_ge u v k h1]
  rw [e1, e3]
  unfold wayF
  rw [e2]
  omega
theorem wayF_split (F : Po → Word → Int → Int) (h0 : ∀ s j, F s [] j = 0) (ha : ∀ s u v j, F s (u ++ v) j = F s u j + F (s.go u) v j) (b : Po) (u v : Word) (i : Nat) (hi : i ≤ dst u v) (j : Int) : wayF F b u (onW u v i) j + wayF F b (onW u v i) v j = wayF F b u v j := by
  rcases onW_cases u v i hi with ⟨k, h1, h2, e, _⟩ | ⟨k, h1, h2, e, _⟩
  · rw [e]; exact wayF_split_u F h0 ha b u v k h1 h2 j
  · rw [e, wayF_comm F b u (v.take k), wayF_comm F b (v.take k) v, wayF_comm F b u v, Int.add_comm]
    exact wayF_split_u F h0 ha b v u k (by rw [lcp_comm]; exact h1) h2 j
end Lp

set_option autoImplicit false
set_option linter.all false
set_option maxRecDepth 100000
set_option maxHeartbeats 4000000
namespace Lp
open PySem Wd
variable {lw : Fd}
/-! ### three positions of one tree -/
def med3 (x y z : Word) : Word := if y.length ≤ x.length ∧ z.length ≤ x.length then x else if z.length ≤ y.length then y else z
end Lp

set_option autoImplicit false
set_option linter.all false
set_option maxRecDepth 100000
set_option maxHeartbeats 4000000
namespace Lp
open PySem Wd
variable {lw : Fd}
/-! ### the first leap of a way -/
end Lp

set_option autoImplicit false
set_option linter.all false
set_option maxRecDepth 100000
set_option maxHeartbeats 4000000
namespace Lp
open PySem Wd
variable {lw : Fd}
/-! ### a way of one leap -/
def hit (s t : Po) (d : D) : Bool := PyData.eqv (behind (s.at 0) (s.at 1) (s.at 2) d) (PD t)
theorem cmp_ne_nil (x : D) (r : List D) (h : ∀ y ∈ x :: r, PyData.canLay0 y = true ∧ y.depth ≤ 50) : cmp .NotEq (.list (x :: r)) (.list []) = .ok true := by
  show gd (shp (.list (x :: r)) && shp (.list [])) (.ok (!PyData.eqv (.list (x :: r)) (.list []))) = _
  rw [(shpL h).1, show shp (.list []) = true from rfl]
  simp [PyData.eqv, PyData.eqvAll]
end Lp

set_option autoImplicit false
set_option linter.all false
set_option maxRecDepth 100000
set_option maxHeartbeats 4000000
namespace Lp
open PySem Wd
variable {lw : Fd}
/-! ### words as texts -/
def sgc (c : Bool) : Nat := if c then 82 else 76
def strW (w : Word) : Str := ⟨(w.map sgc).toArray⟩
/-! ### the word of a position, told by the law -/
/-! ### the runs of a word, told by the law -/
abbrev lrB : List S := [(.ite (.and (.cmp .NotEq (.var 1) (.lst [])) (.cmp .Eq (.sub (.sub (.var 1) (.neg (.cst (.int 1)))) (.cst (.int 0))) (.var 2))) [(.put 1 (.neg (.cst (.int 1))) (.tup [(.var 2), (.bin .Add (.sub (.sub (.var 1) (.neg (.cst (.int 1)))) (.cst (.int 1))) (.cst (.int 1)))]))] [(.app 1 (.tup [(.var 2), (.cst (.int 1))]))])]
/-! ### each step of a way is one leap -/
end Lp

set_option autoImplicit false
set_option linter.all false
set_option maxRecDepth 100000
set_option maxHeartbeats 4000000
namespace Lp
open PySem Wd
variable {lw : Fd}
/-! ### the leap between two neighbors, and the leaps of a way -/
def lpO (s : Po) (c : Bool) : D := prD s.m (othr s c)
def lpI (s : Po) (c : Bool) : D := prD (othr s c) s.m
def outL (s : Po) : Word → List D
  | [] => []
  | c :: w => lpO s c :: outL (s.st c) w
def inL (s : Po) : Word → List D
  | [] => []
  | c :: w => inL (s.st c) w ++ [lpI (s.st c) c]
def dueL (l : List (Po × Po)) : List D := l.flatMap fun x => (lps (x.1.at 0) (x.1.at 1) (x.1.at 2)).filter (hit x.1 x.2)
def wayL (b : Po) (u v : Word) : List D := inL (b.go (lcp u v)) (u.drop (lcp u v).length) ++ outL (b.go (lcp u v)) (v.drop (lcp u v).length)
/-! ### way -/
abbrev wyI : List S := [(.asg (.tp [(.nm 6), (.nm 7), (.nm 8)]) (.call 174 none [(.var 2)])), (.asg (.tp [(.nm 9), (.nm 10)]) (.call 61 none [(.var 2)])), (.par [11] [(.ite (.cmp .Lt (.var 9) (.var 10)) (.tup [(.var 6), (.var 7)]) (.tup [(.var 8), (.var 7)]))]), (.app 3 (.var 11)), (.par [2] [(.call 104 none [(.var 2), (.sub (.var 11) (.cst (.int 0))), (.sub (.var 11) (.cst (.int 1)))])])]
abbrev wyO : List S := [(.asg (.tp [(.nm 6), (.nm 7), (.nm 8)]) (.call 174 none [(.var 2)])), (.par [11] [(.ite (.cmp .Eq (.var 12) (.cst (.str ("L" : Str)))) (.tup [(.var 7), (.var 6)]) (.tup [(.var 7), (.var 8)]))]), (.app 3 (.var 11)), (.par [2] [(.call 104 none [(.var 2), (.sub (.var 11) (.cst (.int 0))), (.sub (.var 11) (.cst (.int 1)))])])]
def noIo (v : En) : Prop := ∀ s ∈ v, notIo s = true
abbrev wyR : List S := [(.for_ (.nm 5) (.rng [(.var 13)]) wyO)]
end Lp

set_option autoImplicit false
set_option linter.all false
set_option maxRecDepth 100000
set_option maxHeartbeats 4000000
namespace Lp
open PySem Wd
variable {lw : Fd}
/-! ### comprehensions over a list told by a function -/
theorem mapE_fi {A : Type} (P : En → Prop) (f : D → En → R (Option D × En)) (h : A → D) (q : A → Bool) (g : A → D) : ∀ (xs : List A), (∀ a ∈ xs, ∀ v, P v → ∃ v', f (h a) v = .ok (if q a = true then some (g a) else none, v') ∧ P v') → ∀ v, P v → ∃ v', mapE f (xs.map h) v = .ok ((xs.filter q).map g, v') ∧ P v'
  | [], _, v, hv => ⟨v, rfl, hv⟩
  | d :: r, hh, v, hv => by
    obtain ⟨v1, e1, p1⟩ := hh d (List.mem_cons_self ..) v hv
    obtain ⟨v2, e2, p2⟩ := mapE_fi P f h q g r (fun x hx => hh x (List.mem_cons_of_mem _ hx)) v1 p1
    refine ⟨v2, ?_, p2⟩
    rw [List.map_cons, mapE_cons, e1, ok_bind]
    show (mapE f (r.map h) v1).map _ = _
    rw [e2]
    by_cases c : q d = true
    · simp [c, List.filter_cons]
    · simp [c, List.filter_cons]
/-! ### the place of a number -/
/-! ### positions on a way -/
def onB (u v x : Word) : Bool := (List.range (dst u v + 1)).any fun i => decide (onW u v i = x)
/-! ### the median lies on all three ways -/
end Lp

set_option autoImplicit false
set_option linter.all false
set_option maxRecDepth 100000
set_option maxHeartbeats 4000000
namespace Lp
open PySem Wd
variable {lw : Fd}
/-! ### how often a sign stands in a text -/
/-! ### how many turns of each sign -/
def cntR (c : Bool) (rs : Runs) : Nat := ((rs.filter fun x => x.1 == c).map (·.2)).sum
end Lp

set_option autoImplicit false
set_option linter.all false
set_option maxRecDepth 100000
set_option maxHeartbeats 4000000
namespace Lp
open PySem Wd
variable {lw : Fd}
/-! ### the leaps of each stone, counted by the law -/
def stn (x : Po × Po) : Int := if x.1.at 0 ≠ x.2.at 0 then 0 else if x.1.at 1 ≠ x.2.at 1 then 1 else 2
end Lp

set_option autoImplicit false
set_option linter.all false
set_option maxRecDepth 100000
set_option maxHeartbeats 4000000
namespace Lp
open PySem Wd
variable {lw : Fd}
/-! ### texts of words: equal ones, made several times -/
def repW (w : Word) (n : Nat) : Word := (List.replicate n w).flatten
/-! ### positions made by a word -/
abbrev mdB : List S := [(.asg (.tp [(.nm 3), (.nm 4), (.nm 5)]) (.call 305 none [(.var 0)])), (.par [0] [(.call 306 none [(.var 0), (.var 4), (.ite (.cmp .Eq (.var 2) (.cst (.str ("L" : Str)))) (.var 3) (.var 5))])])]
/-! ### from the end -/
/-! ### the rest of a word -/
end Lp

set_option autoImplicit false
set_option linter.all false
set_option maxRecDepth 100000
set_option maxHeartbeats 4000000
namespace Lp
open PySem Wd
variable {lw : Fd}
/-! ### general lemmas out of K05 and K39 -/
def adjR : Runs → List ((Bool × Nat) × (Bool × Nat))
  | a :: b :: r => (a, b) :: adjR (b :: r)
  | _ => []
def nxt (w : Word) : Bool := match w.getLast? with
  | none => false
  | some c => !c
theorem pq_b : ∀ (w : Word) (s : Po), s.ok → (s.go w).p + (s.go w).q ≤ 2 ^ w.length * (s.p + s.q)
  | [], s, _ => by show s.p + s.q ≤ 2 ^ 0 * (s.p + s.q); omega
  | c :: w, s, h => by
    have ih := pq_b w (s.st c) (h.st c)
    have p1 := h.p1
    have q1 := h.q1
    have e : (s.st c).p + (s.st c).q ≤ 2 * (s.p + s.q) := by
      cases c
      · show s.p + (s.q + s.p) ≤ _; omega
      · show s.p + s.q + s.q ≤ _; omega
    have z : (0 : Int) ≤ 2 ^ w.length := by exact_mod_cast Nat.zero_le (2 ^ w.length)
    have m := Int.mul_le_mul_of_nonneg_left e z
    rw [List.length_cons, Int.pow_succ, Int.mul_assoc]
    exact Int.le_trans ih m
end Lp

set_option autoImplicit false
set_option linter.all false
set_option maxRecDepth 100000
set_option maxHeartbeats 4000000
namespace Lp
open PySem Wd
variable {lw : Fd}
/-! ### who leaps when -/
theorem on_on (u v : Word) (i k : Nat) (h : i + k ≤ dst u v) : onW (onW u v i) v k = onW u v (i + k) := by
  have le := lcp_le u v
  obtain ⟨d1, d2⟩ := on_dst u v i (by omega)
  by_cases q : i ≤ u.length - (lcp u v).length
  · have e : onW u v i = u.take (u.length - i) := by unfold onW; rw [if_pos q]
    have lc : lcp (u.take (u.length - i)) v = lcp u v := lcp_take_ge u v _ (by omega)
    have ll : (u.take (u.length - i)).length = u.length - i := by rw [List.length_take]; omega
    rw [e] at d2
    have r : onW (u.take (u.length - i)) v k = if k ≤ (u.length - i) - (lcp u v).length then (u.take (u.length - i)).take ((u.length - i) - k) else v.take (v.length - ((dst u v - i) - k)) := by
      unfold onW; rw [lc, ll, d2]
    rw [e, r]
    unfold onW
    by_cases q2 : k ≤ (u.length - i) - (lcp u v).length
    · rw [if_pos q2, if_pos (by omega), List.take_take]; congr 1; omega
    · rw [if_neg q2, if_neg (by omega)]; congr 1; omega
  · have e : onW u v i = v.take (v.length - (dst u v - i)) := by unfold onW; rw [if_neg q]
    have lc : lcp (v.take (v.length - (dst u v - i))) v = v.take (v.length - (dst u v - i)) := by rw [lcp_comm]; exact lcp_take v _
    rw [e] at d2
    have dd : dst u v = u.length + v.length - 2 * (lcp u v).length := rfl
    have r : onW (v.take (v.length - (dst u v - i))) v k = if k ≤ (v.take (v.length - (dst u v - i))).length - (v.take (v.length - (dst u v - i))).length then (v.take (v.length - (dst u v - i))).take ((v.take (v.length - (dst u v - i))).length - k) else v.take (v.length - ((dst u v - i) - k)) := by
      unfold onW; rw [lc, d2]
    rw [e, r]
    have g : onW u v (i + k) = v.take (v.length - (dst u v - (i + k))) := by unfold onW; rw [if_neg (by omega)]
    rw [g]
    by_cases q2 : k = 0
    · subst q2; rw [if_pos (by omega), Nat.sub_zero, List.take_length]; rfl
    · rw [if_neg (by omega)]; congr 1; omega
theorem on_pre (u v : Word) (i j : Nat) (hj : j ≤ i) (hi : i ≤ dst u v) : onW u (onW u v i) j = onW u v j := by
  have b1 := on_back u v i hi
  obtain ⟨d1, d2⟩ := on_dst u v i hi
  have b2 := on_back u (onW u v i) j (by omega)
  have h1 : onW (onW v u (dst u v - i)) u (i - j) = onW v u (dst u v - i + (i - j)) := on_on v u (dst u v - i) (i - j) (by rw [dst_comm v u]; omega)
  rw [b1] at h1
  rw [d1] at b2
  rw [← b2, h1, show dst u v - i + (i - j) = dst u v - j by omega]
  exact on_back u v j (by omega)
theorem on_last (u v : Word) : onW u v (dst u v) = v := by
  have := on_back v u 0 (by omega)
  rw [on_zero, Nat.sub_zero, dst_comm v u] at this
  exact this
theorem on_step (u v : Word) (i : Nat) (h : i + 1 ≤ dst u v) : dst (onW u v i) (onW u v (i + 1)) = 1 := by
  obtain ⟨d1, d2⟩ := on_dst u v i (by omega)
  have := (on_dst (onW u v i) v 1 (by omega)).1
  rw [on_on u v i 1 h] at this
  exact this
def LD (s t : Po) : D := ((lps (s.at 0) (s.at 1) (s.at 2)).filter (hit s t)).headD .none
structure Lf (s t : Po) (a o : Int) : Prop where
  p : Lpp (s.at 0) (s.at 1) (s.at 2) a o
  e : leap3 (s.at 0) (s.at 1) (s.at 2) a o = PD t
  f : (lps (s.at 0) (s.at 1) (s.at 2)).filter (hit s t) = [prD a o]
  d : LD s t = prD a o
  c : ∀ j, Ix j → cM s t j = if a = j then 1 else 0
theorem way_1 (b : Po) (x y : Word) (h : dst x y = 1) : wayW b x y = [PD (b.go x), PD (b.go y)] := by
  have e1 : onW x y 1 = y := by rw [← h]; exact on_last x y
  have e0 := on_zero x y
  unfold wayW
  rw [h]
  show [PD (b.go (onW x y 0)), PD (b.go (onW x y 1))] = _
  rw [e0, e1]
theorem pd_at {s t : Po} (h : PD s = PD t) : s.at 0 = t.at 0 ∧ s.at 1 = t.at 1 ∧ s.at 2 = t.at 2 := by
  injection h with h
  injection h with h0 h
  injection h with h1 h
  injection h with h2 h
  injection h0 with h0
  injection h1 with h1
  injection h2 with h2
  exact ⟨h0, h1, h2⟩
theorem us_1 {b : Po} (hb : b.bg) (x y : Word) (h : dst x y = 1) {j : Int} (hj : Ix j) : wayF US b x y j = cM (b.go x) (b.go y) j := by
  have w := way_M hb x y hj
  have p := wayW_P b x y
  rw [way_1 b x y h] at p
  rcases hp : wayP b x y with _ | ⟨s, _ | ⟨t, _ | ⟨r, l⟩⟩⟩
  · rw [hp] at p; simp at p
  · rw [hp] at p; simp at p
  · rw [hp] at p w
    have p1 : PD (b.go x) = PD s := by injection p
    have p2 : PD (b.go y) = PD t := by injection p with _ p; injection p
    have a1 := pd_at p1
    have a2 := pd_at p2
    have cc : cM s t j = cM (b.go x) (b.go y) j := by
      unfold cM
      rcases hj with rfl | rfl | rfl
      · rw [a1.1, a2.1]
      · rw [a1.2.1, a2.2.1]
      · rw [a1.2.2, a2.2.2]
    rw [← w, ← cc]
    show (([(s, t)] : List (Po × Po)).map fun x => cM x.1 x.2 j).sum = _
    simp
  · rw [hp] at p; simp at p
theorem US_nil (s : Po) (j : Int) : US s [] j = 0 := rfl
def fU (b : Po) (u v : Word) (j : Int) (i : Nat) : Int := wayF US b u (onW u v i) j
theorem fU_0 (b : Po) (u v : Word) (j : Int) : fU b u v j 0 = 0 := by
  unfold fU wayF
  rw [on_zero]
  have e : lcp u u = u := by
    have := lcp_take u u.length
    rw [List.take_length] at this
    exact this
  rw [e, List.drop_length]
  rfl
theorem fU_N (b : Po) (u v : Word) (j : Int) : fU b u v j (dst u v) = wayF US b u v j := by unfold fU; rw [on_last]
theorem fU_step {b : Po} (hb : b.bg) (u v : Word) (i : Nat) (h : i + 1 ≤ dst u v) {j : Int} (hj : Ix j) : fU b u v j (i + 1) = fU b u v j i + cM (b.go (onW u v i)) (b.go (onW u v (i + 1))) j := by
  obtain ⟨d1, d2⟩ := on_dst u v (i + 1) h
  have s := wayF_split US US_nil US_app b u (onW u v (i + 1)) i (by omega) j
  rw [on_pre u v (i + 1) i (by omega) h, us_1 hb _ _ (on_step u v i h) hj] at s
  unfold fU
  omega
theorem fU_mono {b : Po} (hb : b.bg) (u v : Word) {j : Int} (hj : Ix j) (i : Nat) : ∀ k, i + k ≤ dst u v → fU b u v j i ≤ fU b u v j (i + k)
  | 0, _ => Int.le_refl _
  | k + 1, h => by
    have ih := fU_mono hb u v hj i k (by omega)
    have s := fU_step hb u v (i + k) (by omega) hj
    have : (0 : Int) ≤ cM (b.go (onW u v (i + k))) (b.go (onW u v (i + k + 1))) j := by unfold cM; split <;> decide
    rw [show i + (k + 1) = i + k + 1 by omega]
    omega
/-! ### the program's leaps by number -/
abbrev bsC : E := (.cmp .Lt (.var 4) (.var 5))
abbrev bsB : List S := [(.par [6] [(.bin .FloorDiv (.bin .Add (.var 4) (.var 5)) (.cst (.int 2)))]), (.ite (.cmp .GtE (.sub (.call 240 none [(.var 0), (.call 203 none [(.var 0), (.var 1), (.var 6)]), (.cst (.int 0))]) (.var 2)) (.var 3)) [(.par [5] [(.var 6)])] [(.par [4] [(.bin .Add (.var 6) (.cst (.int 1)))])])]
structure Wn (b : Po) (u v : Word) (j t : Int) (i : Nat) : Prop where
  l : 1 ≤ i
  h : i ≤ dst u v
  lt : fU b u v j (i - 1) < t
  ge : t ≤ fU b u v j i
end Lp

set_option autoImplicit false
set_option linter.all false
set_option maxRecDepth 100000
set_option maxHeartbeats 4000000
namespace Lp
open PySem Wd
variable {lw : Fd}
/-! ### marks: positions with a stone at a place -/
def mk (s : Po) (f : Int) : Bool := decide (f = -s.q ∨ f = s.p - s.q ∨ f = s.p)
def hitsL (st fi : Int) (t : Nat) (g : Int) : List (Int × Int) :=
  if st = 0 then (if fi = g then [(0, (t : Int))] else [])
  else (if fi + (g - fi).fdiv st * st = g ∧ 0 ≤ (g - fi).fdiv st ∧ (g - fi).fdiv st ≤ t then [((g - fi).fdiv st, (g - fi).fdiv st)] else [])
def cov (L : List (Int × Int)) (i : Int) : Prop := ∃ x ∈ L, x.1 ≤ i ∧ i ≤ x.2
def stepsL (s : Po) (c : Bool) : List (Int × Int) := if c = true then [(0, -s.q), (s.q, s.p - s.q), (s.q, s.p)] else [(-s.p, -s.q), (-s.p, s.p - s.q), (0, s.p)]
def shI (k : Int) (L : List (Int × Int)) : List (Int × Int) := (L.filter fun x => decide (0 < x.2)).map fun x => (k + max 1 x.1, k + x.2)
def runI (s : Po) (f : Int) (c : Bool) (n : Nat) (k : Int) : List (Int × Int) := (stepsL s c).flatMap fun x => shI k (hitsL x.1 x.2 n f)
def mkI (s : Po) (f : Int) : Runs → Int → List (Int × Int)
  | [], _ => []
  | (c, n) :: r, k => runI s f c n k ++ mkI (s.go (List.replicate n c)) f r (k + n)
def mkA (s : Po) (f : Int) (rs : Runs) : List (Int × Int) := (if mk s f = true then [((0 : Int), (0 : Int))] else []) ++ mkI s f rs 0
/-! ### the marks of a way -/
def inI (U : Int) (L : List (Int × Int)) : List (Int × Int) := L.map fun x => (U - x.2, U - x.1)
def upI (b : Po) (f : Int) (g : Word) (z : Word) : List (Int × Int) := mkA (b.go g) f (rl (z.drop g.length))
def btwI (b : Po) (u v : Word) (f : Int) : List (Int × Int) := inI (u.length - (lcp u v).length : Nat) (mkA (b.go (lcp u v)) f (restR (rl u) (lcp u v).length)) ++ shI (u.length - (lcp u v).length : Nat) (mkA (b.go (lcp u v)) f (restR (rl v) (lcp u v).length))
/-! ### in order, and swept -/
def prI (x : Int × Int) : D := prD x.1 x.2
def leI (x y : Int × Int) : Bool := decide (x.1 < y.1 ∨ (x.1 = y.1 ∧ x.2 ≤ y.2))
noncomputable def cnt (P : Nat → Bool) (last : Int) : Int := ((List.range (last + 1).toNat).countP P : Nat)
def swF (f l : Int) (x : Int × Int) : Int := f + max 0 (x.2 - max x.1 (l + 1) + 1)
def swL (l : Int) (x : Int × Int) : Int := max l x.2
def sw : List (Int × Int) → Int → Int → Int × Int
  | [], f, l => (f, l)
  | x :: r, f, l => sw r (swF f l x) (swL l x)
end Lp

set_option autoImplicit false
set_option linter.all false
set_option maxRecDepth 100000
set_option maxHeartbeats 4000000
namespace Lp
open PySem Wd
variable {lw : Fd}
@[simp] theorem e_cmp2 (cf : Cf) (op op' : CmpOp) (a b c : E) (v : En) : ev cf (.cmp2 op op' a b c) v = (lzOf a (ev cf a) v).bind fun x => (lzOf b (ev cf b) x.2).bind fun y => (x.1.get y.2).bind fun p => (y.1.get y.2).bind fun q => (cmp op p q).bind fun d =>
    match d with
    | true => (lzOf c (ev cf c) y.2).bind fun z => (y.1.get z.2).bind fun q' => (z.1.get z.2).bind fun r => (cmp op' q' r).map fun d' => (.bool d', z.2)
    | false => .ok (.bool false, y.2) := by rw [ev] <;> rfl
theorem beqF {a b : Int} (h : ¬ a = b) : (a == b) = false := beq_eq_false_iff_ne.mpr h
theorem need_place_eq (p : Int) (h1 : -4000000000000000000 ≤ p) (h2 : p ≤ 4000000000000000000) (n : Nat) (hn : 4 ≤ n) : callF (GT lw) n 147 none [.int p] = .ok (.none, none) := by
  obtain ⟨m, rfl⟩ : ∃ m, n = m + 1 := ⟨n - 1, by omega⟩
  rw [call_eq (fd := fd147) rfl]
  have e := need_number_eq (lw := lw) m (by omega) p (-4000000000000000000) 4000000000000000000 h1 h2
  have b1 : bin .Mult (.int (-4)) (.int 1000000000000000000) = .ok (.int (-4000000000000000000)) := by kernel_rfl
  have b2 : bin .Mult (.int 4) (.int 1000000000000000000) = .ok (.int 4000000000000000000) := by kernel_rfl
  simp -implicitDefEqProofs [runF, fd147, begin_, one, two, lzV_def, lzOf, getV_def, rdy, cn_none, e, b1, b2]
def offO (s : Po) (p : Int) : D := if (p - s.h) % s.g = 0 then .int ((p - s.h) / s.g) else .none
theorem offset_of_eq {s : Po} (h : s.ok) (b : Bs s) (p : Int) (n : Nat) (hn : 3 ≤ n) : callF (GT lw) n 170 none [PD s, .int p] = .ok (offO s p, none) := by
  obtain ⟨m, rfl⟩ : ∃ m, n = m + 1 := ⟨n - 1, by omega⟩
  rw [call_eq (fd := fd170) rfl]
  have e1 := m_of (lw := lw) h m (by omega)
  have e2 := gr_of (lw := lw) h m (by omega)
  have g1 := h.g1
  have f1 := fdivB (a := p - s.h) (show 0 < s.g by omega) b.g
  have f2 := bin_mod (p - s.h) s.g (by omega)
  unfold offO
  by_cases q : (p - s.h) % s.g = 0
  · simp -implicitDefEqProofs [runF, fd170, begin_, two, one, lzV_def, lzOf, getV_def, setAll, held, isNew, ownable, rdy, cn_none, test, truOf, e1, e2, f1, f2, q]
  · simp -implicitDefEqProofs [runF, fd170, begin_, two, one, lzV_def, lzOf, getV_def, setAll, held, isNew, ownable, rdy, cn_none, test, truOf, e1, e2, f1, f2, q, beqF q]
abbrev hiB : List S := [(.ite (.cmp .Gt (.var 14) (.cst (.int 0))) [(.app 5 (.tup [(.bin .Add (.var 4) (.blt .max [(.cst (.int 1)), (.var 13)])), (.bin .Add (.var 4) (.var 14))]))] [])]
abbrev stB : List S := [(.for_ (.tp [(.nm 13), (.nm 14)]) (.seq (.call 72 none [(.var 11), (.var 12), (.var 9), (.var 2)])) hiB)]
abbrev moB : List S := [(.asg (.tp [(.nm 6), (.nm 7)]) (.var 3)), (.ite (.cmp .Eq (.var 8) (.cst (.str ("R" : Str)))) [(.par [10] [(.lst [(.tup [(.cst (.int 0)), (.neg (.var 7))]), (.tup [(.var 7), (.bin .Sub (.var 6) (.var 7))]), (.tup [(.var 7), (.var 6)])])])] [(.par [10] [(.lst [(.tup [(.neg (.var 6)), (.neg (.var 7))]), (.tup [(.neg (.var 6)), (.bin .Sub (.var 6) (.var 7))]), (.tup [(.cst (.int 0)), (.var 6)])])])]), (.for_ (.tp [(.nm 11), (.nm 12)]) (.seq (.var 10)) stB), (.par [3, 4] [(.call 192 none [(.var 3), (.var 8), (.var 9)]), (.bin .Add (.var 4) (.var 9))])]
def PlS (s : Po) : Runs → Prop
  | [] => True
  | (c, n) :: r => (c = false → s.p < 1073741824) ∧ PlS (s.go (List.replicate n c)) r
end Lp

set_option autoImplicit false
set_option linter.all false
set_option maxRecDepth 100000
set_option maxHeartbeats 4000000
namespace Lp
open PySem Wd
variable {lw : Fd}
/-! ### marks between two positions, counted -/
def hasP (s : Po) (p : Int) : Bool := decide (p = s.x ∨ p = s.y ∨ p = s.z)
theorem has_mk {s : Po} (h : s.ok) (p : Int) : hasP s p = true ↔ (p - s.h) % s.g = 0 ∧ mk s ((p - s.h) / s.g) = true := by
  have g1 := h.g1
  have key : ∀ f : Int, p = s.h + s.g * f → (p - s.h) % s.g = 0 ∧ (p - s.h) / s.g = f := fun f e => by
    rw [show p - s.h = s.g * f by omega]
    exact ⟨Int.mul_emod_right _ _, Int.mul_ediv_cancel_left _ (by omega)⟩
  unfold hasP mk
  rw [decide_eq_true_eq, decide_eq_true_eq]
  unfold Po.x Po.y Po.z
  constructor
  · rintro (e | e | e)
    · obtain ⟨a, b⟩ := key (-s.q) (by rw [Int.mul_neg]; omega)
      exact ⟨a, .inl b⟩
    · obtain ⟨a, b⟩ := key (s.p - s.q) e
      exact ⟨a, .inr (.inl b)⟩
    · obtain ⟨a, b⟩ := key s.p e
      exact ⟨a, .inr (.inr b)⟩
  · rintro ⟨e, h⟩
    have d : s.g * ((p - s.h) / s.g) = p - s.h := Int.mul_ediv_cancel' (Int.dvd_of_emod_eq_zero e)
    rcases h with h | h | h
    · left; rw [h, Int.mul_neg] at d; omega
    · right; left; rw [h] at d; omega
    · right; right; rw [h] at d; omega
def LB (b : Po) (u : Word) : Prop := ∀ y r, u = y ++ false :: r → (b.go y).p < 1073741824
theorem LB.small {b : Po} (hb : b.ok) {u : Word} (h : (b.go u).p < 1073741824) : LB b u := fun y r e => by
  have := (go_mono (hb.go y) (false :: r)).1
  rw [← go_app, ← e] at this
  omega
theorem LB.pre {b : Po} {u v : Word} (h : LB b (u ++ v)) : LB b u := fun y r e => h y (r ++ v) (by rw [e]; simp)
theorem LB.take {b : Po} {u : Word} (h : LB b u) (k : Nat) : LB b (u.take k) := LB.pre (v := u.drop k) (by rw [List.take_append_drop]; exact h)
theorem LB.on {b : Po} {u v : Word} (h1 : LB b u) (h2 : LB b v) (i : Nat) : LB b (onW u v i) := by
  unfold onW
  split
  · exact h1.take _
  · exact h2.take _
theorem h_in {s : Po} (h : s.ok) (i : In s) : -1000000000000000000 ≤ s.h ∧ s.h ≤ 1000000000000000000 := by
  have g1 := h.g1
  have p1 := h.p1
  have q1 := h.q1
  have a := Int.mul_le_mul g1 p1 (by omega) (by omega)
  have c := Int.mul_le_mul g1 q1 (by omega) (by omega)
  unfold In Po.x Po.z at i
  omega
def btwD (b : Po) (u v : Word) (p : Int) : List (Int × Int) := if (p - b.h) % b.g = 0 then (btwI b u v ((p - b.h) / b.g)).mergeSort leI else []
def mkd (b : Po) (u v : Word) (p : Int) (i : Nat) : Bool := hasP (b.go (onW u v i)) p
abbrev toB : List S := [(.aug 3 .Add (.blt .max [(.cst (.int 0)), (.bin .Add (.bin .Sub (.var 6) (.blt .max [(.var 5), (.bin .Add (.var 4) (.cst (.int 1)))])) (.cst (.int 1)))])), (.par [4] [(.blt .max [(.var 4), (.var 6)])])]
def fstD (P : Nat → Bool) (N : Nat) : D := match (List.range (N + 1)).find? P with
  | some i => .int (i : Nat)
  | none => .none
end Lp

set_option autoImplicit false
set_option linter.all false
set_option maxRecDepth 100000
set_option maxHeartbeats 4000000
namespace Lp
open PySem Wd
variable {lw : Fd}
theorem pq_word {b : Po} (hb : b.bg) (w : Word) : (b.go w).p + (b.go w).q ≤ 2 ^ w.length * 2 := by
  have := pq_b w b hb.ok
  rw [hb.p1, hb.q1] at this
  exact this
theorem LB.word {b : Po} (hb : b.bg) {w : Word} {n : Nat} (h : w.length ≤ n) (hn : n ≤ 28) : LB b w := LB.small hb.ok (by
  have a := pq_word hb w
  have c : (2 : Int) ^ w.length ≤ 2 ^ 28 := by
    have := Nat.pow_le_pow_right (n := 2) (by decide) (show w.length ≤ 28 by omega)
    exact_mod_cast this
  have d : (2 : Int) ^ 28 * 2 = 536870912 := by decide
  have q := (hb.ok.go w).q1
  omega)
end Lp

set_option autoImplicit false
set_option linter.all false
set_option maxRecDepth 100000
set_option maxHeartbeats 4000000
namespace Lp
open PySem Wd
variable {lw : Fd}
/-! ### parts: how far back a stone rests -/
def innR (b : Po) (j : Int) : Word → Nat
  | [] => 0
  | c :: r => if (b.go r.reverse).m = j then 0 else innR b j r + 1
def inn (b : Po) (j : Int) (w : Word) : Nat := innR b j w.reverse
abbrev ilB : List S := [(.asg (.tp [(.nm 6), (.nm 7), (.nm 8)]) (.var 2)), (.par [9] [(.ite (.cmp .Eq (.var 4) (.cst (.str ("R" : Str)))) (.var 8) (.var 6))]), (.ite (.cmp .Eq (.var 1) (.var 9)) [(.ret (.var 3))] []), (.ite (.cmp .Eq (.var 1) (.var 7)) [(.aug 3 .Add (.cst (.int 1))), (.ite (.cmp .Gt (.var 5) (.cst (.int 1))) [(.ret (.var 3))] []), (.par [2] [(.call 172 none [(.var 2), (.var 4), (.cst (.int 1))])])] [(.aug 3 .Add (.var 5)), (.par [2] [(.call 172 none [(.var 2), (.var 4), (.var 5)])])])]
def hrt (b : Po) (j : Int) (w : Word) : Word := w.take (w.length - inn b j w)
def kid (s : Po) (j : Int) : Int := if s.l = j then 0 else if s.m = j then 1 else 2
def bsd (b : Po) (j : Int) (w : Word) : Bool := !(kid (b.go (hrt b j w)) j == 1) && (kid (b.go w) j == 1)
end Lp

set_option autoImplicit false
set_option linter.all false
set_option maxRecDepth 100000
set_option maxHeartbeats 4000000
namespace Lp
open PySem Wd
variable {lw : Fd}
/-! ### when a stone leaps -/
end Lp

set_option autoImplicit false
set_option linter.all false
set_option maxRecDepth 100000
set_option maxHeartbeats 4000000
namespace Lp
open PySem Wd
variable {lw : Fd}
/-! ### the same leaps -/
noncomputable instance decD : DecidableEq D := fun a b => Classical.propDecidable (a = b)
def LW (b : Po) (u v : Word) (i : Nat) : D := LD (b.go (onW u v i)) (b.go (onW u v (i + 1)))
structure SL (b : Po) (u v w : Word) (H k : Nat) : Prop where
  le : k ≤ H
  eq : ∀ i, i < k → LW b u v i = LW b u w i
  ne : k < H → LW b u v k ≠ LW b u w k
abbrev slC : E := (.and (.cmp .Lt (.var 5) (.var 6)) (.cmp .Eq (.call 94 none [(.var 0), (.var 1), (.var 5)]) (.call 94 none [(.var 2), (.var 3), (.var 5)])))
end Lp

set_option autoImplicit false
set_option linter.all false
set_option maxRecDepth 100000
set_option maxHeartbeats 4000000
namespace Lp
open PySem Wd
variable {lw : Fd}
/-! ### out of K17: great positions, numbers of leaps -/
theorem fU_nn {b : Po} (hb : b.bg) (u v : Word) {j : Int} (hj : Ix j) (i : Nat) (h : i ≤ dst u v) : 0 ≤ fU b u v j i := by
  have := fU_mono hb u v hj 0 i (by omega)
  rw [fU_0, Nat.zero_add] at this
  exact this
theorem Wn.at {b : Po} (hb : b.bg) {u v : Word} {j : Int} (hj : Ix j) {t : Int} {i : Nat} (h : Wn b u v j t i) : ∃ k, i = k + 1 ∧ k + 1 ≤ dst u v ∧ fU b u v j (k + 1) = t ∧ cM (b.go (onW u v k)) (b.go (onW u v (k + 1))) j = 1 := by
  obtain ⟨k, rfl⟩ : ∃ k, i = k + 1 := ⟨i - 1, by have := h.l; omega⟩
  have h1 := h.lt
  have h2 := h.ge
  have h3 := h.h
  rw [Nat.add_sub_cancel] at h1
  have s := fU_step hb u v k h3 hj
  have c : cM (b.go (onW u v k)) (b.go (onW u v (k + 1))) j = 0 ∨ cM (b.go (onW u v k)) (b.go (onW u v (k + 1))) j = 1 := by unfold cM; split <;> simp
  refine ⟨k, rfl, h3, ?_, ?_⟩ <;> omega
end Lp

set_option autoImplicit false
set_option linter.all false
set_option maxRecDepth 100000
set_option maxHeartbeats 4000000
namespace Lp
open PySem Wd
variable {lw : Fd}
/-! ### walls and parts -/
def sfL (f : Int → Int) : List D := ((if f 0 = 0 then [.int 0] else []) ++ (if f 1 = 0 then [.int 1] else [])) ++ (if f 2 = 0 then [.int 2] else [])
def bs2 (place far : Int) : Int := if far < 0 then 0 else if far = 0 then 1 else 1 + (if far ≤ place then 1 else 0)
def psph (b : Po) (j : Int) (w : Word) (l : Int) : Int :=
  if kid (b.go (hrt b j w)) j = 1 then (if l = 0 then 1 else 0)
  else if bsd b j w = true then (if l = 0 then 1 else bs2 ((inn b j w : Int) - 1) (l - 1) + (if 2 < l then bs2 ((inn b j w : Int) - 1) (l - 2) else 0))
  else bs2 (inn b j w) l + bs2 (inn b j w) (l - 1)
end Lp

set_option autoImplicit false
set_option linter.all false
set_option maxRecDepth 100000
set_option maxHeartbeats 4000000
namespace Lp
open PySem Wd
variable {lw : Fd}
/-! ### marks: parts of ways, great positions -/
end Lp

set_option autoImplicit false
set_option linter.all false
set_option maxRecDepth 100000
set_option maxHeartbeats 4000000
namespace Lp
open PySem Wd
variable {lw : Fd}
/-! ### parts: the same ones, and budgets -/
theorem stays {b : Po} (hb : b.bg) (u v : Word) {j : Int} (hj : Ix j) (h : wayF US b u v j = 0) : ∀ i, i ≤ dst u v → (b.go (onW u v i)).at j = (b.go u).at j
  | 0, _ => by rw [on_zero]
  | i + 1, hi => by
    have st := fU_step hb u v i hi hj
    have m1 := fU_nn hb u v hj i (by omega)
    have m2 := fU_mono hb u v hj (i + 1) (dst u v - (i + 1)) (by omega)
    rw [show i + 1 + (dst u v - (i + 1)) = dst u v by omega, fU_N, h] at m2
    have c : cM (b.go (onW u v i)) (b.go (onW u v (i + 1))) j = 0 := by
      have : 0 ≤ cM (b.go (onW u v i)) (b.go (onW u v (i + 1))) j := by unfold cM; split <;> decide
      omega
    have e : (b.go (onW u v i)).at j = (b.go (onW u v (i + 1))).at j := by
      unfold cM at c
      split at c
      · assumption
      · cases c
    rw [← e]
    exact stays hb u v hj h i (by omega)
end Lp

set_option autoImplicit false
set_option linter.all false
set_option maxRecDepth 100000
set_option maxHeartbeats 4000000
namespace Lp
open PySem Wd
variable {lw : Fd}
/-! ### levels -/
def bitW : Nat → Nat → Word
  | 0, _ => []
  | n + 1, i => bitW n (i / 2) ++ [decide (i % 2 = 1)]
def b2 (c : Bool) : Nat := if c then 1 else 0
def valW (w : Word) : Nat := w.foldl (fun a c => 2 * a + b2 c) 0
def fb : Nat → Nat
  | 0 => 1
  | 1 => 1
  | n + 2 => fb n + fb (n + 1)
def fbp : Nat → Nat × Nat
  | 0 => (1, 1)
  | n + 1 => ((fbp n).2, (fbp n).1 + (fbp n).2)
def wid : Nat → Int → Int → Int
  | 0, a, c => a + c
  | n + 1, a, c => wid n c (a + c)
abbrev waB' : List S := [(.par [2, 3] [(.var 3), (.bin .Add (.var 2) (.var 3))])]
theorem g4 {s : Po} (h : s.ok) (i : In s) : s.g ≤ 4000000000000000000 := by
  have y := s.yx
  have e2 : s.g * 1 ≤ s.g * s.p := Int.mul_le_mul_of_nonneg_left h.p1 (by have := h.g1; omega)
  have := h.yz
  have := i.1
  have := i.2
  omega
/-! ### positions at places of levels -/
def oneR (w : Word) : Runs := w.map fun c => (c, 1)
abbrev lvB : List S := [(.app 5 (.tup [(.ite (.cmp .Eq (.bin .Mod (.var 2) (.cst (.int 2))) (.cst (.int 1))) (.cst (.str ("R" : Str))) (.cst (.str ("L" : Str)))), (.cst (.int 1))])), (.aug 2 .FloorDiv (.cst (.int 2)))]
end Lp

set_option autoImplicit false
set_option linter.all false
set_option maxRecDepth 100000
set_option maxHeartbeats 4000000
namespace Lp
open PySem Wd
variable {lw : Fd}
/-! ### positions told by pairs -/
theorem same_pq {b c : Po} (hb : b.bg) (hc : c.bg) (w : Word) : (b.go w).p = (c.go w).p ∧ (b.go w).q = (c.go w).q := by
  have h : ∀ (w : Word) (s t : Po), s.p = t.p → s.q = t.q → (s.go w).p = (t.go w).p ∧ (s.go w).q = (t.go w).q := by
    intro w
    induction w with
    | nil => intro s t h1 h2; exact ⟨h1, h2⟩
    | cons d w ih =>
      intro s t h1 h2
      refine ih (s.st d) (t.st d) ?_ ?_
      · cases d
        · exact h1
        · show s.p + s.q = t.p + t.q; omega
      · cases d
        · show s.q + s.p = t.q + t.p; omega
        · exact h2
  have := hb.p1
  have := hb.q1
  have := hc.p1
  have := hc.q1
  exact h w b c (by omega) (by omega)
theorem word_of {p q : Int} (hp : 1 ≤ p) (hq : 1 ≤ q) (hg : Int.gcd p q = 1) : ∃ w : Word, ∀ b : Po, b.bg → (b.go w).p = p ∧ (b.go w).q = q := by
  obtain ⟨c, w, hc, e⟩ := begin_ex _ ⟨0, 1, p, q, 0, 1, 2⟩ ⟨show (1 : Int) ≤ 1 by decide, hp, hq, .inl ⟨rfl, rfl, rfl⟩, hg⟩ (Nat.le_refl _)
  refine ⟨w, fun b hb => ?_⟩
  obtain ⟨h1, h2⟩ := same_pq hb hc w
  rw [← e] at h1 h2
  exact ⟨h1, h2⟩
theorem pq_inj {b : Po} (hb : b.bg) {u v : Word} (h1 : (b.go u).p = (b.go v).p) (h2 : (b.go u).q = (b.go v).q) : u = v := go_inj hb hb _ u v (Nat.le_refl _) h1 h2
theorem placed_eq {b : Po} (hb : b.bg) (u : Word) (hu : In (b.go u)) (w : Word) (hs : Bn ((b.go w).p + (b.go w).q)) (n : Nat) (hn : 6 ≤ n) : callF (GT lw) n 204 none [PD (b.go u), .tuple [.int (b.go w).p, .int (b.go w).q]] = .ok (PD (b.go w), none) := by
  obtain ⟨m, rfl⟩ : ∃ m, n = m + 1 := ⟨n - 1, by omega⟩
  rw [call_eq (fd := fd204) rfl]
  have ou := hb.ok.go u
  have ow := hb.ok.go w
  have e1 := m_of (lw := lw) ou m (by omega)
  have e2 := gr_of (lw := lw) ou m (by omega)
  rw [go_h] at e1
  rw [go_g] at e2
  have bu := hu.bs ou
  have bg := bu.g
  rw [go_g] at bg
  have po : Po.ok ⟨b.h, b.g, (b.go w).p, (b.go w).q, 0, 1, 2⟩ := ⟨hb.ok.g1, ow.p1, ow.q1, .inl ⟨rfl, rfl, rfl⟩, ow.cop⟩
  have pb : Bs ⟨b.h, b.g, (b.go w).p, (b.go w).q, 0, 1, 2⟩ := ⟨bg, hs⟩
  have e3 := laid_of (lw := lw) po pb m (by omega)
  obtain ⟨c, z, hc, ez⟩ := begin_ex _ _ po (Nat.le_refl _)
  have zw : z = w := by
    obtain ⟨h1, h2⟩ := same_pq hb hc z
    rw [← ez] at h1 h2
    exact pq_inj hb h1 h2
  subst zw
  have e4 := runs_of_eq (lw := lw) hc z (by rw [← ez]; exact pb) m (by omega)
  rw [← ez] at e4
  have e5 := begin_of_eq (lw := lw) hb u bu m (by omega)
  have e6 := behind_eq (lw := lw) hb.ok (rl z) (by rw [un_rl]; exact ⟨by rw [go_g]; exact bg, hs⟩) (.list (rsD (rl z))) rfl m (by omega)
  rw [un_rl] at e6
  have e3 : callF (GT lw) m 90 none [.int b.h, .int b.g, .tuple [.int (b.go z).p, .int (b.go z).q], .tuple [.int 0, .int 1, .int 2]] = .ok (PD ⟨b.h, b.g, (b.go z).p, (b.go z).q, 0, 1, 2⟩, none) := e3
  generalize PD ⟨b.h, b.g, (b.go z).p, (b.go z).q, 0, 1, 2⟩ = PL at *
  generalize PD (b.go z) = Z at *
  generalize PD (b.go u) = U at *
  generalize PD b = B at *
  generalize rsD (rl z) = RS at *
  simp -implicitDefEqProofs [runF, fd204, begin_, two, one, lzV_def, lzOf, getV_def, setAll, held, isNew, rdy, cn_none, e1, e2, e3, e4, e5, e6]
/-! ### quotients -/
def eq_ (p q : Int) : Nat → Int
  | 0 => 0
  | n + 1 => if 0 < q then p / q + eq_ q (p % q) n else 0
theorem eq_more : ∀ (n m : Nat) (p q : Int), 0 ≤ q → q ≤ n → n ≤ m → eq_ p q m = eq_ p q n
  | 0, m, p, q, h0, h1, _ => by
    have : q = 0 := by omega
    subst this
    cases m with
    | zero => rfl
    | succ m => show (if (0 : Int) < 0 then _ else (0 : Int)) = 0; rw [if_neg (by omega)]
  | n + 1, m, p, q, h0, h1, h2 => by
    obtain ⟨k, rfl⟩ : ∃ k, m = k + 1 := ⟨m - 1, by omega⟩
    show (if 0 < q then p / q + eq_ q (p % q) k else 0) = (if 0 < q then p / q + eq_ q (p % q) n else 0)
    by_cases c : 0 < q
    · rw [if_pos c, if_pos c, eq_more n k q (p % q) (Int.emod_nonneg _ (by omega)) (by have := Int.emod_lt_of_pos p c; omega) (by omega)]
    · rw [if_neg c, if_neg c]
def eu (p q : Int) : Int := eq_ p q q.toNat
theorem eu_step {p q : Int} (h : 0 < q) : eu p q = p / q + eu q (p % q) := by
  unfold eu
  obtain ⟨n, hn⟩ : ∃ n : Nat, q.toNat = n + 1 := ⟨q.toNat - 1, by omega⟩
  have m0 := Int.emod_nonneg p (show q ≠ 0 by omega)
  have m1 := Int.emod_lt_of_pos p h
  rw [hn]
  show (if 0 < q then p / q + eq_ q (p % q) n else 0) = _
  rw [if_pos h, eq_more (p % q).toNat n q (p % q) m0 (by omega) (by omega)]
theorem eu_zero (p : Int) : eu p 0 = 0 := rfl
theorem eu_swap {p q : Int} (hp : 0 ≤ p) (h : p < q) : eu p q = eu q p := by
  rw [eu_step (show 0 < q by omega), Int.ediv_eq_zero_of_lt hp h, Int.emod_eq_of_lt hp h, Int.zero_add]
theorem eu_sym {p q : Int} (hp : 1 ≤ p) (hq : 1 ≤ q) : eu p q = eu q p := by
  rcases Int.lt_trichotomy p q with h | h | h
  · exact eu_swap (by omega) h
  · rw [h]
  · exact (eu_swap (by omega) h).symm
theorem eu_R {p q : Int} (hq : 1 ≤ q) : eu (p + q) q = 1 + eu p q := by
  rw [eu_step (show 0 < q by omega), eu_step (p := p) (show 0 < q by omega), Int.add_emod_right, Int.add_ediv_of_dvd_right (Int.dvd_refl q), Int.ediv_self (by omega)]
  omega
theorem eu_word {b : Po} (hb : b.bg) : ∀ (n : Nat) (w : Word), w.length = n → eu (b.go w).p (b.go w).q = n + 1
  | 0, w, h => by
    rw [List.length_eq_zero_iff.mp h]
    show eu b.p b.q = 0 + 1
    rw [hb.p1, hb.q1]
    decide
  | n + 1, w, h => by
    rcases snoc_cases w with rfl | ⟨v, c, rfl⟩
    · cases h
    · have ih := eu_word hb n v (by simpa using h)
      have p1 := (hb.ok.go v).p1
      have q1 := (hb.ok.go v).q1
      rw [go_snoc]
      cases c
      · show eu (b.go v).p ((b.go v).q + (b.go v).p) = _
        rw [eu_sym p1 (by omega), eu_R p1, eu_sym q1 p1, ih]
        omega
      · show eu ((b.go v).p + (b.go v).q) (b.go v).q = _
        rw [eu_R q1, ih]
        omega
abbrev quC : E := (.cmp .Gt (.var 1) (.cst (.int 0)))
abbrev quB : List S := [(.aug 2 .Add (.bin .FloorDiv (.var 0) (.var 1))), (.par [0, 1] [(.var 1), (.bin .Mod (.var 0) (.var 1))])]
theorem qu_loop (cf : Cf) : ∀ (n : Nat) (p q F : Int), 0 ≤ p → 0 ≤ q → q ≤ n → Bn q → ∃ p', whlE cf quC quB [.fz (.int p), .fz (.int q), .fz (.int F)] = .ok (.nx, [.fz (.int p'), .fz (.int 0), .fz (.int (F + eu p q))])
  | 0, p, q, F, hp, h0, h1, _ => by
    have : q = 0 := by omega
    subst this
    refine ⟨p, ?_⟩
    rw [eu_zero, Int.add_zero]
    refine whlE_no ?_
    simp -implicitDefEqProofs [two, lzOf, lzV_def, getV_def, test, truOf]
  | n + 1, p, q, F, hp, h0, h1, hb => by
    by_cases c : 0 < q
    · have m0 := Int.emod_nonneg p (show q ≠ 0 by omega)
      have m1 := Int.emod_lt_of_pos p c
      obtain ⟨p', e⟩ := qu_loop cf n q (p % q) (F + p / q) (by omega) m0 (by omega) (hb.of_le (by omega) (by omega))
      refine ⟨p', ?_⟩
      rw [eu_step c, ← Int.add_assoc, ← e]
      have f1 := fdivB (a := p) c hb
      have f2 := bin_mod p q c
      refine whlE_go (v' := [.fz (.int p), .fz (.int q), .fz (.int F)]) ?_ ?_
      · simp -implicitDefEqProofs [two, lzOf, lzV_def, getV_def, test, truOf, c]
      · simp -implicitDefEqProofs [two, one, lzOf, lzV_def, getV_def, peekV_def, setAll, held, isNew, f1, f2]
    · have : q = 0 := by omega
      subst this
      refine ⟨p, ?_⟩
      rw [eu_zero, Int.add_zero]
      refine whlE_no ?_
      simp -implicitDefEqProofs [two, lzOf, lzV_def, getV_def, test, truOf]
theorem quotients_eq (p q : Int) (hp : 0 ≤ p) (hq : 0 ≤ q) (hb : Bn q) (n : Nat) (hn : 1 ≤ n) : callF (GT lw) n 208 none [.int p, .int q] = .ok (.int (eu p q - 1), none) := by
  obtain ⟨m, rfl⟩ : ∃ m, n = m + 1 := ⟨n - 1, by omega⟩
  rw [call_eq (fd := fd208) rfl]
  obtain ⟨p', e⟩ := qu_loop (callF (GT lw) m) q.toNat p q 0 hp hq (by omega) hb
  rw [Int.zero_add] at e
  simp -implicitDefEqProofs [runF, fd208, begin_, two, one, lzV_def, lzOf, getV_def, setAll, held, isNew, ownable, e]
end Lp

set_option autoImplicit false
set_option linter.all false
set_option maxRecDepth 100000
set_option maxHeartbeats 4000000
namespace Lp
open PySem Wd
variable {lw : Fd}
/-! ### the least of pairs -/
theorem lt_prs (x y : Int × Int) : W.dataLt (prI y) (prI x) = decide (y.1 < x.1 ∨ (y.1 = x.1 ∧ y.2 < x.2)) := W.dataLt_ii y.1 y.2 x.1 x.2
theorem fold_prs : ∀ (L : List (Int × Int)) (x : Int × Int), ∃ y, y ∈ x :: L ∧ (∀ z ∈ x :: L, y.1 < z.1 ∨ (y.1 = z.1 ∧ y.2 ≤ z.2)) ∧ (L.map prI).foldl (fun a z => if W.dataLt z a then z else a) (prI x) = prI y
  | [], x => ⟨x, List.mem_cons_self .., fun z hz => by rw [List.mem_singleton.mp hz]; omega, rfl⟩
  | w :: L, x => by
    rw [List.map_cons, List.foldl_cons, lt_prs x w]
    by_cases c : w.1 < x.1 ∨ (w.1 = x.1 ∧ w.2 < x.2)
    · rw [decide_eq_true c, if_pos rfl]
      obtain ⟨y, h1, h2, h3⟩ := fold_prs L w
      refine ⟨y, List.mem_cons_of_mem _ h1, fun z hz => ?_, h3⟩
      rcases List.mem_cons.mp hz with rfl | hz
      · have := h2 w (List.mem_cons_self ..)
        omega
      · exact h2 z hz
    · rw [decide_eq_false c, if_neg (by simp)]
      obtain ⟨y, h1, h2, h3⟩ := fold_prs L x
      refine ⟨y, ?_, fun z hz => ?_, h3⟩
      · rcases List.mem_cons.mp h1 with rfl | h
        · exact List.mem_cons_self ..
        · exact List.mem_cons_of_mem _ (List.mem_cons_of_mem _ h)
      · rcases List.mem_cons.mp hz with rfl | hz
        · exact h2 _ (List.mem_cons_self ..)
        · rcases List.mem_cons.mp hz with rfl | hz
          · have := h2 x (List.mem_cons_self ..)
            omega
          · exact h2 z (List.mem_cons_of_mem _ hz)
theorem best_prs (L : List (Int × Int)) : bestG (L.map prI) = true := by
  unfold bestG
  have a1 : alikes (L.map prI) = true := alikes_of fun x hx y hy => by
    obtain ⟨i, _, rfl⟩ := List.mem_map.mp hx
    obtain ⟨j, _, rfl⟩ := List.mem_map.mp hy
    unfold prI prD
    rw [W.alike]
    exact W.alike_ints [i.1, i.2] [j.1, j.2]
  have a2 : PyData.depthAll (L.map prI) ≤ 64 := depthAll_le fun x hx => by
    obtain ⟨i, _, rfl⟩ := List.mem_map.mp hx
    have := (lay_tup [i.1, i.2]).2
    exact Nat.le_trans this (by decide)
  rw [a1, decide_eq_true a2, Bool.true_and, Bool.and_true, List.all_eq_true]
  intro x hx
  obtain ⟨i, _, rfl⟩ := List.mem_map.mp hx
  rfl
theorem min_prs (L : List (Int × Int)) (h : L ≠ []) : ∃ y, y ∈ L ∧ (∀ z ∈ L, y.1 < z.1 ∨ (y.1 = z.1 ∧ y.2 ≤ z.2)) ∧ bMinL (L.map prI) = .ok (prI y) := by
  cases L with
  | nil => exact absurd rfl h
  | cons x L =>
    obtain ⟨y, h1, h2, h3⟩ := fold_prs L x
    refine ⟨y, h1, h2, ?_⟩
    have b := best_prs (x :: L)
    rw [List.map_cons] at b ⊢
    show gd (bestG (prI x :: L.map prI)) (.ok (W.minD (prI x) (L.map prI))) = _
    rw [b, gd_true]
    unfold W.minD
    rw [h3]
/-! ### the least deep position with a stone at a place -/
theorem rangeI2 (a c : Int) : rangeItems [.int a, .int c] = gd (rangeOk a c) (.ok (rangeN a c)) := by rw [rangeItems]
theorem range_two (a n : Nat) (h : a + n ≤ 1000000) : rangeItems [.int (a : Nat), .int ((a : Nat) + (n : Nat))] = .ok ((List.range n).map fun (i : Nat) => PyData.int ((a : Nat) + (i : Nat))) := by
  rw [rangeI2]
  have o : rangeOk (a : Nat) ((a : Nat) + (n : Nat)) = true := by
    unfold rangeOk
    rw [decide_eq_true (show -(2 ^ 62) ≤ ((a : Nat) : Int) by omega), decide_eq_true (show ((a : Nat) : Int) < 2 ^ 62 by omega), decide_eq_true (show -(2 ^ 62) ≤ ((a : Nat) : Int) + (n : Nat) by omega), decide_eq_true (show ((a : Nat) : Int) + (n : Nat) < 2 ^ 62 by omega)]
    rfl
  rw [o, gd_true]
  unfold rangeN
  rw [show (((a : Nat) : Int) + (n : Nat) - (a : Nat)).toNat = n by omega]
def partL (f : Nat) : List (Int × Int) := ((List.range f).filter fun i => decide (Nat.gcd f (1 + i) = 1)).map fun i => (eu f ((1 : Nat) + (i : Nat)) - 1, (1 : Nat) + (i : Nat))
theorem least_partner_eq (f : Nat) (h1 : 1 ≤ f) (h2 : f ≤ 5000) (n : Nat) (hn : 3 ≤ n) : ∃ y : Int × Int, y ∈ partL f ∧ (∀ z ∈ partL f, y.1 < z.1 ∨ (y.1 = z.1 ∧ y.2 ≤ z.2)) ∧ callF (GT lw) n 106 none [.int (f : Nat)] = .ok (prI y, none) := by
  obtain ⟨m, rfl⟩ : ∃ m, n = m + 1 := ⟨n - 1, by omega⟩
  have ne : partL f ≠ [] := by
    have : ((eu f ((1 : Nat) + (0 : Nat)) - 1, (((1 : Nat) : Int) + (0 : Nat))) : Int × Int) ∈ partL f := List.mem_map.mpr ⟨0, List.mem_filter.mpr ⟨List.mem_range.mpr (by omega), by simp⟩, rfl⟩
    intro c
    rw [c] at this
    cases this
  obtain ⟨y, y1, y2, y3⟩ := min_prs (partL f) ne
  refine ⟨y, y1, y2, ?_⟩
  rw [call_eq (fd := fd106) rfl]
  have rg := range_two 1 f (by omega)
  obtain ⟨v', e, p, rfl⟩ := mapE_fi (fun w => ∃ p, w = [.fz (.int (f : Nat)), p]) (turnP (.nm 1) (tests (callF (GT lw) m) (some (.cmp .Eq (.call 26 none [(.var 0), (.var 1)]) (.cst (.int 1))))) (ev (callF (GT lw) m) (.tup [(.call 208 none [(.var 0), (.var 1)]), (.var 1)]))) (fun i => PyData.int ((1 : Nat) + (i : Nat))) (fun i => decide (Nat.gcd f (1 + i) = 1)) (fun i => prI (eu f ((1 : Nat) + (i : Nat)) - 1, (1 : Nat) + (i : Nat))) (List.range f) (by
    rintro i hi v ⟨p, rfl⟩
    rw [List.mem_range] at hi
    refine ⟨[.fz (.int (f : Nat)), .fz (.int ((1 : Nat) + (i : Nat)))], ?_, _, rfl⟩
    have c1 := common_eq (lw := lw) m (by omega) (f : Nat) ((1 : Nat) + (i : Nat)) (by omega) (by omega)
    have c2 := quotients_eq (lw := lw) (f : Nat) ((1 : Nat) + (i : Nat)) (by omega) (by omega) (Bn.sm (by omega) (by omega)) m (by omega)
    have gc : ((Int.gcd (f : Nat) ((1 : Nat) + (i : Nat)) : Nat) : Int) = (Nat.gcd f (1 + i) : Nat) := by
      rw [show (((1 : Nat) : Int) + (i : Nat)) = ((1 + i : Nat) : Int) by omega]
      rfl
    rw [gc] at c1
    have q1 : cmp .Eq (.int (Nat.gcd f (1 + i) : Nat)) (.int 1) = .ok (decide (Nat.gcd f (1 + i) = 1)) := by
      rw [cmp_eq]
      by_cases c : Nat.gcd f (1 + i) = 1
      · rw [decide_eq_true c, c]; rfl
      · rw [decide_eq_false c, beqF (by omega)]
    show _ = Except.ok (if decide (Nat.gcd f (1 + i) = 1) = true then some (prI (eu f ((1 : Nat) + (i : Nat)) - 1, (1 : Nat) + (i : Nat))) else none, _)
    generalize decide (Nat.gcd f (1 + i) = 1) = B at *
    generalize eu f ((1 : Nat) + (i : Nat)) = E at *
    generalize (((1 : Nat) : Int) + (i : Nat)) = I1 at *
    cases B <;> simp -implicitDefEqProofs [prI, prD, wipeE, two, lzV_def, getV_def, lzOf, rdy, cn_none, truOf, c1, q1, c2]) [.fz (.int (f : Nat)), .un] ⟨_, rfl⟩
  have e : mapE (turnP (.nm 1) (tests (callF (GT lw) m) (some (.cmp .Eq (.call 26 none [(.var 0), (.var 1)]) (.cst (.int 1))))) (ev (callF (GT lw) m) (.tup [(.call 208 none [(.var 0), (.var 1)]), (.var 1)]))) ((List.range f).map fun (i : Nat) => PyData.int ((1 : Nat) + (i : Nat))) [.fz (.int (f : Nat)), .un] = .ok ((partL f).map prI, [.fz (.int (f : Nat)), p]) := by
    rw [e]
    unfold partL
    rw [List.map_map]
    rfl
  have ll : decide (((partL f).map prI).length ≤ lim) = true := decide_eq_true (by
    unfold partL
    rw [List.length_map, List.length_map]
    have := List.length_filter_le (fun i => decide (Nat.gcd f (1 + i) = 1)) (List.range f)
    rw [List.length_range] at this
    exact Nat.le_trans this (Nat.le_trans h2 (by decide)))
  have rg : rangeItems [.int 1, .int ((f : Nat) + 1)] = .ok ((List.range f).map fun (i : Nat) => PyData.int ((1 : Nat) + (i : Nat))) := by
    rw [← rg, Int.add_comm]; rfl
  generalize (partL f).map prI = L at *
  generalize (List.range f).map (fun (i : Nat) => PyData.int ((1 : Nat) + (i : Nat))) = RG at *
  simp -implicitDefEqProofs [runF, fd106, begin_, two, one, lzV_def, lzOf, getV_def, rdy, rg, okB_cons, okB_nil, okZ, wipeE, backE, e, ll, y3]
theorem part_p {b : Po} (hb : b.bg) (f : Int) : ∀ (n : Nat) (V : Word), V.length = n → (b.go V).p = f → ∃ o : Int, 1 ≤ o ∧ o ≤ f ∧ Int.gcd f o = 1 ∧ eu f o - 1 ≤ V.length
  | 0, V, h, e => by
    rw [List.length_eq_zero_iff.mp h] at e ⊢
    have : f = 1 := by rw [← e]; exact hb.p1
    subst this
    exact ⟨1, by decide, by decide, by decide, by decide⟩
  | n + 1, V, h, e => by
    rcases snoc_cases V with rfl | ⟨v, c, rfl⟩
    · cases h
    · cases c
      · rw [go_snoc] at e
        obtain ⟨o, o1, o2, o3, o4⟩ := part_p hb f n v (by simpa using h) e
        exact ⟨o, o1, o2, o3, by simp; omega⟩
      · have lt := go_R hb v
        have ok := hb.ok.go (v ++ [true])
        have w := eu_word hb _ (v ++ [true]) rfl
        rw [e] at lt w
        refine ⟨(b.go (v ++ [true])).q, ok.q1, by omega, ?_, by omega⟩
        have := ok.cop
        rw [e] at this
        exact this
theorem part_q {b : Po} (hb : b.bg) (f : Int) : ∀ (n : Nat) (V : Word), V.length = n → (b.go V).q = f → ∃ o : Int, 1 ≤ o ∧ o ≤ f ∧ Int.gcd f o = 1 ∧ eu f o - 1 ≤ V.length
  | 0, V, h, e => by
    rw [List.length_eq_zero_iff.mp h] at e ⊢
    have : f = 1 := by rw [← e]; exact hb.q1
    subst this
    exact ⟨1, by decide, by decide, by decide, by decide⟩
  | n + 1, V, h, e => by
    rcases snoc_cases V with rfl | ⟨v, c, rfl⟩
    · cases h
    · cases c
      · have lt := go_L hb v
        have ok := hb.ok.go (v ++ [false])
        have w := eu_word hb _ (v ++ [false]) rfl
        rw [eu_sym ok.p1 ok.q1] at w
        rw [e] at lt w
        refine ⟨(b.go (v ++ [false])).p, ok.p1, by omega, ?_, by omega⟩
        have := ok.cop
        rw [e, Int.gcd_comm] at this
        exact this
      · rw [go_snoc] at e
        obtain ⟨o, o1, o2, o3, o4⟩ := part_q hb f n v (by simpa using h) e
        exact ⟨o, o1, o2, o3, by simp; omega⟩
theorem part_any {b : Po} (hb : b.bg) (f : Int) (hf : f ≠ 0) (V : Word) (h : mk (b.go V) f = true) : ∃ o : Int, 1 ≤ o ∧ o ≤ (f.natAbs : Nat) ∧ Int.gcd (f.natAbs : Nat) o = 1 ∧ eu (f.natAbs : Nat) o - 1 ≤ V.length := by
  unfold mk at h
  rw [decide_eq_true_eq] at h
  have p1 := (hb.ok.go V).p1
  have q1 := (hb.ok.go V).q1
  rcases h with h | h | h
  · exact part_q hb _ _ V rfl (by omega)
  · rcases Int.lt_trichotomy (b.go V).p (b.go V).q with c | c | c
    · rcases snoc_cases V with rfl | ⟨v, d, rfl⟩
      · have := hb.p1; have := hb.q1
        have : b.p < b.q := c
        omega
      · cases d
        · rw [go_snoc] at h
          have h : f = (b.go v).p - ((b.go v).q + (b.go v).p) := h
          obtain ⟨o, o1, o2, o3, o4⟩ := part_q hb ((f.natAbs : Nat) : Int) _ v rfl (by have := (hb.ok.go v).q1; omega)
          exact ⟨o, o1, o2, o3, by simp; omega⟩
        · have := go_R hb v; omega
    · omega
    · rcases snoc_cases V with rfl | ⟨v, d, rfl⟩
      · have := hb.p1; have := hb.q1
        have : b.q < b.p := c
        omega
      · cases d
        · have := go_L hb v; omega
        · rw [go_snoc] at h
          have h : f = (b.go v).p + (b.go v).q - (b.go v).q := h
          obtain ⟨o, o1, o2, o3, o4⟩ := part_p hb ((f.natAbs : Nat) : Int) _ v rfl (by have := (hb.ok.go v).p1; omega)
          exact ⟨o, o1, o2, o3, by simp; omega⟩
  · exact part_p hb _ _ V rfl (by omega)
structure Least (b : Po) (p : Int) (W : Word) : Prop where
  has : hasP (b.go W) p = true
  low : ∀ V, hasP (b.go V) p = true → W.length ≤ V.length
theorem least_at_no {b : Po} (hb : b.bg) (u : Word) (hu : In (b.go u)) (p : Int) (p1 : -4000000000000000000 ≤ p) (p2 : p ≤ 4000000000000000000) (h : (p - b.h) % b.g ≠ 0) (n : Nat) (hn : 7 ≤ n) : callF (GT lw) n 105 none [PD (b.go u), .int p] = .ok (.none, none) := by
  obtain ⟨m, rfl⟩ : ∃ m, n = m + 1 := ⟨n - 1, by omega⟩
  rw [call_eq (fd := fd105) rfl]
  have ou := hb.ok.go u
  have e0 := need_st (lw := lw) ou hu m (by omega)
  have e1 := need_place_eq (lw := lw) p p1 p2 m (by omega)
  have e2 := offset_of_eq (lw := lw) ou (hu.bs ou) p m (by omega)
  unfold offO at e2
  rw [go_h, go_g, if_neg h] at e2
  generalize PD (b.go u) = U at *
  simp -implicitDefEqProofs [runF, fd105, begin_, two, one, lzV_def, lzOf, getV_def, setAll, held, isNew, ownable, rdy, cn_none, test, truOf, e0, e1, e2, isN]
theorem least_at_eq {b : Po} (hb : b.bg) (u : Word) (hu : In (b.go u)) (p : Int) (p1 : -4000000000000000000 ≤ p) (p2 : p ≤ 4000000000000000000) (h : (p - b.h) % b.g = 0) (hf : ((p - b.h) / b.g).natAbs ≤ 5000) (n : Nat) (hn : 7 ≤ n) :
    ∃ W, Least b p W ∧ W.length ≤ ((p - b.h) / b.g).natAbs ∧ callF (GT lw) n 105 none [PD (b.go u), .int p] = .ok (.tuple [.int (W.length : Nat), PD (b.go W)], none) := by
  obtain ⟨m, rfl⟩ : ∃ m, n = m + 1 := ⟨n - 1, by omega⟩
  have ou := hb.ok.go u
  have e0 := need_st (lw := lw) ou hu m (by omega)
  have e1 := need_place_eq (lw := lw) p p1 p2 m (by omega)
  have e2 := offset_of_eq (lw := lw) ou (hu.bs ou) p m (by omega)
  unfold offO at e2
  rw [go_h, go_g, if_pos h] at e2
  have g1 := hb.ok.g1
  have has : ∀ V, hasP (b.go V) p = true ↔ mk (b.go V) ((p - b.h) / b.g) = true := fun V => by
    have := has_mk (hb.ok.go V) p
    rw [go_h, go_g] at this
    rw [this]
    exact ⟨fun x => x.2, fun x => ⟨h, x⟩⟩
  generalize (p - b.h) / b.g = f at *
  have ab : blt .abs [.int f] = .ok (.int (f.natAbs : Nat)) := by
    rw [abs_i]; congr 2; split <;> omega
  have c0 : cmp .Gt (.int (f.natAbs : Nat)) (.int 5000) = .ok false := by rw [cmp_gt, decide_eq_false (by omega)]
  by_cases z : f = 0
  · subst z
    have e3 := begin_of_eq (lw := lw) hb u (hu.bs ou) m (by omega)
    refine ⟨[], ⟨(has []).mpr ?_, fun V _ => Nat.zero_le _⟩, Nat.zero_le _, ?_⟩
    · unfold mk
      rw [decide_eq_true_eq]
      have := hb.p1
      have := hb.q1
      show (0 : Int) = -b.q ∨ (0 : Int) = b.p - b.q ∨ (0 : Int) = b.p
      omega
    · rw [call_eq (fd := fd105) rfl]
      show _ = Except.ok (PyData.tuple [.int 0, PD b], none)
      have c0 : cmp .Gt (.int 0) (.int 5000) = .ok false := rfl
      generalize PD (b.go u) = U at *
      generalize PD b = B at *
      simp -implicitDefEqProofs [runF, fd105, begin_, two, one, lzV_def, lzOf, getV_def, setAll, held, isNew, ownable, rdy, cn_none, test, truOf, e0, e1, e2, isN, c0, e3]
  · obtain ⟨⟨s, o⟩, y1, y2, y3⟩ := least_partner_eq (lw := lw) f.natAbs (by omega) hf m (by omega)
    obtain ⟨i, hi, ei⟩ := List.mem_map.mp y1
    obtain ⟨i1, i2⟩ := List.mem_filter.mp hi
    rw [List.mem_range] at i1
    rw [decide_eq_true_eq] at i2
    have es : s = eu (f.natAbs : Nat) o - 1 ∧ o = ((1 : Nat) : Int) + (i : Nat) := by
      have a := congrArg Prod.fst ei
      have c := congrArg Prod.snd ei
      simp only at a c
      rw [← c]
      exact ⟨a.symm, rfl⟩
    have og : Int.gcd (f.natAbs : Nat) o = 1 := by
      rw [es.2, show (((1 : Nat) : Int) + (i : Nat)) = ((1 + i : Nat) : Int) by omega]
      exact i2
    have low : ∀ V, hasP (b.go V) p = true → s ≤ V.length := fun V hV => by
      obtain ⟨o', o1, o2, o3, o4⟩ := part_any hb f z V ((has V).mp hV)
      obtain ⟨k, hk⟩ : ∃ k : Nat, o' = ((1 : Nat) : Int) + (k : Nat) := ⟨(o' - 1).toNat, by omega⟩
      have mem : ((eu (f.natAbs : Nat) o' - 1, o') : Int × Int) ∈ partL f.natAbs := List.mem_map.mpr ⟨k, List.mem_filter.mpr ⟨List.mem_range.mpr (by omega), by
        rw [decide_eq_true_eq]
        rw [hk, show (((1 : Nat) : Int) + (k : Nat)) = ((1 + k : Nat) : Int) by omega] at o3
        exact o3⟩, by rw [hk]⟩
      have := y2 _ mem
      simp only at this
      omega
    have b0 : Bn (f.natAbs : Nat) := Bn.sm (by omega) (by omega)
    have y3 : callF (GT lw) m 106 none [.int (f.natAbs : Nat)] = .ok (.tuple [.int s, .int o], none) := y3
    rcases Int.lt_trichotomy f 0 with c | c | c
    · obtain ⟨W, hW⟩ := word_of (p := o) (q := (f.natAbs : Nat)) (by omega) (by omega) (by rw [Int.gcd_comm]; exact og)
      obtain ⟨w1, w2⟩ := hW b hb
      have ew := eu_word hb _ W rfl
      rw [w1, w2, eu_sym (by omega) (by omega)] at ew
      have sw : s = (W.length : Nat) := by omega
      refine ⟨W, ⟨(has W).mpr ?_, fun V hV => by have := low V hV; omega⟩, ?_, ?_⟩
      · unfold mk
        rw [decide_eq_true_eq, w2]
        left; omega
      · have := low (List.replicate (f.natAbs - 1) false) ((has _).mpr (by
          unfold mk
          rw [decide_eq_true_eq, go_Ln]
          left
          have := hb.p1; have := hb.q1
          show f = -(b.q + (f.natAbs - 1 : Nat) * b.p)
          rw [hb.p1]
          omega))
        rw [List.length_replicate] at this
        omega
      · have e4 := placed_eq (lw := lw) hb u hu W (by rw [w1, w2]; exact Bn.sm (by omega) (by omega)) m (by omega)
        rw [w1, w2, show ((f.natAbs : Nat) : Int) = -f by omega] at e4
        rw [call_eq (fd := fd105) rfl, ← sw]
        have cg : cmp .Gt (.int f) (.int 0) = .ok false := by rw [cmp_gt, decide_eq_false (by omega)]
        have cz : cmp .Eq (.int f) (.int 0) = .ok false := by rw [cmp_eq, beqF z]
        generalize ((f.natAbs : Nat) : Int) = FA at *
        generalize PD (b.go W) = WW at *
        generalize PD (b.go u) = U at *
        simp -implicitDefEqProofs [runF, fd105, begin_, two, one, lzV_def, lzOf, getV_def, setAll, held, isNew, ownable, rdy, cn_none, test, truOf, e0, e1, e2, isN, ab, c0, cz, y3, cg, e4]
    · exact absurd c z
    · obtain ⟨W, hW⟩ := word_of (p := (f.natAbs : Nat)) (q := o) (by omega) (by omega) og
      obtain ⟨w1, w2⟩ := hW b hb
      have ew := eu_word hb _ W rfl
      rw [w1, w2] at ew
      have sw : s = (W.length : Nat) := by omega
      refine ⟨W, ⟨(has W).mpr ?_, fun V hV => by have := low V hV; omega⟩, ?_, ?_⟩
      · unfold mk
        rw [decide_eq_true_eq, w1]
        right; right; omega
      · have := low (List.replicate (f.natAbs - 1) true) ((has _).mpr (by
          unfold mk
          rw [decide_eq_true_eq, go_Rn]
          right; right
          have := hb.p1; have := hb.q1
          show f = b.p + (f.natAbs - 1 : Nat) * b.q
          rw [hb.q1]
          omega))
        rw [List.length_replicate] at this
        omega
      · have e4 := placed_eq (lw := lw) hb u hu W (by rw [w1, w2]; exact Bn.sm (by omega) (by omega)) m (by omega)
        rw [w1, w2, show ((f.natAbs : Nat) : Int) = f by omega] at e4
        rw [call_eq (fd := fd105) rfl, ← sw]
        have cg : cmp .Gt (.int f) (.int 0) = .ok true := by rw [cmp_gt, decide_eq_true (by omega)]
        have cz : cmp .Eq (.int f) (.int 0) = .ok false := by rw [cmp_eq, beqF z]
        generalize ((f.natAbs : Nat) : Int) = FA at *
        generalize PD (b.go W) = WW at *
        generalize PD (b.go u) = U at *
        simp -implicitDefEqProofs [runF, fd105, begin_, two, one, lzV_def, lzOf, getV_def, setAll, held, isNew, ownable, rdy, cn_none, test, truOf, e0, e1, e2, isN, ab, c0, cz, y3, cg, e4]
end Lp

set_option autoImplicit false
set_option linter.all false
set_option maxRecDepth 100000
set_option maxHeartbeats 4000000
namespace Lp
open PySem Wd
variable {lw : Fd}
/-! ### all positions so many leaps behind -/
def two_ (w : Word) : List Word := [w ++ [false], w ++ [true]]
def lvF : Nat → List Word
  | 0 => [[]]
  | n + 1 => (lvF n).flatMap two_
abbrev biB : List S := [(.asg (.tp [(.nm 6), (.nm 7), (.nm 8)]) (.call 305 none [(.var 5)])), (.par [4] [(.bin .Add (.var 4) (.lst [(.call 306 none [(.var 5), (.var 7), (.var 6)]), (.call 306 none [(.var 5), (.var 7), (.var 8)])]))])]
abbrev boB : List S := [(.par [4] [(.lst [])]), (.for_ (.nm 5) (.seq (.var 2)) biB), (.par [2] [(.var 4)])]
/-! ### stones at places -/
theorem can_hold_eq {b : Po} (hb : b.bg) (u : Word) (hu : In (b.go u)) (p : Int) (p1 : -4000000000000000000 ≤ p) (p2 : p ≤ 4000000000000000000) (n : Nat) (hn : 5 ≤ n) : callF (GT lw) n 15 none [PD (b.go u), .int p] = .ok (.bool ((p - b.h) % b.g == 0), none) := by
  obtain ⟨m, rfl⟩ : ∃ m, n = m + 1 := ⟨n - 1, by omega⟩
  rw [call_eq (fd := fd15) rfl]
  have ou := hb.ok.go u
  have e0 := need_st (lw := lw) ou hu m (by omega)
  have e1 := need_place_eq (lw := lw) p p1 p2 m (by omega)
  have e2 := offset_of_eq (lw := lw) ou (hu.bs ou) p m (by omega)
  unfold offO at e2
  rw [go_h, go_g] at e2
  generalize PD (b.go u) = U at *
  by_cases q : (p - b.h) % b.g = 0
  · rw [if_pos q] at e2
    have qq : ((p - b.h) % b.g == 0) = true := by rw [q]; rfl
    simp -implicitDefEqProofs [runF, fd15, begin_, two, one, lzV_def, lzOf, getV_def, rdy, cn_none, e0, e1, e2, isN, qq]
  · rw [if_neg q] at e2
    simp -implicitDefEqProofs [runF, fd15, begin_, two, one, lzV_def, lzOf, getV_def, rdy, cn_none, e0, e1, e2, isN, beqF q]
end Lp

set_option autoImplicit false
set_option linter.all false
set_option maxRecDepth 100000
set_option maxHeartbeats 1000000
namespace Lp
open PySem Wd
variable {lw : Fd}
/-! ### places that two trees share -/
theorem zA {a : Int} (h1 : -1000000000000000000000000000000000000000000000000000000000000 ≤ a) (h2 : a ≤ 1000000000000000000000000000000000000000000000000000000000000) : a.natAbs < 2 ^ 400 := by
  have := z400 (a := (a.natAbs : Int)) (by omega) (by omega)
  rw [Int.natAbs_natCast] at this
  exact this
theorem prod_bd {t s B : Int} (t0 : 0 ≤ t) (t1 : t ≤ 30) (s0 : -B ≤ s) (s1 : s ≤ B) : -(30 * B) ≤ t * s ∧ t * s ≤ 30 * B := by
  have b0 : 0 ≤ B := by omega
  have h1 := Int.mul_le_mul_of_nonneg_left s1 t0
  have h2 := Int.mul_le_mul_of_nonneg_left s0 t0
  have h3 := Int.mul_le_mul_of_nonneg_right t1 b0
  rw [Int.mul_neg] at h2
  omega
theorem gcd_md (c a : Int) : Int.gcd c (a % c) = Int.gcd c a := by
  have := Int.emod_add_mul_ediv a c
  have e : a % c = a - c * (a / c) := by omega
  rw [e, Int.gcd_sub_mul_left_right]
abbrev ivC : E := (.cmp .NotEq (.var 3) (.cst (.int 0)))
abbrev ivB : List S := [(.par [6] [(.bin .FloorDiv (.var 2) (.var 3))]), (.par [2, 3] [(.var 3), (.bin .Sub (.var 2) (.bin .Mult (.var 6) (.var 3)))]), (.par [4, 5] [(.var 5), (.bin .Sub (.var 4) (.bin .Mult (.var 6) (.var 5)))])]
theorem iv_loop (cf : Cf) (x y : Int) : ∀ (n : Nat) (a c f s B : Int), 0 ≤ a → a ≤ 30 → 0 ≤ c → c ≤ 30 → c ≤ n → Int.gcd a c = 1 → (∃ k, a = f * x + k * y) → (∃ k, c = s * x + k * y) → -B ≤ f → f ≤ B → -B ≤ s → s ≤ B → B * 31 ^ n ≤ 100000000000000000000000000000000000000000000000000 → ∀ s6 : Sl, notIo s6 = true →
    ∃ (F : Int) (t3 t5 t6 : Sl), (∃ k, 1 = F * x + k * y) ∧ whlE cf ivC ivB [.fz (.int x), .fz (.int y), .fz (.int a), .fz (.int c), .fz (.int f), .fz (.int s), s6] = .ok (.nx, [.fz (.int x), .fz (.int y), .fz (.int 1), t3, .fz (.int F), t5, t6])
  | n, a, c, f, s, B, a0, a1, c0, c1, cn, g, hf, hs, f0, f1, s0, s1, hB, s6, n6 => by
    by_cases z : c = 0
    · subst z
      have ea : a = 1 := by
        rw [Int.gcd_zero_right] at g
        omega
      subst ea
      refine ⟨f, .fz (.int 0), .fz (.int s), s6, hf, ?_⟩
      refine whlE_no ?_
      simp -implicitDefEqProofs [two, lzOf, lzV_def, getV_def, test, truOf]
    · match n, cn, hB with
      | 0, cn, _ => omega
      | n + 1, cn, hB =>
        have q0 : 0 ≤ a / c := Int.ediv_nonneg a0 c0
        have q1 : a / c ≤ 30 := by
          have := Int.ediv_le_self c a0
          omega
        have em := Int.emod_add_mul_ediv a c
        have e1 : a - a / c * c = a % c := by rw [Int.mul_comm]; omega
        have m0 := Int.emod_nonneg a z
        have m1 := Int.emod_lt_of_pos a (show 0 < c by omega)
        have pb := prod_bd q0 q1 s0 s1
        have hB2 : 31 * B * 31 ^ n ≤ 100000000000000000000000000000000000000000000000000 := by
          have : 31 * B * 31 ^ n = B * 31 ^ (n + 1) := by rw [Int.pow_succ, Int.mul_comm 31 B, Int.mul_assoc, Int.mul_comm 31 (31 ^ n)]
          rw [this]; exact hB
        have b0 : 0 ≤ B := by omega
        have Bb : B ≤ 100000000000000000000000000000000000000000000000000 := by
          have p : (1 : Int) ≤ 31 ^ (n + 1) := by
            have : 1 ≤ 31 ^ (n + 1) := Nat.one_le_pow _ _ (by decide)
            exact_mod_cast this
          have := Int.mul_le_mul_of_nonneg_left p b0
          omega
        obtain ⟨F, t3, t5, t6, hF, e⟩ := iv_loop cf x y n c (a % c) s (f - a / c * s) (31 * B) c0 c1 m0 (by omega) (by omega) (by rw [gcd_md c a, Int.gcd_comm]; exact g) hs (by
          obtain ⟨k, hk⟩ := hf
          obtain ⟨k2, hk2⟩ := hs
          refine ⟨k - a / c * k2, ?_⟩
          rw [← e1]
          generalize a / c = t at *
          have h1 : t * c = t * s * x + t * k2 * y := by rw [hk2, Int.mul_add, Int.mul_assoc, Int.mul_assoc]
          rw [h1, hk, Int.sub_mul, Int.sub_mul]
          omega) (by omega) (by omega) (by omega) (by omega) hB2 (.fz (.int (a / c))) rfl
        refine ⟨F, t3, t5, t6, hF, ?_⟩
        rw [← e]
        refine whlE_go (v' := [.fz (.int x), .fz (.int y), .fz (.int a), .fz (.int c), .fz (.int f), .fz (.int s), s6]) ?_ ?_
        · have zz : (c != 0) = true := by rw [bne_iff_ne]; exact z
          simp -implicitDefEqProofs [two, lzOf, lzV_def, getV_def, test, truOf, z]
        · have d := fdivB (a := a) (b := c) (by omega) (Bn.sm (by omega) (by omega))
          have p1 := mulZ (a := a / c) (b := c) (zA (by omega) (by omega)) (zA (by omega) (by omega))
          have p2 := mulZ (a := a / c) (b := s) (zA (by omega) (by omega)) (zA (by omega) (by omega))
          simp -implicitDefEqProofs [svn _ _ _ n6, two, lzOf, lzV_def, getV_def, peekV_def, setAll, held, isNew, ownable, d, p1, p2, e1]
theorem inverse_eq (x y : Int) (x1 : 0 ≤ x) (y1 : 1 ≤ y) (y2 : y ≤ 30) (g : Int.gcd x y = 1) (n : Nat) (hn : 1 ≤ n) : ∃ r : Int, 0 ≤ r ∧ r < y ∧ (r * x - 1) % y = 0 ∧ callF (GT lw) n 76 none [.int x, .int y] = .ok (.int r, none) := by
  obtain ⟨m, rfl⟩ : ∃ m, n = m + 1 := ⟨n - 1, by omega⟩
  have m0 := Int.emod_nonneg x (show y ≠ 0 by omega)
  have m1 := Int.emod_lt_of_pos x (show 0 < y by omega)
  have em := Int.emod_add_mul_ediv x y
  obtain ⟨F, t3, t5, t6, ⟨k, hk⟩, e⟩ := iv_loop (callF (GT lw) m) x y 30 (x % y) y 1 0 1 m0 (by omega) (by omega) y2 (by omega) (by
    rw [Int.gcd_comm, gcd_md y x, Int.gcd_comm]; exact g) ⟨-(x / y), by rw [Int.neg_mul, Int.mul_comm (x / y) y]; omega⟩ ⟨1, by omega⟩ (by decide) (by decide) (by decide) (by decide) (by decide) .un rfl
  refine ⟨F % y, Int.emod_nonneg _ (by omega), Int.emod_lt_of_pos _ (by omega), ?_, ?_⟩
  · have h1 : F % y * x - 1 = y * (-(k) - F / y * x) := by
      have := Int.emod_add_mul_ediv F y
      have h2 : F % y * x = F * x - y * (F / y) * x := by rw [← Int.sub_mul]; congr 1; omega
      rw [h2, Int.mul_sub, Int.mul_neg, Int.mul_assoc, Int.mul_comm y k]
      omega
    rw [h1, Int.mul_emod_right]
  · rw [call_eq (fd := fd76) rfl]
    have md := bin_mod x y (by omega)
    have md2 := bin_mod F y (by omega)
    have e : whlE (callF (GT lw) m) ivC ivB [.fz (.int x), .fz (.int y), .fz (.int (x % y)), .fz (.int y), .fz (.int 1), .fz (.int 0), .un] = _ := e
    generalize x % y = A at *
    simp -implicitDefEqProofs [runF, fd76, begin_, two, lzV_def, peekV_def, lzOf, getV_def, setAll, held, isNew, ownable, md, e, md2]
structure Sh (h1 g1 h2 g2 r L : Int) : Prop where
  r0 : 0 ≤ r
  r1 : r < L
  a : (r - h1) % g1 = 0
  c : (r - h2) % g2 = 0
theorem common_places_eq {s t : Po} (hs : s.ok) (ht : t.ok) (is : In s) (it : In t) (gs : s.g ≤ 30) (gt : t.g ≤ 30) (n : Nat) (hn : 5 ≤ n) :
    (((t.h - s.h) % (Int.gcd s.g t.g : Nat) ≠ 0 → callF (GT lw) n 29 none [PD s, PD t] = .ok (.none, none)) ∧
    ((t.h - s.h) % (Int.gcd s.g t.g : Nat) = 0 → ∃ r, Sh s.h s.g t.h t.g r (s.g / (Int.gcd s.g t.g : Nat) * t.g) ∧ callF (GT lw) n 29 none [PD s, PD t] = .ok (.tuple [.int r, .int (s.g / (Int.gcd s.g t.g : Nat) * t.g)], none))) := by
  obtain ⟨m, rfl⟩ : ∃ m, n = m + 1 := ⟨n - 1, by omega⟩
  have e1 := need_st (lw := lw) hs is m (by omega)
  have e2 := need_st (lw := lw) ht it m (by omega)
  have e3 := gr_of (lw := lw) hs m (by omega)
  have e4 := gr_of (lw := lw) ht m (by omega)
  have e5 := m_of (lw := lw) hs m (by omega)
  have e6 := m_of (lw := lw) ht m (by omega)
  have g1 := hs.g1
  have g2 := ht.g1
  have e7 := common_eq (lw := lw) m (by omega) s.g t.g (by omega) (by omega)
  have hi1 := h_in hs is
  have hi2 := h_in ht it
  have dv1 : ((Int.gcd s.g t.g : Nat) : Int) ∣ s.g := Int.gcd_dvd_left ..
  have dv2 : ((Int.gcd s.g t.g : Nat) : Int) ∣ t.g := Int.gcd_dvd_right ..
  have gp : 0 < Int.gcd s.g t.g := Int.gcd_pos_of_ne_zero_left _ (by omega)
  have cop : Int.gcd (s.g / (Int.gcd s.g t.g : Nat)) (t.g / (Int.gcd s.g t.g : Nat)) = 1 := Int.gcd_ediv_gcd_ediv_gcd gp
  generalize Int.gcd s.g t.g = sh at *
  obtain ⟨a, ha⟩ := dv1
  obtain ⟨c, hc⟩ := dv2
  have sp : (0 : Int) < (sh : Nat) := by omega
  have qa : s.g / (sh : Nat) = a := by rw [ha]; exact Int.mul_ediv_cancel_left _ (by omega)
  have qc : t.g / (sh : Nat) = c := by rw [hc]; exact Int.mul_ediv_cancel_left _ (by omega)
  rw [qa, qc] at cop
  have a1 : 1 ≤ a := by
    by_cases z : 1 ≤ a
    · exact z
    · have := Int.mul_le_mul_of_nonneg_left (show a ≤ 0 by omega) (show 0 ≤ ((sh : Nat) : Int) by omega)
      rw [Int.mul_zero] at this; omega
  have c1 : 1 ≤ c := by
    by_cases z : 1 ≤ c
    · exact z
    · have := Int.mul_le_mul_of_nonneg_left (show c ≤ 0 by omega) (show 0 ≤ ((sh : Nat) : Int) by omega)
      rw [Int.mul_zero] at this; omega
  have a30 : a ≤ 30 := by
    have := Int.mul_le_mul_of_nonneg_right (show 1 ≤ ((sh : Nat) : Int) by omega) (show 0 ≤ a by omega)
    omega
  have c30 : c ≤ 30 := by
    have := Int.mul_le_mul_of_nonneg_right (show 1 ≤ ((sh : Nat) : Int) by omega) (show 0 ≤ c by omega)
    omega
  have s30 : ((sh : Nat) : Int) ≤ 30 := by
    have := Int.mul_le_mul_of_nonneg_left a1 (show 0 ≤ ((sh : Nat) : Int) by omega)
    rw [← ha] at this; omega
  have md := bin_mod (t.h - s.h) (sh : Nat) sp
  have d1 := fdivB (a := s.g) (b := (sh : Nat)) sp (Bn.sm (by omega) (by omega))
  have d2 := fdivB (a := t.g) (b := (sh : Nat)) sp (Bn.sm (by omega) (by omega))
  have d3 := fdivB (a := t.h - s.h) (b := (sh : Nat)) sp (Bn.sm (by omega) (by omega))
  rw [qa] at d1 ⊢
  rw [qc] at d2
  have Lp : 0 < a * t.g := Int.mul_pos (by omega) (by omega)
  have L9 : a * t.g ≤ 900 := by
    have h1 := Int.mul_le_mul_of_nonneg_left gt (show 0 ≤ a by omega)
    have h2 := Int.mul_le_mul_of_nonneg_right a30 (show (0 : Int) ≤ 30 by decide)
    omega
  have p1 := mulZ (a := a) (b := t.g) (zA (by omega) (by omega)) (zA (by omega) (by omega))
  refine ⟨fun hf => ?_, fun hf => ?_⟩
  · have q : cmp .NotEq (.int ((t.h - s.h) % (sh : Nat))) (.int 0) = .ok true := by rw [cmp_ne]; simp [hf]
    rw [call_eq (fd := fd29) rfl]
    generalize PD s = S at *
    generalize PD t = T at *
    generalize (t.h - s.h) % (sh : Nat) = X at *
    simp -implicitDefEqProofs [-cmp_ne, runF, fd29, begin_, two, lzV_def, peekV_def, lzOf, getV_def, rdy, cn_none, setAll, held, isNew, ownable, test, truOf, e1, e2, e3, e4, e5, e6, e7, md, q]
  · have q : cmp .NotEq (.int ((t.h - s.h) % (sh : Nat))) (.int 0) = .ok false := by rw [cmp_ne, hf]; rfl
    -- the times
    obtain ⟨f, hfe⟩ : ∃ f, t.h - s.h = (sh : Nat) * f := ⟨(t.h - s.h) / (sh : Nat), by
      have := Int.emod_add_mul_ediv (t.h - s.h) (sh : Nat)
      omega⟩
    have qf : (t.h - s.h) / (sh : Nat) = f := by rw [hfe]; exact Int.mul_ediv_cancel_left _ (by omega)
    rw [qf] at d3
    have fb : -2000000000000000000 ≤ f ∧ f ≤ 2000000000000000000 := by
      have h := Int.ediv_le_self (sh : Nat) (show (0 : Int) ≤ 2000000000000000000 by decide)
      constructor
      · by_cases z : -2000000000000000000 ≤ f
        · exact z
        · have := Int.mul_le_mul_of_nonneg_right (show 1 ≤ ((sh : Nat) : Int) by omega) (show 0 ≤ -f by omega)
          rw [Int.mul_neg, Int.mul_neg] at this
          omega
      · by_cases z : f ≤ 2000000000000000000
        · exact z
        · have := Int.mul_le_mul_of_nonneg_right (show 1 ≤ ((sh : Nat) : Int) by omega) (show 0 ≤ f by omega)
          omega
    obtain ⟨u, u0, u1, uc, eu⟩ : ∃ u : Int, 0 ≤ u ∧ u ≤ 30 ∧ (∃ k, u * a - f = c * k) ∧ (∀ (v : En), c = c) ∧ ((c > 1 → ∃ r, callF (GT lw) m 76 none [.int a, .int c] = .ok (.int r, none) ∧ bin .Mult (.int f) (.int r) = .ok (.int (f * r)) ∧ u = f * r % c) ∧ (¬ c > 1 → u = 0)) := by
      by_cases z : c > 1
      · obtain ⟨r, r0, r1, r2, er⟩ := inverse_eq (lw := lw) a c (by omega) (by omega) c30 cop m (by omega)
        have rb := prod_bd (t := r) (s := f) (B := 2000000000000000000) r0 (by omega) fb.1 fb.2
        refine ⟨f * r % c, Int.emod_nonneg _ (by omega), by have := Int.emod_lt_of_pos (f * r) (show 0 < c by omega); omega, ?_, fun _ => rfl, ⟨fun _ => ⟨r, er, mulZ (zA (by omega) (by omega)) (zA (by omega) (by omega)), rfl⟩, fun h => absurd z h⟩⟩
        obtain ⟨k, hk⟩ : ∃ k, r * a - 1 = c * k := ⟨(r * a - 1) / c, by have := Int.emod_add_mul_ediv (r * a - 1) c; omega⟩
        refine ⟨f * k - f * r / c * a, ?_⟩
        have em := Int.emod_add_mul_ediv (f * r) c
        have h2 : f * r % c * a = f * r * a - c * (f * r / c) * a := by rw [← Int.sub_mul]; congr 1; omega
        have h3 : f * r * a = f * (c * k) + f := by rw [Int.mul_assoc, ← hk, Int.mul_sub]; omega
        rw [h2, h3, Int.mul_sub, Int.mul_assoc c (f * r / c) a, Int.mul_left_comm c f k]
        omega
      · have c1' : c = 1 := by omega
        refine ⟨0, by decide, by decide, ⟨-f, by rw [c1']; omega⟩, fun _ => rfl, ⟨fun h => absurd h z, fun _ => rfl⟩⟩
    obtain ⟨k, hk⟩ := uc
    obtain ⟨_, eu1, eu2⟩ := eu
    have ub := Int.mul_le_mul_of_nonneg_right u1 (show 0 ≤ s.g by omega)
    have ub0 := Int.mul_nonneg u0 (show 0 ≤ s.g by omega)
    have p2 := mulZ (a := u) (b := s.g) (zA (by omega) (by omega)) (zA (by omega) (by omega))
    have md2 := bin_mod (s.h + u * s.g) (a * t.g) Lp
    have em := Int.emod_add_mul_ediv (s.h + u * s.g) (a * t.g)
    refine ⟨(s.h + u * s.g) % (a * t.g), ⟨Int.emod_nonneg _ (by omega), Int.emod_lt_of_pos _ Lp, ?_, ?_⟩, ?_⟩
    · have h1 : (s.h + u * s.g) % (a * t.g) - s.h = s.g * (u - c * ((s.h + u * s.g) / (a * t.g))) := by
        have hx : a * t.g * ((s.h + u * s.g) / (a * t.g)) = s.g * (c * ((s.h + u * s.g) / (a * t.g))) := by
          rw [← Int.mul_assoc s.g c]
          congr 1
          rw [hc, ha, Int.mul_left_comm, Int.mul_assoc]
        rw [Int.mul_sub, ← hx, Int.mul_comm s.g u]
        omega
      rw [h1, Int.mul_emod_right]
    · have h1 : (s.h + u * s.g) % (a * t.g) - t.h = t.g * (k - a * ((s.h + u * s.g) / (a * t.g))) := by
        have hx : a * t.g * ((s.h + u * s.g) / (a * t.g)) = t.g * (a * ((s.h + u * s.g) / (a * t.g))) := by
          rw [← Int.mul_assoc t.g a, Int.mul_comm t.g a]
        have hy : u * s.g - (t.h - s.h) = t.g * k := by
          have h2 : u * s.g = (sh : Nat) * (u * a) := by rw [ha, Int.mul_left_comm]
          have h3 : (sh : Nat) * (u * a) - (sh : Nat) * f = (sh : Nat) * (c * k) := by rw [← Int.mul_sub, hk]
          have h4 : t.g * k = (sh : Nat) * (c * k) := by rw [hc, Int.mul_assoc]
          rw [h2, hfe, h3, h4]
        rw [Int.mul_sub, ← hx]
        omega
      rw [h1, Int.mul_emod_right]
    · rw [call_eq (fd := fd29) rfl]
      generalize PD s = S at *
      generalize PD t = T at *
      generalize (t.h - s.h) % (sh : Nat) = X at *
      by_cases z : c > 1
      · obtain ⟨r, er, pr, hu⟩ := eu1 z
        have mdc := bin_mod (f * r) c (by omega)
        rw [← hu] at mdc
        have gz : cmp .Gt (.int c) (.int 1) = .ok true := by rw [cmp_gt, decide_eq_true (by omega)]
        generalize (s.h + u * s.g) % (a * t.g) = RR at *
        generalize a * t.g = LL at *
        generalize f * r = FR at *
        generalize u * s.g = UG at *
        simp -implicitDefEqProofs [-cmp_ne, -cmp_gt, runF, fd29, begin_, two, lzV_def, peekV_def, lzOf, getV_def, rdy, cn_none, setAll, held, isNew, ownable, test, truOf, e1, e2, e3, e4, e5, e6, e7, md, q, d1, d2, d3, p1, gz, er, pr, mdc, p2, md2]
      · have hu := eu2 z
        have gz : cmp .Gt (.int c) (.int 1) = .ok false := by rw [cmp_gt, decide_eq_false (by omega)]
        rw [hu] at p2 md2 ⊢
        generalize (s.h + 0 * s.g) % (a * t.g) = RR at *
        generalize a * t.g = LL at *
        generalize 0 * s.g = UG at *
        simp -implicitDefEqProofs [-cmp_ne, -cmp_gt, runF, fd29, begin_, two, lzV_def, peekV_def, lzOf, getV_def, rdy, cn_none, setAll, held, isNew, ownable, test, truOf, e1, e2, e3, e4, e5, e6, e7, md, q, d1, d2, p1, gz, p2, md2]
theorem common_after_eq {s t : Po} (hs : s.ok) (ht : t.ok) (is : In s) (it : In t) (p : Int) (p1 : -4000000000000000000 ≤ p) (p2 : p ≤ 4000000000000000000) (n : Nat) (hn : 6 ≤ n) :
    (callF (GT lw) (n - 1) 29 none [PD s, PD t] = .ok (.none, none) → callF (GT lw) n 27 none [PD s, PD t, .int p] = .ok (.none, none)) ∧
    (∀ r L : Int, 0 < L → callF (GT lw) (n - 1) 29 none [PD s, PD t] = .ok (.tuple [.int r, .int L], none) → callF (GT lw) n 27 none [PD s, PD t, .int p] = .ok (.int (p + (r - p) % L), none)) := by
  obtain ⟨m, rfl⟩ : ∃ m, n = m + 1 := ⟨n - 1, by omega⟩
  rw [Nat.add_sub_cancel]
  have e1 := need_st (lw := lw) hs is m (by omega)
  have e2 := need_st (lw := lw) ht it m (by omega)
  have e3 := need_place_eq (lw := lw) p p1 p2 m (by omega)
  rw [call_eq (fd := fd27) rfl]
  generalize PD s = S at *
  generalize PD t = T at *
  refine ⟨fun h => ?_, fun r L hL h => ?_⟩
  · simp -implicitDefEqProofs [runF, fd27, begin_, two, lzV_def, peekV_def, lzOf, getV_def, rdy, cn_none, setAll, held, isNew, ownable, test, truOf, e1, e2, e3, h, isN]
  · have md := bin_mod (r - p) L hL
    simp -implicitDefEqProofs [runF, fd27, begin_, two, lzV_def, peekV_def, lzOf, getV_def, rdy, cn_none, setAll, held, isNew, ownable, test, truOf, e1, e2, e3, h, isN, md]
theorem common_count_eq {s t : Po} (hs : s.ok) (ht : t.ok) (is : In s) (it : In t) (lo hi : Int) (l0 : 0 ≤ lo) (l1 : lo ≤ 1000) (h0 : 0 ≤ hi) (h1 : hi ≤ 1000) (n : Nat) (hn : 6 ≤ n) :
    (callF (GT lw) (n - 1) 29 none [PD s, PD t] = .ok (.none, none) → callF (GT lw) n 28 none [PD s, PD t, .int lo, .int hi] = .ok (.int 0, none)) ∧
    (∀ r L : Int, 0 < L → L ≤ 1000 → callF (GT lw) (n - 1) 29 none [PD s, PD t] = .ok (.tuple [.int r, .int L], none) → callF (GT lw) n 28 none [PD s, PD t, .int lo, .int hi] = .ok (.int (if hi < lo then 0 else (hi - r) / L - (lo - 1 - r) / L), none)) := by
  obtain ⟨m, rfl⟩ : ∃ m, n = m + 1 := ⟨n - 1, by omega⟩
  rw [Nat.add_sub_cancel]
  have e1 := need_st (lw := lw) hs is m (by omega)
  have e2 := need_st (lw := lw) ht it m (by omega)
  have e3 := need_place_eq (lw := lw) lo (by omega) (by omega) m (by omega)
  have e4 := need_place_eq (lw := lw) hi (by omega) (by omega) m (by omega)
  rw [call_eq (fd := fd28) rfl]
  generalize PD s = S at *
  generalize PD t = T at *
  refine ⟨fun h => ?_, fun r L hL hL2 h => ?_⟩
  · simp -implicitDefEqProofs [runF, fd28, begin_, two, lzV_def, peekV_def, lzOf, getV_def, rdy, cn_none, setAll, held, isNew, ownable, test, truOf, e1, e2, e3, e4, h, isN]
  · have d1 := fdivB (a := hi - r) (b := L) hL (Bn.sm (by omega) (by omega))
    have d2 := fdivB (a := lo - 1 - r) (b := L) hL (Bn.sm (by omega) (by omega))
    by_cases c : hi < lo
    · rw [if_pos c]
      have q : cmp .Lt (.int hi) (.int lo) = .ok true := by rw [cmp_lt, decide_eq_true c]
      simp -implicitDefEqProofs [-cmp_lt, runF, fd28, begin_, two, lzV_def, peekV_def, lzOf, getV_def, rdy, cn_none, setAll, held, isNew, ownable, test, truOf, e1, e2, e3, e4, h, isN, q]
    · rw [if_neg c]
      have q : cmp .Lt (.int hi) (.int lo) = .ok false := by rw [cmp_lt, decide_eq_false c]
      simp -implicitDefEqProofs [-cmp_lt, runF, fd28, begin_, two, lzV_def, peekV_def, lzOf, getV_def, rdy, cn_none, setAll, held, isNew, ownable, test, truOf, e1, e2, e3, e4, h, isN, q, d1, d2]
def LaT (d x : D) : Prop := (d = .none ∧ x = .none) ∨ ∃ (k : Nat) (s : Po), d = .tuple [.int (k : Nat), PD s] ∧ x = .int (k : Nat)
theorem both_at_eq {s t : Po} (hs : s.ok) (ht : t.ok) (is : In s) (it : In t) (p : Int) (p1 : -4000000000000000000 ≤ p) (p2 : p ≤ 4000000000000000000) {d x d' x' : D} (h1 : LaT d x) (h2 : LaT d' x') (n : Nat) (hn : 8 ≤ n)
    (e1 : callF (GT lw) (n - 1) 105 none [PD s, .int p] = .ok (d, none)) (e2 : callF (GT lw) (n - 1) 105 none [PD t, .int p] = .ok (d', none)) : callF (GT lw) n 11 none [PD s, PD t, .int p] = .ok (.tuple [x, x'], none) := by
  obtain ⟨m, rfl⟩ : ∃ m, n = m + 1 := ⟨n - 1, by omega⟩
  rw [Nat.add_sub_cancel] at e1 e2
  have n1 := need_st (lw := lw) hs is m (by omega)
  have n2 := need_st (lw := lw) ht it m (by omega)
  have n3 := need_place_eq (lw := lw) p p1 p2 m (by omega)
  rw [call_eq (fd := fd11) rfl]
  generalize PD s = S at *
  generalize PD t = T at *
  rcases h1 with ⟨rfl, rfl⟩ | ⟨k, s1, rfl, rfl⟩ <;> rcases h2 with ⟨rfl, rfl⟩ | ⟨k2, s2, rfl, rfl⟩ <;>
    simp -implicitDefEqProofs [runF, fd11, begin_, two, lzV_def, peekV_def, lzOf, getV_def, rdy, cn_none, setAll, held, isNew, ownable, test, truOf, n1, n2, n3, e1, e2, isN]
end Lp

set_option autoImplicit false
set_option linter.all false
set_option maxRecDepth 100000
set_option maxHeartbeats 4000000
namespace Lp
open PySem Wd
variable {lw : Fd}
/-! ### lists with the same members -/
/-! ### the leaps of a position, one by one -/
def nbW (u : Word) : List Word := [u ++ [false], u ++ [true]] ++ (if u = [] then [] else [u.dropLast])
end Lp

set_option autoImplicit false
set_option linter.all false
set_option maxRecDepth 100000
set_option maxHeartbeats 4000000
namespace Lp
open PySem Wd
variable {lw : Fd}
/-! ### rows of numbers in order -/
def tupI (xs : List Int) : D := .tuple (xs.map .int)
def at3 (s : Po) : List Int := [s.at 0, s.at 1, s.at 2]
/-! ### positions moved, stretched, mirrored, repainted -/
def shP (f : Int) (s : Po) : Po := ⟨s.h + f, s.g, s.p, s.q, s.l, s.m, s.r⟩
def stP (t : Int) (s : Po) : Po := ⟨s.h * t, s.g * t, s.p, s.q, s.l, s.m, s.r⟩
def miP (s : Po) : Po := ⟨-s.h, s.g, s.q, s.p, s.r, s.m, s.l⟩
def sg3 (a b c : Int) (i : Int) : Int := if i = 0 then a else if i = 1 then b else c
def rpP (a b c : Int) (s : Po) : Po := ⟨s.h, s.g, s.p, s.q, sg3 a b c s.l, sg3 a b c s.m, sg3 a b c s.r⟩
theorem stP_ok {s : Po} (h : s.ok) {t : Int} (ht : 1 ≤ t) : (stP t s).ok := ⟨by have := Int.mul_le_mul h.g1 ht (by omega) (by have := h.g1; omega); show 1 ≤ s.g * t; omega, h.p1, h.q1, h.pm, h.cop⟩
theorem Pm.rp {l m r a b c : Int} (h : Pm l m r) (o : Pm a b c) : Pm (sg3 a b c l) (sg3 a b c m) (sg3 a b c r) := by
  rcases h with ⟨rfl, rfl, rfl⟩ | ⟨rfl, rfl, rfl⟩ | ⟨rfl, rfl, rfl⟩ | ⟨rfl, rfl, rfl⟩ | ⟨rfl, rfl, rfl⟩ | ⟨rfl, rfl, rfl⟩ <;> rcases o with ⟨rfl, rfl, rfl⟩ | ⟨rfl, rfl, rfl⟩ | ⟨rfl, rfl, rfl⟩ | ⟨rfl, rfl, rfl⟩ | ⟨rfl, rfl, rfl⟩ | ⟨rfl, rfl, rfl⟩ <;> decide
theorem stP_bg {b : Po} (h : b.bg) {t : Int} (ht : 1 ≤ t) : (stP t b).bg := ⟨stP_ok h.ok ht, h.p1, h.q1⟩
theorem stP_go (t : Int) : ∀ (w : Word) (s : Po), (stP t s).go w = stP t (s.go w)
  | [], s => rfl
  | c :: w, s => by
    have e : (stP t s).st c = stP t (s.st c) := by cases c <;> rfl
    show ((stP t s).st c).go w = _
    rw [e, stP_go t w]; rfl
theorem stP_xyz (t : Int) (s : Po) : (stP t s).x = s.x * t ∧ (stP t s).y = s.y * t ∧ (stP t s).z = s.z * t := by
  unfold Po.x Po.y Po.z stP
  refine ⟨?_, ?_, ?_⟩ <;> grind
end Lp

set_option autoImplicit false
set_option linter.all false
set_option maxRecDepth 100000
set_option maxHeartbeats 4000000
namespace Lp
open PySem Wd
def fd999 : Fd := ⟨false, 1, 18, [(.par [1] [(.lst [(.var 0), (.cst (.int 0)), (.cst (.int 4856)), (.cst (.int 0))])]), (.par [2, 3] [(.call 303 (some 1) [(.cst (.int 4))]), (.call 303 (some 1) [(.cst (.int 4))])]), (.ite (.cmp .Eq (.call 300 (some 1) [(.cst (.int 3))]) (.cst (.int 0))) [(.par [4] [(.call 301 (some 1) [(.lst [(.cst (.int 2)), (.cst (.int 3))])])]), (.par [3] [(.blt .tuple [(.comp (.bin .Mult (.var 5) (.var 4)) (.nm 5) (.seq (.var 3)) none)])])] []), (.par [6] [(.comp (.var 5) (.nm 5) (.rng [(.cst (.int 200))]) (some (.and (.call 15 none [(.var 2), (.var 5)]) (.call 15 none [(.var 3), (.var 5)]))))]), (.par [7] [(.call 29 none [(.var 2), (.var 3)])]), (.ite (.cmp .Eq (.var 6) (.lst [])) [(.ret (.and (.cmp .Is (.var 7) (.cst .none)) (.and (.cmp .Is (.call 27 none [(.var 2), (.var 3), (.cst (.int 5))]) (.cst .none)) (.cmp .Eq (.call 28 none [(.var 2), (.var 3), (.cst (.int 0)), (.cst (.int 100))]) (.cst (.int 0))))))] []), (.ite (.or (.not (.call 302 none [(.var 7), (.tup [(.sub (.var 6) (.cst (.int 0))), (.bin .Sub (.sub (.var 6) (.cst (.int 1))) (.sub (.var 6) (.cst (.int 0))))])])) (.cmp .NotEq (.comp (.cst (.int 1)) (.tp [(.nm 8), (.nm 9)]) (.zip (.var 6) (.cut (.var 6) (some (.cst (.int 1))) none)) (some (.cmp .NotEq (.bin .Sub (.var 9) (.var 8)) (.sub (.var 7) (.cst (.int 1)))))) (.lst []))) [(.ret (.cst (.bool false)))] []), (.par [10, 11] [(.call 300 (some 1) [(.cst (.int 100))]), (.call 300 (some 1) [(.cst (.int 200))])]), (.ite (.not (.call 302 none [(.call 28 none [(.var 2), (.var 3), (.var 10), (.var 11)]), (.blt .len [(.comp (.var 5) (.nm 5) (.seq (.var 6)) (some (.cmp2 .LtE .LtE (.var 10) (.var 5) (.var 11))))])])) [(.ret (.cst (.bool false)))] []), (.par [5] [(.bin .Sub (.call 300 (some 1) [(.cst (.int 90))]) (.cst (.int 60)))]), (.par [13] [(.comp (.var 12) (.nm 12) (.rng [(.var 5), (.bin .Add (.var 5) (.cst (.int 120)))]) (some (.and (.call 15 none [(.var 2), (.var 12)]) (.call 15 none [(.var 3), (.var 12)]))))]), (.ite (.not (.call 302 none [(.call 27 none [(.var 2), (.var 3), (.var 5)]), (.sub (.var 13) (.cst (.int 0)))])) [(.ret (.cst (.bool false)))] []), (.par [14] [(.call 301 (some 1) [(.lst [(.sub (.var 6) (.cst (.int 0))), (.var 10), (.var 5)])])]), (.par [15] [(.lst [(.call 105 none [(.var 2), (.var 14)]), (.call 105 none [(.var 3), (.var 14)])])]), (.par [17] [(.comp (.ite (.cmp .IsNot (.var 16) (.cst .none)) (.sub (.var 16) (.cst (.int 0))) (.cst .none)) (.nm 16) (.seq (.var 15)) none)]), (.ret (.call 302 none [(.call 11 none [(.var 2), (.var 3), (.var 14)]), (.blt .tuple [(.var 17)])]))]⟩
variable {lw : Fd}
theorem drawnG (n : Nat) (hn : 4 ≤ n) {k : Nat} (hk : k ≤ 34) {row : D} (hr : RowOk row) :
    ∃ (row' : D) (t : Po) (v : Word), callF (GT lw) n 303 (some row) [.int (k : Nat)] = .ok (PD (t.go v), some row') ∧ RowOk row' ∧ t.bg ∧ Far (3 ^ k * 30) (t.go v) ∧ v.length ≤ k ∧ -20 ≤ t.h ∧ t.h ≤ 20 ∧ (t.g = 1 ∨ t.g = 2 ∨ t.g = 3 ∨ t.g = 10) := by
  obtain ⟨m, rfl⟩ : ∃ m, n = m + 1 := ⟨n - 1, by omega⟩
  rw [call_eq (fd := fd303) rfl]
  obtain ⟨v, row1, e1, hr1, v0, v1⟩ := taken (lw := lw) m (by omega) hr 41 (by omega) (by omega)
  obtain ⟨x, row2, hx, e2, hr2⟩ := picked (lw := lw) m (by omega) hr1 [.int 1, .int 1, .int 2, .int 3, .int 10] (by simp) (by simp)
  obtain ⟨u, rfl, hu⟩ : ∃ u, x = .int u ∧ (u = 1 ∨ u = 2 ∨ u = 3 ∨ u = 10) := by
    simp only [List.mem_cons, List.not_mem_nil, or_false] at hx
    rcases hx with rfl | rfl | rfl | rfl | rfl <;> exact ⟨_, rfl, by decide⟩
  obtain ⟨y, row3, hy, e3, hr3⟩ := picked (lw := lw) m (by omega) hr2 T6 (by simp) (by simp)
  obtain ⟨a, b, c, e4, hc⟩ := st_loop (callF (GT lw) m) row3 (.int (k : Nat)) (v - 20) u (by omega) y hy
  obtain ⟨t, ht, et, th, tg⟩ := begin_of6 (by omega) hc
  have f : Far 30 t := by
    have hx : t.x = t.h - t.g * t.q := rfl
    have hz : t.z = t.h + t.g * t.p := rfl
    rw [ht.q1, Int.mul_one] at hx
    rw [ht.p1, Int.mul_one] at hz
    exact ⟨by omega, by omega⟩
  have le : (3 : Int) ^ k * 30 ≤ 3 ^ 34 * 30 := by
    have := Nat.pow_le_pow_right (n := 3) (by decide) hk
    exact_mod_cast Nat.mul_le_mul_right 30 this
  obtain ⟨row4, w, e5, hr4, f4, hw⟩ := walk_po (lw := lw) m (by omega) (k := k) (B := 30) (by omega) (Int.le_trans le (by decide)) (by omega) hr3 ht.ok f
  refine ⟨row4, t, w, ?_, hr4, ht, f4, hw, by omega, by omega, by omega⟩
  have rg := range_one 3 (by omega)
  have r3 : (List.range 3).map (fun (i : Nat) => PyData.int i) = [.int 0, .int 1, .int 2] := rfl
  rw [r3] at rg
  have rg' : rangeItems [.int 3] = .ok [.int 0, .int 1, .int 2] := rg
  rw [← et] at e5
  simp -implicitDefEqProofs [runF, fd303, begin_, two, one, lzV_def, getV_def, peekV_def, ownAt_def, lzOf, flD, ioAt, cio_io, rdy, e1, e2, e3, setAll, held, isNew, rg', e4, e5]
theorem stAt (t : Int) (s : Po) (i : Int) : (stP t s).at i = s.at i * t := by
  obtain ⟨h1, h2, h3⟩ := stP_xyz t s
  show (if i = s.l then (stP t s).x else if i = s.m then (stP t s).y else (stP t s).z) = (if i = s.l then s.x else if i = s.m then s.y else s.z) * t
  rw [h1, h2, h3]
  split
  · rfl
  · split <;> rfl
/-! ### units -/
def U1 (g : Int) : Prop := g = 1 ∨ g = 2 ∨ g = 3 ∨ g = 10
def U2 (g : Int) : Prop := g = 1 ∨ g = 2 ∨ g = 3 ∨ g = 4 ∨ g = 6 ∨ g = 9 ∨ g = 10 ∨ g = 20 ∨ g = 30
theorem sh_eqv {h1 g1 h2 g2 r L : Int} (u1 : U1 g1) (u2 : U2 g2) (hL : L = g1 / (Int.gcd g1 g2 : Nat) * g2) (s : Sh h1 g1 h2 g2 r L) : 1 ≤ L ∧ L ≤ 90 ∧ ∀ p : Int, ((p - h1) % g1 = 0 ∧ (p - h2) % g2 = 0) ↔ (p - r) % L = 0 := by
  obtain ⟨r0, r1, a, c⟩ := s
  rcases u1 with rfl | rfl | rfl | rfl <;> rcases u2 with rfl | rfl | rfl | rfl | rfl | rfl | rfl | rfl | rfl
  · have e : L = 1 := hL.trans (by decide)
    subst e
    exact ⟨by decide, by decide, fun p => ⟨fun h => by omega, fun h => by omega⟩⟩
  · have e : L = 2 := hL.trans (by decide)
    subst e
    exact ⟨by decide, by decide, fun p => ⟨fun h => by omega, fun h => by omega⟩⟩
  · have e : L = 3 := hL.trans (by decide)
    subst e
    exact ⟨by decide, by decide, fun p => ⟨fun h => by omega, fun h => by omega⟩⟩
  · have e : L = 4 := hL.trans (by decide)
    subst e
    exact ⟨by decide, by decide, fun p => ⟨fun h => by omega, fun h => by omega⟩⟩
  · have e : L = 6 := hL.trans (by decide)
    subst e
    exact ⟨by decide, by decide, fun p => ⟨fun h => by omega, fun h => by omega⟩⟩
  · have e : L = 9 := hL.trans (by decide)
    subst e
    exact ⟨by decide, by decide, fun p => ⟨fun h => by omega, fun h => by omega⟩⟩
  · have e : L = 10 := hL.trans (by decide)
    subst e
    exact ⟨by decide, by decide, fun p => ⟨fun h => by omega, fun h => by omega⟩⟩
  · have e : L = 20 := hL.trans (by decide)
    subst e
    exact ⟨by decide, by decide, fun p => ⟨fun h => by omega, fun h => by omega⟩⟩
  · have e : L = 30 := hL.trans (by decide)
    subst e
    exact ⟨by decide, by decide, fun p => ⟨fun h => by omega, fun h => by omega⟩⟩
  · have e : L = 2 := hL.trans (by decide)
    subst e
    exact ⟨by decide, by decide, fun p => ⟨fun h => by omega, fun h => by omega⟩⟩
  · have e : L = 2 := hL.trans (by decide)
    subst e
    exact ⟨by decide, by decide, fun p => ⟨fun h => by omega, fun h => by omega⟩⟩
  · have e : L = 6 := hL.trans (by decide)
    subst e
    exact ⟨by decide, by decide, fun p => ⟨fun h => by omega, fun h => by omega⟩⟩
  · have e : L = 4 := hL.trans (by decide)
    subst e
    exact ⟨by decide, by decide, fun p => ⟨fun h => by omega, fun h => by omega⟩⟩
  · have e : L = 6 := hL.trans (by decide)
    subst e
    exact ⟨by decide, by decide, fun p => ⟨fun h => by omega, fun h => by omega⟩⟩
  · have e : L = 18 := hL.trans (by decide)
    subst e
    exact ⟨by decide, by decide, fun p => ⟨fun h => by omega, fun h => by omega⟩⟩
  · have e : L = 10 := hL.trans (by decide)
    subst e
    exact ⟨by decide, by decide, fun p => ⟨fun h => by omega, fun h => by omega⟩⟩
  · have e : L = 20 := hL.trans (by decide)
    subst e
    exact ⟨by decide, by decide, fun p => ⟨fun h => by omega, fun h => by omega⟩⟩
  · have e : L = 30 := hL.trans (by decide)
    subst e
    exact ⟨by decide, by decide, fun p => ⟨fun h => by omega, fun h => by omega⟩⟩
  · have e : L = 3 := hL.trans (by decide)
    subst e
    exact ⟨by decide, by decide, fun p => ⟨fun h => by omega, fun h => by omega⟩⟩
  · have e : L = 6 := hL.trans (by decide)
    subst e
    exact ⟨by decide, by decide, fun p => ⟨fun h => by omega, fun h => by omega⟩⟩
  · have e : L = 3 := hL.trans (by decide)
    subst e
    exact ⟨by decide, by decide, fun p => ⟨fun h => by omega, fun h => by omega⟩⟩
  · have e : L = 12 := hL.trans (by decide)
    subst e
    exact ⟨by decide, by decide, fun p => ⟨fun h => by omega, fun h => by omega⟩⟩
  · have e : L = 6 := hL.trans (by decide)
    subst e
    exact ⟨by decide, by decide, fun p => ⟨fun h => by omega, fun h => by omega⟩⟩
  · have e : L = 9 := hL.trans (by decide)
    subst e
    exact ⟨by decide, by decide, fun p => ⟨fun h => by omega, fun h => by omega⟩⟩
  · have e : L = 30 := hL.trans (by decide)
    subst e
    exact ⟨by decide, by decide, fun p => ⟨fun h => by omega, fun h => by omega⟩⟩
  · have e : L = 60 := hL.trans (by decide)
    subst e
    exact ⟨by decide, by decide, fun p => ⟨fun h => by omega, fun h => by omega⟩⟩
  · have e : L = 30 := hL.trans (by decide)
    subst e
    exact ⟨by decide, by decide, fun p => ⟨fun h => by omega, fun h => by omega⟩⟩
  · have e : L = 10 := hL.trans (by decide)
    subst e
    exact ⟨by decide, by decide, fun p => ⟨fun h => by omega, fun h => by omega⟩⟩
  · have e : L = 10 := hL.trans (by decide)
    subst e
    exact ⟨by decide, by decide, fun p => ⟨fun h => by omega, fun h => by omega⟩⟩
  · have e : L = 30 := hL.trans (by decide)
    subst e
    exact ⟨by decide, by decide, fun p => ⟨fun h => by omega, fun h => by omega⟩⟩
  · have e : L = 20 := hL.trans (by decide)
    subst e
    exact ⟨by decide, by decide, fun p => ⟨fun h => by omega, fun h => by omega⟩⟩
  · have e : L = 30 := hL.trans (by decide)
    subst e
    exact ⟨by decide, by decide, fun p => ⟨fun h => by omega, fun h => by omega⟩⟩
  · have e : L = 90 := hL.trans (by decide)
    subst e
    exact ⟨by decide, by decide, fun p => ⟨fun h => by omega, fun h => by omega⟩⟩
  · have e : L = 10 := hL.trans (by decide)
    subst e
    exact ⟨by decide, by decide, fun p => ⟨fun h => by omega, fun h => by omega⟩⟩
  · have e : L = 20 := hL.trans (by decide)
    subst e
    exact ⟨by decide, by decide, fun p => ⟨fun h => by omega, fun h => by omega⟩⟩
  · have e : L = 30 := hL.trans (by decide)
    subst e
    exact ⟨by decide, by decide, fun p => ⟨fun h => by omega, fun h => by omega⟩⟩
theorem sh_no {h1 g1 h2 g2 : Int} (u1 : U1 g1) (u2 : U2 g2) (h : (h2 - h1) % (Int.gcd g1 g2 : Nat) ≠ 0) (p : Int) : ¬((p - h1) % g1 = 0 ∧ (p - h2) % g2 = 0) := by
  rcases u1 with rfl | rfl | rfl | rfl <;> rcases u2 with rfl | rfl | rfl | rfl | rfl | rfl | rfl | rfl | rfl
  · have e : ((Int.gcd 1 1 : Nat) : Int) = 1 := by decide
    rw [e] at h
    omega
  · have e : ((Int.gcd 1 2 : Nat) : Int) = 1 := by decide
    rw [e] at h
    omega
  · have e : ((Int.gcd 1 3 : Nat) : Int) = 1 := by decide
    rw [e] at h
    omega
  · have e : ((Int.gcd 1 4 : Nat) : Int) = 1 := by decide
    rw [e] at h
    omega
  · have e : ((Int.gcd 1 6 : Nat) : Int) = 1 := by decide
    rw [e] at h
    omega
  · have e : ((Int.gcd 1 9 : Nat) : Int) = 1 := by decide
    rw [e] at h
    omega
  · have e : ((Int.gcd 1 10 : Nat) : Int) = 1 := by decide
    rw [e] at h
    omega
  · have e : ((Int.gcd 1 20 : Nat) : Int) = 1 := by decide
    rw [e] at h
    omega
  · have e : ((Int.gcd 1 30 : Nat) : Int) = 1 := by decide
    rw [e] at h
    omega
  · have e : ((Int.gcd 2 1 : Nat) : Int) = 1 := by decide
    rw [e] at h
    omega
  · have e : ((Int.gcd 2 2 : Nat) : Int) = 2 := by decide
    rw [e] at h
    omega
  · have e : ((Int.gcd 2 3 : Nat) : Int) = 1 := by decide
    rw [e] at h
    omega
  · have e : ((Int.gcd 2 4 : Nat) : Int) = 2 := by decide
    rw [e] at h
    omega
  · have e : ((Int.gcd 2 6 : Nat) : Int) = 2 := by decide
    rw [e] at h
    omega
  · have e : ((Int.gcd 2 9 : Nat) : Int) = 1 := by decide
    rw [e] at h
    omega
  · have e : ((Int.gcd 2 10 : Nat) : Int) = 2 := by decide
    rw [e] at h
    omega
  · have e : ((Int.gcd 2 20 : Nat) : Int) = 2 := by decide
    rw [e] at h
    omega
  · have e : ((Int.gcd 2 30 : Nat) : Int) = 2 := by decide
    rw [e] at h
    omega
  · have e : ((Int.gcd 3 1 : Nat) : Int) = 1 := by decide
    rw [e] at h
    omega
  · have e : ((Int.gcd 3 2 : Nat) : Int) = 1 := by decide
    rw [e] at h
    omega
  · have e : ((Int.gcd 3 3 : Nat) : Int) = 3 := by decide
    rw [e] at h
    omega
  · have e : ((Int.gcd 3 4 : Nat) : Int) = 1 := by decide
    rw [e] at h
    omega
  · have e : ((Int.gcd 3 6 : Nat) : Int) = 3 := by decide
    rw [e] at h
    omega
  · have e : ((Int.gcd 3 9 : Nat) : Int) = 3 := by decide
    rw [e] at h
    omega
  · have e : ((Int.gcd 3 10 : Nat) : Int) = 1 := by decide
    rw [e] at h
    omega
  · have e : ((Int.gcd 3 20 : Nat) : Int) = 1 := by decide
    rw [e] at h
    omega
  · have e : ((Int.gcd 3 30 : Nat) : Int) = 3 := by decide
    rw [e] at h
    omega
  · have e : ((Int.gcd 10 1 : Nat) : Int) = 1 := by decide
    rw [e] at h
    omega
  · have e : ((Int.gcd 10 2 : Nat) : Int) = 2 := by decide
    rw [e] at h
    omega
  · have e : ((Int.gcd 10 3 : Nat) : Int) = 1 := by decide
    rw [e] at h
    omega
  · have e : ((Int.gcd 10 4 : Nat) : Int) = 2 := by decide
    rw [e] at h
    omega
  · have e : ((Int.gcd 10 6 : Nat) : Int) = 2 := by decide
    rw [e] at h
    omega
  · have e : ((Int.gcd 10 9 : Nat) : Int) = 1 := by decide
    rw [e] at h
    omega
  · have e : ((Int.gcd 10 10 : Nat) : Int) = 10 := by decide
    rw [e] at h
    omega
  · have e : ((Int.gcd 10 20 : Nat) : Int) = 10 := by decide
    rw [e] at h
    omega
  · have e : ((Int.gcd 10 30 : Nat) : Int) = 10 := by decide
    rw [e] at h
    omega

/-! ### places in steps -/
theorem div_pred {L x : Int} (h : 0 < L) : (x - 1) / L = if x % L = 0 then x / L - 1 else x / L := by
  have em := Int.emod_add_mul_ediv x L
  have m0 := Int.emod_nonneg x (show L ≠ 0 by omega)
  have m1 := Int.emod_lt_of_pos x h
  split
  · rename_i c
    have e : x - 1 = (L - 1) + L * (x / L - 1) := by rw [Int.mul_sub, Int.mul_one]; omega
    rw [e, Int.add_mul_ediv_left _ _ (by omega), Int.ediv_eq_zero_of_lt (by omega) (by omega)]; omega
  · have e : x - 1 = (x % L - 1) + L * (x / L) := by omega
    rw [e, Int.add_mul_ediv_left _ _ (by omega), Int.ediv_eq_zero_of_lt (by omega) (by omega)]; omega
def cN (r L : Int) (N : Nat) : Int := ((N : Int) - 1 - r) / L + 1
def PN (r L : Int) (p : Nat) : Bool := decide (((p : Int) - r) % L = 0)
theorem cN_0 {r L : Int} (r0 : 0 ≤ r) (r1 : r < L) : cN r L 0 = 0 := by
  unfold cN
  have e : ((0 : Nat) : Int) - 1 - r = (L - 1 - r) + L * (-1) := by omega
  rw [e, Int.add_mul_ediv_left _ _ (by omega), Int.ediv_eq_zero_of_lt (by omega) (by omega)]; rfl
theorem cN_s {r L : Int} (h : 0 < L) (N : Nat) : cN r L (N + 1) = cN r L N + (if PN r L N = true then 1 else 0) := by
  unfold cN PN
  have d := div_pred h (x := (N : Int) - r)
  rw [show (N : Int) - 1 - r = (N : Int) - r - 1 by omega, d, show ((N + 1 : Nat) : Int) - 1 - r = (N : Int) - r by omega]
  by_cases c : ((N : Int) - r) % L = 0
  · rw [if_pos c, decide_eq_true c, if_pos rfl]; omega
  · rw [if_neg c, decide_eq_false c, if_neg Bool.false_ne_true]; omega
theorem cN_n {r L : Int} (r0 : 0 ≤ r) (r1 : r < L) : ∀ N : Nat, 0 ≤ cN r L N
  | 0 => by rw [cN_0 r0 r1]; omega
  | N + 1 => by
    have := cN_n r0 r1 N
    rw [cN_s (by omega)]
    split <;> omega
theorem prog {r L : Int} (r0 : 0 ≤ r) (r1 : r < L) : ∀ N : Nat, ((List.range N).filter (PN r L)).map (fun (p : Nat) => ((p : Nat) : Int)) = (List.range (cN r L N).toNat).map fun (i : Nat) => r + L * (i : Nat)
  | 0 => by rw [cN_0 r0 r1]; rfl
  | N + 1 => by
    have n0 := cN_n r0 r1 N
    have hL : 0 < L := by omega
    rw [List.range_succ, List.filter_append, List.map_append, prog r0 r1 N, cN_s hL]
    cases c : PN r L N with
    | false =>
      rw [if_neg Bool.false_ne_true, Int.add_zero]
      simp [c]
    | true =>
      rw [if_pos rfl, show (cN r L N + 1).toNat = (cN r L N).toNat + 1 by omega, List.range_succ, List.map_append]
      congr 1
      have c' := c
      unfold PN at c'
      rw [decide_eq_true_eq] at c'
      have em := Int.emod_add_mul_ediv ((N : Int) - r) L
      have d := div_pred hL (x := (N : Int) - r)
      rw [if_pos c'] at d
      have e : cN r L N = ((N : Int) - r) / L := by
        unfold cN
        rw [show (N : Int) - 1 - r = (N : Int) - r - 1 by omega, d]; omega
      have e2 : (((cN r L N).toNat : Nat) : Int) = ((N : Int) - r) / L := by rw [← e]; omega
      simp only [List.filter_cons, c, if_true, List.filter_nil, List.map_cons, List.map_nil, e2]
      congr 1
      omega
theorem cnt_in {r L : Int} (r0 : 0 ≤ r) (r1 : r < L) (lo hi : Nat) (h : lo ≤ hi + 1) : ∀ N : Nat, ((((List.range N).filter (PN r L)).filter fun (p : Nat) => decide (lo ≤ p) && decide (p ≤ hi)).length : Int) = cN r L (min N (hi + 1)) - cN r L (min N lo)
  | 0 => by simp
  | N + 1 => by
    have ih := cnt_in r0 r1 lo hi h N
    have hL : 0 < L := by omega
    rw [List.range_succ, List.filter_append, List.filter_append, List.length_append, Int.natCast_add, ih]
    have s := cN_s (r := r) hL N
    by_cases c1 : N < lo
    · rw [Nat.min_eq_left (show N ≤ hi + 1 by omega), Nat.min_eq_left (show N ≤ lo by omega), Nat.min_eq_left (show N + 1 ≤ hi + 1 by omega), Nat.min_eq_left (show N + 1 ≤ lo by omega)]
      cases c : PN r L N with
      | false => simp [c]
      | true =>
        have : (decide (lo ≤ N) && decide (N ≤ hi)) = false := by rw [decide_eq_false (by omega)]; rfl
        simp [c, this]
    · by_cases c2 : N ≤ hi
      · rw [Nat.min_eq_left (show N ≤ hi + 1 by omega), Nat.min_eq_right (show lo ≤ N by omega), Nat.min_eq_left (show N + 1 ≤ hi + 1 by omega), Nat.min_eq_right (show lo ≤ N + 1 by omega), s]
        cases c : PN r L N with
        | false => simp [c]
        | true =>
          have h1 : lo ≤ N := by omega
          simp [c, h1, c2]
          omega
      · rw [Nat.min_eq_right (show hi + 1 ≤ N by omega), Nat.min_eq_right (show lo ≤ N by omega), Nat.min_eq_right (show hi + 1 ≤ N + 1 by omega), Nat.min_eq_right (show lo ≤ N + 1 by omega)]
        cases c : PN r L N with
        | false => simp [c]
        | true =>
          simp [c, c2]
theorem head_at (Q : Nat → Bool) (k : Nat) (h1 : Q k = true) (h2 : ∀ j, j < k → Q j = false) : ∀ n : Nat, k < n → ∃ R, (List.range n).filter Q = k :: R := by
  intro n hn
  obtain ⟨d, rfl⟩ : ∃ d, n = k + 1 + d := ⟨n - (k + 1), by omega⟩
  rw [List.range_add, List.filter_append, List.range_succ, List.filter_append]
  have z : (List.range k).filter Q = [] := by
    rw [List.filter_eq_nil_iff]
    intro a ha
    rw [List.mem_range] at ha
    rw [h2 a ha]; exact Bool.false_ne_true
  rw [z]
  simp only [List.filter_cons, h1, if_true, List.filter_nil, List.nil_append, List.cons_append]
  exact ⟨_, rfl⟩
theorem exs_pre (cf : Cf) : ∀ (p r : List S) (v v1 : En), exs cf p v = .ok (.nx, v1) → exs cf (p ++ r) v = exs cf r v1
  | [], r, v, v1, h => by
    rw [x_nil] at h
    cases h
    rfl
  | s :: p, r, v, v1, h => by
    rw [x_cons] at h
    rw [List.cons_append, x_cons]
    cases e : ex cf s v with
    | error x => rw [e] at h; cases h
    | ok x =>
      obtain ⟨fl, v'⟩ := x
      rw [e] at h
      cases fl with
      | rt d => cases h
      | nx => exact exs_pre cf p r v' v1 h
abbrev k56P : List S := [(.par [1] [(.lst [(.var 0), (.cst (.int 0)), (.cst (.int 4856)), (.cst (.int 0))])]), (.par [2, 3] [(.call 303 (some 1) [(.cst (.int 4))]), (.call 303 (some 1) [(.cst (.int 4))])]), (.ite (.cmp .Eq (.call 300 (some 1) [(.cst (.int 3))]) (.cst (.int 0))) [(.par [4] [(.call 301 (some 1) [(.lst [(.cst (.int 2)), (.cst (.int 3))])])]), (.par [3] [(.blt .tuple [(.comp (.bin .Mult (.var 5) (.var 4)) (.nm 5) (.seq (.var 3)) none)])])] [])]
theorem k56_pre (ns : List Int) : ∃ (row : D) (s t : Po) (s4 : Sl), RowOk row ∧ okZ s4 = true ∧ s.ok ∧ t.ok ∧ Far 8000 s ∧ Far 8000 t ∧ U1 s.g ∧ U2 t.g ∧ -20 ≤ s.h ∧ s.h ≤ 20 ∧ -60 ≤ t.h ∧ t.h ≤ 60 ∧ (∃ (b : Po) (u : Word), b.bg ∧ s = b.go u) ∧ (∃ (b : Po) (u : Word), b.bg ∧ t = b.go u) ∧
    exs (callF (GT lw) 230) k56P [.fz (.list (ns.map .int)), .un, .un, .un, .un, .un, .un, .un, .un, .un, .un, .un, .un, .un, .un, .un, .un, .un] = .ok (.nx, [.fz (.list (ns.map .int)), .ow row, .fz (PD s), .fz (PD t), s4, .un, .un, .un, .un, .un, .un, .un, .un, .un, .un, .un, .un, .un]) := by
  obtain ⟨row, b, u, e1, hr, hb, f, lu, k1, k2, k3⟩ := drawnG (lw := lw) 230 (by omega) (k := 4) (by omega) (row0 ns 4856 (by omega) (by omega))
  have e1' : callF (GT lw) 230 303 (some (PyData.list [PyData.list (List.map PyData.int ns), PyData.int 0, PyData.int 4856, PyData.int 0])) [PyData.int 4] = _ := e1
  obtain ⟨row2, c, v, e2, hr2, hc, f2, lv, j1, j2, j3⟩ := drawnG (lw := lw) 230 (by omega) (k := 4) (by omega) hr
  have e2' : callF (GT lw) 230 303 (some row) [PyData.int 4] = _ := e2
  obtain ⟨x, row3, e3, hr3, x0, x1⟩ := taken (lw := lw) 230 (by omega) hr2 3 (by omega) (by omega)
  have fs : Far 8000 (b.go u) := f.mono (by decide)
  have ft : Far 8000 (c.go v) := f2.mono (by decide)
  have os := hb.ok.go u
  have ot := hc.ok.go v
  by_cases z : x = 0
  · obtain ⟨y, row4, hy, e4, hr4⟩ := picked (lw := lw) 230 (by omega) hr3 [.int 2, .int 3] (by simp) (by simp)
    obtain ⟨t, rfl, t2⟩ : ∃ t, y = .int t ∧ (t = 2 ∨ t = 3) := by
      simp only [List.mem_cons, List.not_mem_nil, or_false] at hy
      rcases hy with rfl | rfl <;> exact ⟨_, rfl, by decide⟩
    have xyz := stP_xyz t (c.go v)
    have gg : (stP t (c.go v)).g = c.g * t := by show (c.go v).g * t = _; rw [go_g]
    have hh : (stP t (c.go v)).h = c.h * t := by show (c.go v).h * t = _; rw [go_h]
    have f3 := f2
    unfold Far at f3
    have f3 : -2430 ≤ (c.go v).x ∧ (c.go v).z ≤ 2430 := f3
    have xy := ot.xy
    have yz := ot.yz
    refine ⟨row4, b.go u, stP t (c.go v), .fz (.int t), hr4, rfl, os, stP_ok ot (by omega), fs, ?_, by rw [go_g]; exact k3, ?_, by rw [go_h]; exact k1, by rw [go_h]; exact k2, ?_, ?_, ⟨b, u, hb, rfl⟩, ⟨stP t c, v, stP_bg hc (by omega), (stP_go t v c).symm⟩, ?_⟩
    · unfold Far
      rw [xyz.1, xyz.2.2]
      rcases t2 with rfl | rfl <;> omega
    · rw [gg]
      unfold U2
      rcases j3 with h | h | h | h <;> rcases t2 with rfl | rfl <;> rw [h] <;> decide
    · rw [hh]; rcases t2 with rfl | rfl <;> omega
    · rw [hh]; rcases t2 with rfl | rfl <;> omega
    · have q : cmp .Eq (.int x) (.int 0) = .ok true := by rw [z]; rfl
      have sm : ∀ i, -2430 ≤ (c.go v).at i ∧ (c.go v).at i ≤ 2430 := fun i => by have := at_in ot i; omega
      have m0 := mulZ (a := (c.go v).at 0) (b := t) (zA (by have := sm 0; omega) (by have := sm 0; omega)) (zA (by omega) (by omega))
      have m1 := mulZ (a := (c.go v).at 1) (b := t) (zA (by have := sm 1; omega) (by have := sm 1; omega)) (zA (by omega) (by omega))
      have m2 := mulZ (a := (c.go v).at 2) (b := t) (zA (by have := sm 2; omega) (by have := sm 2; omega)) (zA (by omega) (by omega))
      have pd : PD (stP t (c.go v)) = .tuple [.int ((c.go v).at 0 * t), .int ((c.go v).at 1 * t), .int ((c.go v).at 2 * t)] := by
        show PyData.tuple [.int ((stP t (c.go v)).at 0), .int ((stP t (c.go v)).at 1), .int ((stP t (c.go v)).at 2)] = _
        rw [stAt, stAt, stAt]
      have it : itemsOf (PD (c.go v)) = .ok [.int ((c.go v).at 0), .int ((c.go v).at 1), .int ((c.go v).at 2)] := rfl
      rw [pd]
      generalize PD (b.go u) = S at *
      generalize PD (c.go v) = T at *
      simp -implicitDefEqProofs [one, two, getV_def, lzV_def, peekV_def, lzOf, rdy, cn_none, cio_1, setAll, held, isNew, ownable, test, truOf, e1', e2', e3, e4, q, it, m0, m1, m2, okB_cons, okB_nil, okZ, wipeE, backE]
  · refine ⟨row3, b.go u, c.go v, .un, hr3, rfl, os, ot, fs, ft, by rw [go_g]; exact k3, ?_, by rw [go_h]; exact k1, by rw [go_h]; exact k2, by rw [go_h]; omega, by rw [go_h]; omega, ⟨b, u, hb, rfl⟩, ⟨c, v, hc, rfl⟩, ?_⟩
    · rw [go_g]
      unfold U2
      rcases j3 with h | h | h | h <;> rw [h] <;> decide
    · have q : cmp .Eq (.int x) (.int 0) = .ok false := by rw [cmp_eq, beqF z]
      generalize PD (b.go u) = S at *
      generalize PD (c.go v) = T at *
      simp -implicitDefEqProofs [one, two, getV_def, lzV_def, peekV_def, lzOf, rdy, cn_none, cio_1, setAll, held, isNew, ownable, test, truOf, e1', e2', e3, q]
def bothB (s t : Po) (p : Int) : Bool := ((p - s.h) % s.g == 0) && ((p - t.h) % t.g == 0)
theorem hold_turn {s t : Po} (hs : ∃ (b : Po) (u : Word), b.bg ∧ s = b.go u) (ht : ∃ (b : Po) (u : Word), b.bg ∧ t = b.go u) (is : In s) (it : In t) (p : Int) (p1 : -1000 ≤ p) (p2 : p ≤ 1000) : callF (GT lw) 230 15 none [PD s, .int p] = .ok (.bool ((p - s.h) % s.g == 0), none) ∧ callF (GT lw) 230 15 none [PD t, .int p] = .ok (.bool ((p - t.h) % t.g == 0), none) := by
  obtain ⟨b, u, hb, rfl⟩ := hs
  obtain ⟨c, v, hc, rfl⟩ := ht
  have e1 := can_hold_eq (lw := lw) hb u is p (by omega) (by omega) 230 (by omega)
  have e2 := can_hold_eq (lw := lw) hc v it p (by omega) (by omega) 230 (by omega)
  rw [go_h, go_g, go_h, go_g]
  exact ⟨e1, e2⟩
theorem map_up {A : Type} (g : Nat → A) (k a : Nat) : (List.range (k + 1)).map (fun i => g (a + i)) = g a :: (List.range k).map fun i => g (a + 1 + i) := by
  rw [List.range_succ_eq_map, List.map_cons, List.map_map]
  congr 1
  apply List.map_congr_left
  intro i _
  show g (a + (i + 1)) = _
  rw [show a + (i + 1) = a + 1 + i by omega]
theorem pr_zip (f : Nat → Int) : ∀ (k a : Nat), zipD ((List.range (k + 1)).map fun (i : Nat) => PyData.int (f (a + i))) ((List.range k).map fun (i : Nat) => PyData.int (f (a + 1 + i))) = (List.range k).map fun (i : Nat) => PyData.tuple [.int (f (a + i)), .int (f (a + 1 + i))]
  | 0, a => rfl
  | k + 1, a => by
    have ih := pr_zip f k (a + 1)
    rw [map_up (fun i => PyData.int (f i)) (k + 1) a, map_up (fun i => PyData.int (f i)) k (a + 1)]
    have e := map_up (fun i => PyData.tuple [.int (f i), .int (f (1 + i))]) k a
    have e1 : (fun (i : Nat) => PyData.tuple [.int (f (a + i)), .int (f (a + 1 + i))]) = fun i => (fun i => PyData.tuple [.int (f i), .int (f (1 + i))]) (a + i) := funext fun i => by
      show _ = PyData.tuple [.int (f (a + i)), .int (f (1 + (a + i)))]
      rw [show a + 1 + i = 1 + (a + i) by omega]
    have e2 : (fun (i : Nat) => PyData.tuple [.int (f (a + 1 + i)), .int (f (a + 1 + 1 + i))]) = fun i => (fun i => PyData.tuple [.int (f i), .int (f (1 + i))]) (a + 1 + i) := funext fun i => by
      show _ = PyData.tuple [.int (f (a + 1 + i)), .int (f (1 + (a + 1 + i)))]
      rw [show a + 1 + 1 + i = 1 + (a + 1 + i) by omega]
    rw [e1, e, ← e2, ← ih]
    show PyData.tuple [.int (f a), .int (f (a + 1))] :: zipD _ _ = PyData.tuple [.int (f a), .int (f (1 + a))] :: zipD _ _
    rw [show 1 + a = a + 1 by omega, map_up (fun i => PyData.int (f i)) k (a + 1)]
theorem eq_of_neA {a c : D} {x : Bool} (h : cmp .NotEq a c = .ok x) : cmp .Eq a c = .ok (!x) := by
  have h : gd (shp a && shp c) (.ok (!PyData.eqv a c)) = .ok x := h
  show gd (shp a && shp c) (.ok (PyData.eqv a c)) = .ok (!x)
  obtain ⟨h1, h2⟩ := gd_ok h
  rw [h1, gd_true]
  cases h2
  simp
theorem least_two {b : Po} (hb : b.bg) (u : Word) (hu : In (b.go u)) (p : Int) (hp : -300 ≤ p ∧ p ≤ 300) (hh : -300 ≤ b.h ∧ b.h ≤ 300) : ∃ d d' x, LaT d x ∧ LaT d' x ∧ callF (GT lw) 230 105 none [PD (b.go u), .int p] = .ok (d, none) ∧ callF (GT lw) 229 105 none [PD (b.go u), .int p] = .ok (d', none) := by
  by_cases h : (p - b.h) % b.g = 0
  · have g1 := hb.ok.g1
    have q : ((p - b.h) / b.g).natAbs ≤ 5000 := by
      have := Int.natAbs_ediv_le_natAbs (p - b.h) b.g
      omega
    obtain ⟨W, w1, _, e⟩ := least_at_eq (lw := lw) hb u hu p (by omega) (by omega) h q 230 (by omega)
    obtain ⟨V, v1, _, e'⟩ := least_at_eq (lw := lw) hb u hu p (by omega) (by omega) h q 229 (by omega)
    have l1 := w1.2 V v1.1
    have l2 := v1.2 W w1.1
    have l : W.length = V.length := by omega
    rw [l] at e
    exact ⟨_, _, _, .inr ⟨_, _, rfl, rfl⟩, .inr ⟨_, _, rfl, rfl⟩, e, e'⟩
  · exact ⟨_, _, _, .inl ⟨rfl, rfl⟩, .inl ⟨rfl, rfl⟩, least_at_no hb u hu p (by omega) (by omega) h 230 (by omega), least_at_no hb u hu p (by omega) (by omega) h 229 (by omega)⟩
theorem k56_body (ns : List Int) : ∃ s r, exs (callF (GT lw) 230) fd999.body [.fz (.list (ns.map .int)), .un, .un, .un, .un, .un, .un, .un, .un, .un, .un, .un, .un, .un, .un, .un, .un, .un] = .ok (.rt (.bool true), .fz s :: r) := by
  obtain ⟨row, s, t, s4, hr, z4, os, ot, fs, ft, u1, u2, h1, h2, h3, h4, bs, bt, pre⟩ := k56_pre (lw := lw) ns
  have is : In s := fs.in (by decide)
  have it : In t := ft.in (by decide)
  have gs : s.g ≤ 30 := by rcases u1 with h | h | h | h <;> omega
  have gt : t.g ≤ 30 := by rcases u2 with h | h | h | h | h | h | h | h | h <;> omega
  have hb : fd999.body = k56P ++ fd999.body.drop 3 := rfl
  rw [hb, exs_pre (callF (GT lw) 230) _ _ _ _ pre]
  have rg := range_one 200 (by decide)
  have rg : rangeItems [.int 200] = _ := rg
  obtain ⟨v1, c1, p5, q5, rfl⟩ := mapE_fi (fun v => ∃ p5, okZ p5 = true ∧ v = [.fz (.list (ns.map .int)), .ow row, .fz (PD s), .fz (PD t), s4, p5, .un, .un, .un, .un, .un, .un, .un, .un, .un, .un, .un, .un]) (turnP (.nm 5) (tests (callF (GT lw) 230) (some (.and (.call 15 none [(.var 2), (.var 5)]) (.call 15 none [(.var 3), (.var 5)])))) (ev (callF (GT lw) 230) (.var 5))) (fun (p : Nat) => PyData.int p) (fun p => bothB s t (p : Nat)) (fun (p : Nat) => PyData.int p) (List.range 200) (by
    rintro p hp v ⟨p5, _, rfl⟩
    rw [List.mem_range] at hp
    obtain ⟨a1, a2⟩ := hold_turn (lw := lw) bs bt is it (p : Nat) (by omega) (by omega)
    refine ⟨[.fz (.list (ns.map .int)), .ow row, .fz (PD s), .fz (PD t), s4, .fz (.int (p : Nat)), .un, .un, .un, .un, .un, .un, .un, .un, .un, .un, .un, .un], ?_, _, rfl, rfl⟩
    unfold bothB
    generalize PD s = S at *
    generalize PD t = T at *
    generalize (((p : Nat) : Int) - s.h) % s.g = A1 at *
    generalize (((p : Nat) : Int) - t.h) % t.g = A2 at *
    cases q1 : (A1 == 0) with
    | false =>
      rw [q1] at a1
      simp -implicitDefEqProofs [wipeE, one, two, lzV_def, getV_def, peekV_def, lzOf, rdy, cn_none, truOf, a1]
    | true =>
      rw [q1] at a1
      cases q2 : (A2 == 0) <;> rw [q2] at a2 <;> simp -implicitDefEqProofs [wipeE, one, two, lzV_def, getV_def, peekV_def, lzOf, rdy, cn_none, truOf, a1, a2]) [.fz (.list (ns.map .int)), .ow row, .fz (PD s), .fz (PD t), s4, .un, .un, .un, .un, .un, .un, .un, .un, .un, .un, .un, .un, .un] ⟨.un, rfl, rfl⟩
  have l1 : decide ((((List.range 200).filter fun p => bothB s t (p : Nat)).map fun (p : Nat) => PyData.int p).length ≤ lim) = true := lim_ge _ (by
    rw [List.length_map]
    exact Nat.le_trans (List.length_filter_le ..) (by rw [List.length_range]; decide))
  obtain ⟨cp1, cp2⟩ := common_places_eq (lw := lw) os ot is it gs gt 230 (by omega)
  obtain ⟨dp1, dp2⟩ := common_places_eq (lw := lw) os ot is it gs gt 229 (by omega)
  by_cases hf : (t.h - s.h) % (Int.gcd s.g t.g : Nat) = 0
  · -- shared places
    obtain ⟨r, sh, e29⟩ := cp2 hf
    obtain ⟨r', sh', e29'⟩ := dp2 hf
    obtain ⟨L1, L9, eqv⟩ := sh_eqv u1 u2 rfl sh
    obtain ⟨_, _, eqv'⟩ := sh_eqv u1 u2 rfl sh'
    obtain ⟨L, hL⟩ : ∃ L, L = s.g / (Int.gcd s.g t.g : Nat) * t.g := ⟨_, rfl⟩
    have rr : r' = r := by
      have a1 := (eqv r').mp ⟨sh'.a, sh'.c⟩
      have b0 := sh.r0
      have b1 := sh.r1
      have c0 := sh'.r0
      have c1 := sh'.r1
      rw [← hL] at *
      have em := Int.emod_add_mul_ediv (r' - r) L
      rw [a1] at em
      have k0 : (r' - r) / L = 0 := by
        rcases Int.lt_trichotomy ((r' - r) / L) 0 with h | h | h
        · have := Int.mul_le_mul_of_nonneg_left (show (r' - r) / L ≤ -1 by omega) (show 0 ≤ L by omega)
          rw [Int.mul_neg, Int.mul_one] at this; omega
        · exact h
        · have := Int.mul_le_mul_of_nonneg_left (show 1 ≤ (r' - r) / L by omega) (show 0 ≤ L by omega)
          rw [Int.mul_one] at this; omega
      rw [k0, Int.mul_zero] at em
      omega
    rw [rr] at e29'
    rw [← hL] at e29 e29' L1 L9 eqv
    have r0 := sh.r0
    have r1 := sh.r1
    rw [← hL] at r1
    clear sh sh' eqv' cp1 cp2 dp1 dp2
    have pb : ∀ p : Int, bothB s t p = decide ((p - r) % L = 0) := fun p => by
      have := eqv p
      unfold bothB
      by_cases c : (p - r) % L = 0
      · obtain ⟨x1, x2⟩ := this.mpr c
        rw [decide_eq_true c, x1, x2]; rfl
      · rw [decide_eq_false c]
        by_cases x1 : (p - s.h) % s.g = 0
        · have x2 : ¬ (p - t.h) % t.g = 0 := fun x2 => c (this.mp ⟨x1, x2⟩)
          rw [x1, beqF x2]; rfl
        · rw [beqF x1]; rfl
    have fe : ((List.range 200).filter fun p => bothB s t (p : Nat)) = (List.range 200).filter (PN r L) := by
      apply List.filter_congr
      intro p _
      rw [pb]; rfl
    rw [fe] at c1 l1
    have pr := prog r0 r1 200
    have c200 : cN r L 200 = (199 - r) / L + 1 := by unfold cN; congr 2
    have k1 : 1 ≤ (199 - r) / L := by
      have := Int.ediv_le_ediv (show 0 < L by omega) (show L ≤ 199 - r by omega)
      rw [Int.ediv_self (by omega)] at this
      exact this
    obtain ⟨K, hK⟩ : ∃ K : Nat, (cN r L 200).toNat = K + 1 + 1 := ⟨(cN r L 200).toNat - 2, by omega⟩
    rw [hK] at pr
    have bD : ((List.range 200).filter (PN r L)).map (fun (p : Nat) => PyData.int p) = (List.range (K + 1 + 1)).map fun (i : Nat) => PyData.int (r + L * (i : Nat)) := by
      have := congrArg (List.map PyData.int) pr
      rw [List.map_map, List.map_map] at this
      exact this
    have K2 : K + 2 ≤ 200 := by
      have h := congrArg List.length pr
      rw [List.length_map, List.length_map, List.length_range] at h
      have := List.length_filter_le (PN r L) (List.range 200)
      rw [List.length_range] at this
      omega
    -- the first two
    have b0 : Lp.sub (.list ((List.range (K + 1 + 1)).map fun (i : Nat) => PyData.int (r + L * (i : Nat)))) (.int 0) = .ok (.int r) := by
      show pick _ ((0 : Nat) : Int) = _
      unfold pick
      rw [show ixAt ((List.range (K + 1 + 1)).map fun (i : Nat) => PyData.int (r + L * (i : Nat))).length ((0 : Nat) : Int) = some 0 by
        rw [List.length_map, List.length_range]
        unfold ixAt
        rw [if_pos (by omega), if_pos (by omega)]; rfl, Option.bind_some, List.getElem?_map, List.getElem?_range (by omega)]
      show Except.ok (PyData.int (r + L * 0)) = _
      rw [Int.mul_zero, Int.add_zero]
    have b1 : Lp.sub (.list ((List.range (K + 1 + 1)).map fun (i : Nat) => PyData.int (r + L * (i : Nat)))) (.int 1) = .ok (.int (r + L)) := by
      show pick _ ((1 : Nat) : Int) = _
      unfold pick
      rw [show ixAt ((List.range (K + 1 + 1)).map fun (i : Nat) => PyData.int (r + L * (i : Nat))).length ((1 : Nat) : Int) = some 1 by
        rw [List.length_map, List.length_range]
        unfold ixAt
        rw [if_pos (by omega), if_pos (by omega)]; rfl, Option.bind_some, List.getElem?_map, List.getElem?_range (by omega)]
      show Except.ok (PyData.int (r + L * 1)) = _
      rw [Int.mul_one]
    have bn : cmp .Eq (.list ((List.range (K + 1 + 1)).map fun (i : Nat) => PyData.int (r + L * (i : Nat)))) (.list []) = .ok false := by
      have h := cmp_ne_nil (PyData.int (r + L * (0 : Nat))) ((List.range (K + 1)).map fun (i : Nat) => PyData.int (r + L * ((i + 1 : Nat) : Int))) (by
        intro y hy
        rcases List.mem_cons.mp hy with rfl | hy
        · exact ⟨rfl, by simp [PyData.depth]⟩
        · obtain ⟨i, _, rfl⟩ := List.mem_map.mp hy
          exact ⟨rfl, by simp [PyData.depth]⟩)
      have e : (List.range (K + 1 + 1)).map (fun (i : Nat) => PyData.int (r + L * (i : Nat))) = PyData.int (r + L * (0 : Nat)) :: (List.range (K + 1)).map fun (i : Nat) => PyData.int (r + L * ((i + 1 : Nat) : Int)) := by
        rw [List.range_succ_eq_map, List.map_cons, List.map_map]; rfl
      rw [e]
      exact eq_of_neA h
    have al2 : callF (GT lw) 230 302 none [.tuple [.int r, .int L], .tuple [.int r, .int (r + L - r)]] = .ok (.bool true, none) := by
      rw [show r + L - r = L by omega]
      exact alike_r ⟨rfl, by rw [depth_t]; simp [PyData.depthAll, PyData.depth]⟩
    -- the differences
    have ct : cutD (.list ((List.range (K + 1 + 1)).map fun (i : Nat) => PyData.int (r + L * (i : Nat)))) (some 1) none = .ok (.list ((List.range (K + 1)).map fun (i : Nat) => PyData.int (r + L * ((0 + 1 + i : Nat) : Int)))) := by
      show Except.ok (PyData.list (cut _ _ _)) = _
      have := cut_from ((List.range (K + 1 + 1)).map fun (i : Nat) => PyData.int (r + L * (i : Nat))) 1 (by simp)
      have this : cut ((List.range (K + 1 + 1)).map fun (i : Nat) => PyData.int (r + L * (i : Nat))) (some (1 : Int)) none = _ := this
      rw [this, List.range_succ_eq_map, List.map_cons, List.map_map, List.drop_succ_cons, List.drop_zero]
      exact congrArg (fun l => (Except.ok (PyData.list l) : R D)) (List.map_congr_left fun i _ => by
        show PyData.int (r + L * ((i + 1 : Nat) : Int)) = _
        rw [show i + 1 = 0 + 1 + i by omega])
    have zp := pr_zip (fun i => r + L * (i : Nat)) (K + 1) 0
    have zf : (fun (i : Nat) => PyData.int ((fun i : Nat => r + L * (i : Nat)) (0 + i))) = fun (i : Nat) => PyData.int (r + L * (i : Nat)) := funext fun i => by rw [Nat.zero_add]
    rw [zf] at zp
    obtain ⟨v2, c2, p8, p9, rfl⟩ := mapE_fi (fun v => ∃ p8 p9, v = [.fz (.list (ns.map .int)), .ow row, .fz (PD s), .fz (PD t), s4, .un, .fz (.list ((List.range (K + 1 + 1)).map fun (i : Nat) => PyData.int (r + L * (i : Nat)))), .fz (.tuple [.int r, .int L]), p8, p9, .un, .un, .un, .un, .un, .un, .un, .un]) (turnP (.tp [(.nm 8), (.nm 9)]) (tests (callF (GT lw) 230) (some (.cmp .NotEq (.bin .Sub (.var 9) (.var 8)) (.sub (.var 7) (.cst (.int 1)))))) (ev (callF (GT lw) 230) (.cst (.int 1)))) (fun (i : Nat) => PyData.tuple [.int ((fun i : Nat => r + L * (i : Nat)) (0 + i)), .int ((fun i : Nat => r + L * (i : Nat)) (0 + 1 + i))]) (fun _ => false) (fun _ => PyData.int 1) (List.range (K + 1)) (by
      rintro i hi v ⟨p8, p9, rfl⟩
      refine ⟨[.fz (.list (ns.map .int)), .ow row, .fz (PD s), .fz (PD t), s4, .un, .fz (.list ((List.range (K + 1 + 1)).map fun (i : Nat) => PyData.int (r + L * (i : Nat)))), .fz (.tuple [.int r, .int L]), .fz (.int (r + L * ((0 + i : Nat) : Int))), .fz (.int (r + L * ((0 + 1 + i : Nat) : Int))), .un, .un, .un, .un, .un, .un, .un, .un], ?_, _, _, rfl⟩
      have d : r + L * ((0 + 1 + i : Nat) : Int) - (r + L * ((0 + i : Nat) : Int)) = L := by
        rw [show ((0 + 1 + i : Nat) : Int) = ((0 + i : Nat) : Int) + 1 by omega, Int.mul_add, Int.mul_one]; omega
      have ne := cmp_nei L
      have sb : Lp.sub (.tuple [.int r, .int L]) (.int 1) = .ok (.int L) := pick1 _ _ _
      show turnP _ _ _ (PyData.tuple [.int (r + L * ((0 + i : Nat) : Int)), .int (r + L * ((0 + 1 + i : Nat) : Int))]) _ = _
      generalize r + L * ((0 + 1 + i : Nat) : Int) = X1 at *
      generalize r + L * ((0 + i : Nat) : Int) = X0 at *
      generalize (List.range (K + 1 + 1)).map (fun (i : Nat) => PyData.int (r + L * (i : Nat))) = BL at *
      generalize PyData.tuple [.int r, .int L] = RL at *
      generalize PD s = S at *
      generalize PD t = T at *
      simp -implicitDefEqProofs [wipeE, one, two, lzV_def, getV_def, peekV_def, lzOf, truOf, d, sb, ne]) [.fz (.list (ns.map .int)), .ow row, .fz (PD s), .fz (PD t), s4, .un, .fz (.list ((List.range (K + 1 + 1)).map fun (i : Nat) => PyData.int (r + L * (i : Nat)))), .fz (.tuple [.int r, .int L]), .un, .un, .un, .un, .un, .un, .un, .un, .un, .un] ⟨_, _, rfl⟩
    have fn : (List.range (K + 1)).filter (fun _ => false) = [] := by simp
    rw [fn, List.map_nil] at c2
    -- counted between two
    obtain ⟨x1, row1, d1, hr1, y0, y1⟩ := taken (lw := lw) 230 (by omega) hr 100 (by omega) (by omega)
    obtain ⟨x2, row2, d2, hr2, w0, w1⟩ := taken (lw := lw) 230 (by omega) hr1 200 (by omega) (by omega)
    obtain ⟨lo, rfl⟩ : ∃ k : Nat, x1 = k := ⟨x1.toNat, by omega⟩
    obtain ⟨hi, rfl⟩ : ∃ k : Nat, x2 = k := ⟨x2.toNat, by omega⟩
    have cc := (common_count_eq (lw := lw) os ot is it (lo : Nat) (hi : Nat) (by omega) (by omega) (by omega) (by omega) 230 (by omega)).2 r L (by omega) (by omega) e29'
    have lens : ((((List.range 200).filter (PN r L)).filter fun (p : Nat) => decide (lo ≤ p) && decide (p ≤ hi)).length : Int) = if ((hi : Nat) : Int) < (lo : Nat) then 0 else (((hi : Nat) : Int) - r) / L - (((lo : Nat) : Int) - 1 - r) / L := by
      by_cases c : ((hi : Nat) : Int) < (lo : Nat)
      · rw [if_pos c]
        have : (((List.range 200).filter (PN r L)).filter fun (p : Nat) => decide (lo ≤ p) && decide (p ≤ hi)) = [] := by
          rw [List.filter_eq_nil_iff]
          intro a _ h
          rw [Bool.and_eq_true, decide_eq_true_eq, decide_eq_true_eq] at h
          omega
        rw [this]; rfl
      · rw [if_neg c, cnt_in r0 r1 lo hi (by omega) 200, Nat.min_eq_right (by omega), Nat.min_eq_right (by omega)]
        unfold cN
        rw [show ((hi + 1 : Nat) : Int) - 1 - r = (hi : Nat) - r by omega]
        omega
    obtain ⟨v3, c3, p5', rfl⟩ := mapE_fi (fun v => ∃ p5, v = [.fz (.list (ns.map .int)), .ow row2, .fz (PD s), .fz (PD t), s4, p5, .fz (.list ((List.range (K + 1 + 1)).map fun (i : Nat) => PyData.int (r + L * (i : Nat)))), .fz (.tuple [.int r, .int L]), .un, .un, .fz (.int (lo : Nat)), .fz (.int (hi : Nat)), .un, .un, .un, .un, .un, .un]) (turnP (.nm 5) (tests (callF (GT lw) 230) (some (.cmp2 .LtE .LtE (.var 10) (.var 5) (.var 11)))) (ev (callF (GT lw) 230) (.var 5))) (fun (p : Nat) => PyData.int p) (fun p => decide (lo ≤ p) && decide (p ≤ hi)) (fun (p : Nat) => PyData.int p) ((List.range 200).filter (PN r L)) (by
      rintro p _ v ⟨p5, rfl⟩
      refine ⟨[.fz (.list (ns.map .int)), .ow row2, .fz (PD s), .fz (PD t), s4, .fz (.int (p : Nat)), .fz (.list ((List.range (K + 1 + 1)).map fun (i : Nat) => PyData.int (r + L * (i : Nat)))), .fz (.tuple [.int r, .int L]), .un, .un, .fz (.int (lo : Nat)), .fz (.int (hi : Nat)), .un, .un, .un, .un, .un, .un], ?_, _, rfl⟩
      have q1 : cmp .LtE (.int (lo : Nat)) (.int (p : Nat)) = .ok (decide (lo ≤ p)) := by rw [cmp_le]; exact congrArg _ (decide_eq_decide.mpr ⟨fun h => by omega, fun h => by omega⟩)
      have q2 : cmp .LtE (.int (p : Nat)) (.int (hi : Nat)) = .ok (decide (p ≤ hi)) := by rw [cmp_le]; exact congrArg _ (decide_eq_decide.mpr ⟨fun h => by omega, fun h => by omega⟩)
      generalize (List.range (K + 1 + 1)).map (fun (i : Nat) => PyData.int (r + L * (i : Nat))) = BL at *
      generalize PyData.tuple [.int r, .int L] = RL at *
      generalize PD s = S at *
      generalize PD t = T at *
      generalize ((lo : Nat) : Int) = LO at *
      generalize ((hi : Nat) : Int) = HI at *
      generalize ((p : Nat) : Int) = PP at *
      cases z1 : decide (lo ≤ p) with
      | false =>
        rw [z1] at q1
        simp -implicitDefEqProofs [-cmp_le, wipeE, one, two, lzV_def, getV_def, peekV_def, lzOf, truOf, chnE, q1]
      | true =>
        rw [z1] at q1
        cases z2 : decide (p ≤ hi) <;> rw [z2] at q2 <;> simp -implicitDefEqProofs [-cmp_le, wipeE, one, two, lzV_def, getV_def, peekV_def, lzOf, truOf, chnE, q1, q2]) [.fz (.list (ns.map .int)), .ow row2, .fz (PD s), .fz (PD t), s4, .un, .fz (.list ((List.range (K + 1 + 1)).map fun (i : Nat) => PyData.int (r + L * (i : Nat)))), .fz (.tuple [.int r, .int L]), .un, .un, .fz (.int (lo : Nat)), .fz (.int (hi : Nat)), .un, .un, .un, .un, .un, .un] ⟨_, rfl⟩
    rw [bD] at c3
    have l3 : decide (((((List.range 200).filter (PN r L)).filter fun (p : Nat) => decide (lo ≤ p) && decide (p ≤ hi)).map fun (p : Nat) => PyData.int p).length ≤ lim) = true := lim_ge _ (by
      rw [List.length_map]
      exact Nat.le_trans (Nat.le_trans (List.length_filter_le ..) (List.length_filter_le ..)) (by rw [List.length_range]; decide))
    have len3 : blt .len [.list ((((List.range 200).filter (PN r L)).filter fun (p : Nat) => decide (lo ≤ p) && decide (p ≤ hi)).map fun (p : Nat) => PyData.int p)] = .ok (.int (if ((hi : Nat) : Int) < (lo : Nat) then 0 else (((hi : Nat) : Int) - r) / L - (((lo : Nat) : Int) - 1 - r) / L)) := by
      rw [len_l, List.length_map, lens]
    have al3 := alike_int (lw := lw) (if ((hi : Nat) : Int) < (lo : Nat) then 0 else (((hi : Nat) : Int) - r) / L - (((lo : Nat) : Int) - 1 - r) / L) 230 (by omega)
    -- the first from a place on
    obtain ⟨x3, row3, d3, hr3, a0, a1⟩ := taken (lw := lw) 230 (by omega) hr2 90 (by omega) (by omega)
    have rg2 : rangeItems [.int (x3 - 60), .int (x3 - 60 + 120)] = .ok ((List.range 120).map fun (k : Nat) => PyData.int (x3 - 60 + (k : Nat))) := by
      rw [rangeI2]
      have o : rangeOk (x3 - 60) (x3 - 60 + 120) = true := by
        unfold rangeOk
        rw [decide_eq_true (show -(2 ^ 62) ≤ x3 - 60 by omega), decide_eq_true (show x3 - 60 < 2 ^ 62 by omega), decide_eq_true (show -(2 ^ 62) ≤ x3 - 60 + 120 by omega), decide_eq_true (show x3 - 60 + 120 < 2 ^ 62 by omega)]
        rfl
      rw [o, gd_true]
      unfold rangeN
      rw [show (x3 - 60 + 120 - (x3 - 60)).toNat = 120 by omega]
    obtain ⟨v4, c4, p12, rfl⟩ := mapE_fi (fun v => ∃ p12, v = [.fz (.list (ns.map .int)), .ow row3, .fz (PD s), .fz (PD t), s4, .fz (.int (x3 - 60)), .fz (.list ((List.range (K + 1 + 1)).map fun (i : Nat) => PyData.int (r + L * (i : Nat)))), .fz (.tuple [.int r, .int L]), .un, .un, .fz (.int (lo : Nat)), .fz (.int (hi : Nat)), p12, .un, .un, .un, .un, .un]) (turnP (.nm 12) (tests (callF (GT lw) 230) (some (.and (.call 15 none [(.var 2), (.var 12)]) (.call 15 none [(.var 3), (.var 12)])))) (ev (callF (GT lw) 230) (.var 12))) (fun (k : Nat) => PyData.int (x3 - 60 + (k : Nat))) (fun k => bothB s t (x3 - 60 + (k : Nat))) (fun (k : Nat) => PyData.int (x3 - 60 + (k : Nat))) (List.range 120) (by
      rintro p hp v ⟨p12, rfl⟩
      rw [List.mem_range] at hp
      obtain ⟨a1, a2⟩ := hold_turn (lw := lw) bs bt is it (x3 - 60 + (p : Nat)) (by omega) (by omega)
      refine ⟨[.fz (.list (ns.map .int)), .ow row3, .fz (PD s), .fz (PD t), s4, .fz (.int (x3 - 60)), .fz (.list ((List.range (K + 1 + 1)).map fun (i : Nat) => PyData.int (r + L * (i : Nat)))), .fz (.tuple [.int r, .int L]), .un, .un, .fz (.int (lo : Nat)), .fz (.int (hi : Nat)), .fz (.int (x3 - 60 + (p : Nat))), .un, .un, .un, .un, .un], ?_, _, rfl⟩
      unfold bothB
      generalize (List.range (K + 1 + 1)).map (fun (i : Nat) => PyData.int (r + L * (i : Nat))) = BL at *
      generalize PyData.tuple [.int r, .int L] = RL at *
      generalize PD s = S at *
      generalize PD t = T at *
      generalize x3 - 60 + ((p : Nat) : Int) = PP at *
      generalize (PP - s.h) % s.g = A1 at *
      generalize (PP - t.h) % t.g = A2 at *
      cases q1 : (A1 == 0) with
      | false =>
        rw [q1] at a1
        simp -implicitDefEqProofs [wipeE, one, two, lzV_def, getV_def, peekV_def, lzOf, rdy, cn_none, truOf, a1]
      | true =>
        rw [q1] at a1
        cases q2 : (A2 == 0) <;> rw [q2] at a2 <;> simp -implicitDefEqProofs [wipeE, one, two, lzV_def, getV_def, peekV_def, lzOf, rdy, cn_none, truOf, a1, a2]) [.fz (.list (ns.map .int)), .ow row3, .fz (PD s), .fz (PD t), s4, .fz (.int (x3 - 60)), .fz (.list ((List.range (K + 1 + 1)).map fun (i : Nat) => PyData.int (r + L * (i : Nat)))), .fz (.tuple [.int r, .int L]), .un, .un, .fz (.int (lo : Nat)), .fz (.int (hi : Nat)), .un, .un, .un, .un, .un, .un] ⟨_, rfl⟩
    have q0 := Int.emod_nonneg (r - (x3 - 60)) (show L ≠ 0 by omega)
    have q9 := Int.emod_lt_of_pos (r - (x3 - 60)) (show 0 < L by omega)
    have qe := Int.emod_add_mul_ediv (r - (x3 - 60)) L
    obtain ⟨j, hj⟩ : ∃ j : Nat, (r - (x3 - 60)) % L = j := ⟨((r - (x3 - 60)) % L).toNat, by omega⟩
    obtain ⟨R4, hR4⟩ := head_at (fun k => bothB s t (x3 - 60 + (k : Nat))) j (by
      rw [pb, decide_eq_true_eq, ← hj]
      have : x3 - 60 + (r - (x3 - 60)) % L - r = L * (-((r - (x3 - 60)) / L)) := by rw [Int.mul_neg]; omega
      rw [this, Int.mul_emod_right]) (fun i hi => by
      rw [pb, decide_eq_false_iff_not]
      intro c
      have em := Int.emod_add_mul_ediv (x3 - 60 + (i : Nat) - r) L
      rw [c] at em
      -- j - i is a multiple of L below L
      have e : L * (-((r - (x3 - 60)) / L) - (x3 - 60 + (i : Nat) - r) / L) = (j : Int) - (i : Nat) := by
        rw [Int.mul_sub, Int.mul_neg]; omega
      rcases Int.lt_trichotomy (-((r - (x3 - 60)) / L) - (x3 - 60 + (i : Nat) - r) / L) 0 with h | h | h
      · have := Int.mul_le_mul_of_nonneg_left (show -((r - (x3 - 60)) / L) - (x3 - 60 + (i : Nat) - r) / L ≤ -1 by omega) (show 0 ≤ L by omega)
        rw [e, Int.mul_neg, Int.mul_one] at this; omega
      · rw [h, Int.mul_zero] at e; omega
      · have := Int.mul_le_mul_of_nonneg_left (show 1 ≤ -((r - (x3 - 60)) / L) - (x3 - 60 + (i : Nat) - r) / L by omega) (show 0 ≤ L by omega)
        rw [e, Int.mul_one] at this; omega) 120 (by omega)
    rw [hR4, List.map_cons] at c4
    have l4 : decide ((PyData.int (x3 - 60 + (j : Nat)) :: R4.map fun (k : Nat) => PyData.int (x3 - 60 + (k : Nat))).length ≤ lim) = true := lim_ge _ (by
      have h := congrArg List.length hR4
      have := List.length_filter_le (fun k => bothB s t (x3 - 60 + ((k : Nat) : Int))) (List.range 120)
      rw [List.length_range] at this
      rw [List.length_cons] at h ⊢
      rw [List.length_map]
      omega)
    have s13 : Lp.sub (.list (PyData.int (x3 - 60 + (j : Nat)) :: R4.map fun (k : Nat) => PyData.int (x3 - 60 + (k : Nat)))) (.int 0) = .ok (.int (x3 - 60 + (j : Nat))) := pick0 _ _
    have ca := (common_after_eq (lw := lw) os ot is it (x3 - 60) (by omega) (by omega) 230 (by omega)).2 r L (by omega) e29'
    rw [hj] at ca
    have al4 := alike_int (lw := lw) (x3 - 60 + (j : Nat)) 230 (by omega)
    -- least depths
    obtain ⟨x5, row5, hx5, e5, hr5⟩ := picked (lw := lw) 230 (by omega) hr3 [.int r, .int (lo : Nat), .int (x3 - 60)] (by simp) (by simp)
    obtain ⟨p, rfl, hp⟩ : ∃ p : Int, x5 = .int p ∧ (-300 ≤ p ∧ p ≤ 300) := by
      simp only [List.mem_cons, List.not_mem_nil, or_false] at hx5
      rcases hx5 with rfl | rfl | rfl <;> exact ⟨_, rfl, by omega⟩
    obtain ⟨dA, dA', xA, lA, lA', f1, f2⟩ : ∃ d d' x, LaT d x ∧ LaT d' x ∧ callF (GT lw) 230 105 none [PD s, .int p] = .ok (d, none) ∧ callF (GT lw) 229 105 none [PD s, .int p] = .ok (d', none) := by
      obtain ⟨b, u, hb, rfl⟩ := bs
      rw [go_h] at h1 h2
      exact least_two hb u is p hp (by omega)
    obtain ⟨dB, dB', xB, lB, lB', f3, f4⟩ : ∃ d d' x, LaT d x ∧ LaT d' x ∧ callF (GT lw) 230 105 none [PD t, .int p] = .ok (d, none) ∧ callF (GT lw) 229 105 none [PD t, .int p] = .ok (d', none) := by
      obtain ⟨b, u, hb, rfl⟩ := bt
      rw [go_h] at h3 h4
      exact least_two hb u it p hp (by omega)
    have ba := both_at_eq (lw := lw) os ot is it p (by omega) (by omega) lA' lB' 230 (by omega) f2 f4
    have al5 : callF (GT lw) 230 302 none [.tuple [xA, xB], .tuple [xA, xB]] = .ok (.bool true, none) := by
      rcases lA with ⟨_, rfl⟩ | ⟨k, s1, _, rfl⟩ <;> rcases lB with ⟨_, rfl⟩ | ⟨k2, s2, _, rfl⟩ <;> exact alike_r ⟨rfl, by rw [depth_t]; simp [PyData.depthAll, PyData.depth]⟩
    have io5 : itemsOf (.list [dA, dB]) = .ok [dA, dB] := rfl
    rw [bD] at c1 l1
    have l200 : ∀ (f : Nat → PyData), ((List.range (K + 1 + 1)).map f).length = K + 2 := fun f => by rw [List.length_map, List.length_range]
    clear hL eqv pb fe pr bD rr
    clear lA' lB' f2 f4
    generalize hBL : (List.range (K + 1 + 1)).map (fun (i : Nat) => PyData.int (r + L * (i : Nat))) = BL at *
    generalize hCL : (List.range (K + 1)).map (fun (i : Nat) => PyData.int ((fun i : Nat => r + L * (i : Nat)) (0 + 1 + i))) = CL at *
    generalize (List.range (K + 1)).map (fun (i : Nat) => PyData.tuple [.int ((fun i : Nat => r + L * (i : Nat)) (0 + i)), .int ((fun i : Nat => r + L * (i : Nat)) (0 + 1 + i))]) = ZL at *
    generalize (((List.range 200).filter (PN r L)).filter fun (p : Nat) => decide (lo ≤ p) && decide (p ≤ hi)).map (fun (p : Nat) => PyData.int p) = FL at *
    generalize (if ((hi : Nat) : Int) < (lo : Nat) then 0 else (((hi : Nat) : Int) - r) / L - (((lo : Nat) : Int) - 1 - r) / L) = CNT at *
    generalize (PyData.int (x3 - 60 + (j : Nat)) :: R4.map fun (k : Nat) => PyData.int (x3 - 60 + (k : Nat))) = LL at *
    generalize x3 - 60 + (j : Nat) = XJ at *
    generalize (List.range 120).map (fun (k : Nat) => PyData.int (x3 - 60 + (k : Nat))) = R120 at *
    generalize (List.range 200).map (fun (p : Nat) => PyData.int p) = R200 at *
    generalize PD s = S at *
    generalize PD t = T at *
    generalize ((lo : Nat) : Int) = LO at *
    generalize ((hi : Nat) : Int) = HI at *
    have nn : cmp .NotEq (.list []) (.list []) = .ok false := rfl
    have zo : zipOf (.list BL) (.list CL) = .ok ZL := by rw [← zp]; rfl
    rcases lA with ⟨rfl, rfl⟩ | ⟨kA, sA, rfl, rfl⟩ <;> rcases lB with ⟨rfl, rfl⟩ | ⟨kB, sB, rfl, rfl⟩ <;>
    · refine ⟨.list (ns.map .int), ?_, ?_⟩
      rotate_left
      unfold fd999
      simp -implicitDefEqProofs [one, two, getV_def, lzV_def, peekV_def, lzOf, rdy, cn_none, cio_1, setAll, held, isNew, ownable, test, truOf, rg, c1, l1, okB_cons, okB_nil, okZ, z4, q5, wipeE, backE, e29, bn, b0, b1, al2, ct, zo, c2, nn, d1, d2, cc, c3, l3, len3, al3, d3, rg2, c4, l4, s13, ca, al4, e5, f1, f3, isN, ba, al5]
      rfl
  · have e29 := cp1 hf
    have e29' := dp1 hf
    have ca := (common_after_eq (lw := lw) os ot is it 5 (by omega) (by omega) 230 (by omega)).1 e29'
    have cc := (common_count_eq (lw := lw) os ot is it 0 100 (by omega) (by omega) (by omega) (by omega) 230 (by omega)).1 e29'
    have fe : ((List.range 200).filter fun p => bothB s t (p : Nat)) = [] := by
      rw [List.filter_eq_nil_iff]
      intro p _ h
      unfold bothB at h
      rw [Bool.and_eq_true, beq_iff_eq, beq_iff_eq] at h
      exact sh_no u1 u2 hf _ h
    rw [fe, List.map_nil] at c1
    have nn : cmp .Eq (.list []) (.list []) = .ok true := rfl
    clear cp1 cp2 dp1 dp2 l1
    generalize (List.range 200).map (fun (p : Nat) => PyData.int p) = R200 at *
    generalize PD s = S at *
    generalize PD t = T at *
    refine ⟨.list (ns.map .int), ?_, ?_⟩
    rotate_left
    unfold fd999
    simp -implicitDefEqProofs [one, two, getV_def, lzV_def, peekV_def, lzOf, rdy, cn_none, cio_1, setAll, held, isNew, ownable, test, truOf, rg, c1, okB_cons, okB_nil, okZ, z4, q5, wipeE, backE, e29, nn, ca, cc, isN]
    rfl
theorem plain_law (ns : List Int) (h : ns.length ≤ 63) (hb : ∀ z ∈ ns, Builtin.Int.intBits z ≤ 1048576) : ∃ c, callF (GT fd999) (230 + 1) 999 none [.list (ns.map .int)] = .ok (.bool true, c) := by
  obtain ⟨s, r, e⟩ := k56_body (lw := fd999) ns
  refine ⟨none, ?_⟩
  rw [call_eq (fd := fd999) rfl]
  unfold runF
  rw [gd_true_of (by rfl)]
  have hb : begin_ fd999 none [.list (ns.map .int)] = [.fz (.list (ns.map .int)), .un, .un, .un, .un, .un, .un, .un, .un, .un, .un, .un, .un, .un, .un, .un, .un, .un] := rfl
  rw [hb, e]
  rfl
end Lp

set_option maxHeartbeats 0
namespace LpRow
open PySem PySem.Spec L2 Lp
def Tb : Tab := GT fd999
theorem b82 : r82.Bd := fun _ _ _ _ _ _ us hl => match us, hl with | [_], _ => rfl
theorem b81 : r81.Bd := fun _ _ _ _ _ _ us hl => match us, hl with | [_, _, _], _ => rfl
theorem b144 : r144.Bd := fun _ _ _ _ _ _ us hl => match us, hl with | [_, _, _], _ => rfl
theorem b88 : r88.Bd := fun _ _ _ _ _ _ us hl => match us, hl with | [_], _ => rfl
theorem b152 : r152.Bd := fun _ _ _ _ _ _ us hl => match us, hl with | [_], _ => rfl
theorem b174 : r174.Bd := fun _ _ _ _ _ _ us hl => match us, hl with | [_], _ => rfl
theorem b26 : r26.Bd := fun _ _ _ _ _ _ us hl => match us, hl with | [_, _], _ => rfl
theorem b61 : r61.Bd := fun _ _ _ _ _ _ us hl => match us, hl with | [_], _ => rfl
theorem b128 : r128.Bd := fun _ _ _ _ _ _ us hl => match us, hl with | [_], _ => rfl
theorem b66 : r66.Bd := fun _ _ _ _ _ _ us hl => match us, hl with | [_], _ => rfl
theorem b193 : r193.Bd := fun _ _ _ _ _ _ us hl => match us, hl with | [_], _ => rfl
theorem b90 : r90.Bd := fun _ _ _ _ _ _ us hl => match us, hl with | [_, _, _, _], _ => rfl
theorem b219 : r219.Bd := fun _ _ _ _ _ _ us hl => match us, hl with | [_], _ => rfl
theorem b192 : r192.Bd := fun _ _ _ _ _ _ us hl => match us, hl with | [_, _, _], _ => rfl
theorem b172 : r172.Bd := fun _ _ _ _ _ _ us hl => match us, hl with | [_, _, _], _ => rfl
theorem b8 : r8.Bd := fun _ _ _ _ _ _ us hl => match us, hl with | [_], _ => rfl
theorem b7 : r7.Bd := fun _ _ _ _ _ _ us hl => match us, hl with | [_], _ => rfl
theorem b9 : r9.Bd := fun _ _ _ _ _ _ us hl => match us, hl with | [_, _], _ => rfl
theorem b204 : r204.Bd := fun _ _ _ _ _ _ us hl => match us, hl with | [_, _], _ => rfl
theorem b147 : r147.Bd := fun _ _ _ _ _ _ us hl => match us, hl with | [_], _ => rfl
theorem b170 : r170.Bd := fun _ _ _ _ _ _ us hl => match us, hl with | [_, _], _ => rfl
theorem b15 : r15.Bd := fun _ _ _ _ _ _ us hl => match us, hl with | [_, _], _ => rfl
theorem b208 : r208.Bd := fun _ _ _ _ _ _ us hl => match us, hl with | [_, _], _ => rfl
theorem b106 : r106.Bd := fun _ _ _ _ _ _ us hl => match us, hl with | [_], _ => rfl
theorem b105 : r105.Bd := fun _ _ _ _ _ _ us hl => match us, hl with | [_, _], _ => rfl
theorem b76 : r76.Bd := fun _ _ _ _ _ _ us hl => match us, hl with | [_, _], _ => rfl
theorem b29 : r29.Bd := fun _ _ _ _ _ _ us hl => match us, hl with | [_, _], _ => rfl
theorem b11 : r11.Bd := fun _ _ _ _ _ _ us hl => match us, hl with | [_, _, _], _ => rfl
theorem b28 : r28.Bd := fun _ _ _ _ _ _ us hl => match us, hl with | [_, _, _, _], _ => rfl
theorem b27 : r27.Bd := fun _ _ _ _ _ _ us hl => match us, hl with | [_, _, _], _ => rfl
theorem b300 : r300.Bd := fun _ _ _ _ _ _ us hl => match us, hl with | [_, _], _ => rfl
theorem b301 : r301.Bd := fun _ _ _ _ _ _ us hl => match us, hl with | [_, _], _ => rfl
theorem b302 : r302.Bd := fun _ _ _ _ _ _ us hl => match us, hl with | [_, _], _ => rfl
theorem b303 : r303.Bd := fun _ _ _ _ _ _ us hl => match us, hl with | [_, _], _ => rfl
theorem b304 : r304.Bd := fun _ _ _ _ _ _ us hl => match us, hl with | [_, _, _], _ => rfl
theorem b305 : r305.Bd := fun _ _ _ _ _ _ us hl => match us, hl with | [_], _ => rfl
theorem b306 : r306.Bd := fun _ _ _ _ _ _ us hl => match us, hl with | [_, _, _], _ => rfl
theorem b999 : r999.Bd := fun _ _ _ _ _ _ us hl => match us, hl with | [_], _ => rfl
theorem bds : ∀ d ∈ ds, d.Bd := fun d hd => by
  simp only [ds, List.mem_cons, List.not_mem_nil, or_false] at hd
  rcases hd with rfl | rfl | rfl | rfl | rfl | rfl | rfl | rfl | rfl | rfl | rfl | rfl | rfl | rfl | rfl | rfl | rfl | rfl | rfl | rfl | rfl | rfl | rfl | rfl | rfl | rfl | rfl | rfl | rfl | rfl | rfl | rfl | rfl | rfl | rfl | rfl | rfl | rfl
  · exact b82
  · exact b81
  · exact b144
  · exact b88
  · exact b152
  · exact b174
  · exact b26
  · exact b61
  · exact b128
  · exact b66
  · exact b193
  · exact b90
  · exact b219
  · exact b192
  · exact b172
  · exact b8
  · exact b7
  · exact b9
  · exact b204
  · exact b147
  · exact b170
  · exact b15
  · exact b208
  · exact b106
  · exact b105
  · exact b76
  · exact b29
  · exact b11
  · exact b28
  · exact b27
  · exact b300
  · exact b301
  · exact b302
  · exact b303
  · exact b304
  · exact b305
  · exact b306
  · exact b999
theorem oks : (ds.all (rwB Tb (fnsOf ds) cs)) = true := by decide +kernel
end LpRow
open PySem PySem.W PySem.Calls PyProof.Rows
theorem PySem.Challenge.cw_leaprows_k56_common_places_holds : PySem.Challenge.rw_leaprows_k56_common_places.Holds := by
  w_on; o_law
  refine HandSHeadRun.head_any (r := OpenLaw.row PySem.Challenge.rw_leaprows_k56_common_places) (q := view (OpenLaw.row PySem.Challenge.rw_leaprows_k56_common_places).prog [51]) (H := LpRow.hk) (ob := LpRow.ob) (M := 5000) (loose := LpRow.loose) (d := HandSHeadRun.topDef (OpenLaw.row PySem.Challenge.rw_leaprows_k56_common_places).prog 51) (kwd := []) LpRow.ob_eq
    (by kernel_rfl) (fun s => by kernel_rfl) LpRow.run (by kernel_rfl) (by kernel_rfl) (by kernel_rfl) (by rfl) (by first | assumption | decide +kernel) (by decide +kernel) ⟨rfl, rfl, rfl, rfl, rfl, by decide +kernel⟩ ?hw ?hc
  case hw => w_witness2
  case hc => exact Lp.lp_walk (n := 63) (k := 230) (dl := LpRow.r999) (Tb := LpRow.Tb) (ds := LpRow.ds) (cs := LpRow.cs) rfl (by decide) (by kernel_rfl) ⟨rfl, by decide, by decide⟩ LpRow.oks LpRow.bds (by simp [LpRow.ds]) (by kernel_rfl) rfl Lp.plain_law
