import PyProof.Rows.All
import Wide.All
import OpenK.AllK
import Wide.FinOn
import HandS.ForMost
import HandS.Exc
import HandS.Zip
import HandS.Walk
import HandS.Deep
import KE.SortData
import KE.DataCmp
import HandS.TupAny
import HandS.TupMul
import HandS.IsInst
import HandS.Strs
import HandS.Conv
import HandS.RaiseMore
import KE.DataFind
import HandS.Style
import HandS.Flow
import HandS.Defaults
import HandS.HeadEnd
import HandS.Property
import HandS.Star
import KE.KOpsOwn
import KE.KCallOwn
import PyProof.InstNe
import HandS.TryOnly
import KE.GoesEnum
import KE.GoesMore
import HandS.ReCall
import HandS.Head0
import HandS.Head1
import HandS.Head2
import HandS.HeadHook1
import HandS.HeadHook2
import HandS.HeadHook3
import HandS.HeadHook4
import PyProof.StrLawsRepr
import PySem.Challenge.RW_menuhouses_k07_rankings_without_things_a
set_option Elab.async false
set_option linter.all false
set_option maxRecDepth 100000
/-! F1: plain data, the small language, what it means. -/
namespace M3
open PySem

abbrev D := PyData
def LIM : Nat := 1000000

/-- a text that is let: signs of Python's, not too long -/
def sOk (x : Str) : Bool := PyData.strOk x && decide (x.length ≤ LIM)
/-- what an owned slot holds -/
inductive Ob where
  | lst (l : List D)
  | dic (l : List (D × D))
  | ins (c : Str) (fs : List (Str × D))
def insD (c : Str) (fs : List (Str × D)) : D := .dict ((.none, .str c) :: fs.map fun p => (.str p.1, p.2))
def Ob.d : Ob → D
  | .lst l => .list l
  | .dic l => .dict l
  | .ins c fs => insD c fs
/-- a slot: nothing known; a shared value; an owned object (true: made in this call, may be given away) -/
inductive Sl where
  | no
  | sh (d : D)
  | own (b : Bool) (o : Ob)
abbrev En := List Sl
inductive R (α : Type) where
  | ok (a : α) (r : En)
  | exc (x : D) (r : En)
  | stuck
abbrev M (α : Type) := En → R α
def ret {α : Type} (a : α) : M α := fun r => .ok a r
def fail {α : Type} : M α := fun _ => .stuck
def bnd {α β : Type} (m : M α) (f : α → M β) : M β := fun r => match m r with
  | .ok a r1 => f a r1
  | .exc x r1 => .exc x r1
  | .stuck => .stuck
def lift {α : Type} : Option α → M α
  | some a => ret a
  | none => fail
inductive Fw where
  | nx | rt (d : D) | bk | ct

/-! ### operations on data -/
inductive Op where
  | add | sub | mul | fdiv | mod | pow | shl | shr | band | bor
  | neg | inv
  | eq | ne | lt | le | gt | ge | isin | notin | isN | notN
  | ix | rev
  | len | abs | int | bool | str | repr | tuple | list | sorted | all | any | sum | max2 | min2 | minL | maxL | divmod | setlen
  | isi (t : Nat)
  | split | join | index | indexL | count | upper
  | rangeL

def cut {α : Type} (xs : List α) (lo hi : Option Int) : List α :=
  (xs.drop (HT.sIx xs.length 0 lo)).take (HT.sIx xs.length xs.length hi - HT.sIx xs.length 0 lo)
def truth : D → Option Bool
  | .none => some false
  | .bool b => some b
  | .int i => some (i != 0)
  | .str x => some (x.length != 0)
  | .list l => some (!l.isEmpty)
  | .tuple l => some (!l.isEmpty)
  | _ => none
def iadd (a b : D) : Option D := match a, b with
  | .int i, .int j => some (.int (i + j))
  | .str x, .str y => if x.length + y.length ≤ LIM then some (.str (x ++ y)) else none
  | .list x, .list y => if x.length + y.length ≤ LIM then some (.list (x ++ y)) else none
  | .tuple x, .tuple y => if x.length + y.length ≤ LIM then some (.tuple (x ++ y)) else none
  | _, _ => none
def small64 (i : Int) : Bool := decide (-(2 ^ 64) < i) && decide (i < 2 ^ 64)
def imul (a b : D) : Option D := match a, b with
  | .int i, .int j => if small64 i || small64 j then some (.int (i * j)) else none
  | .list x, .int j => if decide (0 ≤ j) && decide (j ≤ 1000000) && decide (x.length * j.toNat ≤ LIM) then some (.list (List.replicate j.toNat x).flatten) else none
  | .tuple x, .int j => if !x.isEmpty && decide (2 ≤ j) && decide (j ≤ 1000) && decide (x.length ≤ 1000) then some (.tuple (List.replicate j.toNat x).flatten) else none
  | _, _ => none
def eqOk (a b : D) : Bool := !a.hasDict && !b.hasDict && decide (min a.depth b.depth ≤ 60)
def ieq (a b : D) : Option Bool := if eqOk a b then some (PyData.eqv a b) else none
def cmpOk (a b : D) : Bool := !a.hasDict && !b.hasDict && decide (min a.depth b.depth ≤ 60) && PySem.W.alike a b && (match a with | .none => false | .bool _ => false | _ => true)
def ilt (a b : D) : Option Bool := if cmpOk a b then some (PySem.W.dataLt a b) else none
def substr (x y : Str) : Bool := !(Builtin.Str.occurrences y x 0 y.length 1).isEmpty
def inStr (x y : Str) : Bool := if x.length = 1 then decide (x.cps.toList.getD 0 0 ∈ y.cps.toList) else substr x y
def eqOkL (l : List D) (a : D) : Bool := !PyData.hasDictAll l && !a.hasDict && decide (min (PyData.depthAll l) a.depth ≤ 60)
def isinD (a b : D) : Option Bool := match b with
  | .list l => if eqOkL l a then some (l.any fun y => PyData.eqv y a) else none
  | .tuple l => if eqOkL l a then some (l.any fun y => PyData.eqv y a) else none
  | .str y => (match a with
    | .str x => some (inStr x y)
    | _ => none)
  | _ => none
def chars (x : Str) : List D := x.cps.toList.map fun c => .str ⟨#[c]⟩
def ixD (a i : D) : Option D := match a, i with
  | .list l, .int k => L2.atI l k
  | .tuple l, .int k => L2.atI l k
  | .str x, .int k => (L2.atI x.cps.toList k).map fun c => .str ⟨#[c]⟩
  | _, _ => none
def slD (a : D) (lo hi : Option Int) : Option D := match a with
  | .list l => some (.list (cut l lo hi))
  | .tuple l => some (.tuple (cut l lo hi))
  | .str x => some (.str ⟨(cut x.cps.toList lo hi).toArray⟩)
  | _ => none
def isiD (t : Nat) : D → Bool := match t with
  | 0 => fun | .str _ => true | _ => false
  | 1 => fun | .int _ => true | .bool _ => true | _ => false
  | 2 => fun | .bool _ => true | _ => false
  | 3 => fun | .tuple _ => true | _ => false
  | 4 => fun | .list _ => true | _ => false
  | _ => fun _ => false
def boolsD : List D → Option (List Bool)
  | [] => some []
  | .bool b :: r => (boolsD r).map (b :: ·)
  | _ :: _ => none
def intsD : List D → Option (List Int)
  | [] => some []
  | .int i :: r => (intsD r).map (i :: ·)
  | _ :: _ => none
def strsD : List D → Option (List Str)
  | [] => some []
  | .str x :: r => (strsD r).map (x :: ·)
  | _ :: _ => none
def leD (a b : D) : Bool := !PySem.W.dataLt b a
/-- what can be sorted: all alike, no dict within, none a None or bool, tuples not empty -/
def sortOk (l : List D) : Bool := (l.all fun a => l.all fun b => cmpOk a b) && ((l.all fun a => match a with | .tuple (_ :: _) => true | _ => false) || (l.all fun a => match a with | .tuple _ => false | _ => true))
def keysOf (kvs : List (D × D)) : List D := kvs.map (·.1)
def seqOf : D → Option (List D)
  | .list l => some l
  | .tuple l => some l
  | _ => none
def itemsOf : D → Option (List D)
  | .list l => some l
  | .tuple l => some l
  | .str x => some (chars x)
  | _ => none
/-- how many different texts are among the first i -/
def cntS (xs : List Str) : Nat → Nat
  | 0 => 0
  | i + 1 => if (xs.take i).any (· == xs.getD i Str.empty) then cntS xs i else cntS xs i + 1
def isNone : D → Bool
  | .none => true
  | _ => false
def ap (o : Op) (ds : List D) : Option D := match o, ds with
  | .add, [a, b] => iadd a b
  | .sub, [.int i, .int j] => some (.int (i - j))
  | .mul, [a, b] => imul a b
  | .fdiv, [.int i, .int j] => if decide (0 < j) && decide (j < 1073741824) then some (.int (i / j)) else none
  | .mod, [.int i, .int j] => if 0 < j then some (.int (i % j)) else none
  | .pow, [.int i, .int j] => if decide (0 ≤ j) && decide (j ≤ 1000) && small64 i then some (.int (i ^ j.toNat)) else none
  | .shl, [.int i, .int j] => if decide (0 ≤ j) && decide (j ≤ 1000) && small64 i then some (.int (i * 2 ^ j.toNat)) else none
  | .shr, [.int i, .int j] => if decide (0 ≤ j) then some (.int (i / 2 ^ j.toNat)) else none
  | .band, [.int i, .int j] => some (.int (Builtin.bitAnd i j))
  | .bor, [.int i, .int j] => some (.int (Builtin.bitOr i j))
  | .neg, [.int i] => some (.int (-i))
  | .inv, [.int i] => some (.int (Builtin.bitNot i))
  | .eq, [a, b] => (ieq a b).map .bool
  | .ne, [a, b] => (ieq a b).map fun k => .bool (!k)
  | .lt, [a, b] => (ilt a b).map .bool
  | .gt, [a, b] => (ilt b a).map .bool
  | .le, [a, b] => (ilt b a).map fun k => .bool (!k)
  | .ge, [a, b] => (ilt a b).map fun k => .bool (!k)
  | .isin, [a, b] => (isinD a b).map .bool
  | .notin, [a, b] => (isinD a b).map fun k => .bool (!k)
  | .isN, [a] => some (.bool (isNone a))
  | .notN, [a] => some (.bool (!isNone a))
  | .ix, [a, i] => ixD a i
  | .rev, [.tuple l] => some (.tuple l.reverse)
  | .rev, [.list l] => some (.list l.reverse)
  | .len, [.list l] => some (.int l.length)
  | .len, [.tuple l] => some (.int l.length)
  | .len, [.str x] => some (.int x.length)
  | .abs, [.int i] => some (.int (if i < 0 then -i else i))
  | .int, [.int i] => some (.int i)
  | .int, [.bool b] => some (.int (if b then 1 else 0))
  | .bool, [.int i] => some (.bool (i != 0))
  | .bool, [.bool b] => some (.bool b)
  | .str, [.int i] => if decide (i.natAbs.log2 < 1000) && sOk (toString i) then some (.str (toString i)) else none
  | .str, [.str x] => some (.str x)
  | .repr, [a] => if !a.hasDict && a.showable && decide (a.depth ≤ 60) && sOk a.shown then some (.str a.shown) else none
  | .tuple, [a] => (seqOf a).map .tuple
  | .list, [a] => (seqOf a).map .list
  | .sorted, [a] => (seqOf a).bind fun l => if sortOk l then some (.list (l.mergeSort leD)) else none
  | .all, [.list l] => (boolsD l).map fun bs => .bool (bs.all id)
  | .any, [.list l] => (boolsD l).map fun bs => .bool (bs.any id)
  | .sum, [.list l] => (intsD l).map fun bs => .int bs.sum
  | .max2, [.int i, .int j] => some (.int (if j > i then j else i))
  | .min2, [.int i, .int j] => some (.int (if j < i then j else i))
  | .minL, [.list l] => (intsD l).bind fun ns => ns.min?.map .int
  | .maxL, [.list l] => (intsD l).bind fun ns => ns.max?.map .int
  | .divmod, [.int i, .int j] => if decide (0 < j) && decide (j < 1073741824) then some (.tuple [.int (i / j), .int (i % j)]) else none
  | .setlen, [.tuple l] => (strsD l).bind fun ss => if ss.length ≤ 1000 then some (.int (cntS ss ss.length)) else none
  | .isi t, [a] => (match a with | .dict _ => none | a => some (.bool (isiD t a)))
  | .split, [.str x, .str y] => if !(y.length == 0) && (Txt.split x y).all sOk then some (.list ((Txt.split x y).map .str)) else none
  | .join, [.str x, a] => (match a with | .list l => strsD l | .tuple l => strsD l | _ => none).bind fun (xs : List Str) =>
      if decide ((xs.map fun (y : Str) => y.length).sum + xs.length * x.length ≤ LIM) && sOk (Txt.join x xs) then some (.str (Txt.join x xs)) else none
  | .index, [.tuple l, .str z] => (strsD l).bind fun ss => (ss.findIdx? fun y => y == z).map fun k => .int (k : Nat)
  | .indexL, [.list l, .bool b] => (boolsD l).bind fun ss => (ss.findIdx? fun y => y == b).map fun k => .int (k : Nat)
  | .count, [.list l, .bool b] => (boolsD l).map fun bs => .int (bs.count b)
  | .upper, [.str x] => if sOk (Txt.upper x) then some (.str (Txt.upper x)) else none
  | .rangeL, [.int j] => if decide (j ≤ 100000) && decide (-100000 ≤ j) then some (.list ((List.range j.toNat).map fun (k : Nat) => PyData.int (k : Int))) else none
  | _, _ => none
/-- what makes a new list -/
def Op.fresh : Op → List D → Bool
  | .sorted, _ => true
  | .list, _ => true
  | .rangeL, _ => true
  | _, _ => false

/-- what a method is asked of -/
def recv (o : Op) (d : D) : Bool := match o, d with
  | .split, .str _ => true
  | .join, .str _ => true
  | .upper, .str _ => true
  | .index, .tuple _ => true
  | .indexL, .list _ => true
  | .count, .list _ => true
  | _, _ => false
/-! ### the language -/
inductive SK where
  | seq | rng1 | rng2 | enum | zip | items | keys
inductive Tg where
  | name (i : Nat)
  | tup (l : List Tg)
/-- operations by a class's own methods -/
inductive DK where
  | neg | len | str | repr | isin | notin | eq | ne | ix | bor | band
mutual
inductive IE where
  | var (i : Nat)
  | tmp (i : Nat)
  | cst (d : D)
  | glb (x : Str) (d : D)
  | op (o : Op) (es : List IE)
  | tup (es : List IE)
  | lst (es : List IE)
  | slc (b1 b2 : Bool) (a lo hi : IE)
  | meth (o : Op) (a : IE) (es : List IE)
  | and (a b : IE)
  | or (a b : IE)
  | not (a : IE)
  | ite (c a b : IE)
  | chain (o o' : Op) (a b c : IE)
  | call (f : Nat) (es : List IE)
  | callF (f : Nat) (e : IE)
  | pop (i : Nat) (e : IE)
  | pop0 (i : Nat)
  | lc (vs : List Nat) (tg : Tg) (k : SK) (src : List IE) (ifs : List IE) (e : IE)
  | lc2 (vs vs1 : List Nat) (tg : Tg) (k : SK) (src : List IE) (ifs : List IE) (tg1 : Tg) (k1 : SK) (src1 : List IE) (ifs1 : List IE) (e : IE)
  | new (c : Str) (f : Nat) (es : List IE)
  | fld (c x : Str) (a : IE)
  | prop (c x : Str) (f : Nat) (a : IE)
  | mcall (c m : Str) (f : Nat) (a : IE) (es : List IE)
  | mcallS (c m : Str) (f : Nat) (a : IE) (es : List IE)
  | newS (c : Str) (f : Nat) (es : List IE)
  | newL (c : Str) (f : Nat) (e : IE)
  | isC (c : Str) (cs : List Str) (a : IE)
  | dun (k : DK) (c : Str) (f : Nat) (es : List IE)
end
inductive IS where
  | set (i : Nat) (e : IE)
  | setO (i : Nat) (e : IE)
  | unpack (is : List Nat) (e : IE)
  | par (is : List (Nat × Bool)) (es : List IE)
  | setIx (i : Nat) (k e : IE)
  | divm (i : Nat) (k : IE) (j : Nat) (a b : IE)
  | swap (i : Nat) (k1 k2 e1 e2 : IE)
  | app (i : Nat) (e : IE)
  | ext (i : Nat) (e : IE)
  | ret (e : IE)
  | retO (e : IE)
  | ife (c : IE) (a b : List IS)
  | for_ (tg : Tg) (k : SK) (src : List IE) (body : List IS)
  | while_ (c : IE) (body : List IS)
  | expr (e : IE)
  | setF (i : Nat) (c x : Str) (e : IE)
  | stop
  | pass | brk | cont

/-! ### instances -/
def insF : D → Option (Str × List (D × D))
  | .dict ((.none, .str c) :: l) => some (c, l)
  | _ => none
/-- the fields: names alone -/
def fldsOf : List (D × D) → Option (List (Str × D))
  | [] => some []
  | (.str g, d) :: r => (fldsOf r).map ((g, d) :: ·)
  | _ :: _ => none
def isIns (c : Str) (d : D) : Bool := match insF d with
  | some (c', _) => decide (c' = c)
  | none => false
def noFld (m : Str) (d : D) : Bool := match insF d with
  | some (_, l) => (match fldsOf l with
    | some fs => (fs.lookup m).isNone
    | none => false)
  | none => false
def rdFld (c x : Str) (d : D) : Option D := match insF d with
  | some (c', l) => if c' = c then (match fldsOf l with
    | some fs => fs.lookup x
    | none => none) else none
  | none => none
def putD (f : Str) (v : D) : List (Str × D) → List (Str × D)
  | [] => [(f, v)]
  | (g, x) :: r => if g = f then (g, v) :: r else (g, x) :: putD f v r
/-- an operand: a value; a slot that is read at the last -/
inductive Opd where
  | val (d : D)
  | slot (i : Nat)
def rslv (r : En) : Opd → Option D
  | .val d => some d
  | .slot i => match r[i]? with
    | some (.sh d) => some d
    | some (.own _ o) => some o.d
    | _ => none
def rslvs (r : En) : List Opd → Option (List D)
  | [] => some []
  | o :: os => match rslv r o with
    | some d => (rslvs r os).map (d :: ·)
    | none => none
def rdVar (i : Nat) : M D := fun r => match r[i]? with
  | some (.sh d) => .ok d r
  | some (.own true o) => .ok o.d (r.set i (.sh o.d))
  | _ => .stuck
def apM (o : Op) (os : List Opd) : M D := fun r => match rslvs r os with
  | some ds => (match ap o ds with
    | some d => .ok d r
    | none => .stuck)
  | none => .stuck
mutual
def putE : Tg → D → En → Option En
  | .name i, d, r => if i < r.length then some (r.set i (.sh d)) else none
  | .tup ts, .tuple ds, r => putsE ts ds r
  | .tup _, _, _ => none
def putsE : List Tg → List D → En → Option En
  | [], [], r => some r
  | t :: ts, d :: ds, r => (putE t d r).bind fun r' => putsE ts ds r'
  | _, _, _ => none
end
def put (t : Tg) (d : D) : M Unit := fun r => match putE t d r with
  | some r' => .ok () r'
  | none => .stuck
def srcItems : SK → List D → Option (List D)
  | .seq, [a] => itemsOf a
  | .rng1, [.int j] => if decide (j ≤ 100000) && decide (-100000 ≤ j) then some ((List.range j.toNat).map fun (k : Nat) => PyData.int (k : Int)) else none
  | .rng2, [.int i, .int j] => if decide (j ≤ 100000) && decide (-100000 ≤ i) && decide (-100000 ≤ j) && decide (i ≤ 100000) then some ((List.range (j - i).toNat).map fun (k : Nat) => PyData.int (i + (k : Int))) else none
  | .enum, [a] => (itemsOf a).map fun l => l.zipIdx.map fun p => .tuple [.int p.2, p.1]
  | .zip, [a, b] => (itemsOf a).bind fun l => (itemsOf b).map fun m => (l.zip m).map fun p => .tuple [p.1, p.2]
  | .items, [.dict kvs] => some (kvs.map fun p => .tuple [p.1, p.2])
  | .keys, [.dict kvs] => some (kvs.map (·.1))
  | _, _ => none
def src (k : SK) (os : List Opd) : M (List D) := fun r => match rslvs r os with
  | some ds => (match srcItems k ds with
    | some l => .ok l r
    | none => .stuck)
  | none => .stuck
def notOwn : Option Sl → Bool
  | some (.own _ _) => false
  | _ => true
def wipeE (r : En) : List Nat → En
  | [] => r
  | v :: vs => (wipeE r vs).set v .no
/-- the slots vs as they were in r0 -/
def back (r0 r : En) : List Nat → En
  | [] => r
  | v :: vs => match r0[v]? with
    | some s => (back r0 r vs).set v s
    | none => back r0 r vs
def wipeM (vs : List Nat) : M Unit := fun r => .ok () (wipeE r vs)
def lcLoop (vs : List Nat) (tg : Tg) (tst : M Bool) (elt : M D) : List D → List D → M (List D)
  | [], acc => ret acc
  | x :: xs, acc => bnd (wipeM vs) fun _ => bnd (put tg x) fun _ => bnd tst fun b => if b then bnd elt fun d => (if acc.length < LIM then lcLoop vs tg tst elt xs (acc ++ [d]) else fail) else lcLoop vs tg tst elt xs acc
/-- a comprehension's block: its names are its own -/
def block {α : Type} (vs : List Nat) (m : M α) : M α := fun r =>
  if vs.all fun v => notOwn r[v]? then (match m (wipeE r vs) with
    | .ok a r1 => .ok a (back r r1 vs)
    | .exc _ _ => .stuck
    | .stuck => .stuck) else .stuck
def lcLoop2 (vs vs1 : List Nat) (tg : Tg) (tst : M Bool) (src1 : M (List D)) (tg1 : Tg) (tst1 : M Bool) (elt : M D) : List D → List D → M (List D)
  | [], acc => ret acc
  | x :: xs, acc => bnd (wipeM vs) fun _ => bnd (put tg x) fun _ => bnd tst fun b =>
      if b then bnd src1 fun items => bnd (lcLoop vs1 tg1 tst1 elt items acc) fun acc' => lcLoop2 vs vs1 tg tst src1 tg1 tst1 elt xs acc'
      else lcLoop2 vs vs1 tg tst src1 tg1 tst1 elt xs acc
def forLoop (tg : Tg) (body : M Fw) : List D → M Fw
  | [] => ret .nx
  | x :: xs => bnd (put tg x) fun _ => bnd body fun f => match f with
    | .nx => forLoop tg body xs
    | .ct => forLoop tg body xs
    | .bk => ret .nx
    | .rt d => ret (.rt d)
def whileLoop (c : M Bool) (body : M Fw) : Nat → M Fw
  | 0 => fail
  | n + 1 => bnd c fun b => if b then bnd body fun f => match f with
    | .nx => whileLoop c body n
    | .ct => whileLoop c body n
    | .bk => ret .nx
    | .rt d => ret (.rt d) else ret .nx
def tru (m : M D) : M Bool := bnd m fun d => lift (truth d)

/-- what a call gives: the value, the contents of the arguments that it may change -/
inductive FR where
  | ok (d : D) (outs : List D)
  | exc (x : D) (outs : List D)
  | stuck
abbrev Ph := Nat → List D → FR
/-- the slots that go by reference, from the left -/
def ioSlots : List Opd → List Nat
  | [] => []
  | .slot i :: r => i :: ioSlots r
  | .val _ :: r => ioSlots r
def obOf (o : Ob) (d : D) : Option Ob := match o, d with
  | .lst _, .list l => some (.lst l)
  | _, _ => none
def putBack : List Nat → List D → En → Option En
  | [], [], r => some r
  | i :: is, d :: ds, r => match r[i]? with
    | some (.own b o) => (match obOf o d with
      | some o' => putBack is ds (r.set i (.own b o'))
      | none => none)
    | _ => none
  | _, _, _ => none
def callM (P : Ph) (f : Nat) (os : List Opd) : M D := fun r => match rslvs r os with
  | some ds => (match P f ds with
    | .ok d outs => (match putBack (ioSlots os) outs r with
      | some r' => .ok d r'
      | none => .stuck)
    | _ => .stuck)
  | none => .stuck
def callFM (P : Ph) (f : Nat) (d : D) : M D := match P f [d] with
  | .ok d [_] => ret d
  | _ => fail
def newM (P : Ph) (c : Str) (f : Nat) (ds : List D) : M D := match P f (insD c [] :: ds) with
  | .ok .none [o] => ret o
  | _ => fail
def mcM (P : Ph) (f : Nat) (ds : List D) : M D := match P f ds with
  | .ok d [] => ret d
  | _ => fail
/-- who is asked, with what -/
def rcv {α : Type} : DK → List α → Option (α × List α)
  | .neg, [d] => some (d, [])
  | .len, [d] => some (d, [])
  | .str, [d] => some (d, [])
  | .repr, [d] => some (d, [])
  | .isin, [v, d] => some (d, [v])
  | .notin, [v, d] => some (d, [v])
  | .eq, [d, v] => some (d, [v])
  | .ne, [d, v] => some (d, [v])
  | .ix, [d, v] => some (d, [v])
  | .bor, [d, v] => some (d, [v])
  | .band, [d, v] => some (d, [v])
  | _, _ => none
def noDic : D → Bool
  | .dict _ => false
  | _ => true
def dkA (k : DK) (c : Str) (as : List D) : Bool := match k with
  | .eq => as.all fun d => isIns c d || noDic d
  | .ne => as.all fun d => isIns c d || noDic d
  | .bor => as.all fun d => isIns c d
  | .band => as.all fun d => isIns c d
  | _ => true
def dkR (k : DK) (d : D) : Option D := match k, d with
  | .neg, d => some d
  | .ix, d => some d
  | .bor, d => if (insF d).isSome then some d else none
  | .band, d => if (insF d).isSome then some d else none
  | .len, .int n => if decide (0 ≤ n) && decide (n < 2 ^ 62) then some (.int n) else none
  | .str, .str y => some (.str y)
  | .repr, .str y => some (.str y)
  | .isin, .bool b => some (.bool b)
  | .notin, .bool b => some (.bool (!b))
  | .eq, .bool b => some (.bool b)
  | .ne, .bool b => some (.bool (!b))
  | _, _ => none
def dunM (P : Ph) (k : DK) (c : Str) (f : Nat) (ds : List D) : M D := match rcv k ds with
  | some (d, as) => if isIns c d && dkA k c as then bnd (mcM P f (d :: as)) fun r => lift (dkR k r) else fail
  | none => fail
def isiC (c : Str) (cs : List Str) (d : D) : Option D := match insF d with
  | some (c', _) => if cs.contains c' then some (.bool (decide (c' = c))) else none
  | none => if noDic d then some (.bool false) else none
def popM (i : Nat) (k : Option Int) : M D := fun r => match r[i]? with
  | some (.own b (.lst l)) => (match k with
    | none => (match l.getLast? with
      | some x => .ok x (r.set i (.own b (.lst l.dropLast)))
      | none => .stuck)
    | some k => (match (if l.length ≤ LIM then L2.ixN l.length k else none) with
      | some j => (match l[j]? with
        | some x => .ok x (r.set i (.own b (.lst (l.eraseIdx j))))
        | none => .stuck)
      | none => .stuck))
  | _ => .stuck
/-- the slot has a list of its own -/
def isL (i : Nat) : M Unit := fun r => match r[i]? with
  | some (.own _ (.lst _)) => .ok () r
  | _ => .stuck
def asInt : D → M Int
  | .int i => ret i
  | _ => fail
def IE.isTmp : IE → Option Nat
  | .tmp i => some i
  | _ => none
/-- an operand -/
def opd (e : IE) (m : M D) : M Opd := match e with
  | .tmp i => fun r => (match r[i]? with
    | some (.sh _) => .ok (.slot i) r
    | some (.own _ _) => .ok (.slot i) r
    | _ => .stuck)
  | _ => bnd m fun d => ret (.val d)
def slM (o : Opd) (lo hi : Option Int) : M D := fun r => match rslv r o with
  | some d => (match slD d lo hi with
    | some x => .ok x r
    | none => .stuck)
  | none => .stuck
def part (b : Bool) (m : M D) : M (Option Int) := if b then bnd m fun d => bnd (asInt d) fun i => ret (some i) else ret none
mutual
def den (P : Ph) : IE → M D
  | .var i => rdVar i
  | .tmp _ => fail
  | .cst d => ret d
  | .glb _ d => ret d
  | .op o es => bnd (dens P es) fun os => apM o os
  | .tup es => bnd (denAll P es) fun ds => if ds.length ≤ LIM then ret (.tuple ds) else fail
  | .lst es => bnd (denAll P es) fun ds => if ds.length ≤ LIM then ret (.list ds) else fail
  | .slc b1 b2 a lo hi => bnd (opd a (den P a)) fun oa => bnd (part b1 (den P lo)) fun l => bnd (part b2 (den P hi)) fun h => slM oa l h
  | .meth o a es => bnd (den P a) fun x => if recv o x then bnd (dens P es) fun os => apM o (.val x :: os) else fail
  | .and a b => bnd (den P a) fun x => bnd (lift (truth x)) fun k => if k then den P b else ret x
  | .or a b => bnd (den P a) fun x => bnd (lift (truth x)) fun k => if k then ret x else den P b
  | .not a => bnd (den P a) fun x => bnd (lift (truth x)) fun k => ret (.bool (!k))
  | .ite c a b => bnd (den P c) fun x => bnd (lift (truth x)) fun k => if k then den P a else den P b
  | .chain o o' a b c => bnd (den P a) fun x => bnd (den P b) fun y => bnd (apM o [.val x, .val y]) fun z => match z with
    | .bool true => bnd (den P c) fun w => apM o' [.val y, .val w]
    | .bool false => ret (.bool false)
    | _ => fail
  | .call f es => bnd (dens P es) fun os => callM P f os
  | .callF f e => bnd (den P e) fun d => callFM P f d
  | .pop i e => bnd (isL i) fun _ => bnd (den P e) fun d => bnd (asInt d) fun k => popM i (some k)
  | .pop0 i => bnd (isL i) fun _ => popM i none
  | .lc vs tg k s ifs e => bnd (dens P s) fun os => bnd (src k os) fun items => bnd (block vs (lcLoop vs tg (tests P ifs) (den P e) items [])) fun acc => ret (.list acc)
  | .lc2 vs vs1 tg k s ifs tg1 k1 s1 ifs1 e => bnd (dens P s) fun os => bnd (src k os) fun items =>
      bnd (block vs (lcLoop2 vs vs1 tg (tests P ifs) (bnd (dens P s1) fun os => src k1 os) tg1 (tests P ifs1) (den P e) items [])) fun acc => ret (.list acc)
  | .new c f es => bnd (denAll P es) fun ds => newM P c f ds
  | .fld c x a => bnd (den P a) fun d => lift (rdFld c x d)
  | .prop c _ f a => bnd (den P a) fun d => if isIns c d then mcM P f [d] else fail
  | .mcall c m f a es => bnd (den P a) fun d => if isIns c d && noFld m d then bnd (denAll P es) fun ds => mcM P f (d :: ds) else fail
  | .mcallS c m f a es => bnd (den P a) fun d => if isIns c d && noFld m d then bnd (denAll P es) fun ds => if ds.length ≤ LIM then mcM P f [d, .tuple ds] else fail else fail
  | .newS c f es => bnd (denAll P es) fun ds => if ds.length ≤ LIM then newM P c f [.tuple ds] else fail
  | .newL c f e => bnd (den P e) fun d => bnd (lift (seqOf d)) fun l => if l.length ≤ LIM then newM P c f [.tuple l] else fail
  | .isC c cs a => bnd (den P a) fun d => lift (isiC c cs d)
  | .dun k c f es => bnd (denAll P es) fun ds => dunM P k c f ds
def dens (P : Ph) : List IE → M (List Opd)
  | [] => ret []
  | e :: es => bnd (opd e (den P e)) fun o => bnd (dens P es) fun os => ret (o :: os)
def denAll (P : Ph) : List IE → M (List D)
  | [] => ret []
  | e :: es => bnd (den P e) fun d => bnd (denAll P es) fun ds => ret (d :: ds)
def tests (P : Ph) : List IE → M Bool
  | [] => ret true
  | e :: es => bnd (den P e) fun x => bnd (lift (truth x)) fun k => if k then tests P es else ret false
end
def setSl (i : Nat) (s : Sl) : M Unit := fun r => if i < r.length then .ok () (r.set i s) else .stuck
def ownOf : D → Option Ob
  | .list l => some (.lst l)
  | _ => none
def putIx (i : Nat) (k d : D) : M Unit := fun r => match r[i]? with
  | some (.own b (.lst l)) => (match k with
    | .int k => (match L2.ixN l.length k with
      | some j => .ok () (r.set i (.own b (.lst (l.set j d))))
      | none => .stuck)
    | _ => .stuck)
  | _ => .stuck
def appM (i : Nat) (ds : List D) : M Unit := fun r => match r[i]? with
  | some (.own b (.lst l)) => if l.length + ds.length ≤ LIM then .ok () (r.set i (.own b (.lst (l ++ ds)))) else .stuck
  | _ => .stuck
def setFld (i : Nat) (c x : Str) (d : D) : M Unit := fun r => match r[i]? with
  | some (.own b (.ins c' fs)) => if decide (c' = c) && decide (fs.length < 1000) then .ok () (r.set i (.own b (.ins c' (putD x d fs)))) else .stuck
  | _ => .stuck
def listOf : D → M (List D)
  | .list l => ret l
  | _ => fail
def setPar : List (Nat × Bool) → List D → M Unit
  | [], [] => ret ()
  | (i, false) :: is, d :: ds => bnd (setSl i (.sh d)) fun _ => setPar is ds
  | (i, true) :: is, d :: ds => bnd (lift (ownOf d)) fun o => bnd (setSl i (.own true o)) fun _ => setPar is ds
  | _, _ => fail
def elems : D → M (List D)
  | .list l => ret l
  | .tuple l => ret l
  | _ => fail
/-- a slot's own object given away -/
def giveM (e : IE) (m : M D) : M D := match e with
  | .tmp i => fun r => (match r[i]? with
    | some (.own true o) => .ok o.d (r.set i .no)
    | _ => .stuck)
  | _ => m
mutual
def exe (P : Ph) : IS → M Fw
  | .set i e => bnd (den P e) fun d => bnd (setSl i (.sh d)) fun _ => ret .nx
  | .setO i e => bnd (den P e) fun d => bnd (lift (ownOf d)) fun o => bnd (setSl i (.own true o)) fun _ => ret .nx
  | .unpack is e => bnd (den P e) fun d => bnd (elems d) fun ds => bnd (setPar (is.map fun i => (i, false)) ds) fun _ => ret .nx
  | .par is es => bnd (denAll P es) fun ds => bnd (setPar is ds) fun _ => ret .nx
  | .setIx i k e => bnd (den P e) fun d => bnd (isL i) fun _ => bnd (den P k) fun kd => bnd (putIx i kd d) fun _ => ret .nx
  | .divm i k j a b => bnd (dens P [a, b]) fun os => bnd (apM .divmod os) fun t => match t with
    | .tuple [q, m] => bnd (isL i) fun _ => bnd (den P k) fun kd => bnd (putIx i kd q) fun _ => bnd (setSl j (.sh m)) fun _ => ret .nx
    | _ => fail
  | .swap i k1 k2 e1 e2 => bnd (den P e1) fun d1 => bnd (den P e2) fun d2 => bnd (isL i) fun _ => bnd (den P k1) fun x1 => bnd (putIx i x1 d1) fun _ => bnd (isL i) fun _ => bnd (den P k2) fun x2 => bnd (putIx i x2 d2) fun _ => ret .nx
  | .app i e => bnd (isL i) fun _ => bnd (den P e) fun d => bnd (appM i [d]) fun _ => ret .nx
  | .ext i e => bnd (isL i) fun _ => bnd (den P e) fun d => bnd (listOf d) fun l => bnd (appM i l) fun _ => ret .nx
  | .ret e => bnd (den P e) fun d => ret (.rt d)
  | .retO e => bnd (giveM e (den P e)) fun d => ret (.rt d)
  | .ife c a b => bnd (tru (den P c)) fun k => if k then exes P a else exes P b
  | .for_ tg k s body => bnd (dens P s) fun os => bnd (src k os) fun items => forLoop tg (exes P body) items
  | .while_ c body => whileLoop (tru (den P c)) (exes P body) 1000000
  | .expr e => bnd (den P e) fun _ => ret .nx
  | .setF i c x e => bnd (den P e) fun d => bnd (setFld i c x d) fun _ => ret .nx
  | .stop => fail
  | .pass => ret .nx
  | .brk => ret .bk
  | .cont => ret .ct
def exes (P : Ph) : List IS → M Fw
  | [] => ret .nx
  | s :: ss => bnd (exe P s) fun f => match f with
    | .nx => exes P ss
    | f => ret f
end
/-- a def: its parameters (true: changed within), its slots, its body -/
structure Fn where
  ps : List Bool
  n : Nat
  body : List IS
  own : Bool := false
  kb : List Nat := []
  star : Bool := false
def obP : D → Option Ob
  | .list l => some (.lst l)
  | .dict ((.none, .str c) :: l) => (fldsOf l).map (.ins c)
  | _ => none
def startE : List Bool → List D → Option En
  | [], [] => some []
  | true :: ps, d :: ds => (match obP d with
    | some o => (startE ps ds).map (.own false o :: ·)
    | none => none)
  | false :: ps, d :: ds => (startE ps ds).map (.sh d :: ·)
  | _, _ => none
def outsE : List Bool → En → Option (List D)
  | [], _ => some []
  | true :: ps, .own false o :: r => (outsE ps r).map (o.d :: ·)
  | false :: ps, _ :: r => outsE ps r
  | _, _ => none
def runFn (P : Ph) (F : Fn) (ds : List D) : FR := match startE F.ps ds with
  | some r0 => (match exes P F.body (r0 ++ List.replicate (F.n - r0.length) .no) with
    | .ok (.rt d) r => (match outsE F.ps r with
      | some outs => .ok d outs
      | none => .stuck)
    | .ok .nx r => if F.own then .stuck else (match outsE F.ps r with
      | some outs => .ok .none outs
      | none => .stuck)
    | .exc x r => (match outsE F.ps r with
      | some outs => .exc x outs
      | none => .stuck)
    | _ => .stuck)
  | none => .stuck
def callF (T : List Fn) : Nat → Ph
  | 0 => fun _ _ => .stuck
  | n + 1 => fun i ds => match T[i]? with
    | some F => runFn (callF T n) F ds
    | none => .stuck
end M3
set_option Elab.async false
set_option linter.all false
set_option maxRecDepth 100000
namespace M3
open PySem PySem.Spec L2

/-! ### data in the heap -/
structure Wd where
  K : PySem.W.Frag
  mg : Str → Option Value
def kD : Key → D
  | .inl i => .int i
  | .inr x => .str x
def kOk : Key → Bool
  | .inl _ => true
  | .inr x => sOk x
/-- a tuple that is laid: its object is known to have no dict -/
def TpR (H : Hp) (a : Addr) (xs : List V) : Prop := ∃ o, H a = some (.frz o (.tup xs)) ∧ o.dict = none
theorem TpR.rd {H : Hp} {a : Addr} {xs : List V} (h : TpR H a xs) : Rd H a (.tup xs) := let ⟨o, e, _⟩ := h; .inr ⟨o, e⟩
theorem TpR.sq {K : PySem.W.Frag} {H : Hp} {a : Addr} {xs : List V} (h : TpR H a xs) : SqT K H a xs := .inl h.rd
theorem TpR.mv {H H' : Hp} {a : Addr} {xs : List V} (h : TpR H a xs) (k : ∀ u, H a = some u → H' a = some u) : TpR H' a xs := let ⟨o, e, d⟩ := h; ⟨o, k _ e, d⟩
mutual
inductive Rep (w : Wd) (Z : Addr → Prop) (H : Hp) : V → D → Prop
  | non : Rep w Z H .non .none
  | bl (b : Bool) : Rep w Z H (.bl b) (.bool b)
  | int (i : Int) : Rep w Z H (.int i) (.int i)
  | str (x : Str) : sOk x = true → Rep w Z H (.str x) (.str x)
  | tup {a : Addr} {xs : List V} {ds : List D} : TpR H a xs → Reps w Z H xs ds → Rep w Z H (.ref a) (.tuple ds)
  | lst {a : Addr} {xs : List V} {ds : List D} : Z a → Rd H a (.lst xs) → Reps w Z H xs ds → Rep w Z H (.ref a) (.list ds)
  | dK {a : Addr} {kvs : List (Key × V)} {l : List (D × D)} : Z a → Rd H a (.dK kvs) → RepKs w Z H kvs l → Rep w Z H (.ref a) (.dict l)
  | dT {a : Addr} {kvs : List (List Key × V)} {l : List (D × D)} : Z a → Rd H a (.dT kvs) → RepTs w Z H kvs l → Rep w Z H (.ref a) (.dict l)
  | ins {a C dx : Addr} {fs : List (Str × V)} {c : Str} {l : List (D × D)} : Z a → H a = some (.ins C dx fs) → w.mg c = some (.ref C) → RepFs w Z H fs l → Rep w Z H (.ref a) (.dict ((.none, .str c) :: l))
inductive Reps (w : Wd) (Z : Addr → Prop) (H : Hp) : List V → List D → Prop
  | nil : Reps w Z H [] []
  | cons {v : V} {vs : List V} {d : D} {ds : List D} : Rep w Z H v d → Reps w Z H vs ds → Reps w Z H (v :: vs) (d :: ds)
inductive RepKs (w : Wd) (Z : Addr → Prop) (H : Hp) : List (Key × V) → List (D × D) → Prop
  | nil : RepKs w Z H [] []
  | cons {k : Key} {v : V} {r : List (Key × V)} {d : D} {l : List (D × D)} : kOk k = true → Rep w Z H v d → RepKs w Z H r l → RepKs w Z H ((k, v) :: r) ((kD k, d) :: l)
inductive RepTs (w : Wd) (Z : Addr → Prop) (H : Hp) : List (List Key × V) → List (D × D) → Prop
  | nil : RepTs w Z H [] []
  | cons {k : List Key} {v : V} {r : List (List Key × V)} {d : D} {l : List (D × D)} : k.all kOk = true → Rep w Z H v d → RepTs w Z H r l → RepTs w Z H ((k, v) :: r) ((.tuple (k.map kD), d) :: l)
inductive RepFs (w : Wd) (Z : Addr → Prop) (H : Hp) : List (Str × V) → List (D × D) → Prop
  | nil : RepFs w Z H [] []
  | cons {f : Str} {v : V} {r : List (Str × V)} {d : D} {l : List (D × D)} : Rep w Z H v d → RepFs w Z H r l → RepFs w Z H ((f, v) :: r) ((.str f, d) :: l)
end
def plainO : HO → Bool
  | .lst _ => true
  | .tup _ => true
  | .dK _ => true
  | .dT _ => true
  | .ins _ _ _ => true
  | _ => false

theorem rdZ {H H' : Hp} {a : Addr} {u : HO} (k : ∀ o, H a = some o → H' a = some o) (r : Rd H a u) : Rd H' a u := by
  rcases r with r | ⟨o, r⟩
  · exact .inl (k _ r)
  · exact .inr ⟨o, k _ r⟩
section
variable {w : Wd} {Z Z' : Addr → Prop} {H H' : Hp}
mutual
theorem Rep.stay (hz : ∀ a, Z a → Z' a) (hk : ∀ a u, Z a → H a = some u → H' a = some u) (ht : ∀ a xs, TpR H a xs → TpR H' a xs) :
    ∀ {v : V} {d : D}, Rep w Z H v d → Rep w Z' H' v d
  | _, _, .non => .non
  | _, _, .bl b => .bl b
  | _, _, .int i => .int i
  | _, _, .str x h => .str x h
  | _, _, .tup s r => .tup (ht _ _ s) (Reps.stay hz hk ht r)
  | _, _, .lst z s r => .lst (hz _ z) (rdZ (fun u => hk _ u z) s) (Reps.stay hz hk ht r)
  | _, _, .dK z s r => .dK (hz _ z) (rdZ (fun u => hk _ u z) s) (RepKs.stay hz hk ht r)
  | _, _, .dT z s r => .dT (hz _ z) (rdZ (fun u => hk _ u z) s) (RepTs.stay hz hk ht r)
  | _, _, .ins z s m r => .ins (hz _ z) (hk _ _ z s) m (RepFs.stay hz hk ht r)
theorem Reps.stay (hz : ∀ a, Z a → Z' a) (hk : ∀ a u, Z a → H a = some u → H' a = some u) (ht : ∀ a xs, TpR H a xs → TpR H' a xs) :
    ∀ {v : List V} {d : List D}, Reps w Z H v d → Reps w Z' H' v d
  | _, _, .nil => .nil
  | _, _, .cons h t => .cons (Rep.stay hz hk ht h) (Reps.stay hz hk ht t)
theorem RepKs.stay (hz : ∀ a, Z a → Z' a) (hk : ∀ a u, Z a → H a = some u → H' a = some u) (ht : ∀ a xs, TpR H a xs → TpR H' a xs) :
    ∀ {v : List (Key × V)} {d : List (D × D)}, RepKs w Z H v d → RepKs w Z' H' v d
  | _, _, .nil => .nil
  | _, _, .cons k h t => .cons k (Rep.stay hz hk ht h) (RepKs.stay hz hk ht t)
theorem RepTs.stay (hz : ∀ a, Z a → Z' a) (hk : ∀ a u, Z a → H a = some u → H' a = some u) (ht : ∀ a xs, TpR H a xs → TpR H' a xs) :
    ∀ {v : List (List Key × V)} {d : List (D × D)}, RepTs w Z H v d → RepTs w Z' H' v d
  | _, _, .nil => .nil
  | _, _, .cons k h t => .cons k (Rep.stay hz hk ht h) (RepTs.stay hz hk ht t)
theorem RepFs.stay (hz : ∀ a, Z a → Z' a) (hk : ∀ a u, Z a → H a = some u → H' a = some u) (ht : ∀ a xs, TpR H a xs → TpR H' a xs) :
    ∀ {v : List (Str × V)} {d : List (D × D)}, RepFs w Z H v d → RepFs w Z' H' v d
  | _, _, .nil => .nil
  | _, _, .cons h t => .cons (Rep.stay hz hk ht h) (RepFs.stay hz hk ht t)
end
theorem Reps.length : ∀ {vs : List V} {ds : List D}, Reps w Z H vs ds → vs.length = ds.length
  | _, _, .nil => rfl
  | _, _, .cons _ t => by rw [List.length_cons, List.length_cons, Reps.length t]
theorem Reps.get : ∀ {vs : List V} {ds : List D} {i : Nat} {d : D}, Reps w Z H vs ds → ds[i]? = some d → ∃ v, vs[i]? = some v ∧ Rep w Z H v d
  | _, _, _, _, .nil, e => by simp at e
  | _, _, 0, _, .cons h _, e => by simp at e; subst e; exact ⟨_, rfl, h⟩
  | _, _, i + 1, d, .cons _ t, e => by
    obtain ⟨v, h1, h2⟩ := Reps.get (i := i) t (by simpa using e)
    exact ⟨v, by simpa using h1, h2⟩
theorem Reps.getV : ∀ {vs : List V} {ds : List D} {i : Nat} {v : V}, Reps w Z H vs ds → vs[i]? = some v → ∃ d, ds[i]? = some d ∧ Rep w Z H v d
  | _, _, _, _, .nil, e => by simp at e
  | _, _, 0, _, .cons h _, e => by simp at e; subst e; exact ⟨_, rfl, h⟩
  | _, _, i + 1, d, .cons _ t, e => by
    obtain ⟨v, h1, h2⟩ := Reps.getV (i := i) t (by simpa using e)
    exact ⟨v, by simpa using h1, h2⟩
theorem Reps.append : ∀ {vs ws : List V} {ds es : List D}, Reps w Z H vs ds → Reps w Z H ws es → Reps w Z H (vs ++ ws) (ds ++ es)
  | _, _, _, _, .nil, s => s
  | _, _, _, _, .cons h t, s => .cons h (Reps.append t s)
theorem Reps.take : ∀ {vs : List V} {ds : List D} (n : Nat), Reps w Z H vs ds → Reps w Z H (vs.take n) (ds.take n)
  | _, _, 0, _ => .nil
  | _, _, _ + 1, .nil => .nil
  | _, _, n + 1, .cons h t => .cons h (Reps.take n t)
theorem Reps.drop : ∀ {vs : List V} {ds : List D} (n : Nat), Reps w Z H vs ds → Reps w Z H (vs.drop n) (ds.drop n)
  | _, _, 0, r => r
  | _, _, _ + 1, .nil => .nil
  | _, _, n + 1, .cons _ t => Reps.drop n t
theorem Reps.set {v : V} {d : D} (r : Rep w Z H v d) : ∀ {vs : List V} {ds : List D} (i : Nat), Reps w Z H vs ds → Reps w Z H (vs.set i v) (ds.set i d)
  | _, _, _, .nil => .nil
  | _, _, 0, .cons _ t => .cons r t
  | _, _, i + 1, .cons q t => .cons q (Reps.set r i t)
theorem Reps.reverse : ∀ {vs : List V} {ds : List D}, Reps w Z H vs ds → Reps w Z H vs.reverse ds.reverse
  | _, _, .nil => .nil
  | _, _, .cons h t => by
    rw [List.reverse_cons, List.reverse_cons]
    exact (Reps.reverse t).append (.cons h .nil)
theorem Reps.eraseIdx : ∀ {vs : List V} {ds : List D} (i : Nat), Reps w Z H vs ds → Reps w Z H (vs.eraseIdx i) (ds.eraseIdx i)
  | _, _, _, .nil => .nil
  | _, _, 0, .cons _ t => t
  | _, _, i + 1, .cons q t => .cons q (Reps.eraseIdx i t)
theorem Reps.dropLast : ∀ {vs : List V} {ds : List D}, Reps w Z H vs ds → Reps w Z H vs.dropLast ds.dropLast := fun {vs ds} r => by
  rw [List.dropLast_eq_take, List.dropLast_eq_take, r.length]
  exact r.take _
end

/-! ### what is owned; one step of evaluation -/
def Own (ρ : En) (σ : St) (a : Addr) : Prop := ∃ (i : Nat) (b : Bool) (o : Ob), ρ[i]? = some (Sl.own b o) ∧ σ[i]? = some (some (V.ref a))
def OwnRep (w : Wd) (Z : Addr → Prop) (H : Hp) (a : Addr) : Ob → Prop
  | .lst l => ∃ xs, H a = some (.lst xs) ∧ Reps w Z H xs l
  | .dic l => (∃ kvs, H a = some (.dK kvs) ∧ RepKs w Z H kvs l) ∨ ∃ kvs, H a = some (.dT kvs) ∧ RepTs w Z H kvs l
  | .ins c fs => ∃ C dx fv, H a = some (.ins C dx fv) ∧ w.mg c = some (.ref C) ∧ RepFs w Z H fv (fs.map fun p => (.str p.1, p.2))
/-- one run of a def: the heap and the frozen addresses at its entry, the addresses that it may change -/
structure Act where
  G : Hp
  Z0 : Addr → Prop
  IO : Addr → Prop
structure SR (w : Wd) (A : Act) (Z : Addr → Prop) (H : Hp) (ρ : En) (σ : St) : Prop where
  len : ρ.length = σ.length
  sh : ∀ (i : Nat) (d : D), ρ[i]? = some (Sl.sh d) → ∃ v, σ[i]? = some (some v) ∧ Rep w Z H v d
  own : ∀ (i : Nat) (b : Bool) (o : Ob), ρ[i]? = some (Sl.own b o) → ∃ a, σ[i]? = some (some (.ref a)) ∧ ¬ Z a ∧ OwnRep w Z H a o ∧ (b = true → A.G a = none) ∧ (b = false → A.IO a)
  inj : ∀ (i j : Nat) (b b' : Bool) (o o' : Ob) (a : Addr), ρ[i]? = some (Sl.own b o) → ρ[j]? = some (Sl.own b' o') → σ[i]? = some (some (.ref a)) → σ[j]? = some (some (.ref a)) → i = j
  frame : ∀ a o, A.G a = some o → ¬ A.IO a → H a = some o
  zf : ∀ a, Z a → A.Z0 a ∨ A.G a = none
  z0 : ∀ a, A.Z0 a → Z a
  dom : ∀ a, H a = none → A.G a = none
  zd : ∀ a, Z a → H a ≠ none
structure XS (ρ : En) (σ : St) (Z : Addr → Prop) (H : Hp) (ρ' : En) (Z' : Addr → Prop) (H' : Hp) : Prop where
  z : ∀ a, Z a → Z' a
  zg : ∀ a, Z' a → Z a ∨ H a = none ∨ Own ρ σ a
  kp : ∀ a o, H a = some o → ¬ Own ρ σ a → H' a = some o
  dom : ∀ a, H' a = none → H a = none
  ow : ∀ a, Own ρ' σ a → Own ρ σ a
/-- a step that changes no object -/
structure P0 (Z : Addr → Prop) (H : Hp) (Z' : Addr → Prop) (H' : Hp) : Prop where
  z : ∀ a, Z a → Z' a
  zg : ∀ a, Z' a → Z a ∨ H a = none
  same : ∀ a o, H a = some o → H' a = some o
  zd : ∀ a, Z' a → H' a ≠ none
section
variable {w : Wd} {A : Act} {Z Z' Z1 Z2 : Addr → Prop} {H H' H1 H2 : Hp} {ρ ρ' ρ1 ρ2 : En} {σ : St}
theorem XS.refl : XS ρ σ Z H ρ Z H := ⟨fun _ h => h, fun _ h => .inl h, fun _ _ h _ => h, fun _ h => h, fun _ h => h⟩
theorem XS.trans (a : XS ρ σ Z H ρ1 Z1 H1) (b : XS ρ1 σ Z1 H1 ρ2 Z2 H2) : XS ρ σ Z H ρ2 Z2 H2 where
  z := fun x h => b.z x (a.z x h)
  zg := fun x h => by
    rcases b.zg x h with h | h | h
    · exact a.zg x h
    · exact .inr (.inl (a.dom x h))
    · exact .inr (.inr (a.ow x h))
  kp := fun x o r n => b.kp x o (a.kp x o r n) fun q => n (a.ow x q)
  dom := fun x h => a.dom x (b.dom x h)
  ow := fun x h => a.ow x (b.ow x h)
theorem SR.ownH (s : SR w A Z H ρ σ) {a : Addr} (h : Own ρ σ a) : ¬ Z a ∧ ∃ o, H a = some o ∧ plainO o = true ∧ ∀ xs, o ≠ .tup xs := by
  obtain ⟨i, b, o, h1, h2⟩ := h
  obtain ⟨a', e1, e2, e3, _⟩ := s.own i b o h1
  rw [h2] at e1
  cases e1
  refine ⟨e2, ?_⟩
  cases o with
  | lst l => obtain ⟨xs, q, _⟩ := e3; exact ⟨_, q, rfl, fun _ z => nomatch z⟩
  | dic l =>
    rcases e3 with ⟨_, q, _⟩ | ⟨_, q, _⟩
    · exact ⟨_, q, rfl, fun _ z => nomatch z⟩
    · exact ⟨_, q, rfl, fun _ z => nomatch z⟩
  | ins c fs => obtain ⟨_, _, _, q, _⟩ := e3; exact ⟨_, q, rfl, fun _ z => nomatch z⟩
theorem SR.zn (s : SR w A Z H ρ σ) {a : Addr} (h : Z a) : ¬ Own ρ σ a := fun q => (s.ownH q).1 h
theorem SR.tn (s : SR w A Z H ρ σ) {a : Addr} {xs : List V} (h : Rd H a (.tup xs)) : ¬ Own ρ σ a := fun q => by
  obtain ⟨_, o, e, p, n⟩ := s.ownH q
  rcases h with h | ⟨o', h⟩
  · rw [e] at h; cases h; exact n _ rfl
  · rw [e] at h; cases h; cases p
/-- a value stays what it is through a step -/
theorem SR.rep (s : SR w A Z H ρ σ) (x : XS ρ σ Z H ρ' Z' H') {v : V} {d : D} (r : Rep w Z H v d) : Rep w Z' H' v d :=
  r.stay x.z (fun a u z q => x.kp a u q (s.zn z)) fun a xs q => q.mv fun u h => x.kp a u h (s.tn q.rd)
theorem SR.reps (s : SR w A Z H ρ σ) (x : XS ρ σ Z H ρ' Z' H') {v : List V} {d : List D} (r : Reps w Z H v d) : Reps w Z' H' v d :=
  r.stay x.z (fun a u z q => x.kp a u q (s.zn z)) fun a xs q => q.mv fun u h => x.kp a u h (s.tn q.rd)
theorem Rd.same (h : ∀ a o, H a = some o → H' a = some o) {a : Addr} {u : HO} (r : Rd H a u) : Rd H' a u := by
  rcases r with r | ⟨o, r⟩
  · exact .inl (h _ _ r)
  · exact .inr ⟨o, h _ _ r⟩
theorem P0.refl (zd : ∀ a, Z a → H a ≠ none) : P0 Z H Z H := ⟨fun _ h => h, fun _ h => .inl h, fun _ _ h => h, zd⟩
theorem P0.rep (p : P0 Z H Z' H') {v : V} {d : D} (r : Rep w Z H v d) : Rep w Z' H' v d := r.stay p.z (fun a u _ q => p.same a u q) fun _ _ q => q.mv fun u h => p.same _ u h
theorem P0.reps (p : P0 Z H Z' H') {v : List V} {d : List D} (r : Reps w Z H v d) : Reps w Z' H' v d := r.stay p.z (fun a u _ q => p.same a u q) fun _ _ q => q.mv fun u h => p.same _ u h
theorem P0.repKs (p : P0 Z H Z' H') {v : List (Key × V)} {d : List (D × D)} (r : RepKs w Z H v d) : RepKs w Z' H' v d := r.stay p.z (fun a u _ q => p.same a u q) fun _ _ q => q.mv fun u h => p.same _ u h
theorem P0.repTs (p : P0 Z H Z' H') {v : List (List Key × V)} {d : List (D × D)} (r : RepTs w Z H v d) : RepTs w Z' H' v d := r.stay p.z (fun a u _ q => p.same a u q) fun _ _ q => q.mv fun u h => p.same _ u h
theorem P0.repFs (p : P0 Z H Z' H') {v : List (Str × V)} {d : List (D × D)} (r : RepFs w Z H v d) : RepFs w Z' H' v d := r.stay p.z (fun a u _ q => p.same a u q) fun _ _ q => q.mv fun u h => p.same _ u h
theorem P0.ownRep (p : P0 Z H Z' H') {a : Addr} : ∀ {o : Ob}, OwnRep w Z H a o → OwnRep w Z' H' a o
  | .lst l, ⟨xs, e, r⟩ => ⟨xs, p.same _ _ e, p.reps r⟩
  | .dic l, .inl ⟨kvs, e, r⟩ => .inl ⟨kvs, p.same _ _ e, p.repKs r⟩
  | .dic l, .inr ⟨kvs, e, r⟩ => .inr ⟨kvs, p.same _ _ e, p.repTs r⟩
  | .ins c fs, ⟨C, dx, fv, e, m, r⟩ => ⟨C, dx, fv, p.same _ _ e, m, p.repFs r⟩
theorem P0.xs (p : P0 Z H Z' H') : XS ρ σ Z H ρ Z' H' where
  z := p.z
  zg := fun a h => (p.zg a h).elim .inl fun q => .inr (.inl q)
  kp := fun a o r _ => p.same a o r
  dom := fun a h => by
    cases q : H a with
    | none => rfl
    | some o => rw [p.same a o q] at h; cases h
  ow := fun _ h => h
theorem P0.trans (a : P0 Z H Z1 H1) (b : P0 Z1 H1 Z2 H2) : P0 Z H Z2 H2 where
  z := fun x h => b.z x (a.z x h)
  zg := fun x h => (b.zg x h).elim (a.zg x) fun q => .inr ((a.xs (ρ := []) (σ := [])).dom x q)
  same := fun x o h => b.same x o (a.same x o h)
  zd := b.zd
theorem SR.p0 (s : SR w A Z H ρ σ) (p : P0 Z H Z' H') : SR w A Z' H' ρ σ where
  len := s.len
  sh := fun i d h => let ⟨v, e, r⟩ := s.sh i d h; ⟨v, e, p.rep r⟩
  own := fun i b o h => by
    obtain ⟨a, e, z, r, g1, g2⟩ := s.own i b o h
    refine ⟨a, e, fun q => ?_, p.ownRep r, g1, g2⟩
    rcases p.zg a q with q | q
    · exact z q
    · obtain ⟨_, o', e', _⟩ := s.ownH ⟨i, b, o, h, e⟩
      rw [q] at e'; cases e'
  inj := s.inj
  frame := fun a o h n => p.same a o (s.frame a o h n)
  zf := fun a h => (p.zg a h).elim (s.zf a) fun q => .inr (s.dom a q)
  z0 := fun a h => p.z a (s.z0 a h)
  dom := fun a h => s.dom a ((p.xs (ρ := ρ) (σ := σ)).dom a h)
  zd := p.zd
end

/-! ### readings -/
/-- an exception: its class and its own dict -/
def RepX (w : Wd) (Z : Addr → Prop) (H : Hp) (cls : Value) (od : Option Addr) (x : D) : Prop :=
  ∃ c C l, x = .dict ((.none, .str c) :: l) ∧ w.mg c = some (.ref C) ∧ cls = .ref C ∧ ((od = none ∧ l = []) ∨ ∃ d fv, od = some d ∧ H d = some (.xd fv) ∧ RepFs w Z H fv l)
def Post {α : Type} (w : Wd) (W : WX) (A : Act) (Z : Addr → Prop) (H : Hp) (ρ : En) (σ : St) (r : R α) (P : α → (Addr → Prop) → Hp → En → Prop) : Prop := match r with
  | .ok a ρ' => ∀ Z' H', XS ρ σ Z H ρ' Z' H' → SR w A Z' H' ρ' σ → P a Z' H' ρ'
  | .exc x ρ' => ∀ cls od Z' H', XS ρ σ Z H ρ' Z' H' → SR w A Z' H' ρ' σ → RepX w Z' H' cls od x → W cls od σ H'
  | .stuck => False
def tD (w : Wd) (W : WX) (F : M D) : TE := fun σ H Q => ∃ A Z ρ, SR w A Z H ρ σ ∧ Post w W A Z H ρ σ (F ρ) fun d Z' H' _ => ∀ v, Rep w Z' H' v d → Q v H'
def tDT (w : Wd) (W : WX) (F : M Bool) : TT := fun σ H Q => ∃ A Z ρ, SR w A Z H ρ σ ∧ Post w W A Z H ρ σ (F ρ) fun b _ H' _ => Q b H'
def OpR1 (w : Wd) (Z : Addr → Prop) (H : Hp) (σ : St) (v : V) : Opd → Prop
  | .val d => Rep w Z H v d
  | .slot i => σ[i]? = some (some v)
inductive OpRs (w : Wd) (Z : Addr → Prop) (H : Hp) (σ : St) : List V → List Opd → Prop
  | nil : OpRs w Z H σ [] []
  | cons {v : V} {o : Opd} {vs : List V} {os : List Opd} : OpR1 w Z H σ v o → OpRs w Z H σ vs os → OpRs w Z H σ (v :: vs) (o :: os)
def tDA (w : Wd) (W : WX) (F : M (List Opd)) : TA := fun σ H Q => ∃ A Z ρ, SR w A Z H ρ σ ∧ Post w W A Z H ρ σ (F ρ) fun os Z' H' _ => ∀ vs, OpRs w Z' H' σ vs os → Q vs H'
/-- a value that is read: shared, or owned at its top -/
def Rep1 (w : Wd) (Z : Addr → Prop) (H : Hp) (v : V) (d : D) : Prop := Rep w Z H v d ∨ ∃ a o, v = .ref a ∧ d = o.d ∧ OwnRep w Z H a o
inductive Rep1s (w : Wd) (Z : Addr → Prop) (H : Hp) : List V → List D → Prop
  | nil : Rep1s w Z H [] []
  | cons {v : V} {d : D} {vs : List V} {ds : List D} : Rep1 w Z H v d → Rep1s w Z H vs ds → Rep1s w Z H (v :: vs) (d :: ds)

section
variable {w : Wd} {W : WX} {A : Act} {Z Z' Z1 Z2 : Addr → Prop} {H H' H1 H2 : Hp} {ρ ρ' ρ1 ρ2 : En} {σ : St} {X : Cx}
/-- from here on: a step further back -/
theorem Post.imp {α : Type} {r : R α} {P Q : α → (Addr → Prop) → Hp → En → Prop} (h : Post w W A Z H ρ σ r P) (f : ∀ a Z' H' ρ', XS ρ σ Z H ρ' Z' H' → SR w A Z' H' ρ' σ → P a Z' H' ρ' → Q a Z' H' ρ') : Post w W A Z H ρ σ r Q := by
  cases r with
  | ok a ρ' => exact fun Z' H' x s => f a Z' H' ρ' x s (h Z' H' x s)
  | exc x ρ' => exact h
  | stuck => exact h
theorem Post.back {α : Type} {r : R α} {P : α → (Addr → Prop) → Hp → En → Prop} (x : XS ρ σ Z H ρ1 Z1 H1) (h : Post w W A Z H ρ σ r P) : Post w W A Z1 H1 ρ1 σ r P := by
  cases r with
  | ok a ρ' => exact fun Z' H' y s => h Z' H' (x.trans y) s
  | exc e ρ' => exact fun cls od Z' H' y s => h cls od Z' H' (x.trans y) s
  | stuck => exact h
/-- two in a row -/
theorem Post.bnd {α β : Type} {m : M α} {f : α → M β} {P : β → (Addr → Prop) → Hp → En → Prop} (h : Post w W A Z H ρ σ (bnd m f ρ) P) :
    Post w W A Z H ρ σ (m ρ) fun a Z1 H1 ρ1 => XS ρ σ Z H ρ1 Z1 H1 ∧ SR w A Z1 H1 ρ1 σ ∧ Post w W A Z1 H1 ρ1 σ (f a ρ1) P := by
  unfold M3.bnd at h
  cases e : m ρ with
  | ok a ρ1 =>
    rw [e] at h
    exact fun Z1 H1 x s => ⟨x, s, h.back x⟩
  | exc x ρ1 => rw [e] at h; exact h
  | stuck => rw [e] at h; exact h
theorem tD.imp {F : M D} {Q Q' : VK} (h : tD w W F σ H Q) (f : ∀ v H', Q v H' → Q' v H') : tD w W F σ H Q' := by
  obtain ⟨A, Z, ρ, s, p⟩ := h
  exact ⟨A, Z, ρ, s, p.imp fun a Z' H' ρ' _ _ k v r => f v H' (k v r)⟩
theorem PE.imp {e : Expr} {t t' : TE} (h : PE X e t) (f : ∀ σ H Q, t' σ H Q → t σ H Q) : PE X e t' := ⟨fun pins s σ H Q I q => h.run pins s σ H Q I (f σ H Q q)⟩
theorem PT.imp {e : Expr} {t t' : TT} (h : PT X e t) (f : ∀ σ H Q, t' σ H Q → t σ H Q) : PT X e t' := ⟨fun pins s σ H Q I q => h.run pins s σ H Q I (f σ H Q q)⟩
theorem PA.imp {e : List Expr} {t t' : TA} (h : PA X e t) (f : ∀ σ H Q, t' σ H Q → t σ H Q) : PA X e t' := ⟨fun pos pins s σ H Q I q => h.run pos pins s σ H Q I (f σ H Q q)⟩
theorem PS.imp {e : Stmt} {t t' : TS} (h : PS X e t) (f : ∀ D σ H, t' D σ H → t D σ H) : PS X e t' := ⟨fun pins s σ H D I q => h.run pins s σ H D I (f D σ H q)⟩
theorem PSs.imp {e : List Stmt} {t t' : TS} (h : PSs X e t) (f : ∀ D σ H, t' D σ H → t D σ H) : PSs X e t' := ⟨fun pins s σ H D I q => h.run pins s σ H D I (f D σ H q)⟩
theorem OpR1.step (s : SR w A Z H ρ σ) (x : XS ρ σ Z H ρ' Z' H') {v : V} : ∀ {o : Opd}, OpR1 w Z H σ v o → OpR1 w Z' H' σ v o
  | .val d, r => s.rep x r
  | .slot i, r => r
theorem OpRs.step (s : SR w A Z H ρ σ) (x : XS ρ σ Z H ρ' Z' H') : ∀ {vs : List V} {os : List Opd}, OpRs w Z H σ vs os → OpRs w Z' H' σ vs os
  | _, _, .nil => .nil
  | _, _, .cons h t => .cons (OpR1.step s x h) (OpRs.step s x t)
theorem OpR1.rslv (s : SR w A Z H ρ σ) {v : V} {d : D} : ∀ {o : Opd}, OpR1 w Z H σ v o → rslv ρ o = some d → Rep1 w Z H v d
  | .val d', r, e => by
    have e' : d' = d := Option.some.inj e
    subst e'
    exact .inl r
  | .slot i, r, e => by
    have r : σ[i]? = some (some v) := r
    unfold M3.rslv at e
    dsimp only at e
    cases q : ρ[i]? with
    | none => rw [q] at e; cases e
    | some sl =>
      rw [q] at e
      cases sl with
      | no => cases e
      | sh d' =>
        have e' : d' = d := Option.some.inj e
        subst e'
        obtain ⟨v', e1, rr⟩ := s.sh i _ q
        rw [r] at e1
        cases e1
        exact .inl rr
      | own b o =>
        have e' : o.d = d := Option.some.inj e
        subst e'
        obtain ⟨a, e1, _, rr, _⟩ := s.own i b o q
        rw [r] at e1
        cases e1
        exact .inr ⟨a, o, rfl, rfl, rr⟩
theorem OpRs.rslvs (s : SR w A Z H ρ σ) : ∀ {vs : List V} {os : List Opd} {ds : List D}, OpRs w Z H σ vs os → rslvs ρ os = some ds → Rep1s w Z H vs ds
  | _, _, ds, .nil, e => by
    have e : some [] = some ds := e
    cases e
    exact .nil
  | _, _, ds, @OpRs.cons _ _ _ _ v o vs os h t, e => by
    unfold M3.rslvs at e
    cases q : rslv ρ o with
    | none => rw [q] at e; cases e
    | some d =>
      rw [q] at e
      have e : (M3.rslvs ρ os).map (d :: ·) = some ds := e
      cases q2 : M3.rslvs ρ os with
      | none => rw [q2] at e; cases e
      | some ds' =>
        rw [q2] at e
        cases e
        exact .cons (h.rslv s q) (OpRs.rslvs s t q2)
end
end M3
set_option Elab.async false
set_option linter.all false
set_option maxRecDepth 100000
namespace M3
open PySem PySem.Spec L2
open PyProof.Rows hiding St

abbrev wdX (X : Cx) : Wd := ⟨X.K, X.mg⟩
def rAp (w : Wd) (o : Op) : List V → Hp → VK → Prop := fun vs H Q => ∃ Z ds d, (∀ a, Z a → H a ≠ none) ∧ Rep1s w Z H vs ds ∧ ap o ds = some d ∧ ∀ v Z' H', P0 Z H Z' H' → Rep w Z' H' v d → Q v H'
def r2Ap (w : Wd) (o : Op) : R2 := fun x y H Q => rAp w o [x, y] H Q
def r1Ap (w : Wd) (o : Op) : V → Hp → VK → Prop := fun x H Q => rAp w o [x] H Q

/-! ### reading what is represented -/
section
variable {w : Wd} {Z Z' : Addr → Prop} {H H' : Hp} {v : V} {X : Cx} {pins : List (Addr × Obj)} {σ : St} {s : Shared}
theorem Rep1.int {i : Int} (h : Rep1 w Z H v (.int i)) : v = .int i := by
  rcases h with h | ⟨a, o, _, e, _⟩
  · cases h; rfl
  · cases o <;> cases e
theorem Rep1.bool {i : Bool} (h : Rep1 w Z H v (.bool i)) : v = .bl i := by
  rcases h with h | ⟨a, o, _, e, _⟩
  · cases h; rfl
  · cases o <;> cases e
theorem Rep1.none (h : Rep1 w Z H v .none) : v = .non := by
  rcases h with h | ⟨a, o, _, e, _⟩
  · cases h; rfl
  · cases o <;> cases e
theorem Rep1.str {i : Str} (h : Rep1 w Z H v (.str i)) : v = .str i ∧ sOk i = true := by
  rcases h with h | ⟨a, o, _, e, _⟩
  · cases h with | str x k => exact ⟨rfl, k⟩
  · cases o <;> cases e
theorem Rep1.list {l : List D} (h : Rep1 w Z H v (.list l)) : ∃ a xs, v = .ref a ∧ Rd H a (.lst xs) ∧ Reps w Z H xs l := by
  rcases h with h | ⟨a, o, rfl, e, r⟩
  · cases h with | lst z s r => exact ⟨_, _, rfl, s, r⟩
  · cases o with
    | lst l' =>
      cases e
      obtain ⟨xs, e, r⟩ := r
      exact ⟨a, xs, rfl, .inl e, r⟩
    | dic l' => cases e
    | ins c fs => cases e
theorem Rep1.tuple {l : List D} (h : Rep1 w Z H v (.tuple l)) : ∃ a xs, v = .ref a ∧ TpR H a xs ∧ Reps w Z H xs l := by
  rcases h with h | ⟨a, o, _, e, _⟩
  · cases h with | tup s r => exact ⟨_, _, rfl, s, r⟩
  · cases o <;> cases e
theorem Rep1s.one {d : D} {vs : List V} (h : Rep1s w Z H vs [d]) : ∃ x, vs = [x] ∧ Rep1 w Z H x d := by
  cases h with | cons h t => cases t; exact ⟨_, rfl, h⟩
theorem Rep1s.two {d e : D} {vs : List V} (h : Rep1s w Z H vs [d, e]) : ∃ x y, vs = [x, y] ∧ Rep1 w Z H x d ∧ Rep1 w Z H y e := by
  cases h with | cons h t => cases t with | cons h2 t => cases t; exact ⟨_, _, rfl, h, h2⟩
theorem Rep1s.v1 {x : V} {ds : List D} (h : Rep1s w Z H [x] ds) : ∃ d, ds = [d] ∧ Rep1 w Z H x d := by
  cases h with | cons h t => cases t; exact ⟨_, rfl, h⟩
theorem Rep1s.v2 {x y : V} {ds : List D} (h : Rep1s w Z H [x, y] ds) : ∃ d e, ds = [d, e] ∧ Rep1 w Z H x d ∧ Rep1 w Z H y e := by
  cases h with | cons h t => cases t with | cons h2 t => cases t; exact ⟨_, _, rfl, h, h2⟩
theorem sOk_len {x : Str} (h : sOk x = true) : x.length ≤ 1000000 := of_decide_eq_true (Bool.and_eq_true_iff.mp h).2
theorem sOk_ok {x : Str} (h : sOk x = true) : PyData.strOk x = true := (Bool.and_eq_true_iff.mp h).1
theorem line_lim {n : Nat} (h : n ≤ 1000000) : n ≤ sizeLine := by rw [sizeLine_eq]; omega
theorem Reps.strsD_all : ∀ {xs : List V} {l : List D} {ss : List Str}, Reps w Z H xs l → strsD l = some ss → xs = ss.map V.str ∧ (∀ x ∈ ss, sOk x = true) ∧ l = ss.map PyData.str
  | _, _, ss, .nil, e => by cases e; exact ⟨rfl, (fun _ h => nomatch h), rfl⟩
  | _, _, ss, @Reps.cons _ _ _ v vs d ds h t, e => by
    cases d with
    | str x =>
      have e : (strsD ds).map (x :: ·) = some ss := e
      cases q : strsD ds with
      | none => rw [q] at e; cases e
      | some ss' =>
        rw [q] at e
        cases e
        obtain ⟨h1, h2, h3⟩ := Reps.strsD_all t q
        cases h with
        | str _ k =>
          refine ⟨by rw [h1]; rfl, fun y hy => ?_, by rw [h3]; rfl⟩
          rcases List.mem_cons.mp hy with rfl | hy
          · exact k
          · exact h2 y hy
    | _ => cases e
theorem Reps.boolsD : ∀ {xs : List V} {l : List D} {ss : List Bool}, Reps w Z H xs l → boolsD l = some ss → xs = ss.map V.bl
  | _, _, ss, .nil, e => by cases e; rfl
  | _, _, ss, @Reps.cons _ _ _ v vs d ds h t, e => by
    cases d with
    | bool x =>
      have e : (M3.boolsD ds).map (x :: ·) = some ss := e
      cases q : M3.boolsD ds with
      | none => rw [q] at e; cases e
      | some ss' =>
        rw [q] at e
        cases e
        cases h
        rw [Reps.boolsD t q]
        rfl
    | _ => cases e
theorem Reps.intsD : ∀ {xs : List V} {l : List D} {ss : List Int}, Reps w Z H xs l → intsD l = some ss → xs = ss.map V.int
  | _, _, ss, .nil, e => by cases e; rfl
  | _, _, ss, @Reps.cons _ _ _ v vs d ds h t, e => by
    cases d with
    | int x =>
      have e : (M3.intsD ds).map (x :: ·) = some ss := e
      cases q : M3.intsD ds with
      | none => rw [q] at e; cases e
      | some ss' =>
        rw [q] at e
        cases e
        cases h
        rw [Reps.intsD t q]
        rfl
    | _ => cases e
theorem Reps.of_strs : ∀ {ss : List Str}, (∀ x ∈ ss, sOk x = true) → Reps w Z H (ss.map V.str) (ss.map PyData.str)
  | [], _ => .nil
  | x :: r, h => .cons (.str x (h x List.mem_cons_self)) (Reps.of_strs fun y hy => h y (List.mem_cons_of_mem _ hy))
theorem Reps.of_ints : ∀ {ss : List Int}, Reps w Z H (ss.map V.int) (ss.map PyData.int)
  | [] => .nil
  | x :: r => .cons (.int x) Reps.of_ints
/-- a new object -/
def addZ (Z : Addr → Prop) (p : Addr) : Addr → Prop := fun a => Z a ∨ a = p
theorem P0.new {p : Addr} {o : HO} (zd : ∀ a, Z a → H a ≠ Option.none) (hp : H p = Option.none) : P0 Z H (addZ Z p) (upd H p o) where
  z := fun a h => .inl h
  zg := fun a h => h.elim .inl fun e => .inr (e ▸ hp)
  same := fun a o' h => by rw [upd_ne (ne_of_none h hp)]; exact h
  zd := fun a h => by
    by_cases e : a = p
    · subst e; rw [upd_same]; exact fun z => nomatch z
    · rw [upd_ne e]; exact zd a (h.elim id fun q => absurd q e)
theorem P0.newT {p : Addr} {o : HO} (zd : ∀ a, Z a → H a ≠ Option.none) (hp : H p = Option.none) : P0 Z H Z (upd H p o) where
  z := fun a h => h
  zg := fun a h => .inl h
  same := fun a o' h => by rw [upd_ne (ne_of_none h hp)]; exact h
  zd := fun a h => by
    by_cases e : a = p
    · subst e; rw [upd_same]; exact fun z => nomatch z
    · rw [upd_ne e]; exact zd a h
/-- a list, a tuple just made -/
theorem new_list {w : Wd} {Z : Addr → Prop} {H : Hp} {l : List D} {xs : List V} {Q : VK} (zd : ∀ a, Z a → H a ≠ Option.none) (r : Reps w Z H xs l) (k : ∀ v Z' H', P0 Z H Z' H' → Rep w Z' H' v (.list l) → Q v H') :
    ∀ p, H p = Option.none → Q (.ref p) (upd H p (.lst xs)) := fun p hp =>
  k _ _ _ (P0.new zd hp) (.lst (.inr rfl) (.inl upd_same) ((P0.new (o := .lst xs) zd hp).reps r))
theorem new_tuple {w : Wd} {Z : Addr → Prop} {H : Hp} {l : List D} {xs : List V} {Q : VK} (zd : ∀ a, Z a → H a ≠ Option.none) (r : Reps w Z H xs l) (k : ∀ v Z' H', P0 Z H Z' H' → Rep w Z' H' v (.tuple l) → Q v H') :
    ∀ p o, H p = Option.none → o.dict = Option.none → Q (.ref p) (upd H p (.frz o (.tup xs))) := fun p o hp ho =>
  k _ _ _ (P0.newT zd hp) (.tup ⟨o, upd_same, ho⟩ ((P0.newT (o := .frz o (.tup xs)) zd hp).reps r))
/-- a tuple just laid -/
theorem tupNew {X : Cx} {pins : List (Addr × Obj)} {σ : St} {H : Hp} {s : Shared} {xs : List V} {its : List Value} {t' : Nat} (I : Inv X pins σ H s) (r : Vals xs its) (hz : xs.length ≤ sizeLine) :
    Inv X pins σ (upd H s.heap.objs.size (.frz { cls := .type "tuple", data := .seq its.toArray } (.tup xs))) { s with heap := s.heap.push { cls := .type "tuple", data := .seq its.toArray }, toks := t' } :=
  I.laid (fun _ _ e => Heap.get?_push_of_some _ e) (Nat.le_refl _) ⟨Heap.get?_push_size _ rfl, hz, its, r, IsTup.new _ _⟩
/-- the rules that make tuples, their objects known -/
theorem catF {X : Cx} : OpR X (binaryOp .Add) (fun x y H Q => ∃ a b xs ys, x = .ref a ∧ y = .ref b ∧ SqT X.K H a xs ∧ SqT X.K H b ys ∧ xs.length + ys.length ≤ sizeLine ∧ (xs = [] → Q (.ref b) H) ∧ (xs ≠ [] → ys = [] → Q (.ref a) H) ∧
    (xs ≠ [] → ys ≠ [] → ∀ p o, H p = Option.none → o.dict = Option.none → Q (.ref p) (upd H p (.frz o (.tup (xs ++ ys)))))) := by
  intro pins s σ H x y v u Q I rx ry h
  obtain ⟨a, b, xs, ys, rfl, rfl, ha, hb, hz, q0, q1, q2⟩ := h
  by_cases hx : xs = []
  · exact op_catA pins s σ H _ _ v u Q I rx ry ⟨a, b, xs, ys, rfl, rfl, ha, hb, hz, q0, q1, fun h => absurd hx h⟩
  · cases rx
    cases ry
    obtain ⟨its, r1, p1, _⟩ := I.tuple ha
    obtain ⟨its2, r2, p2, _⟩ := I.tuple hb
    refine HT.cat_tup p1 p2 (fun z => hx (r1.nil_iff.mp z)) (fun z => ⟨.ref a, H, I, rfl, q1 hx (r2.nil_iff.mp z)⟩) (fun z => ?_) (by rw [← r1.length, ← r2.length]; exact hz)
    exact ⟨.ref s.heap.objs.size, _, tupNew I (r1.append r2) (by rw [List.length_append]; exact hz), rfl, q2 hx (fun w => z (r2.nil_iff.mpr w)) _ _ (I.hok.fresh (Nat.le_refl _)) rfl⟩
theorem slF {X : Cx} : SlR X (fun x lo hi H Q => ∃ a xs, x = .ref a ∧ SqT X.K H a xs ∧ (HT.sIx xs.length 0 lo = 0 ∧ HT.sIx xs.length xs.length hi = xs.length → Q (.ref a) H) ∧
    (¬ (HT.sIx xs.length 0 lo = 0 ∧ HT.sIx xs.length xs.length hi = xs.length) → ∀ p o, H p = Option.none → o.dict = Option.none → Q (.ref p) (upd H p (.frz o (.tup (cutV xs lo hi)))))) := by
  intro pins s σ H x v vl vu lo hi sl Q I rx hs pl pu h
  obtain ⟨a, xs, rfl, hx, q1, q2⟩ := h
  by_cases hw : HT.sIx xs.length 0 lo = 0 ∧ HT.sIx xs.length xs.length hi = xs.length
  · exact sl_tupA pins s σ H _ v vl vu lo hi sl Q I rx hs pl pu ⟨a, xs, rfl, hx, q1, fun h => absurd hw h⟩
  · cases rx
    obtain ⟨its, r, ht, hz⟩ := I.tuple hx
    have hlen : its.toArray.size = xs.length := by rw [List.size_toArray]; exact r.length.symm
    refine ⟨"tuple", _, PyProof.Rows.slot_tuple_getitem.lookup, ht.typeIs, ?_⟩
    refine HT.getItem_tuple_cut ht hs pl pu (by rw [hlen]; exact hw) ?_ (by rw [hlen]; exact hz)
    rw [hlen]
    exact ⟨.ref s.heap.objs.size, _, tupNew I ((r.drop (HT.sIx xs.length 0 lo)).take (HT.sIx xs.length xs.length hi - HT.sIx xs.length 0 lo)) (Nat.le_trans (cutV_length xs lo hi) hz), rfl, q2 hw _ _ (I.hok.fresh (Nat.le_refl _)) rfl⟩
theorem divmodF {X : Cx} : CallR X (.builtin "divmod") (fun xs H Q => ∃ i j, xs = [.int i, .int j] ∧ CDiv i j ∧ ∀ p o, H p = Option.none → o.dict = Option.none → Q (.ref p) (upd H p (.frz o (.tup [.int (i / j), .int (i % j)])))) := by
  intro pins s σ H xs us Q I r h
  obtain ⟨i, j, rfl, ⟨h1, h2⟩, q⟩ := h
  obtain ⟨u, w', rfl, ⟨t, rfl⟩, ⟨t', rfl⟩⟩ := vals2 r
  refine divmod_int (by omega) ?_ (.inl (PyProof.noPylong_small (by omega)))
  rw [Int.fdiv_eq_ediv_of_nonneg i (by omega), Int.fmod_eq_emod_of_nonneg i (by omega)]
  refine ⟨.ref s.heap.objs.size, _, tupNew (xs := [.int (i / j), .int (i % j)]) (its := [.int (i / j) s.toks, .int (i % j) (s.toks + 1)]) I (.cons ⟨_, rfl⟩ (.cons ⟨_, rfl⟩ .nil)) ?_, rfl, q _ _ (I.hok.fresh (Nat.le_refl _)) rfl⟩
  show 2 ≤ sizeLine
  decide
theorem tupleF {X : Cx} : CallR X (.type "tuple") (fun xs H Q => ∃ p ys, xs = [.ref p] ∧ ((SqL X.K H p ys ∧ ∀ l o, H l = Option.none → o.dict = Option.none → Q (.ref l) (upd H l (.frz o (.tup ys)))) ∨ (SqT X.K H p ys ∧ Q (.ref p) H))) := by
  intro pins s σ H xs us Q I r h
  obtain ⟨p, ys, rfl, h⟩ := h
  obtain ⟨u, rfl, rx⟩ := vals1 r
  cases rx
  rcases h with ⟨hq, q⟩ | ⟨hq, q⟩
  · obtain ⟨its, r', pl, hz⟩ := I.list hq
    have hlen := r'.length
    refine call_tuple_list pl.isList (fun h' kp => ?_) (by simp only [List.size_toArray] <;> omega)
    have I1 : Inv X pins σ H { s with heap := h' } := I.kept (t' := s.toks) kp
    exact ⟨.ref h'.objs.size, _, tupNew (s := { s with heap := h' }) I1 r' hz, rfl, q _ _ (I1.hok.fresh (Nat.le_refl _)) rfl⟩
  · obtain ⟨its, r', pl, hz⟩ := I.tuple hq
    exact call_tuple_same pl ⟨.ref p, H, I, rfl, q⟩
def tTupF (t : TA) : TE := fun σ H Q => t σ H fun xs H1 => xs.length ≤ sizeLine ∧ ∀ p o, H1 p = Option.none → o.dict = Option.none → Q (.ref p) (upd H1 p (.frz o (.tup xs)))
theorem pe_tupF {X : Cx} {es : List Expr} {t : TA} {pos : Pos} {x1} (h : PA X es t) : PE X (.Tuple es x1 pos) (tTupF t) := by
  refine ⟨fun pins s σ H Q I hq => ?_⟩
  refine wpAny_Tuple_spliced (thn (h.run pos pins s σ H _ I hq) fun us s1 ⟨xs, H1, I1, r, z, q⟩ => ⟨by rw [← r.length]; exact z, ?_⟩)
  exact ⟨.ref s1.heap.objs.size, _, tupNew I1 r z, rfl, q _ _ (I1.hok.fresh (Nat.le_refl _)) rfl⟩
theorem Rd.lstM {a : Addr} {xs : List V} (I : Inv X pins σ H s) (h : Rd H a (.lst xs)) : ∃ its n, xs.length ≤ sizeLine ∧ Vals xs its ∧ xs.length = its.length ∧ s.heap.get? a = some { cls := .type "list", data := .seq its.toArray n } := by
  obtain ⟨z, its, n, r, e⟩ := h.ok I.hok
  exact ⟨its, n, z, r, r.length, e⟩
/-- data without dicts, as the library reads it -/
theorem noD_list {l : List D} (h : (PyData.list l).hasDict = false) : PyData.hasDictAll l = false := h
mutual
theorem Rep.reads (I : Inv X pins σ H s) : ∀ {v : V} {d : D} {u : Value}, Rep (wdX X) Z H v d → d.hasDict = false → RelV v u → ∃ as, Reads s.heap u d as ∧ d.canLay0 = true
  | _, _, _, .non, _, r => by cases r; exact ⟨_, Reads.none, rfl⟩
  | _, _, _, .bl b, _, r => by cases r; exact ⟨_, Reads.bool b, rfl⟩
  | _, _, _, .int i, _, r => by obtain ⟨t, rfl⟩ := r; exact ⟨_, Reads.int i t, rfl⟩
  | _, _, _, .str x k, _, r => by obtain ⟨t, rfl⟩ := r; exact ⟨_, Reads.str x t, sOk_ok k⟩
  | _, _, _, .tup hs ha, n, r => by
    cases r
    obtain ⟨its, rv, ⟨o, ho, hc, n', hd⟩, _⟩ := I.tuple hs.sq
    obtain ⟨as, hr, hl⟩ := Reps.reads I ha (show PyData.hasDictAll _ = false from n) rv
    exact ⟨_, Reads.tuple ho hc hd hr, hl⟩
  | _, _, _, .lst _ hs ha, n, r => by
    cases r
    obtain ⟨its, n', _, rv, _, e⟩ := Rd.lstM I hs
    obtain ⟨as, hr, hl⟩ := Reps.reads I ha (show PyData.hasDictAll _ = false from n) rv
    exact ⟨_, Reads.list e rfl rfl hr, hl⟩
  | _, _, _, .dK _ _ _, n, _ => by cases n
  | _, _, _, .dT _ _ _, n, _ => by cases n
  | _, _, _, .ins _ _ _ _, n, _ => by cases n
theorem Reps.reads (I : Inv X pins σ H s) : ∀ {vs : List V} {ds : List D} {us : List Value}, Reps (wdX X) Z H vs ds → PyData.hasDictAll ds = false → Vals vs us → ∃ as, ReadsAll s.heap us ds as ∧ PyData.canLayAll0 ds = true
  | _, _, _, .nil, _, r => by cases r; exact ⟨_, ReadsAll.nil, rfl⟩
  | _, _, _, @Reps.cons _ _ _ v vs d ds h t, n, r => by
    cases r with
    | cons r1 r2 =>
      have n : (d.hasDict || PyData.hasDictAll ds) = false := n
      obtain ⟨n1, n2⟩ := Bool.or_eq_false_iff.mp n
      obtain ⟨as, q1, c1⟩ := Rep.reads I h n1 r1
      obtain ⟨bs, q2, c2⟩ := Reps.reads I t n2 r2
      exact ⟨_, ReadsAll.cons q1 q2, by show (d.canLay0 && PyData.canLayAll0 ds) = true; rw [c1, c2]; rfl⟩
end
theorem Rep1.reads (I : Inv X pins σ H s) {d : D} {u : Value} (h : Rep1 (wdX X) Z H v d) (n : d.hasDict = false) (r : RelV v u) : ∃ as, Reads s.heap u d as ∧ d.canLay0 = true := by
  rcases h with h | ⟨a, o, rfl, rfl, q⟩
  · exact Rep.reads I h n r
  · cases o with
    | lst l =>
      obtain ⟨xs, e, ha⟩ := q
      cases r
      obtain ⟨its, n', _, rv, _, e⟩ := Rd.lstM I (.inl e)
      obtain ⟨as, hr, hl⟩ := Reps.reads I ha (show PyData.hasDictAll _ = false from n) rv
      exact ⟨_, Reads.list e rfl rfl hr, hl⟩
    | dic l => cases n
    | ins c fs => cases n
end
end M3
set_option Elab.async false
set_option linter.all false
set_option maxRecDepth 100000
namespace M3
open PySem PySem.Spec L2
section
variable {X : Cx}
theorem lim_of {n : Nat} (h : n ≤ LIM) : n ≤ sizeLine := line_lim h
theorem sOk_append {x y : Str} (hx : sOk x = true) (hy : sOk y = true) (hl : x.length + y.length ≤ LIM) : sOk (x ++ y) = true := by
  unfold sOk
  rw [Bool.and_eq_true]
  refine ⟨?_, decide_eq_true ?_⟩
  · have h1 := sOk_ok hx
    have h2 := sOk_ok hy
    unfold PyData.strOk at h1 h2 ⊢
    show (x.cps ++ y.cps).all _ = true
    rw [Array.all_append, h1, h2]
    rfl
  · show (x.cps ++ y.cps).size ≤ LIM
    rw [Array.size_append]
    exact hl
theorem cat_any (w : Wd) {Z : Addr → Prop} {H : Hp} {xs zs : List V} {l m : List D} (r : Reps w Z H xs l) (q : Reps w Z H zs m) : Reps w Z H (xs ++ zs) (l ++ m) := r.append q
theorem R_add : OpR X (binaryOp .Add) (r2Ap (wdX X) .add) := by
  intro pins s σ H x y v u Q I rx ry h
  obtain ⟨Z, ds, d, zd, r, e, k⟩ := h
  obtain ⟨d1, d2, rfl, r1, r2⟩ := r.v2
  have e : iadd d1 d2 = some d := e
  unfold iadd at e
  split at e
  · cases e
    have e1 := r1.int
    have e2 := r2.int
    subst e1 e2
    exact op_add pins s σ H _ _ v u Q I rx ry ⟨_, _, rfl, rfl, k _ Z H (P0.refl zd) (.int _)⟩
  · split at e
    · cases e
      rename_i hl
      obtain ⟨e1, k1⟩ := r1.str
      obtain ⟨e2, k2⟩ := r2.str
      subst e1 e2
      exact op_add_str pins s σ H _ _ v u Q I rx ry ⟨_, _, rfl, rfl, lim_of hl, k _ Z H (P0.refl zd) (.str _ (sOk_append k1 k2 hl))⟩
    · cases e
  · split at e
    · cases e
      rename_i l m hl
      obtain ⟨a, xs, rfl, ha, ra⟩ := r1.list
      obtain ⟨b, ys, rfl, hb, rb⟩ := r2.list
      cases rx
      cases ry
      obtain ⟨its, n, z, rv, hlen, ea⟩ := Rd.lstM I ha
      obtain ⟨its2, n2, z2, rv2, hlen2, eb⟩ := Rd.lstM I hb
      have hl2 := lim_of hl
      rw [← ra.length, ← rb.length] at hl2
      refine PySem.P.add_list ea eb ?_ (by rw [List.size_toArray, List.size_toArray]; omega)
      have eq : its.toArray ++ its2.toArray = (its ++ its2).toArray := by simp
      rw [eq]
      exact ⟨.ref _, _, I.lnew (t' := s.toks) (rv.append rv2) (by rw [List.length_append]; omega), rfl, new_list zd (ra.append rb) k _ I.fresh⟩
    · cases e
  · split at e
    · cases e
      rename_i l m hl
      obtain ⟨a, xs, rfl, ha, ra⟩ := r1.tuple
      obtain ⟨b, ys, rfl, hb, rb⟩ := r2.tuple
      have hl2 := lim_of hl
      rw [← ra.length, ← rb.length] at hl2
      refine catF pins s σ H _ _ v u Q I rx ry ⟨a, b, xs, ys, rfl, rfl, ha.sq, hb.sq, hl2, fun e1 => ?_, fun _ e2 => ?_, fun _ _ => new_tuple zd (ra.append rb) k⟩
      · subst e1
        cases ra
        exact k _ Z H (P0.refl zd) (.tup hb rb)
      · subst e2
        cases rb
        rw [List.append_nil] at k
        exact k _ Z H (P0.refl zd) (.tup ha ra)
    · cases e
  · cases e
theorem R_sub : OpR X (binaryOp .Sub) (r2Ap (wdX X) .sub) := by
  intro pins s σ H x y v u Q I rx ry h
  obtain ⟨Z, ds, d, zd, r, e, k⟩ := h
  obtain ⟨d1, d2, rfl, r1, r2⟩ := r.v2
  cases d1 <;> try cases e
  cases d2 <;> try cases e
  have e1 := r1.int
  have e2 := r2.int
  subst e1 e2
  exact op_sub pins s σ H _ _ v u Q I rx ry ⟨_, _, rfl, rfl, k _ Z H (P0.refl zd) (.int _)⟩
theorem R_mod : OpR X (binaryOp .Mod) (r2Ap (wdX X) .mod) := by
  intro pins s σ H x y v u Q I rx ry h
  obtain ⟨Z, ds, d, zd, r, e, k⟩ := h
  obtain ⟨d1, d2, rfl, r1, r2⟩ := r.v2
  cases d1 with
  | int i =>
    cases d2 with
    | int j =>
      have e : (if 0 < j then some (PyData.int (i % j)) else none) = some d := e
      split at e
      · cases e
        rename_i hj
        have e1 := r1.int
        have e2 := r2.int
        subst e1 e2
        exact op_mod pins s σ H _ _ v u Q I rx ry ⟨_, _, rfl, rfl, hj, k _ Z H (P0.refl zd) (.int _)⟩
      · cases e
    | _ => cases e
  | _ => cases e
theorem and_true {a b : Bool} (h : (a && b) = true) : a = true ∧ b = true := Bool.and_eq_true_iff.mp h
theorem R_fdiv : OpR X (binaryOp .FloorDiv) (r2Ap (wdX X) .fdiv) := by
  intro pins s σ H x y v u Q I rx ry h
  obtain ⟨Z, ds, d, zd, r, e, k⟩ := h
  obtain ⟨d1, d2, rfl, r1, r2⟩ := r.v2
  cases d1 with
  | int i =>
    cases d2 with
    | int j =>
      have e : (if (decide (0 < j) && decide (j < 1073741824)) = true then some (PyData.int (i / j)) else none) = some d := e
      split at e
      · cases e
        rename_i hj
        obtain ⟨h1, h2⟩ := and_true hj
        have e1 := r1.int
        have e2 := r2.int
        subst e1 e2
        exact op_fdiv pins s σ H _ _ v u Q I rx ry ⟨_, _, rfl, rfl, ⟨of_decide_eq_true h1, of_decide_eq_true h2⟩, k _ Z H (P0.refl zd) (.int _)⟩
      · cases e
    | _ => cases e
  | _ => cases e
theorem small64_ok {i : Int} (h : small64 i = true) : -(2 ^ 64) < i ∧ i < 2 ^ 64 := by
  obtain ⟨h1, h2⟩ := and_true h
  exact ⟨of_decide_eq_true h1, of_decide_eq_true h2⟩
theorem Reps.flat {w : Wd} {Z : Addr → Prop} {H : Hp} {xs : List V} {l : List D} (r : Reps w Z H xs l) : ∀ n, Reps w Z H (List.replicate n xs).flatten (List.replicate n l).flatten
  | 0 => .nil
  | n + 1 => by
    rw [List.replicate_succ, List.replicate_succ, List.flatten_cons, List.flatten_cons]
    exact r.append (Reps.flat r n)
theorem P_and {a : Int} : small64 a = true → a.natAbs < 2 ^ 64 := fun h => by
  obtain ⟨h1, h2⟩ := small64_ok h
  omega
theorem R_pow : OpR X (binaryOp .Pow) (r2Ap (wdX X) .pow) := by
  intro pins s σ H x y v u Q I rx ry h
  obtain ⟨Z, ds, d, zd, r, e, k⟩ := h
  obtain ⟨d1, d2, rfl, r1, r2⟩ := r.v2
  cases d1 with
  | int i =>
    cases d2 with
    | int j =>
      have e : (if (decide (0 ≤ j) && decide (j ≤ 1000) && small64 i) = true then some (PyData.int (i ^ j.toNat)) else none) = some d := e
      split at e
      · cases e
        rename_i hj
        obtain ⟨h1, h2⟩ := and_true hj
        obtain ⟨h0, h1⟩ := and_true h1
        have e1 := r1.int
        have e2 := r2.int
        subst e1 e2
        have h1' := of_decide_eq_true h1
        exact op_pow pins s σ H _ _ v u Q I rx ry ⟨_, _, rfl, rfl, ⟨of_decide_eq_true h0, by omega, P_and h2⟩, k _ Z H (P0.refl zd) (.int _)⟩
      · cases e
    | _ => cases e
  | _ => cases e
theorem R_shl : OpR X (binaryOp .LShift) (r2Ap (wdX X) .shl) := by
  intro pins s σ H x y v u Q I rx ry h
  obtain ⟨Z, ds, d, zd, r, e, k⟩ := h
  obtain ⟨d1, d2, rfl, r1, r2⟩ := r.v2
  cases d1 with
  | int i =>
    cases d2 with
    | int j =>
      have e : (if (decide (0 ≤ j) && decide (j ≤ 1000) && small64 i) = true then some (PyData.int (i * 2 ^ j.toNat)) else none) = some d := e
      split at e
      · cases e
        rename_i hj
        obtain ⟨h1, h2⟩ := and_true hj
        obtain ⟨h0, h1⟩ := and_true h1
        have e1 := r1.int
        have e2 := r2.int
        subst e1 e2
        have h1' := of_decide_eq_true h1
        exact op_shl pins s σ H _ _ v u Q I rx ry ⟨_, _, rfl, rfl, ⟨of_decide_eq_true h0, by omega, P_and h2⟩, k _ Z H (P0.refl zd) (.int _)⟩
      · cases e
    | _ => cases e
  | _ => cases e
theorem R_shr : OpR X (binaryOp .RShift) (r2Ap (wdX X) .shr) := by
  intro pins s σ H x y v u Q I rx ry h
  obtain ⟨Z, ds, d, zd, r, e, k⟩ := h
  obtain ⟨d1, d2, rfl, r1, r2⟩ := r.v2
  cases d1 with
  | int i =>
    cases d2 with
    | int j =>
      have e : (if (decide (0 ≤ j)) = true then some (PyData.int (i / 2 ^ j.toNat)) else none) = some d := e
      split at e
      · cases e
        rename_i hj
        have e1 := r1.int
        have e2 := r2.int
        subst e1 e2
        exact op_shr pins s σ H _ _ v u Q I rx ry ⟨_, _, rfl, rfl, of_decide_eq_true hj, k _ Z H (P0.refl zd) (.int _)⟩
      · cases e
    | _ => cases e
  | _ => cases e
theorem R_band : OpR X (binaryOp .BitAnd) (r2Ap (wdX X) .band) := by
  intro pins s σ H x y v u Q I rx ry h
  obtain ⟨Z, ds, d, zd, r, e, k⟩ := h
  obtain ⟨d1, d2, rfl, r1, r2⟩ := r.v2
  cases d1 <;> try cases e
  cases d2 <;> try cases e
  have e1 := r1.int
  have e2 := r2.int
  subst e1 e2
  exact op_and pins s σ H _ _ v u Q I rx ry ⟨_, _, rfl, rfl, k _ Z H (P0.refl zd) (.int _)⟩
theorem R_bor : OpR X (binaryOp .BitOr) (r2Ap (wdX X) .bor) := by
  intro pins s σ H x y v u Q I rx ry h
  obtain ⟨Z, ds, d, zd, r, e, k⟩ := h
  obtain ⟨d1, d2, rfl, r1, r2⟩ := r.v2
  cases d1 <;> try cases e
  cases d2 <;> try cases e
  have e1 := r1.int
  have e2 := r2.int
  subst e1 e2
  exact op_or pins s σ H _ _ v u Q I rx ry ⟨_, _, rfl, rfl, k _ Z H (P0.refl zd) (.int _)⟩
theorem R_neg : UnR X (unaryOp .USub) (r1Ap (wdX X) .neg) := by
  intro pins s σ H x v Q I rx h
  obtain ⟨Z, ds, d, zd, r, e, k⟩ := h
  obtain ⟨d1, rfl, r1⟩ := r.v1
  cases d1 <;> try cases e
  have e1 := r1.int
  subst e1
  exact un_neg pins s σ H _ v Q I rx ⟨_, rfl, k _ Z H (P0.refl zd) (.int _)⟩
theorem R_inv : UnR X (unaryOp .Invert) (r1Ap (wdX X) .inv) := by
  intro pins s σ H x v Q I rx h
  obtain ⟨Z, ds, d, zd, r, e, k⟩ := h
  obtain ⟨d1, rfl, r1⟩ := r.v1
  cases d1 <;> try cases e
  have e1 := r1.int
  subst e1
  exact un_inv pins s σ H _ v Q I rx ⟨_, rfl, k _ Z H (P0.refl zd) (.int _)⟩
end
end M3
set_option Elab.async false
set_option linter.all false
set_option maxRecDepth 100000
namespace M3
open PySem PySem.Spec L2
/-- what is around: room for calls, nothing handled, no repr running -/
structure XA (X : Cx) : Prop where
  calm : X.calm = true
  un : X.A.units + 200 < cLine
  gd : X.A.guards = some []
section
variable {X : Cx}
theorem eqOk_ok {a b : D} (h : eqOk a b = true) : a.hasDict = false ∧ b.hasDict = false ∧ min a.depth b.depth ≤ 60 := by
  unfold eqOk at h
  obtain ⟨h1, h2⟩ := and_true h
  obtain ⟨h0, h1⟩ := and_true h1
  exact ⟨by simpa using h0, by simpa using h1, of_decide_eq_true h2⟩
theorem eqOkL_ok {l : List D} {a : D} (h : eqOkL l a = true) : PyData.hasDictAll l = false ∧ a.hasDict = false ∧ min (PyData.depthAll l) a.depth ≤ 60 := by
  unfold eqOkL at h
  obtain ⟨h1, h2⟩ := and_true h
  obtain ⟨h0, h1⟩ := and_true h1
  exact ⟨by simpa using h0, by simpa using h1, of_decide_eq_true h2⟩
theorem ieq_ok {a b : D} {k : Bool} (h : ieq a b = some k) : a.hasDict = false ∧ b.hasDict = false ∧ min a.depth b.depth ≤ 60 ∧ k = PyData.eqv a b := by
  unfold ieq at h
  split at h
  · rename_i q
    cases h
    obtain ⟨h1, h2, h3⟩ := eqOk_ok q
    exact ⟨h1, h2, h3, rfl⟩
  · cases h
theorem map_some {α β : Type} {o : Option α} {f : α → β} {b : β} (h : o.map f = some b) : ∃ a, o = some a ∧ f a = b := by
  cases o with
  | none => cases h
  | some a => exact ⟨a, rfl, Option.some.inj h⟩
theorem R_eq (xa : XA X) : OpR X (compareOp .Eq) (r2Ap (wdX X) .eq) := by
  intro pins s σ H x y v u Q I rx ry h
  obtain ⟨Z, ds, d, zd, r, e, k⟩ := h
  obtain ⟨d1, d2, rfl, r1, r2⟩ := r.v2
  obtain ⟨b, e1, rfl⟩ := map_some (show (ieq d1 d2).map PyData.bool = some d from e)
  obtain ⟨n1, n2, hd, rfl⟩ := ieq_ok e1
  obtain ⟨as, q1, c1⟩ := r1.reads I n1 rx
  obtain ⟨bs, q2, c2⟩ := r2.reads I n2 ry
  have hu := xa.un
  exact SeqAt.compareEq_reads q1 q2 c1 c2 (by omega) ⟨.bl _, H, I, rfl, k _ Z H (P0.refl zd) (.bl _)⟩
theorem R_ne (xa : XA X) : OpR X (compareOp .NotEq) (r2Ap (wdX X) .ne) := by
  intro pins s σ H x y v u Q I rx ry h
  obtain ⟨Z, ds, d, zd, r, e, k⟩ := h
  obtain ⟨d1, d2, rfl, r1, r2⟩ := r.v2
  obtain ⟨b, e1, rfl⟩ := map_some (show (ieq d1 d2).map (fun k => PyData.bool (!k)) = some d from e)
  obtain ⟨n1, n2, hd, rfl⟩ := ieq_ok e1
  obtain ⟨as, q1, c1⟩ := r1.reads I n1 rx
  obtain ⟨bs, q2, c2⟩ := r2.reads I n2 ry
  have hu := xa.un
  exact SeqAt.compareNe_reads q1 q2 c1 c2 (by omega) ⟨.bl _, H, I, rfl, k _ Z H (P0.refl zd) (.bl _)⟩
theorem ilt_ok {a b : D} {k : Bool} (h : ilt a b = some k) : a.hasDict = false ∧ b.hasDict = false ∧ min a.depth b.depth ≤ 60 ∧ PySem.W.alike a b = true ∧ a ≠ .none ∧ k = PySem.W.dataLt a b := by
  unfold ilt at h
  split at h
  · rename_i q
    cases h
    unfold cmpOk at q
    obtain ⟨q, h5⟩ := and_true q
    obtain ⟨q, h4⟩ := and_true q
    obtain ⟨q, h3⟩ := and_true q
    obtain ⟨h1, h2⟩ := and_true q
    refine ⟨by simpa using h1, by simpa using h2, of_decide_eq_true h3, h4, fun z => ?_, rfl⟩
    subst z
    cases h5
  · cases h
theorem R_lt (xa : XA X) : OpR X (compareOp .Lt) (r2Ap (wdX X) .lt) := by
  intro pins s σ H x y v u Q I rx ry h
  obtain ⟨Z, ds, d, zd, r, e, k⟩ := h
  obtain ⟨d1, d2, rfl, r1, r2⟩ := r.v2
  obtain ⟨b, e1, rfl⟩ := map_some (show (ilt d1 d2).map PyData.bool = some d from e)
  obtain ⟨n1, n2, hd, al, nn, rfl⟩ := ilt_ok e1
  obtain ⟨as, q1, c1⟩ := r1.reads I n1 rx
  obtain ⟨bs, q2, c2⟩ := r2.reads I n2 ry
  have hu := xa.un
  exact PySem.W.rcLt_alike d1 d2 X.A s v u as bs q1 q2 al nn (by omega) _ _ _ _ ⟨.bl _, H, I, rfl, k _ Z H (P0.refl zd) (.bl _)⟩
theorem R_gt (xa : XA X) : OpR X (compareOp .Gt) (r2Ap (wdX X) .gt) := by
  intro pins s σ H x y v u Q I rx ry h
  obtain ⟨Z, ds, d, zd, r, e, k⟩ := h
  obtain ⟨d1, d2, rfl, r1, r2⟩ := r.v2
  obtain ⟨b, e1, rfl⟩ := map_some (show (ilt d2 d1).map PyData.bool = some d from e)
  obtain ⟨n2, n1, hd, al, nn, rfl⟩ := ilt_ok e1
  obtain ⟨as, q1, c1⟩ := r1.reads I n1 rx
  obtain ⟨bs, q2, c2⟩ := r2.reads I n2 ry
  have hu := xa.un
  have al2 : PySem.W.alike d1 d2 = true := by rw [PySem.W.alike_comm]; exact al
  exact PySem.W.rcGt_alike d1 d2 X.A s v u as bs q1 q2 al2 (PySem.W.ne_none_both al nn) (by omega) _ _ _ _ ⟨.bl _, H, I, rfl, k _ Z H (P0.refl zd) (.bl _)⟩
theorem R_le (xa : XA X) : OpR X (compareOp .LtE) (r2Ap (wdX X) .le) := by
  intro pins s σ H x y v u Q I rx ry h
  obtain ⟨Z, ds, d, zd, r, e, k⟩ := h
  obtain ⟨d1, d2, rfl, r1, r2⟩ := r.v2
  obtain ⟨b, e1, rfl⟩ := map_some (show (ilt d2 d1).map (fun k => PyData.bool (!k)) = some d from e)
  obtain ⟨n2, n1, hd, al, nn, rfl⟩ := ilt_ok e1
  obtain ⟨as, q1, c1⟩ := r1.reads I n1 rx
  obtain ⟨bs, q2, c2⟩ := r2.reads I n2 ry
  have hu := xa.un
  have al2 : PySem.W.alike d1 d2 = true := by rw [PySem.W.alike_comm]; exact al
  exact PySem.W.rcLe_alike d1 d2 X.A s v u as bs q1 q2 al2 (PySem.W.ne_none_both al nn) (by omega) _ _ _ _ ⟨.bl _, H, I, rfl, k _ Z H (P0.refl zd) (.bl _)⟩
theorem R_ge (xa : XA X) : OpR X (compareOp .GtE) (r2Ap (wdX X) .ge) := by
  intro pins s σ H x y v u Q I rx ry h
  obtain ⟨Z, ds, d, zd, r, e, k⟩ := h
  obtain ⟨d1, d2, rfl, r1, r2⟩ := r.v2
  obtain ⟨b, e1, rfl⟩ := map_some (show (ilt d1 d2).map (fun k => PyData.bool (!k)) = some d from e)
  obtain ⟨n1, n2, hd, al, nn, rfl⟩ := ilt_ok e1
  obtain ⟨as, q1, c1⟩ := r1.reads I n1 rx
  obtain ⟨bs, q2, c2⟩ := r2.reads I n2 ry
  have hu := xa.un
  exact PySem.W.rcGe_alike d1 d2 X.A s v u as bs q1 q2 al nn (by omega) _ _ _ _ ⟨.bl _, H, I, rfl, k _ Z H (P0.refl zd) (.bl _)⟩
/-- in, not in -/
theorem one_sign {x : Str} (h : x.length = 1) : x = ⟨#[x.cps.toList.getD 0 0]⟩ := by
  obtain ⟨⟨l⟩⟩ := x
  match l, h with
  | [c], _ => rfl
theorem R_isin (xa : XA X) : OpR X (compareOp .In) (r2Ap (wdX X) .isin) := by
  intro pins s σ H x y v u Q I rx ry h
  obtain ⟨Z, ds, d, zd, r, e, k⟩ := h
  obtain ⟨d1, d2, rfl, r1, r2⟩ := r.v2
  obtain ⟨b, e1, rfl⟩ := map_some (show (isinD d1 d2).map PyData.bool = some d from e)
  have hu := xa.un
  cases d2 with
  | list l =>
    unfold isinD at e1
    dsimp only at e1
    split at e1
    · rename_i q
      cases e1
      obtain ⟨n2, n1, hd⟩ := eqOkL_ok q
      obtain ⟨as, q1, c1⟩ := r1.reads I n1 rx
      obtain ⟨bs, q2, c2⟩ := r2.reads I (show (PyData.list l).hasDict = false from n2) ry
      exact SeqAt.in_list_reads q2 q1 c2 c1 (by omega) ⟨.bl _, H, I, rfl, k _ Z H (P0.refl zd) (.bl _)⟩
    · cases e1
  | tuple l =>
    unfold isinD at e1
    dsimp only at e1
    split at e1
    · rename_i q
      cases e1
      obtain ⟨n2, n1, hd⟩ := eqOkL_ok q
      obtain ⟨as, q1, c1⟩ := r1.reads I n1 rx
      obtain ⟨bs, q2, c2⟩ := r2.reads I (show (PyData.tuple l).hasDict = false from n2) ry
      exact SeqAt.in_tuple_reads q2 q1 c2 c1 (by omega) ⟨.bl _, H, I, rfl, k _ Z H (P0.refl zd) (.bl _)⟩
    · cases e1
  | str z =>
    cases d1 with
    | str t =>
      have e1 : some (inStr t z) = some b := e1
      cases e1
      obtain ⟨ex, _⟩ := r1.str
      obtain ⟨ey, _⟩ := r2.str
      subst ex ey
      have k2 := k _ Z H (P0.refl zd) (.bl _)
      unfold inStr at k2
      split at k2
      · rename_i h1
        exact op_in_sign pins s σ H _ _ v u Q I rx ry ⟨_, z, by rw [← one_sign h1], rfl, k2⟩
      · exact op_in_str pins s σ H _ _ v u Q I rx ry ⟨t, z, rfl, rfl, k2⟩
    | _ => cases e1
  | _ => cases e1
theorem R_notin (xa : XA X) : OpR X (compareOp .NotIn) (r2Ap (wdX X) .notin) := by
  intro pins s σ H x y v u Q I rx ry h
  obtain ⟨Z, ds, d, zd, r, e, k⟩ := h
  obtain ⟨d1, d2, rfl, r1, r2⟩ := r.v2
  obtain ⟨b, e1, rfl⟩ := map_some (show (isinD d1 d2).map (fun k => PyData.bool (!k)) = some d from e)
  have hu := xa.un
  cases d2 with
  | list l =>
    unfold isinD at e1
    dsimp only at e1
    split at e1
    · rename_i q
      cases e1
      obtain ⟨n2, n1, hd⟩ := eqOkL_ok q
      obtain ⟨as, q1, c1⟩ := r1.reads I n1 rx
      obtain ⟨bs, q2, c2⟩ := r2.reads I (show (PyData.list l).hasDict = false from n2) ry
      exact SeqAt.notIn_list_reads q2 q1 c2 c1 (by omega) ⟨.bl _, H, I, rfl, k _ Z H (P0.refl zd) (.bl _)⟩
    · cases e1
  | tuple l =>
    unfold isinD at e1
    dsimp only at e1
    split at e1
    · rename_i q
      cases e1
      obtain ⟨n2, n1, hd⟩ := eqOkL_ok q
      obtain ⟨as, q1, c1⟩ := r1.reads I n1 rx
      obtain ⟨bs, q2, c2⟩ := r2.reads I (show (PyData.tuple l).hasDict = false from n2) ry
      exact SeqAt.notIn_tuple_reads q2 q1 c2 c1 (by omega) ⟨.bl _, H, I, rfl, k _ Z H (P0.refl zd) (.bl _)⟩
    · cases e1
  | str z =>
    cases d1 with
    | str t =>
      have e1 : some (inStr t z) = some b := e1
      cases e1
      obtain ⟨ex, _⟩ := r1.str
      obtain ⟨ey, _⟩ := r2.str
      subst ex ey
      have k2 := k _ Z H (P0.refl zd) (.bl _)
      unfold inStr at k2
      split at k2
      · rename_i h1
        exact op_notIn_sign pins s σ H _ _ v u Q I rx ry ⟨_, z, by rw [← one_sign h1], rfl, k2⟩
      · exact op_notin_str pins s σ H _ _ v u Q I rx ry ⟨t, z, rfl, rfl, k2⟩
    | _ => cases e1
  | _ => cases e1
/-- is None -/
theorem Rep1.isN {w : Wd} {Z : Addr → Prop} {H : Hp} {v : V} {d : D} (r : Rep1 w Z H v d) : decide (v = .non) = isNone d := by
  rcases r with r | ⟨a, o, rfl, rfl, _⟩
  · cases r <;> rfl
  · cases o <;> rfl
def r1N (w : Wd) (o : Op) : V → Hp → VK → Prop := r1Ap w o
theorem R_isN {w : Wd} {σ : St} {H : Hp} {x : V} {Q : VK} (h : rAp w .isN [x] H Q) : Q (.bl (decide (x = .non))) H := by
  obtain ⟨Z, ds, d, zd, r, e, k⟩ := h
  obtain ⟨d1, rfl, r1⟩ := r.v1
  cases (show some (PyData.bool _) = some d from e)
  rw [r1.isN]
  exact k _ Z H (P0.refl zd) (.bl _)
theorem R_notN {w : Wd} {σ : St} {H : Hp} {x : V} {Q : VK} (h : rAp w .notN [x] H Q) : Q (.bl (!decide (x = .non))) H := by
  obtain ⟨Z, ds, d, zd, r, e, k⟩ := h
  obtain ⟨d1, rfl, r1⟩ := r.v1
  cases (show some (PyData.bool _) = some d from e)
  rw [r1.isN]
  exact k _ Z H (P0.refl zd) (.bl _)
/-- items -/
theorem Reps.atI {w : Wd} {Z : Addr → Prop} {H : Hp} {vs : List V} {ds : List D} {i : Int} {d : D} (r : Reps w Z H vs ds) (h : atI ds i = some d) : ∃ v, atI vs i = some v ∧ Rep w Z H v d := by
  unfold L2.atI at h ⊢
  rw [← r.length] at h
  cases e : ixN vs.length i with
  | none => rw [e] at h; cases h
  | some j =>
    rw [e] at h
    exact r.get h
theorem sOk_sub {x : Str} (h : sOk x = true) {l : List Nat} (hl : l.length ≤ LIM) (hm : ∀ c ∈ l, c ∈ x.cps.toList) : sOk ⟨l.toArray⟩ = true := by
  unfold sOk
  rw [Bool.and_eq_true]
  refine ⟨?_, decide_eq_true (by show l.toArray.size ≤ LIM; simpa using hl)⟩
  have h1 := sOk_ok h
  unfold PyData.strOk at h1 ⊢
  rw [Array.all_eq_true'] at h1 ⊢
  intro c hc
  exact h1 c (by simpa using hm c (by simpa using hc))
theorem sOk_one {x : Str} (h : sOk x = true) {c : Nat} (hc : c ∈ x.cps.toList) : sOk ⟨#[c]⟩ = true := sOk_sub (l := [c]) h (by show 1 ≤ 1000000; omega) fun d hd => by
  have e : d = c := by simpa using hd
  rw [e]
  exact hc
theorem atI_mem {α : Type} {l : List α} {i : Int} {x : α} (h : atI l i = some x) : x ∈ l := by
  unfold L2.atI at h
  cases e : ixN l.length i with
  | none => rw [e] at h; cases h
  | some j =>
    rw [e] at h
    exact List.mem_of_getElem? h
theorem R_ix : IxR X (r2Ap (wdX X) .ix) := by
  intro value slice pins s σ H x y v u Q I rx ry h hs
  obtain ⟨Z, ds, d, zd, r, e, k⟩ := h
  obtain ⟨d1, d2, rfl, r1, r2⟩ := r.v2
  have e : ixD d1 d2 = some d := e
  unfold ixD at e
  split at e
  · have e2 := r2.int
    subst e2
    obtain ⟨a, xs, rfl, ha, ra⟩ := r1.list
    obtain ⟨z, hz, rz⟩ := ra.atI e
    exact ix_list value slice pins s σ H _ _ v u Q I rx ry ⟨a, xs, _, z, rfl, rfl, .inl ha, hz, k _ Z H (P0.refl zd) rz⟩ hs
  · have e2 := r2.int
    subst e2
    obtain ⟨a, xs, rfl, ha, ra⟩ := r1.tuple
    obtain ⟨z, hz, rz⟩ := ra.atI e
    exact ix_tup value slice pins s σ H _ _ v u Q I rx ry ⟨a, xs, _, z, rfl, rfl, ha.sq, hz, k _ Z H (P0.refl zd) rz⟩ hs
  · have e2 := r2.int
    subst e2
    obtain ⟨e1, k1⟩ := r1.str
    subst e1
    obtain ⟨c, hc, rfl⟩ := map_some e
    exact ix_str value slice pins s σ H _ _ v u Q I rx ry ⟨_, _, c, rfl, rfl, lim_of (sOk_len k1), hc, k _ Z H (P0.refl zd) (.str _ (sOk_one k1 (atI_mem hc)))⟩ hs
  · cases e
/-- slices: the parts are ints -/
def rSlAp (w : Wd) : V → Option Int → Option Int → Hp → VK → Prop := fun x lo hi H Q => ∃ Z d1 d, (∀ a, Z a → H a ≠ none) ∧ Rep1 w Z H x d1 ∧ slD d1 lo hi = some d ∧ ∀ v Z' H', P0 Z H Z' H' → Rep w Z' H' v d → Q v H'
theorem Reps.cut {w : Wd} {Z : Addr → Prop} {H : Hp} {vs : List V} {ds : List D} (r : Reps w Z H vs ds) (lo hi : Option Int) : Reps w Z H (cutV vs lo hi) (M3.cut ds lo hi) := by
  unfold cutV M3.cut
  rw [r.length]
  exact (r.drop _).take _
theorem cut_mem {α : Type} {l : List α} {lo hi : Option Int} {x : α} (h : x ∈ M3.cut l lo hi) : x ∈ l := List.mem_of_mem_drop (List.mem_of_mem_take h)
theorem cut_len {α : Type} (l : List α) (lo hi : Option Int) : (M3.cut l lo hi).length ≤ l.length := by
  unfold M3.cut
  rw [List.length_take, List.length_drop]
  omega
theorem R_sl : SlR X (rSlAp (wdX X)) := by
  intro pins s σ H x v vl vu lo hi sl Q I rx hs pl pu h
  obtain ⟨Z, d1, d, zd, r1, e, k⟩ := h
  unfold slD at e
  split at e
  · cases e
    obtain ⟨a, xs, rfl, ha, ra⟩ := r1.list
    exact sl_list pins s σ H _ v vl vu lo hi sl Q I rx hs pl pu ⟨a, xs, rfl, .inl ha, new_list zd (ra.cut lo hi) k⟩
  · cases e
    obtain ⟨a, xs, rfl, ha, ra⟩ := r1.tuple
    refine slF pins s σ H _ v vl vu lo hi sl Q I rx hs pl pu ⟨a, xs, rfl, ha.sq, fun ⟨h1, h2⟩ => ?_, fun _ => new_tuple zd (ra.cut lo hi) k⟩
    have eq : M3.cut _ lo hi = _ := (show M3.cut _ lo hi = _ by
      unfold M3.cut
      rw [← ra.length, h1, h2, List.drop_zero, Nat.sub_zero, ra.length, List.take_length])
    rw [eq] at k
    exact k _ Z H (P0.refl zd) (.tup ha ra)
  · cases e
    obtain ⟨e1, k1⟩ := r1.str
    subst e1
    rename_i z
    have hle : (M3.cut z.cps.toList lo hi).length ≤ LIM := Nat.le_trans (cut_len _ _ _) (by have := sOk_len k1; unfold LIM; simpa [Str.length] using this)
    exact sl_str pins s σ H _ v vl vu lo hi sl Q I rx hs pl pu ⟨z, rfl, lim_of (sOk_len k1), k _ Z H (P0.refl zd) (.str _ (sOk_sub k1 hle fun c hc => cut_mem hc))⟩
  · cases e
end
end M3
set_option Elab.async false
set_option linter.all false
set_option maxRecDepth 100000
namespace M3
open PySem PySem.Spec L2
section
variable {X : Cx}
theorem one_of {w : Wd} {o : Op} {xs : List V} {H : Hp} {Q : VK} (h : rAp w o xs H Q) (hn : ∀ ds d, ap o ds = some d → ∃ a, ds = [a]) : ∃ x, xs = [x] ∧ rAp w o [x] H Q := by
  obtain ⟨Z, ds, d, zd, r, e, k⟩ := h
  obtain ⟨a, rfl⟩ := hn ds d e
  obtain ⟨x, rfl, r1⟩ := r.one
  exact ⟨x, rfl, Z, _, d, zd, r, e, k⟩
theorem R_len : CallR X (.builtin "len") (rAp (wdX X) .len) := by
  intro pins s σ H xs us Q I rv h
  obtain ⟨Z, ds, d, zd, r, e, k⟩ := h
  unfold ap at e
  split at e <;> try (first | contradiction | cases e)
  all_goals obtain ⟨x, rfl, r1⟩ := r.one
  · obtain ⟨a, ys, rfl, ha, ra⟩ := r1.list
    refine call_len pins s σ H _ us Q I rv ⟨_, _, rfl, .inl ⟨ys, .inl ha, rfl⟩, ?_⟩
    rw [ra.length]
    exact k _ Z H (P0.refl zd) (.int _)
  · obtain ⟨a, ys, rfl, ha, ra⟩ := r1.tuple
    refine call_len pins s σ H _ us Q I rv ⟨_, _, rfl, .inr ⟨ys, ha.sq, rfl⟩, ?_⟩
    rw [ra.length]
    exact k _ Z H (P0.refl zd) (.int _)
  · obtain ⟨rfl, k1⟩ := r1.str
    exact call_len pins s σ H _ us Q I rv ⟨_, _, rfl, ⟨lim_of (sOk_len k1), rfl⟩, k _ Z H (P0.refl zd) (.int _)⟩
theorem R_abs : CallR X (.builtin "abs") (rAp (wdX X) .abs) := by
  intro pins s σ H xs us Q I rv h
  obtain ⟨Z, ds, d, zd, r, e, k⟩ := h
  unfold ap at e
  split at e <;> try (first | contradiction | cases e)
  obtain ⟨x, rfl, r1⟩ := r.one
  have e1 := r1.int
  subst e1
  exact call_abs pins s σ H _ us Q I rv ⟨_, rfl, k _ Z H (P0.refl zd) (.int _)⟩
theorem R_int : CallR X (.type "int") (rAp (wdX X) .int) := by
  intro pins s σ H xs us Q I rv h
  obtain ⟨Z, ds, d, zd, r, e, k⟩ := h
  unfold ap at e
  split at e <;> try (first | contradiction | cases e)
  all_goals obtain ⟨x, rfl, r1⟩ := r.one
  · have e1 := r1.int
    subst e1
    exact call_int1 pins s σ H _ us Q I rv (.inl ⟨_, rfl, k _ Z H (P0.refl zd) (.int _)⟩)
  · have e1 := r1.bool
    subst e1
    exact call_int1 pins s σ H _ us Q I rv (.inr ⟨_, rfl, k _ Z H (P0.refl zd) (.int _)⟩)
theorem R_max2 (xa : XA X) : CallR X (.builtin "max") (rAp (wdX X) .max2) := by
  intro pins s σ H xs us Q I rv h
  obtain ⟨Z, ds, d, zd, r, e, k⟩ := h
  unfold ap at e
  split at e <;> try (first | contradiction | cases e)
  obtain ⟨x, y, rfl, r1, r2⟩ := r.two
  have e1 := r1.int
  have e2 := r2.int
  subst e1 e2
  exact call_max2 xa.calm pins s σ H _ us Q I rv ⟨_, _, rfl, k _ Z H (P0.refl zd) (.int _)⟩
theorem R_min2 (xa : XA X) : CallR X (.builtin "min") (rAp (wdX X) .min2) := by
  intro pins s σ H xs us Q I rv h
  obtain ⟨Z, ds, d, zd, r, e, k⟩ := h
  unfold ap at e
  split at e <;> try (first | contradiction | cases e)
  obtain ⟨x, y, rfl, r1, r2⟩ := r.two
  have e1 := r1.int
  have e2 := r2.int
  subst e1 e2
  exact call_min2 xa.calm pins s σ H _ us Q I rv ⟨_, _, rfl, k _ Z H (P0.refl zd) (.int _)⟩
theorem R_divmod : CallR X (.builtin "divmod") (rAp (wdX X) .divmod) := by
  intro pins s σ H xs us Q I rv h
  obtain ⟨Z, ds, d, zd, r, e, k⟩ := h
  unfold ap at e
  split at e <;> try (first | contradiction | cases e)
  rename_i i j
  split at e
  · cases e
    rename_i hj
    obtain ⟨h1, h2⟩ := and_true hj
    obtain ⟨x, y, rfl, r1, r2⟩ := r.two
    have e1 := r1.int
    have e2 := r2.int
    subst e1 e2
    exact divmodF pins s σ H _ us Q I rv ⟨_, _, rfl, ⟨of_decide_eq_true h1, of_decide_eq_true h2⟩, new_tuple zd (.cons (.int _) (.cons (.int _) .nil)) k⟩
  · cases e
theorem itemsOf_ok {a : D} {l : List D} (h : itemsOf a = some l) : a = .list l ∨ a = .tuple l ∨ ∃ x, a = .str x ∧ l = chars x := by
  cases a with
  | list m => cases h; exact .inl rfl
  | tuple m => cases h; exact .inr (.inl rfl)
  | str x => cases h; exact .inr (.inr ⟨x, rfl, rfl⟩)
  | _ => cases h
theorem R_tuple : CallR X (.type "tuple") (rAp (wdX X) .tuple) := by
  intro pins s σ H xs us Q I rv h
  obtain ⟨Z, ds, d, zd, r, e, k⟩ := h
  unfold ap at e
  split at e <;> try (first | contradiction | cases e)
  rename_i a _
  obtain ⟨x, rfl, r1⟩ := r.one
  obtain ⟨l, e', rfl⟩ := map_some e
  cases a with
  | list m =>
    cases e'
    obtain ⟨a, ys, rfl, ha, ra⟩ := r1.list
    exact tupleF pins s σ H _ us Q I rv ⟨a, ys, rfl, .inl ⟨.inl ha, new_tuple zd ra k⟩⟩
  | tuple m =>
    cases e'
    obtain ⟨a, ys, rfl, ha, ra⟩ := r1.tuple
    exact tupleF pins s σ H _ us Q I rv ⟨a, ys, rfl, .inr ⟨ha.sq, k _ Z H (P0.refl zd) (.tup ha ra)⟩⟩
  | _ => cases e'
theorem R_list : CallR X (.type "list") (rAp (wdX X) .list) := by
  intro pins s σ H xs us Q I rv h
  obtain ⟨Z, ds, d, zd, r, e, k⟩ := h
  unfold ap at e
  split at e <;> try (first | contradiction | cases e)
  rename_i a _
  obtain ⟨x, rfl, r1⟩ := r.one
  obtain ⟨l, e', rfl⟩ := map_some e
  cases a with
  | list m =>
    cases e'
    obtain ⟨a, ys, rfl, ha, ra⟩ := r1.list
    exact call_list_of pins s σ H _ us Q I rv ⟨a, ys, rfl, .inl (.inl ha), new_list zd ra k⟩
  | tuple m =>
    cases e'
    obtain ⟨a, ys, rfl, ha, ra⟩ := r1.tuple
    exact call_list_of pins s σ H _ us Q I rv ⟨a, ys, rfl, .inr ha.sq, new_list zd ra k⟩
  | _ => cases e'
theorem R_all (xa : XA X) : CallR X (.builtin "all") (rAp (wdX X) .all) := by
  intro pins s σ H xs us Q I rv h
  obtain ⟨Z, ds, d, zd, r, e, k⟩ := h
  unfold ap at e
  split at e <;> try (first | contradiction | cases e)
  obtain ⟨x, rfl, r1⟩ := r.one
  obtain ⟨bs, e', rfl⟩ := map_some e
  obtain ⟨a, ys, rfl, ha, ra⟩ := r1.list
  have e2 := ra.boolsD e'
  subst e2
  exact cr_all xa.calm pins s σ H _ us Q I rv ⟨a, bs, rfl, .inl ha, k _ Z H (P0.refl zd) (.bl _)⟩
theorem R_any (xa : XA X) : CallR X (.builtin "any") (rAp (wdX X) .any) := by
  intro pins s σ H xs us Q I rv h
  obtain ⟨Z, ds, d, zd, r, e, k⟩ := h
  unfold ap at e
  split at e <;> try (first | contradiction | cases e)
  obtain ⟨x, rfl, r1⟩ := r.one
  obtain ⟨bs, e', rfl⟩ := map_some e
  obtain ⟨a, ys, rfl, ha, ra⟩ := r1.list
  have e2 := ra.boolsD e'
  subst e2
  exact cr_any xa.calm pins s σ H _ us Q I rv ⟨a, bs, rfl, .inl ha, k _ Z H (P0.refl zd) (.bl _)⟩
theorem R_sum (xa : XA X) : CallR X (.builtin "sum") (rAp (wdX X) .sum) := by
  intro pins s σ H xs us Q I rv h
  obtain ⟨Z, ds, d, zd, r, e, k⟩ := h
  unfold ap at e
  split at e <;> try (first | contradiction | cases e)
  obtain ⟨x, rfl, r1⟩ := r.one
  obtain ⟨bs, e', rfl⟩ := map_some e
  obtain ⟨a, ys, rfl, ha, ra⟩ := r1.list
  have e2 := ra.intsD e'
  subst e2
  exact cr_sum xa.calm pins s σ H _ us Q I rv ⟨a, bs, rfl, .inl ha, k _ Z H (P0.refl zd) (.int _)⟩
/-- isinstance -/
def isiT : Nat → String
  | 0 => "str"
  | 1 => "int"
  | 2 => "bool"
  | 3 => "tuple"
  | _ => "list"
theorem tyX_list {a : Addr} {xs : List V} {K : PySem.W.Frag} {H : Hp} (h : Rd H a (.lst xs)) : TyX K H (.ref a) (.type "list") := by
  rcases h with h | ⟨o, h⟩
  · exact .base (.lst h)
  · exact .base (.frz h)
theorem tyX_tuple {a : Addr} {xs : List V} {K : PySem.W.Frag} {H : Hp} (h : SqT K H a xs) : TyX K H (.ref a) (.type "tuple") := by
  rcases h with (h | ⟨o, h⟩) | ⟨o, its, n, h, hc, _⟩
  · exact .base (.tup h)
  · exact .fTuple h
  · exact .kTuple h hc
theorem R_isi (t : Nat) (ht : t < 5) : CallR X (.builtin "isinstance") (fun xs H Q => ∃ x, xs = [x, .ty (isiT t)] ∧ rAp (wdX X) (.isi t) [x] H Q) := by
  intro pins s σ H xs us Q I rv h
  obtain ⟨x, rfl, Z, ds, d, zd, r, e, k⟩ := h
  obtain ⟨d1, rfl, r1⟩ := r.v1
  have fin : ∀ {ty : String} {b : Bool}, TyX X.K H x (.type ty) → kitB ty (isiT t) = some b → Q (.bl b) H → wpAny (model X.prog X.w) X.A (call (.builtin "isinstance") us) (EP X pins σ Q) X.xe s :=
    fun {ty b} h1 h2 q => call_isi pins s σ H _ us Q I rv ⟨x, _, _, _, b, rfl, .ty _, h1, kit_ty h2, q⟩
  cases d1 with
  | dict kvs => cases e
  | none =>
    cases e
    have e1 := r1.none
    subst e1
    have k := k _ Z H (P0.refl zd) (.bl _)
    refine fin (b := isiD t .none) (.base .non) ?_ k
    match t, ht with
    | 0, _ => decide +kernel
    | 1, _ => decide +kernel
    | 2, _ => decide +kernel
    | 3, _ => decide +kernel
    | 4, _ => decide +kernel
  | bool b =>
    cases e
    have e1 := r1.bool
    subst e1
    have k := k _ Z H (P0.refl zd) (.bl _)
    refine fin (b := isiD t (.bool b)) (.base (.bl _)) ?_ k
    match t, ht with
    | 0, _ => show kitB "bool" "str" = some false; decide +kernel
    | 1, _ => show kitB "bool" "int" = some true; decide +kernel
    | 2, _ => show kitB "bool" "bool" = some true; decide +kernel
    | 3, _ => show kitB "bool" "tuple" = some false; decide +kernel
    | 4, _ => show kitB "bool" "list" = some false; decide +kernel
  | int b =>
    cases e
    have e1 := r1.int
    subst e1
    have k := k _ Z H (P0.refl zd) (.bl _)
    refine fin (b := isiD t (.int b)) (.base (.int _)) ?_ k
    match t, ht with
    | 0, _ => show kitB "int" "str" = some false; decide +kernel
    | 1, _ => show kitB "int" "int" = some true; decide +kernel
    | 2, _ => show kitB "int" "bool" = some false; decide +kernel
    | 3, _ => show kitB "int" "tuple" = some false; decide +kernel
    | 4, _ => show kitB "int" "list" = some false; decide +kernel
  | str b =>
    cases e
    obtain ⟨e1, _⟩ := r1.str
    subst e1
    have k := k _ Z H (P0.refl zd) (.bl _)
    refine fin (b := isiD t (.str b)) (.base (.str _)) ?_ k
    match t, ht with
    | 0, _ => show kitB "str" "str" = some true; decide +kernel
    | 1, _ => show kitB "str" "int" = some false; decide +kernel
    | 2, _ => show kitB "str" "bool" = some false; decide +kernel
    | 3, _ => show kitB "str" "tuple" = some false; decide +kernel
    | 4, _ => show kitB "str" "list" = some false; decide +kernel
  | list b =>
    cases e
    obtain ⟨a, ys, rfl, ha, ra⟩ := r1.list
    have k := k _ Z H (P0.refl zd) (.bl _)
    refine fin (b := isiD t (.list b)) (tyX_list ha) ?_ k
    match t, ht with
    | 0, _ => show kitB "list" "str" = some false; decide +kernel
    | 1, _ => show kitB "list" "int" = some false; decide +kernel
    | 2, _ => show kitB "list" "bool" = some false; decide +kernel
    | 3, _ => show kitB "list" "tuple" = some false; decide +kernel
    | 4, _ => show kitB "list" "list" = some true; decide +kernel
  | tuple b =>
    cases e
    obtain ⟨a, ys, rfl, ha, ra⟩ := r1.tuple
    have k := k _ Z H (P0.refl zd) (.bl _)
    refine fin (b := isiD t (.tuple b)) (tyX_tuple ha.sq) ?_ k
    match t, ht with
    | 0, _ => show kitB "tuple" "str" = some false; decide +kernel
    | 1, _ => show kitB "tuple" "int" = some false; decide +kernel
    | 2, _ => show kitB "tuple" "bool" = some false; decide +kernel
    | 3, _ => show kitB "tuple" "tuple" = some true; decide +kernel
    | 4, _ => show kitB "tuple" "list" = some false; decide +kernel
end
end M3
set_option Elab.async false
set_option linter.all false
set_option maxRecDepth 100000
namespace M3
open PySem PySem.Spec L2 PySem.W
section
variable {prog : Program} {w : World} {A : Around} {E : Value → Shared → Prop} {s : Shared}
open PyProof.Rows in
/-- the items of a tuple, as a new list holds them -/
theorem collect_tup {l : Addr} {vs : List Value} {Q : List Value → Shared → Prop} (hl : s.heap.IsTuple l vs.toArray) (hsz : vs.length ≤ sizeLine)
    (h : Q vs { s with heap := (s.heap.push (seqObj "list" #[] 0)).update s.heap.objs.size (Obj.mapSeq (· ++ vs.toArray)) }) : wpAny (model prog w) A (collect (.ref l)) Q E s := by
  obtain ⟨o, ho, hc, n, hd⟩ := id hl
  unfold collect
  refine wpAny_bind (wpAny_runValue (codeAny_builtin entry_proto_collect' ?_))
  show wpAny _ _
    (do again (.builtin "list.__iadd__" ⟨[← newList [], .ref l], []⟩)) _ _ s
  refine wpAny_bind (wpAny_newList (wpAny_pure ⟨Code.quiet_builtin _ (by decide +kernel),
    codeAny_builtin entry_list_iadd' ?_⟩))
  show wpAny _ _ (Builtin.List.listExtendWith (.ref s.heap.objs.size) (.ref l) (.ref s.heap.objs.size)) _ _
    { s with heap := s.heap.push (seqObj "list" #[] 0) }
  unfold Builtin.List.listExtendWith
  have ho2 : (s.heap.push (seqObj "list" #[] 0)).get? l = some o := Heap.get?_push_of_some _ ho
  refine wpAny_bind (wpAny_typeOf (T := "tuple") ⟨o, ho2, hc⟩ ?_)
  have ht : (Value.type "tuple" == Value.type "tuple") = true := by rfl
  rw [if_pos (by rw [ht]; simp)]
  refine wpAny_bind (listItems_at ho2 hd ?_)
  refine wpAny_bind (listItems_at (xs := #[]) (n := 0) (Heap.get?_push_size _ rfl) rfl ?_)
  rw [if_neg (by simp)]
  refine wpAny_bind (listUpdate_at (xs := #[]) (n := 0) (Heap.get?_push_size _ rfl) rfl ?_ (Nat.zero_le _)
    (by show (#[] ++ vs.toArray).size ≤ sizeLine + 1
        simp only [Array.size_append, List.size_toArray, List.length_nil]
        omega))
  refine wpAny_pure ?_
  show wpAny (model prog w) A
    (do let o ← load s.heap.objs.size
        match o.data with
        | .seq xs _ => pure xs.toList
        | _ => unsupported "internal:collect") Q E _
  refine wpAny_bind (wpAny_load (get?_update_seq (Heap.get?_push_size _ rfl) _) ?_)
  show wpAny _ _ (pure ((#[] : Array Value) ++ vs.toArray).toList) Q E _
  rw [show ((#[] : Array Value) ++ vs.toArray).toList = vs by simp]
  exact wpAny_pure h
open PyProof.Rows in
theorem sorted_tup {l : Addr} {vs : List Value} {Q : Value → Shared → Prop} (hl : s.heap.IsTuple l vs.toArray) (hL : vs.length ≤ sizeLine)
    (body : ∀ E' : Value → Shared → Prop, wpAny (model prog w) A.in1.in1 (Builtin.«list.sort» ⟨[.ref (s.heap.objs.size + 1)], []⟩)
      (fun f s' => f = .done (.ret .none) ∧ Q (.ref (s.heap.objs.size + 1)) s') E' { s with heap := copyHeap s.heap vs }) :
    wpAny (model prog w) A (call (.builtin "sorted") [.ref l]) Q E s := by
  refine call_function_entry_kw kind_sorted plain_sorted entry_sorted (args_sorted1 _) ?_
  unfold Builtin.«sorted»
  refine wpAny_bind (m := checkCount "sorted" 1 1 _) (wpAny_pure ?_)
  refine wpAny_bind (collect_tup hl hL ?_)
  refine wpAny_bind (wpAny_newList ?_ hL)
  have hsz : ((s.heap.push (seqObj "list" #[] 0)).update s.heap.objs.size (Obj.mapSeq (· ++ vs.toArray))).objs.size = s.heap.objs.size + 1 := by
    rw [Heap.size_update]
    exact size_push' _ _
  show wpAny _ _ _ _ _ { s with heap := copyHeap s.heap vs }
  rw [hsz]
  refine wpAny_bind (wpAny_holding (wpAny_call_entry_kw slot_list_sort ⟨_, copyHeap_at s.heap vs, rfl⟩ entry_list_sort ?body (args_list_sort _)))
  case body =>
    show wpAny (model prog w) A.in1.in1 (Builtin.«list.sort» ⟨[.ref (s.heap.objs.size + 1)], []⟩) _ _ _
    refine wpAny_mono (body _) (fun f s' hf => ?_) fun _ _ e => e
    obtain ⟨rfl, hq⟩ := hf
    exact ⟨_, rfl, wpAny_pure ⟨_, rfl, hq⟩⟩
end
section
variable {X : Cx}
theorem reps_each {w : Wd} {Z : Addr → Prop} {H : Hp} : ∀ {vs : List V} {ds : List D} {us : List Value}, Reps w Z H vs ds → Vals vs us → EachIs (fun u d => ∃ v, RelV v u ∧ Rep w Z H v d) us ds
  | _, _, _, .nil, .nil => .nil
  | _, _, _, .cons h t, .cons r q => .cons ⟨_, r, h⟩ (reps_each t q)
theorem each_reps {w : Wd} {Z : Addr → Prop} {H : Hp} : ∀ {us : List Value} {ds : List D}, EachIs (fun u d => ∃ v, RelV v u ∧ Rep w Z H v d) us ds → ∃ vs, Vals vs us ∧ Reps w Z H vs ds
  | _, _, .nil => ⟨[], .nil, .nil⟩
  | _, _, .cons ⟨v, r, h⟩ t => by
    obtain ⟨vs, q, k⟩ := each_reps t
    exact ⟨v :: vs, .cons r q, .cons h k⟩
theorem cmpOk_ok {a b : D} (h : cmpOk a b = true) : a.hasDict = false ∧ min a.depth b.depth ≤ 60 ∧ alike a b = true ∧ a ≠ .none := by
  have q : ilt a b = some (dataLt a b) := by unfold ilt; rw [if_pos h]
  obtain ⟨h1, _, h3, h4, h5, _⟩ := ilt_ok q
  exact ⟨h1, h3, h4, h5⟩
theorem sort_ok {l : List D} (h : sortOk l = true) : (∀ a ∈ l, a.hasDict = false ∧ a.depth ≤ 60) ∧ AllAlike l ∧ Sortable l := by
  unfold sortOk at h
  obtain ⟨h1, h2⟩ := and_true h
  have al : ∀ a ∈ l, ∀ b ∈ l, cmpOk a b = true := fun a ha b hb => List.all_eq_true.mp (List.all_eq_true.mp h1 a ha) b hb
  refine ⟨fun a ha => ?_, fun a ha b hb => (cmpOk_ok (al a ha b hb)).2.2.1, ?_⟩
  · obtain ⟨q1, q2, _⟩ := cmpOk_ok (al a ha a ha)
    rw [Nat.min_self] at q2
    exact ⟨q1, q2⟩
  · rcases Bool.or_eq_true_iff.mp h2 with h2 | h2
    · refine .inl fun d hd => ?_
      have q := List.all_eq_true.mp h2 d hd
      split at q
      · exact ⟨_, _, rfl⟩
      · cases q
    · refine .inr fun d hd => ⟨(cmpOk_ok (al d hd d hd)).2.2.2, fun xs e => ?_⟩
      subst e
      have q := List.all_eq_true.mp h2 _ hd
      cases q
theorem leD_eq : leD = dataLe false (id : D → D) := rfl
theorem R_sorted (xa : XA X) : CallR X (.builtin "sorted") (rAp (wdX X) .sorted) := by
  intro pins s σ H xs us Q I rv h
  obtain ⟨Z, ds, d, zd, r, e, k⟩ := h
  obtain ⟨a, rfl⟩ : ∃ a, ds = [a] := by
    match ds, e with
    | [a], _ => exact ⟨a, rfl⟩
  have e : ((seqOf a).bind fun l => if sortOk l = true then some (PyData.list (l.mergeSort leD)) else none) = some d := e
  obtain ⟨x, rfl, r1⟩ := r.one
  cases q : seqOf a with
  | none => rw [q] at e; cases e
  | some l =>
    rw [q] at e
    have e : (if sortOk l = true then some (PyData.list (l.mergeSort leD)) else none) = some d := e
    split at e
    · rename_i so
      cases e
      obtain ⟨dep, hal, hk⟩ := sort_ok so
      have hu := xa.un
      -- whatever it reads off: the items
      have fin : ∀ {p : Addr} {ys : List V} {its : List Value}, Reps (wdX X) Z H ys l → Vals ys its → ys.length ≤ sizeLine →
          ((∀ out, out.length = l.length → EachIs (fun u d => ∃ v, RelV v u ∧ Rep (wdX X) Z H v d) out (l.mergeSort (dataLe false id)) →
            EP X pins σ Q (.ref (s.heap.objs.size + 1)) { s with heap := PyProof.Rows.sortedAll s.heap its (List.toArray out) }) →
            EachIs (fun v b => ∃ as, Reads s.heap v (id b) as) its l → EachIs (fun u d => ∃ v, RelV v u ∧ Rep (wdX X) Z H v d) its l → its.length ≤ sizeLine →
            wpAny (model X.prog X.w) X.A (call (.builtin "sorted") [.ref p]) (EP X pins σ Q) X.xe s) →
          wpAny (model X.prog X.w) X.A (call (.builtin "sorted") [.ref p]) (EP X pins σ Q) X.xe s := fun {p ys its} ra rva hz go => by
        have e1 := reps_each ra rva
        have e2 : ∀ {us : List Value} {ds : List D}, (∀ a ∈ ds, a.hasDict = false) → EachIs (fun u d => ∃ v, RelV v u ∧ Rep (wdX X) Z H v d) us ds → EachIs (fun v b => ∃ as, Reads s.heap v (id b) as) us ds := by
          intro us ds hd h
          induction h with
          | nil => exact .nil
          | cons h t ih =>
            obtain ⟨v, r, h⟩ := h
            obtain ⟨as, q, _⟩ := Rep.reads I h (hd _ List.mem_cons_self) r
            exact .cons ⟨as, q⟩ (ih fun a ha => hd a (List.mem_cons_of_mem _ ha))
        refine go (fun out hl ho => ?_) (e2 (fun a ha => (dep a ha).1) e1) e1 (by rw [← rva.length]; exact hz)
        obtain ⟨vs, q1, q2⟩ := each_reps ho
        obtain ⟨ep, he⟩ := PyProof.Rows.sortedAll_at s.heap its (List.toArray out)
        have hlen : vs.length ≤ sizeLine := by
          rw [q1.length, hl, ← ra.length]
          exact hz
        exact ⟨.ref _, upd H (s.heap.objs.size + 1) (.lst vs), I.laid (t' := s.toks) (fun _ _ => PyProof.Rows.sortedAll_old) (Nat.le_succ _)
          ⟨hlen, out, ep, q1, he⟩, rfl, new_list zd q2 k _ (I.hok.fresh (Nat.le_succ _))⟩
      have hb : ∀ b, b ∈ l → X.A.units + 2 + (id b : D).depth < cLine := fun b hb => by
        have := (dep b hb).2
        show X.A.units + 2 + b.depth < cLine
        omega
      have hm : l.map id = l := List.map_id _
      cases a with
      | list m =>
        cases q
        obtain ⟨p, ys, rfl, ha, ra⟩ := r1.list
        obtain ⟨its, n, hz, rva, _, ea⟩ := Rd.lstM I ha
        obtain ⟨u, rfl, ru⟩ := vals1 rv
        cases ru
        refine fin ra rva hz fun h e2 e1 hL => ?_
        exact sorted_data (s := s) (enc := id) (bs := l) ⟨_, ea, rfl, n, rfl⟩ e1 e2 (by rw [hm]; exact hal) (by rw [hm]; exact hk) (by rw [← ra.length]; exact hz) hb h
      | tuple m =>
        cases q
        obtain ⟨p, ys, rfl, ha, ra⟩ := r1.tuple
        obtain ⟨its, rva, ht, hz⟩ := I.tuple ha.sq
        obtain ⟨u, rfl, ru⟩ := vals1 rv
        cases ru
        refine fin ra rva hz fun h e2 e1 hL => ?_
        have er' : EachIs (fun v b => ∃ as, Reads (sortingHeap (copyHeap s.heap its) (s.heap.objs.size + 1) its) v (id b) as) its l := e2.mono fun _ _ ⟨as, r⟩ => ⟨as, PyProof.Rows.Reads.keeps (fun _ _ => sorting_copy_old) r⟩
        refine sorted_tup ht hL fun E' => list_sort_vals (s := { s with heap := copyHeap s.heap its }) (copyHeap_at s.heap its)
          (SortsAt.data (s := { s with heap := sortingHeap (copyHeap s.heap its) (s.heap.objs.size + 1) its }) (each_map (R := fun v d => ∃ as, Reads (sortingHeap (copyHeap s.heap its) (s.heap.objs.size + 1) its) v d as) id er') (by rw [hm]; exact hal) (by rw [hm]; exact hk) (bound_map hb)) hL
          ⟨rfl, h _ (by rw [sortVals_length false rfl]; exact e1.length) (sortVals_data false e1 er' (by rw [hm]; exact hal))⟩
      | _ => cases q
    · cases e
end
end M3
set_option Elab.async false
set_option linter.all false
set_option maxRecDepth 100000
namespace M3
open PySem PySem.Spec L2 PySem.W
section
variable {X : Cx}
theorem R_bool : CallR X (.type "bool") (rAp (wdX X) .bool) := by
  intro pins s σ H xs us Q I rv h
  obtain ⟨Z, ds, d, zd, r, e, k⟩ := h
  obtain ⟨a, rfl⟩ : ∃ a, ds = [a] := by
    cases ds with
    | nil => cases e
    | cons a t =>
      cases t with
      | nil => exact ⟨a, rfl⟩
      | cons b t => cases a <;> cases e
  obtain ⟨x, rfl, r1⟩ := r.one
  cases a with
  | int i =>
    cases e
    have e1 := r1.int
    subst e1
    exact call_bool1 pins s σ H _ us Q I rv (.inl ⟨_, rfl, k _ Z H (P0.refl zd) (.bl _)⟩)
  | bool i =>
    cases e
    have e1 := r1.bool
    subst e1
    exact call_bool1 pins s σ H _ us Q I rv (.inr ⟨_, rfl, k _ Z H (P0.refl zd) (.bl _)⟩)
  | _ => cases e
theorem R_str : CallR X (.type "str") (rAp (wdX X) .str) := by
  intro pins s σ H xs us Q I rv h
  obtain ⟨Z, ds, d, zd, r, e, k⟩ := h
  obtain ⟨a, rfl⟩ : ∃ a, ds = [a] := by
    cases ds with
    | nil => cases e
    | cons a t =>
      cases t with
      | nil => exact ⟨a, rfl⟩
      | cons b t => cases a <;> cases e
  obtain ⟨x, rfl, r1⟩ := r.one
  cases a with
  | int i =>
    have e : (if (decide (i.natAbs.log2 < 1000) && sOk (toString i)) = true then some (PyData.str (toString i)) else none) = some d := e
    split at e
    · cases e
      rename_i hq
      obtain ⟨h1, h2⟩ := and_true hq
      have h1 := of_decide_eq_true h1
      have e1 := r1.int
      subst e1
      exact call_str_int pins s σ H _ us Q I rv ⟨_, rfl, by omega, k _ Z H (P0.refl zd) (.str _ h2)⟩
    · cases e
  | str i =>
    cases e
    obtain ⟨e1, k1⟩ := r1.str
    subst e1
    exact SkE.call_str_str pins s σ H _ us Q I rv ⟨_, rfl, k _ Z H (P0.refl zd) (.str _ k1)⟩
  | _ => cases e
theorem R_repr (xa : XA X) : CallR X (.builtin "repr") (rAp (wdX X) .repr) := by
  intro pins s σ H xs us Q I rv h
  obtain ⟨Z, ds, d, zd, r, e, k⟩ := h
  obtain ⟨a, rfl⟩ : ∃ a, ds = [a] := by
    cases ds with
    | nil => cases e
    | cons a t =>
      cases t with
      | nil => exact ⟨a, rfl⟩
      | cons b t => cases a <;> cases e
  obtain ⟨x, rfl, r1⟩ := r.one
  have e : (if (!a.hasDict && a.showable && decide (a.depth ≤ 60) && sOk a.shown) = true then some (PyData.str a.shown) else none) = some d := e
  split at e
  · cases e
    rename_i hq
    obtain ⟨hq, h4⟩ := and_true hq
    obtain ⟨hq, h3⟩ := and_true hq
    obtain ⟨h1, h2⟩ := and_true hq
    have h1 : a.hasDict = false := by simpa using h1
    have h3 := of_decide_eq_true h3
    obtain ⟨u, rfl, ru⟩ := vals1 rv
    obtain ⟨as, rd, _⟩ := r1.reads I h1 ru
    have hsz : a.shown.length ≤ sizeLine := lim_of (sOk_len h4)
    have hu := xa.un
    have fin : ∀ (h' : Heap) (u : Tok) (tk : Nat), (∀ b o, s.heap.get? b = some o → h'.get? b = some o) → EP X pins σ Q (.str a.shown u) { s with heap := h', toks := tk } :=
      fun h' u tk hk => ⟨.str a.shown, H, I.kept hk, ⟨u, rfl⟩, k _ Z H (P0.refl zd) (.str _ h4)⟩
    have fin0 : ∀ (u : Tok) (tk : Nat), EP X pins σ Q (.str a.shown u) { s with toks := tk } := fun u tk => fin s.heap u tk fun _ _ e => e
    cases rd with
    | none => exact PySem.P.repr_of_none (fin0 _ _)
    | bool b => exact PySem.P.repr_of_bool (fin0 _ _)
    | int i t => exact PySem.P.repr_of_int (of_decide_eq_true h2) (fin0 _ _)
    | str z t => exact PySem.P.repr_of_str (fin0 _ _) hsz
    | list q1 q2 q3 q4 => exact repr_of_reads' (.list q1 q2 q3 q4) h2 (fun z => by rw [h1] at z; cases z) xa.gd (by omega) (fun _ _ e => e) fin hsz
    | tuple q1 q2 q3 q4 => exact repr_of_reads' (.tuple q1 q2 q3 q4) h2 (fun z => by rw [h1] at z; cases z) xa.gd (by omega) (fun _ _ e => e) fin hsz
    | dict q1 q2 q3 q4 q5 => cases h1
  · cases e
theorem repF : OpR X (binaryOp .Mult) (fun x y H Q => ∃ l k xs, x = .ref l ∧ y = .int k ∧ SqT X.K H l xs ∧ xs ≠ [] ∧ 2 ≤ k ∧ k ≤ 1000 ∧ xs.length ≤ 1000 ∧ ∀ p o, H p = none → o.dict = none → Q (.ref p) (upd H p (.frz o (.tup (List.replicate k.toNat xs).flatten)))) := by
  intro pins s σ H x y v u Q I rx ry h
  obtain ⟨l, m, xs, rfl, rfl, hT, hne, b1, b2, hz, q⟩ := h
  cases rx
  obtain ⟨t, rfl⟩ := ry
  obtain ⟨its, r, ⟨⟨cls, dd, data, sl⟩, ho, hcl, n, hda⟩, hs⟩ := I.tuple hT
  simp only at hcl hda
  subst hcl hda
  have hle : its.length = xs.length := r.length.symm
  have hi : its.toArray.isEmpty = false := by
    cases its with
    | nil => exact absurd (List.eq_nil_of_length_eq_zero hle.symm) hne
    | cons a b => rfl
  have hsz0 : its.toArray.size = xs.length := by rw [List.size_toArray, hle]
  have a0 : ((xs.length : Nat) : Int) * m ≤ 1000 * m := Int.mul_le_mul_of_nonneg_right (by omega) (by omega)
  have hm : ((its.toArray.size : Nat) : Int) * m ≤ 1000000 := by rw [hsz0]; omega
  have a1 : m.toNat * xs.length ≤ 1000 * 1000 := Nat.mul_le_mul (by omega) hz
  have fle : (List.replicate m.toNat its).flatten.length ≤ sizeLine := by rw [PyProof.Rows.lm_len_rep_flat, hle, sizeLine_eq]; omega
  have d0 : (decide (m < -(2 ^ 63)) || decide (m ≥ 2 ^ 63)) = false := by rw [decide_eq_false (by omega), decide_eq_false (by omega)] <;> rfl
  have d1 : (its.toArray.isEmpty || m == 1) = false := by rw [hi, Bool.false_or]; exact beq_eq_false_iff_ne.mpr (by omega)
  have d2 : (decide (m ≤ 0) || its.toArray.isEmpty) = false := by rw [hi, Bool.or_false]; exact decide_eq_false (by omega)
  have d4 : Builtin.Tuple.tupleTooMany (((its.toArray.size : Nat) : Int) * m) = false := by
    unfold Builtin.Tuple.tupleTooMany
    rw [sizeLine_eq]
    exact decide_eq_false (by omega)
  refine wpAny_binaryOp_repeat_ref (T := "tuple") (U := "int") (by decide) ⟨_, ho, rfl⟩ (fun s' => typeIs_int s' m t) noFill_tuple_mul F.fills_int_mul F.slot_int_rmul L2.repeat_tuple F.slot_int_index.lookup
    (call_meets F.slot_int_rmul (typeIs_int s m t) F.entry_int_rmul (F.args_int_rmul_2 _ _) (L2.int_rmul_tuple m t l its.toArray n dd sl)
      ⟨ho, rfl, ⟨_, ho, rfl⟩, call_meets F.slot_tuple_mul ⟨_, ho, rfl⟩ F.entry_tuple_mul (F.args_tuple_mul_2 _ _) (tuple_mulW l its.toArray n dd sl m t d0 d1 d2 (by omega) d4 (by rw [size_rep, List.size_toArray]; exact fle)) ⟨ho, ?_⟩⟩)
  rw [size_rep]
  exact ⟨.ref s.heap.objs.size, _, tupNew I (r.rep m.toNat) (by rw [PyProof.Rows.lm_len_rep_flat, sizeLine_eq]; omega), rfl, q _ _ (I.hok.fresh (Nat.le_refl _)) rfl⟩
theorem R_mul : OpR X (binaryOp .Mult) (r2Ap (wdX X) .mul) := by
  intro pins s σ H x y v u Q I rx ry h
  obtain ⟨Z, ds, d, zd, r, e, k⟩ := h
  obtain ⟨d1, d2, rfl, r1, r2⟩ := r.v2
  have e : imul d1 d2 = some d := e
  unfold imul at e
  split at e
  · split at e
    · cases e
      rename_i hs
      have e1 := r1.int
      have e2 := r2.int
      subst e1 e2
      refine op_mul pins s σ H _ _ v u Q I rx ry ⟨_, _, rfl, rfl, ?_, k _ Z H (P0.refl zd) (.int _)⟩
      rcases Bool.or_eq_true_iff.mp hs with q | q
      · exact .inl (small64_ok q)
      · exact .inr (small64_ok q)
    · cases e
  · split at e
    · cases e
      rename_i l j hq
      obtain ⟨hq, h3⟩ := and_true hq
      obtain ⟨h1, h2⟩ := and_true hq
      have h1 := of_decide_eq_true h1
      have h2 := of_decide_eq_true h2
      have h3 := of_decide_eq_true h3
      have e2 := r2.int
      subst e2
      obtain ⟨a, xs, rfl, ha, ra⟩ := r1.list
      obtain ⟨its, n, z, rv, hl, e⟩ := Rd.lstM I ha
      cases rx
      obtain ⟨t, rfl⟩ := ry
      have hz : xs.length * j.toNat ≤ sizeLine := by rw [ra.length]; exact lim_of h3
      have hlen : its.toArray.size * j.toNat ≤ sizeLine := by
        rw [List.size_toArray, ← hl]
        exact hz
      have hcap : ¬ its.toArray.size * j.toNat > (2 ^ 63 - 1) / 8 := by
        have h0 : (sizeLine : Nat) ≤ (2 ^ 63 - 1) / 8 := by decide
        omega
      have hfit : ¬ (!Builtin.List.listFitsIndex j) = true := by
        rw [fitsIndex_both (by omega) (by omega)]
        decide
      have hlong : ¬ Builtin.List.listTooLong (its.toArray.size * j.toNat) = true := by
        rw [notLongL hlen]
        decide
      have f0 : ∀ m : Nat, List.foldl (fun x1 x2 => x1 ++ x2) #[] (List.replicate m its.toArray) = (List.replicate m its).flatten.toArray := fun m => by
        have q := foldl_rep its m []
        rw [List.nil_append] at q
        exact q
      have hnew : List.foldl (fun x1 x2 => x1 ++ x2) #[] (List.replicate (if its.toArray.isEmpty = true then 0 else j.toNat) its.toArray) = (List.replicate j.toNat its).flatten.toArray := by
        rw [f0]
        cases its with
        | nil => simp
        | cons a r' => simp
      refine wpAny_binaryOp_repeat_ref (T := "list") (U := "int") (by decide) ⟨_, e, rfl⟩ (fun s' => typeIs_int s' j t)
        noFill_list_mul F.fills_int_mul F.slot_int_rmul repeat_list F.slot_int_index.lookup
        (call_meets F.slot_int_rmul (typeIs_int s j t) F.entry_int_rmul (F.args_int_rmul_2 _ _)
          (int___rmul___int_list j t a its.toArray n)
          ⟨e, rfl, ⟨_, e, rfl⟩, call_meets F.slot_list_mul ⟨_, e, rfl⟩ F.entry_list_mul (F.args_list_mul_2 _ _)
            (AutoListH.list___mul___list_int_3 a its.toArray n j t hfit hcap hlong) ⟨e, ?_⟩⟩)
      rw [hnew]
      refine ⟨.ref _, _, I.lnew (t' := s.toks) (rv.rep j.toNat) ?_, rfl, new_list zd (ra.flat j.toNat) k _ I.fresh⟩
      rw [PyProof.Rows.lm_len_rep_flat, Nat.mul_comm]
      exact hz
    · cases e
  · split at e
    · cases e
      rename_i l j hq
      obtain ⟨hq, h4⟩ := and_true hq
      obtain ⟨hq, h3⟩ := and_true hq
      obtain ⟨h1, h2⟩ := and_true hq
      have e2 := r2.int
      subst e2
      obtain ⟨a, xs, rfl, ha, ra⟩ := r1.tuple
      have hl := ra.length
      have h4 := of_decide_eq_true h4
      refine repF pins s σ H _ _ v u Q I rx ry ⟨a, j, xs, rfl, rfl, ha.sq, fun z => ?_, of_decide_eq_true h2, of_decide_eq_true h3, by omega, new_tuple zd (ra.flat j.toNat) k⟩
      subst z
      cases ra
      cases h1
    · cases e
  · cases e
/-- methods -/
theorem M_split : MtR X "str.split" (fun x xs H Q => rAp (wdX X) .split (x :: xs) H Q) := by
  intro pins s σ H x xs v us Q I rx rs h
  obtain ⟨Z, ds, d, zd, r, e, k⟩ := h
  obtain ⟨d1, d2, rfl⟩ : ∃ d1 d2, ds = [d1, d2] := by
    match ds, e with
    | [.str a, .str b], _ => exact ⟨_, _, rfl⟩
  obtain ⟨x', y, ex, r1, r2⟩ := r.two
  cases ex
  cases d1 with
  | str a =>
    cases d2 with
    | str b =>
      have e : (if (!(b.length == 0) && (Txt.split a b).all sOk) = true then some (PyData.list ((Txt.split a b).map .str)) else none) = some d := e
      split at e
      · cases e
        rename_i hq
        obtain ⟨h1, h2⟩ := and_true hq
        obtain ⟨e1, k1⟩ := r1.str
        obtain ⟨e2, k2⟩ := r2.str
        subst e1 e2
        have hl := sOk_len k1
        exact mt_split pins s σ H _ _ v us Q I rx rs ⟨a, b, rfl, rfl, by simpa using h1, by rw [sizeLine_eq]; omega, new_list zd (Reps.of_strs fun y hy => List.all_eq_true.mp h2 y hy) k⟩
      · cases e
    | _ => cases e
  | _ => cases e
theorem M_join : MtR X "str.join" (fun x xs H Q => rAp (wdX X) .join (x :: xs) H Q) := by
  intro pins s σ H x xs v us Q I rx rs h
  obtain ⟨Z, ds, d, zd, r, e, k⟩ := h
  obtain ⟨d1, d2, rfl⟩ : ∃ d1 d2, ds = [d1, d2] := by
    match ds, e with
    | [.str a, b], _ => exact ⟨_, _, rfl⟩
  obtain ⟨x', y, ex, r1, r2⟩ := r.two
  cases ex
  cases d1 with
  | str a =>
    have e : ((match d2 with | .list l => strsD l | .tuple l => strsD l | _ => none).bind fun (xs : List Str) =>
      if (decide ((xs.map fun (y : Str) => y.length).sum + xs.length * a.length ≤ LIM) && sOk (Txt.join a xs)) = true then some (PyData.str (Txt.join a xs)) else none) = some d := e
    obtain ⟨e1, k1⟩ := r1.str
    subst e1
    have go : ∀ {p : Addr} {zs : List V} {l : List D}, y = .ref p → (SqL X.K H p zs ∨ SqT X.K H p zs) → Reps (wdX X) Z H zs l → ((strsD l).bind fun (xs : List Str) =>
        if (decide ((xs.map fun (y : Str) => y.length).sum + xs.length * a.length ≤ LIM) && sOk (Txt.join a xs)) = true then some (PyData.str (Txt.join a xs)) else none) = some d →
        wpAny (model X.prog X.w) X.A (call (.builtin "str.join") (v :: us)) (EP X pins σ Q) X.xe s := fun {p zs l} ey hs ra e => by
      subst ey
      cases q : strsD l with
      | none => rw [q] at e; cases e
      | some ss =>
        rw [q] at e
        have e : (if (decide ((ss.map fun (y : Str) => y.length).sum + ss.length * a.length ≤ LIM) && sOk (Txt.join a ss)) = true then some (PyData.str (Txt.join a ss)) else none) = some d := e
        split at e
        · rename_i hq
          cases e
          obtain ⟨h1, h2⟩ := and_true hq
          have h1 := of_decide_eq_true h1
          obtain ⟨q1, q2, q3⟩ := ra.strsD_all q
          subst q1
          refine mt_join pins s σ H _ _ v us Q I rx rs ⟨a, p, ss, rfl, rfl, hs, ?_, k _ Z H (P0.refl zd) (.str _ h2)⟩
          have : LIM = 1000000 := rfl
          omega
        · cases e
    cases d2 with
    | list l =>
      obtain ⟨p, zs, ey, ha, ra⟩ := r2.list
      exact go ey (.inl (.inl ha)) ra e
    | tuple l =>
      obtain ⟨p, zs, ey, ha, ra⟩ := r2.tuple
      exact go ey (.inr ha.sq) ra e
    | _ => cases e
  | _ => cases e
theorem findIdx_some {α : Type} {l : List α} {p : α → Bool} {j : Nat} (h : l.findIdx? p = some j) : ∃ x, l[j]? = some x ∧ p x = true ∧ ∀ m, m < j → ∀ y, l[m]? = some y → p y = false := by
  rw [List.findIdx?_eq_some_iff_getElem] at h
  obtain ⟨hj, hp, hn⟩ := h
  refine ⟨l[j], by simp [hj], hp, fun m hm y hy => ?_⟩
  have hml : m < l.length := Nat.lt_trans hm hj
  rw [List.getElem?_eq_getElem hml] at hy
  cases hy
  have := hn m hm
  simpa using this
theorem M_index : MtR X "tuple.index" (fun x xs H Q => rAp (wdX X) .index (x :: xs) H Q) := by
  intro pins s σ H x xs v us Q I rx rs h
  obtain ⟨Z, ds, d, zd, r, e, k⟩ := h
  obtain ⟨l, z, rfl⟩ : ∃ l z, ds = [.tuple l, .str z] := by
    match ds, e with
    | [.tuple a, .str b], _ => exact ⟨_, _, rfl⟩
  obtain ⟨x', y, ex, r1, r2⟩ := r.two
  cases ex
  have e : ((strsD l).bind fun ss => (ss.findIdx? fun y => y == z).map fun k => PyData.int (k : Nat)) = some d := e
  cases q : strsD l with
  | none => rw [q] at e; cases e
  | some ss =>
    rw [q] at e
    obtain ⟨j, hj, rfl⟩ := map_some (show (ss.findIdx? fun y => y == z).map (fun k => PyData.int (k : Nat)) = some d from e)
    obtain ⟨p, zs, ey, ha, ra⟩ := r1.tuple
    subst ey
    obtain ⟨q1, q2, q3⟩ := ra.strsD_all q
    subst q1
    obtain ⟨e2, k2⟩ := r2.str
    subst e2
    obtain ⟨w, hw, pw, hn⟩ := findIdx_some hj
    have ew : w = z := by simpa using pw
    subst ew
    refine mt_tup_index pins s σ H _ _ v us Q I rx rs ⟨p, ss, w, j, rfl, rfl, ha.sq, hw, fun m hm hq => ?_, k _ Z H (P0.refl zd) (.int _)⟩
    have := hn m hm _ hq
    simp at this
theorem M_indexL : MtR X "list.index" (fun x xs H Q => rAp (wdX X) .indexL (x :: xs) H Q) := by
  intro pins s σ H x xs v us Q I rx rs h
  obtain ⟨Z, ds, d, zd, r, e, k⟩ := h
  obtain ⟨l, z, rfl⟩ : ∃ l z, ds = [.list l, .bool z] := by
    match ds, e with
    | [.list a, .bool b], _ => exact ⟨_, _, rfl⟩
  obtain ⟨x', y, ex, r1, r2⟩ := r.two
  cases ex
  have e : ((boolsD l).bind fun ss => (ss.findIdx? fun y => y == z).map fun k => PyData.int (k : Nat)) = some d := e
  cases q : boolsD l with
  | none => rw [q] at e; cases e
  | some ss =>
    rw [q] at e
    obtain ⟨j, hj, rfl⟩ := map_some (show (ss.findIdx? fun y => y == z).map (fun k => PyData.int (k : Nat)) = some d from e)
    obtain ⟨p, zs, ey, ha, ra⟩ := r1.list
    subst ey
    have q1 := ra.boolsD q
    subst q1
    have e2 := r2.bool
    subst e2
    obtain ⟨w, hw, pw, hn⟩ := findIdx_some hj
    refine mt_index pins s σ H _ _ v us Q I rx rs ⟨p, ss.map V.bl, .bl z, j, .bl w, rfl, rfl, .inl ha, rfl, ?_, ?_, pw, fun m z' hm hq => ?_, k _ Z H (P0.refl zd) (.int _)⟩
    · exact List.all_eq_true.mpr fun y hy => by
        obtain ⟨b, _, rfl⟩ := List.mem_map.mp hy
        rfl
    · rw [List.getElem?_map, hw]
      rfl
    · rw [List.getElem?_map] at hq
      cases e3 : ss[m]? with
      | none => rw [e3] at hq; cases hq
      | some b =>
        rw [e3] at hq
        cases hq
        exact hn m hm b e3
theorem M_count (xa : XA X) : MtR X "list.count" (fun x xs H Q => rAp (wdX X) .count (x :: xs) H Q) := by
  intro pins s σ H x xs v us Q I rx rs h
  obtain ⟨Z, ds, d, zd, r, e, k⟩ := h
  obtain ⟨l, z, rfl⟩ : ∃ l z, ds = [.list l, .bool z] := by
    match ds, e with
    | [.list a, .bool b], _ => exact ⟨_, _, rfl⟩
  obtain ⟨x', y, ex, r1, r2⟩ := r.two
  cases ex
  obtain ⟨bs, e', rfl⟩ := map_some (show (boolsD l).map (fun bs => PyData.int (bs.count z)) = some d from e)
  have hl : l = bs.map PyData.bool ∧ PyData.hasDictAll l = false ∧ PyData.depthAll l = 0 := by
    clear k e r r1
    induction l generalizing bs with
    | nil => cases e'; exact ⟨rfl, rfl, rfl⟩
    | cons a l ih =>
      cases a with
      | bool b =>
        obtain ⟨bs', e2, rfl⟩ := map_some (show (boolsD l).map (b :: ·) = some bs from e')
        obtain ⟨h1, h2, h3⟩ := ih bs' e2
        refine ⟨by rw [h1]; rfl, ?_, ?_⟩
        · show (false || PyData.hasDictAll l) = false
          rw [h2]; rfl
        · show max 0 (PyData.depthAll l) = 0
          rw [h3]; rfl
      | _ => cases e'
  obtain ⟨h1, h2, h3⟩ := hl
  obtain ⟨p, zs, ey, ha, ra⟩ := r1.list
  subst ey
  have e2 := r2.bool
  subst e2
  cases rx
  obtain ⟨u, rfl, ru⟩ := vals1 rs
  cases ru
  obtain ⟨its, n, z', rv, hlen, ea⟩ := Rd.lstM I ha
  obtain ⟨as, q1, c1⟩ := Reps.reads I ra h2 rv
  have hu := xa.un
  refine PySem.SeqAt.count_list_data (vs := its.toArray) (xs := l) (d := .bool z) (bs := []) ⟨_, ea, rfl, n, rfl⟩ (by simpa using q1) (Reads.bool z) (PyData.plainAll_of_canLay0 l c1) rfl (by rw [h3]; omega)
    ⟨.int _, H, I.tok _, ⟨_, rfl⟩, ?_⟩
  have ec : l.countP (fun y => PyData.eqv y (.bool z)) = bs.count z := by
    rw [h1, List.countP_map]
    rfl
  rw [ec]
  exact k _ Z H (P0.refl zd) (.int _)
end
end M3
set_option Elab.async false
set_option linter.all false
set_option maxRecDepth 100000
/-! F8b: len(set(texts)), list(range(n)). -/
namespace M3
open PySem PySem.Spec L2
open PyProof.Rows hiding St
theorem cntS_le (xs : List Str) : ∀ i, cntS xs i ≤ i
  | 0 => Nat.le_refl _
  | i + 1 => by
    have := cntS_le xs i
    unfold cntS
    split <;> omega
theorem take_any {xs : List Str} {i : Nat} (h : i < xs.length) (k : Str) : (xs.take (i + 1)).any (· == k) = ((xs.take i).any (· == k) || decide (k = xs.getD i Str.empty)) := by
  have e : xs.take (i + 1) = xs.take i ++ [xs.getD i Str.empty] := by
    rw [List.take_succ, List.getD_eq_getElem?_getD, List.getElem?_eq_getElem h]
    rfl
  rw [e, List.any_append]
  by_cases q : k = xs.getD i Str.empty
  · rw [decide_eq_true q, q]
    simp
  · rw [decide_eq_false q]
    have : (xs.getD i Str.empty == k) = false := beq_eq_false_iff_ne.mpr fun z => q z.symm
    rw [List.any_cons, this]
    rfl
section
variable {prog : Program} {w : World} {A : Around} {R : Result → Shared → Prop} {I : Addr} {fp wr : List Addr} {G : Array GenState → Array GenState → Prop} {n : Nat} {P : Nat → Value → Prop} {Stt : Nat → Shared → Prop}
theorem setLoop (Wk : WalksS prog w A.in1 I fp wr G n P Stt) (S : Addr) (hSf : S ∉ fp) (xs : List Str) (hsz : xs.length = n) (hn1 : n ≤ 1000) (hval : ∀ i v, P i v → ∃ t, v = .str (xs.getD i Str.empty) t) :
    ∀ (k i : Nat) (s : Shared), n - i = k → i ≤ n → Stt i s → s.heap.SetOf (PySem.strKind prog w) S (fun k' => (xs.take i).any (· == k')) (cntS xs i) →
      (∀ s', Moved (S :: wr) G s s' → s'.heap.SetOf (PySem.strKind prog w) S (fun k' => (xs.take n).any (· == k')) (cntS xs n) → R (.ok (.ret .none)) s') →
      codeAny (model prog w) A (.builtin "set.update.loop" ⟨[.ref S, .ref I], []⟩) R s := by
  have hSw : S ∉ wr := fun h => hSf (Wk.sub _ h)
  have hsub : ∀ b ∈ wr, b ∈ S :: wr := fun b hb => List.mem_cons_of_mem _ hb
  intro k
  induction k with
  | zero =>
    intro i s hk hi hst hS hR
    have hin : i = n := by omega
    subst hin
    refine codeAny_builtin PyProof.Rows.F.entry_set_update_loop ?_
    rw [Around.under_plainId PyProof.Rows.F.plain_set_update_loop _]
    show wpAny _ A.in1 (pyNext (.ref I) >>= _) _ _ s
    refine wpAny_bind (Wk.done s _ _ hst fun s' hm => ?_)
    show wpAny _ A.in1 (PySem.ret Value.none) _ _ s'
    exact wpAny_pure (hR s' (hm.mono hsub) (by
      obtain ⟨o, es, ep, t, ho, rest⟩ := hS
      exact ⟨o, es, ep, t, hm.heap S _ hSw ho, rest⟩))
  | succ k ih =>
    intro i s hk hi hst hS hR
    have hlt : i < n := by omega
    have hc := cntS_le xs i
    refine codeAny_builtin PyProof.Rows.F.entry_set_update_loop ?_
    rw [Around.under_plainId PyProof.Rows.F.plain_set_update_loop _]
    show wpAny _ A.in1 (pyNext (.ref I) >>= _) _ _ s
    refine wpAny_bind (Wk.item i s _ _ hlt hst fun v s' hP hst' hm => ?_)
    obtain ⟨t, rfl⟩ := hval i v hP
    have hS' : s'.heap.SetOf (PySem.strKind prog w) S (fun k' => (xs.take i).any (· == k')) (cntS xs i) := by
      obtain ⟨o, es, ep, tb, ho, rest⟩ := hS
      exact ⟨o, es, ep, tb, hm.heap S _ hSw ho, rest⟩
    show wpAny _ A.in1 (holding [Value.str (xs.getD i Str.empty) t] (setAdd S (.str (xs.getD i Str.empty) t)) >>= _) _ _ s'
    refine wpAny_bind (wpAny_holding ?_)
    unfold setAdd
    refine wpAny_holding ?_
    refine wpAny_bind ((PySem.strKind prog w).pyHash (k := xs.getD i Str.empty) (strKind_is _ _ _ _) ?_)
    refine wpAny_setAddHashed_of (knd := PySem.strKind prog w) (s := { s' with toks := s'.toks + 1 }) (strKind_is _ _ _ _) rfl hS' (by unfold scanBound; omega) fun h' hsb hS2 => ?_
    have hSi : h'.SetOf (PySem.strKind prog w) S (fun k' => (xs.take (i + 1)).any (· == k')) (cntS xs (i + 1)) :=
      SetOf_congr hS2 (fun k' => (take_any (by omega) k').symm) rfl
    refine wpAny_pure ⟨plainId_quiet PyProof.Rows.F.plain_set_update_loop _, ih (i + 1) _ (by omega) hlt (Wk.frame _ s' _ _ hst' (Nat.le_succ _) fun b hb o e => ?_) hSi fun s'' hm'' hS'' => ?_⟩
    · rw [hsb.2 b (fun h : b = S => hSf (by rw [← h]; exact hb))]; exact e
    · refine hR s'' (Moved.trans Wk.gtrans ((hm.mono hsub).then_heap (Nat.le_succ _) fun b o hb e => ?_) hm'') hS''
      rw [hsb.2 b (fun h : b = S => hb (by rw [h]; exact List.mem_cons_self))]; exact e
end
section
variable {prog : Program} {w : World} {A : Around} {E : Value → Shared → Prop} {s : Shared}
set_option maxHeartbeats 3200000 in
theorem set_strsT {l : Addr} {items : Array Value} {xs : List Str} {Q : Value → Shared → Prop}
    (hh : A.handled = none) (hl : s.heap.IsTuple l items) (hi : PyProof.Rows.StrsAre items.toList xs) (hn1 : xs.length ≤ 1000)
    (h : ∀ (h' : Heap) (tk : Nat), h'.SetOf (PySem.strKind prog w) s.heap.objs.size (fun k' => (xs.take items.size).any (· == k')) (cntS xs items.size) →
      (∀ b o, b < s.heap.objs.size → s.heap.get? b = some o → h'.get? b = some o) → Q (.ref s.heap.objs.size) { s with heap := h', toks := tk }) :
    wpAny (model prog w) A (call (.type "set") [.ref l]) Q E s := by
  obtain ⟨c, tl, hmro⟩ := PySem.F.called_set.mro
  have hmade := PySem.F.called_set.made
  have hsub := PySem.F.called_set.sub
  refine wpAny_call (codeAny_of_tree ?_)
  show wpAny _ _ (callAny (.type "set") _) _ _ _
  refine wpAny_pure ⟨Code.quiet_builtin _ (by decide +kernel), codeAny_builtin PySem.F.entry_type_call ?_⟩
  rw [Around.under_plain (weight_type_call_type "set" [.ref l] []) rfl]
  have h1 := PySem.F.called_set.notType
  have h2 := PySem.F.called_set.canCreate
  have hct := PySem.F.typeCall_set_1 (.ref l)
  repeat (any_goals (first | assumption | wp_step))

  refine codeAny_mono (code_set_new_1 (.ref l) (E := E) (Q₁ := fun obj s₁ => ∃ led : Bool, obj = .ref s.heap.objs.size ∧ s₁ = { s with heap := s.heap.push { cls := .type "set", dict := none, data := .set #[] 0 (.fresh 0 0 led) } }) fun led => ⟨led, rfl, rfl⟩) fun r s₁ hr => ?_
  cases r with
  | error e => exact hr
  | ok fl =>
    cases fl with
    | ret obj =>
      obtain ⟨led, rfl, rfl⟩ := hr
      have hS : (s.heap.push { cls := .type "set", dict := none, data := .set #[] 0 (.fresh 0 0 led) }).get? s.heap.objs.size = some { cls := .type "set", dict := none, data := .set #[] 0 (.fresh 0 0 led) } := Heap.get?_push_size _ rfl
      have hT : Shared.TypeIs { s with heap := s.heap.push { cls := .type "set", dict := none, data := .set #[] 0 (.fresh 0 0 led) } } (.ref s.heap.objs.size) "set" := ⟨_, hS, rfl⟩
      have hli := PySem.F.called_set.init.lookup
      have hbi := PySem.F.called_set.init.bind (.ref s.heap.objs.size)
      repeat (any_goals (first | assumption | wp_step))

      refine codeAny_mono (codeAny_call_builtin (R := wants (fun r s₂ => r = .none ∧ ∃ h' tk, s₂ = { s with heap := h', toks := tk } ∧
          h'.SetOf (PySem.strKind prog w) s.heap.objs.size (fun k' => (xs.take items.size).any (· == k')) (cntS xs items.size) ∧
          (∀ b o, b < s.heap.objs.size → s.heap.get? b = some o → h'.get? b = some o)) E) PySem.F.called_set.init.plain PySem.F.entry_set_init (check_set_init_1 hT ?_)) fun r₂ s₂ hr₂ => ?_
      · obtain ⟨ol, hol, hcl, nl, hdl⟩ := hl
        obtain ⟨ocls, odict, odata, oslots⟩ := ol
        simp only at hcl hdl
        subst hcl; subst hdl
        have hol' : (s.heap.push { cls := .type "set", dict := none, data := .set #[] 0 (.fresh 0 0 led) }).get? l = some { cls := .type "tuple", dict := odict, data := .seq items nl, slots := oslots } := Heap.get?_push_of_some _ hol
        have hsls := PySem.F.sub_tuple_set
        have hslf := PySem.F.sub_tuple_frozenset
        have hne : (Value.type "tuple" == Value.type "dict") = false := by decide
        have hl1 : (s.heap.push { cls := .type "set", dict := none, data := .set #[] 0 (.fresh 0 0 led) }).IsTuple l items := ⟨_, hol', rfl, nl, rfl⟩
        unfold Builtin.«set.__init__» noKeywords Builtin.Frozenset.updateFrom
        generalize hPI : pyIter = PI
        wp_walk
        subst hPI

        refine wpAny_pyIter_tuple hl1 ?_
        refine wpAny_bind (wpAny_runValue ?_)
        have hlS : l < s.heap.objs.size := Heap.lt_size hol
        have hh3 : A.in1.in1.in1.handled = none := by simp [hh]
        have hneI : l ≠ (s.heap.push { cls := .type "set", dict := none, data := .set #[] 0 (.fresh 0 0 led) }).objs.size := by
          rw [Heap.size_push]; exact Nat.ne_of_lt (Nat.lt_succ_of_lt hlS)
        have hSf : s.heap.objs.size ∉ [(s.heap.push { cls := .type "set", dict := none, data := .set #[] 0 (.fresh 0 0 led) }).objs.size, l] := by
          rw [Heap.size_push]; simp only [List.mem_cons, List.mem_singleton, List.not_mem_nil, or_false, not_or]
          exact ⟨Nat.ne_of_lt (Nat.lt_succ_self _), Nat.ne_of_gt hlS⟩
        have hsz : xs.length = items.size := by rw [← StrsAre.len_eq hi, Array.length_toList]
        have hval : ∀ (i : Nat) (v : Value), items[i]? = some v → ∃ t, v = .str (xs.getD i Str.empty) t := fun i v hv => SS.strs_at hi i v (by rw [Array.getElem?_toList]; exact hv)
        refine setLoop ((Walks.tuple hh3 _ l hneI items).toS) s.heap.objs.size
          hSf xs hsz (by rw [← hsz]; exact hn1) hval (items.size - 0) 0 _ (by omega) (Nat.zero_le _)
          ⟨⟨_, Heap.get?_push_size _ rfl, rfl, rfl⟩, (hl1.push _)⟩ ?hS0 ?hR
        case hS0 =>
          have hget : ((s.heap.push { cls := .type "set", dict := none, data := .set #[] 0 (.fresh 0 0 led) }).push { cls := .type "tuple_iterator", data := .fields #[.ref l, .int 0 0] }).get? s.heap.objs.size
              = some { cls := .type "set", dict := none, data := .set #[] 0 (.fresh 0 0 led) } := Heap.get?_push_of_some _ hS
          exact PyProof.Rows.SetOf_congr ((PyProof.Rows.setObjOf_fresh (knd := PySem.strKind prog w) led).setOf hget (by unfold scanBound; omega)) (fun _ => rfl) rfl
        case hR =>
          intro s' hm hS'
          obtain ⟨h', g', d', tk', os'⟩ := s'
          have eg : g' = s.gens := hm.gens
          have ed : d' = s.drawn := hm.drawn
          have eo : os' = s.os := hm.os
          subst eg; subst ed; subst eo
          show wpAny _ _ _ _ _ _
          refine wpAny_pure ?_
          show wpAny _ _ (PySem.ret Value.none) _ _ _
          refine wpAny_pure ⟨rfl, h', tk', rfl, hS', fun b o hb e => ?_⟩
          have hb1 : b ≠ s.heap.objs.size := Nat.ne_of_lt hb
          have hb2 : b ≠ (s.heap.push { cls := .type "set", dict := none, data := .set #[] 0 (.fresh 0 0 led) }).objs.size := by
            rw [Heap.size_push]; exact Nat.ne_of_lt (Nat.lt_succ_of_lt hb)
          exact hm.heap b o (by simp only [List.mem_cons, List.mem_singleton, List.not_mem_nil, or_false, not_or]; exact ⟨hb1, hb2⟩) (Heap.get?_push_of_some _ (Heap.get?_push_of_some _ e))

      · cases r₂ with
        | error e => exact hr₂
        | ok fl₂ =>
          cases fl₂ with
          | ret r =>
            obtain ⟨rfl, h', tk, rfl, hS', hk'⟩ := hr₂
            repeat (any_goals (first | assumption | wp_step))
            exact h _ _ hS' hk'
          | _ => exact hr₂.elim
    | _ => exact hr.elim

end
section
variable {X : Cx}
theorem pe_setlen {a : Expr} {ta : TE} {p p2 q pos : Pos} (hc : X.calm = true) (hg : Gl X "len") (hm : X.mg "len" = none) (hg2 : Gl X "set") (hm2 : X.mg "set" = none) (ha : PE X a ta)
    (na : starEach [a] X.env = (false, eval a X.env) :: starEach [] X.env) : PE X (.Call (.Name "len" p) [.Call (.Name "set" p2) [a] [] q] [] pos) (fun σ H Q => ta σ H fun x H1 => rAp (wdX X) .setlen [x] H1 Q) := by
  refine ⟨fun pins s σ H Q I h => ?_⟩
  refine Call_ (ld_blt I hg hm boot_len ?_)
  refine PyProof.Rows.callWith_builtin1 (PyProof.Rows.args_cons ?_ rfl) rfl rfl
  refine Call_ (ld_blt I hg2 hm2 boot_set ?_)
  refine PyProof.Rows.callWith_type1 (PyProof.Rows.args_cons (thn (ha.run pins s σ H _ I h) fun v s1 ⟨x, H1, I1, r1, q1⟩ => PyProof.Rows.args_nil ?_) na) na rfl
  obtain ⟨Z, ds, d, zd, r, e, k⟩ := q1
  obtain ⟨d1, rfl, rx⟩ := r.v1
  cases d1 with
  | tuple l =>
    have e : ((strsD l).bind fun ss => if ss.length ≤ 1000 then some (PyData.int (cntS ss ss.length)) else none) = some d := e
    cases q2 : strsD l with
    | none => rw [q2] at e; cases e
    | some ss =>
      rw [q2] at e
      have e : (if ss.length ≤ 1000 then some (PyData.int (cntS ss ss.length)) else none) = some d := e
      by_cases c : ss.length ≤ 1000
      · rw [if_pos c] at e
        cases e
        obtain ⟨b, ys, rfl, hb, rb⟩ := rx.tuple
        cases r1
        obtain ⟨e1, _, _⟩ := rb.strsD_all q2
        subst e1
        obtain ⟨its, rv, pl, hz⟩ := I1.tuple hb.sq
        refine set_strsT (I1.ok.hd hc) pl (by simpa using strsAre_of rv) c fun h' tk hS hk => ?_
        refine PyProof.Rows.args_nil ?_
        have hl : its.toArray.size = ss.length := by rw [List.size_toArray, ← rv.length, List.length_map]
        rw [hl] at hS
        obtain ⟨o, es, ep, t, ho, hex, hd, _, _, _, hf, hn⟩ := hS
        have I2 : Inv X pins σ H1 { s1 with heap := h', toks := tk } := I1.kept fun b o e => hk b o (Heap.lt_size e) e
        have hcl := cntS_le ss ss.length
        exact call_len_set ho hex hd hf (by rw [hn] <;> omega) ⟨.int (cntS ss ss.length), H1, I2.tok _, ⟨_, by rw [hn]⟩, k _ Z H1 (P0.refl zd) (.int _)⟩
      · rw [if_neg c] at e
        cases e
  | _ => cases e
end
end M3
set_option Elab.async false
set_option linter.all false
set_option maxRecDepth 100000
set_option maxHeartbeats 4000000
/-! F8c: t[::-1]. -/
namespace HT
open PySem PySem.Spec PyProof.Rows L2
section
variable {prog : Program} {w : World} {A : Around} {E : Value → Shared → Prop} {s : Shared}
theorem sliceApplied_rev {sl : Addr} {vl vu vs : Value} {n : Nat} {Q : Int × Int × Nat → Shared → Prop} (hs : s.heap.IsSliceOf sl vl vu vs) (pl : IsPart vl none) (pu : IsPart vu none) (ps : IsPart vs (some (-1)))
    (h : Q ((n : Int) - 1, -1, n) s) : wpAny (model prog w) A (Builtin.Slice.sliceApplied (.ref sl) (pure (n : Int))) Q E s := by
  obtain ⟨os, hos, hcs, hds⟩ := id hs
  unfold Builtin.Slice.sliceApplied Builtin.Slice.sliceFields
  refine wpAny_bind (wpAny_bind (wpAny_field hos hds (x := vl) rfl (wpAny_bind (wpAny_field hos hds (x := vu) rfl (wpAny_bind (wpAny_field hos hds (x := vs) rfl (wpAny_pure ?_)))))))
  refine wpAny_bind (slicePart_ ps ?_)
  show wpAny _ _ (if ((-1 : Int) == 0) = true then _ else _) _ _ s
  rw [if_neg (by decide)]
  refine wpAny_bind (slicePart_ pl (wpAny_bind (slicePart_ pu (wpAny_bind (wpAny_pure ?_)))))
  show wpAny _ _ (pure ((n : Int) - 1, (-1 : Int), Builtin.Slice.slicePlaces ((n : Int) - 1) (-1) (-1))) _ _ s
  have e : Builtin.Slice.slicePlaces ((n : Int) - 1) (-1) (-1) = n := by
    unfold Builtin.Slice.slicePlaces
    rw [if_neg (by decide)]
    by_cases h0 : n = 0
    · subst h0; decide
    · rw [if_pos (by omega)]
      have : ((n : Int) - 1 - -1 - 1) / - -1 = (n : Int) - 1 := by
        rw [show (- (-1) : Int) = 1 by omega, Int.ediv_one]; omega
      rw [this]; omega
  rw [e]
  exact wpAny_pure h
theorem pick_rev (xs : Array Value) : ((List.range xs.size).filterMap fun (k : Nat) => xs[(((xs.size : Nat) : Int) - 1 + (k : Int) * (-1)).toNat]?).toArray = xs.toList.reverse.toArray := by
  congr 1
  have : (fun (k : Nat) => xs[(((xs.size : Nat) : Int) - 1 + (k : Int) * (-1)).toNat]?) = fun k => xs.toList[xs.size - 1 - k]? := by
    funext k
    have e : (((xs.size : Nat) : Int) - 1 + (k : Int) * (-1)).toNat = xs.size - 1 - k := by omega
    rw [e, Array.getElem?_toList]
  rw [this]
  have hl : xs.size = xs.toList.length := by simp
  rw [hl]
  generalize xs.toList = l
  apply List.ext_getElem?
  intro i
  have key : (List.range l.length).filterMap (fun k => l[l.length - 1 - k]?) = (List.range l.length).map fun k => l.getD (l.length - 1 - k) .none := by
    have : ∀ ks : List Nat, (∀ k ∈ ks, k < l.length) → ks.filterMap (fun k => l[l.length - 1 - k]?) = ks.map fun k => l.getD (l.length - 1 - k) .none := by
      intro ks
      induction ks with
      | nil => intro _; rfl
      | cons k ks ih =>
        intro h
        have hk := h k (by simp)
        have hlt : l.length - 1 - k < l.length := by omega
        rw [List.filterMap_cons, List.getElem?_eq_getElem hlt, List.map_cons, List.getD_eq_getElem?_getD, List.getElem?_eq_getElem hlt, ih fun k hk => h k (by simp [hk])]
        rfl
    exact this _ fun k hk => by simpa using hk
  rw [key, List.getElem?_map]
  by_cases hi : i < l.length
  · rw [List.getElem?_range hi, List.getElem?_reverse hi, Option.map_some, List.getD_eq_getElem?_getD]
    rw [List.getElem?_eq_getElem (by omega : l.length - 1 - i < l.length)]
    rfl
  · rw [List.getElem?_eq_none (by simpa using hi), List.getElem?_eq_none (by simpa using hi)]
    rfl
theorem getItem_tuple_rev {t sl : Addr} {items : Array Value} {vl vu vs : Value} {Q : Value → Shared → Prop} (ht : IsTup s.heap t items) (hs : s.heap.IsSliceOf sl vl vu vs) (pl : IsPart vl none) (pu : IsPart vu none) (ps : IsPart vs (some (-1)))
    (h : Q (.ref s.heap.objs.size) { s with heap := s.heap.push { cls := .type "tuple", data := .seq items.toList.reverse.toArray } })
    (hsz : items.size ≤ sizeLine) : wpAny (model prog w) A (getItem (.ref t) (.ref sl)) Q E s := by
  have htake : sizeOk (.seq items.toList.reverse.toArray) := by
    show items.toList.reverse.toArray.size ≤ sizeLine
    simp only [List.size_toArray, List.length_reverse, Array.length_toList]
    exact hsz
  obtain ⟨os, hos, hcs, hds⟩ := id hs
  have hTs : s.TypeIs (.ref sl) "slice" := ⟨os, hos, hcs⟩
  unfold getItem
  try with_reducible refine wpAny_holding ?_
  first | refine wpAny_bind (wpAny_pure ?_) | skip
  refine wpAny_bind (wpAny_sequenceKey ht.typeIs (by decide) ?_)
  refine wpAny_bind (wpAny_callSpecial?_slot (name := Str.ofString "__getitem__") ht.typeIs PyProof.Rows.slot_tuple_getitem
    (wpAny_call_entry PyProof.Rows.slot_tuple_getitem ht.typeIs entry_tuple_getitem ?_ (args_tuple_getitem _ _)))
  show wpAny _ _ (Builtin.Tuple.tupleItemsOf (.ref t) >>= _) _ _ s
  refine wpAny_bind (tupleItemsOf_ ht ?_)
  refine wpAny_bind (wpAny_typeOf hTs ?_)
  rw [if_pos (by decide)]
  refine wpAny_bind (sliceApplied_rev hs pl pu ps ?_)
  have hno : ¬ ((((items.size : Nat) : Int) - 1 == 0 && (-1 : Int) == 1 && items.size == items.size) = true) := by
    intro q
    rw [Bool.and_eq_true, Bool.and_eq_true] at q
    exact absurd q.1.2 (by decide)
  show wpAny _ _ (if ((((items.size : Nat) : Int) - 1 == 0 && (-1 : Int) == 1 && items.size == items.size) = true) then _ else _) _ _ s
  rw [if_neg hno, pick_rev]
  first
    | exact wpAny_bind (m := Builtin.Tuple.tupleExact _) (wpAny_newObj_type (wpAny_pure ⟨_, rfl, wpAny_pure h⟩) htake)
    | exact wpAny_bind (m := Builtin.Tuple.tupleExact _) (wpAny_newObj_type (wpAny_bind (wpAny_pure (wpAny_pure ⟨_, rfl, wpAny_pure h⟩))) htake)
    | exact wpAny_bind (wpAny_bind (m := Builtin.Tuple.tupleExact _) (wpAny_newObj_type (wpAny_pure (wpAny_pure ⟨_, rfl, wpAny_pure h⟩)) htake))
    | exact wpAny_bind (wpAny_bind (m := Builtin.Tuple.tupleExact _) (wpAny_newObj_type (wpAny_pure ⟨_, rfl, wpAny_pure h⟩) htake))
end
end HT
namespace M3
open PySem PySem.Spec L2
open PyProof.Rows hiding St
section
variable {X : Cx}
theorem pe_rev {e : Expr} {te : TE} {k : Nat} {p1 p2 p3 pos : Pos} (he : PE X e te) : PE X (.Subscript e (.Slice none none (some (.UnaryOp .USub (.Constant (.int 1) k p1) p2)) p3) pos) (fun σ H Q => te σ H fun x H1 => rAp (wdX X) .rev [x] H1 Q) := by
  refine ⟨fun pins s σ H Q I h => ?_⟩
  refine Subscript_ (thn (he.run pins s σ H _ I h) fun v s1 ⟨x, H1, I1, r1, q1⟩ => ?_)
  obtain ⟨Z, ds, d, zd, rs, e0, q⟩ := q1
  have hst : PO X (some (.UnaryOp .USub (.Constant (.int 1) k p1) p2)) (tPart (tUn (rU fun i => .int (-i)) (tC (.int 1)))) := po_some (pe_un un_neg pe_int)
  refine wpAny_Slice (thn (po_none.run pins s1 σ H1 (fun o H2 => o = none ∧ H2 = H1) I1 ⟨rfl, rfl⟩) fun vl s2 ⟨l, H2, I2, pl, el, e2⟩ => ?_)
  subst el e2
  refine thn (po_none.run pins s2 σ H2 (fun o H3 => o = none ∧ H3 = H2) I2 ⟨rfl, rfl⟩) fun vu s3 ⟨u, H3, I3, pu, eu, e3⟩ => ?_
  subst eu e3
  refine thn (hst.run pins s3 σ H3 (fun o H4 => o = some (-1) ∧ H4 = H3) I3 ⟨1, rfl, -1, rfl, rfl, rfl⟩) fun vs s4 ⟨o, H4, I4, ps, eo, e4⟩ => ?_
  subst eo e4
  have I5 : Inv X pins σ H4 { s4 with heap := s4.heap.push { cls := .type "slice", data := .fields #[vl, vu, vs] } } := I4.kept (t' := s4.toks) fun b ob q => Heap.get?_push_of_some _ q
  cases rs with
  | cons r0 rt =>
    cases rt with
    | nil =>
      rename_i d0
      cases d0 with
      | list ys =>
        cases e0
        obtain ⟨a, xs, ex, ha, ra⟩ := r0.list
        subst ex
        cases r1
        obtain ⟨its, r, ht, hz⟩ := I5.list (.inl ha)
        have hlen := r.length
        show wpAny (model X.prog X.w) X.A (subscriptTail e (.Slice none none (some (.UnaryOp .USub (.Constant (.int 1) k p1) p2)) p3) (.ref a) (.ref s4.heap.objs.size)) (EP X pins σ Q) X.xe { s4 with heap := s4.heap.push { cls := .type "slice", data := .fields #[vl, vu, vs] } }
        refine tail_any (ops := [.ref a, .ref s4.heap.objs.size]) ht.isList.typeIs (PySem.slot_list_getitem.lookup) ?_ (by with_unfolding_all rfl)
        refine wpAny_getItem_list_slice ht.isList (Heap.IsSliceOf.new _ vl vu vs) pl pu ps (by decide) ?_ (by rw [List.size_toArray]; omega)
        rw [PySem.W.krv_pick]
        refine ⟨.ref _, _, I5.laid (t' := s4.toks) (o := .lst xs.reverse) (fun b ob q => Heap.get?_push_of_some _ q) (Nat.le_refl _) ?_, rfl, new_list zd ra.reverse q _ (I5.hok.fresh (Nat.le_refl _))⟩
        exact ⟨by rw [List.length_reverse]; exact hz, _, 0, r.reverse, Heap.get?_push_size _ rfl⟩
      | tuple ys =>
        cases e0
        obtain ⟨a, xs, ex, ha, ra⟩ := r0.tuple
        subst ex
        cases r1
        obtain ⟨its, r, ht, hz⟩ := I5.tuple ha.sq
        have hlen : its.toArray.size = xs.length := by rw [List.size_toArray]; exact r.length.symm
        show wpAny (model X.prog X.w) X.A (subscriptTail e (.Slice none none (some (.UnaryOp .USub (.Constant (.int 1) k p1) p2)) p3) (.ref a) (.ref s4.heap.objs.size)) (EP X pins σ Q) X.xe { s4 with heap := s4.heap.push { cls := .type "slice", data := .fields #[vl, vu, vs] } }
        refine tail_any (ops := [.ref a, .ref s4.heap.objs.size]) ht.typeIs (PyProof.Rows.slot_tuple_getitem.lookup) ?_ (by with_unfolding_all rfl)
        refine HT.getItem_tuple_rev ht (Heap.IsSliceOf.new _ vl vu vs) pl pu ps ?_ (by rw [hlen]; exact hz)
        exact ⟨.ref _, _, tupNew I5 r.reverse (by rw [List.length_reverse]; exact hz), rfl, new_tuple zd ra.reverse q _ _ (I5.hok.fresh (Nat.le_refl _)) rfl⟩
      | _ => cases e0
end
end M3
set_option Elab.async false
set_option linter.all false
set_option maxRecDepth 100000
namespace M3
open PySem PySem.Spec L2
/-! ### readings of the language's expressions -/
section
variable {w : Wd} {W : WX} {A : Act} {Z Z' Z1 Z2 : Addr → Prop} {H H' H1 H2 : Hp} {ρ ρ' ρ1 ρ2 : En} {σ : St} {X : Cx}
theorem Rep1.mono {v : V} {d : D} (p : P0 Z H Z' H') (r : Rep1 w Z H v d) : Rep1 w Z' H' v d := by
  rcases r with r | ⟨a, o, e1, e2, r⟩
  · exact .inl (p.rep r)
  · exact .inr ⟨a, o, e1, e2, p.ownRep r⟩
/-- an owned object is given away to all -/
theorem zmono (h : ∀ a, Z a → Z' a) {v : V} {d : D} (r : Rep w Z H v d) : Rep w Z' H v d := r.stay h (fun _ _ _ q => q) fun _ _ q => q
theorem OwnRep.zmono (h : ∀ a, Z a → Z' a) {a : Addr} : ∀ {o : Ob}, OwnRep w Z H a o → OwnRep w Z' H a o
  | .lst l, ⟨xs, e, r⟩ => ⟨xs, e, r.stay h (fun _ _ _ q => q) fun _ _ q => q⟩
  | .dic l, .inl ⟨kvs, e, r⟩ => .inl ⟨kvs, e, r.stay h (fun _ _ _ q => q) fun _ _ q => q⟩
  | .dic l, .inr ⟨kvs, e, r⟩ => .inr ⟨kvs, e, r.stay h (fun _ _ _ q => q) fun _ _ q => q⟩
  | .ins c fs, ⟨C, dx, fv, e, m, r⟩ => ⟨C, dx, fv, e, m, r.stay h (fun _ _ _ q => q) fun _ _ q => q⟩
theorem OwnRep.rep {a : Addr} (hz : Z a) : ∀ {o : Ob}, OwnRep w Z H a o → Rep w Z H (.ref a) o.d
  | .lst l, ⟨xs, e, r⟩ => .lst hz (.inl e) r
  | .dic l, .inl ⟨kvs, e, r⟩ => .dK hz (.inl e) r
  | .dic l, .inr ⟨kvs, e, r⟩ => .dT hz (.inl e) r
  | .ins c fs, ⟨C, dx, fv, e, m, r⟩ => .ins hz e m r
theorem set_get {α : Type} {l : List α} {i j : Nat} {x y : α} (h : (l.set i x)[j]? = some y) : (i = j ∧ x = y) ∨ (i ≠ j ∧ l[j]? = some y) := by
  by_cases e : i = j
  · subst e
    by_cases hl : i < l.length
    · rw [List.getElem?_set_self hl] at h
      exact .inl ⟨rfl, Option.some.inj h⟩
    · rw [List.getElem?_eq_none (by simpa using hl)] at h
      cases h
  · rw [List.getElem?_set_ne e] at h
    exact .inr ⟨e, h⟩
/-- what a set leaves owned -/
theorem Own.set_sh {i : Nat} {d : D} {a : Addr} (h : Own (ρ.set i (.sh d)) σ a) : Own ρ σ a := by
  obtain ⟨j, b, o, h1, h2⟩ := h
  rcases set_get h1 with ⟨_, e⟩ | ⟨_, e⟩
  · cases e
  · exact ⟨j, b, o, e, h2⟩
theorem SR.freeze (s : SR w A Z H ρ σ) {i : Nat} {o : Ob} (hi : ρ[i]? = some (.own true o)) : ∃ a, σ[i]? = some (some (.ref a)) ∧ Rep w (addZ Z a) H (.ref a) o.d ∧
    XS ρ σ Z H (ρ.set i (.sh o.d)) (addZ Z a) H ∧ SR w A (addZ Z a) H (ρ.set i (.sh o.d)) σ := by
  obtain ⟨a, e, nz, r, g, _⟩ := s.own i true o hi
  have own : Own ρ σ a := ⟨i, true, o, hi, e⟩
  have r' : Rep w (addZ Z a) H (.ref a) o.d := OwnRep.rep (.inr rfl) (OwnRep.zmono (Z' := addZ Z a) (fun _ h => .inl h) r)
  refine ⟨a, e, r', ⟨fun _ h => .inl h, fun b h => h.elim .inl fun q => .inr (.inr (q ▸ own)), fun _ _ q _ => q, fun _ q => q, fun b h => h.set_sh⟩, ?_⟩
  refine ⟨by rw [List.length_set]; exact s.len, fun j d h => ?_, fun j b' o' h => ?_, fun j k b1 b2 o1 o2 c h1 h2 h3 h4 => ?_, s.frame, fun b h => ?_, fun b h => .inl (s.z0 b h), s.dom, fun b h => ?_⟩
  · rcases set_get h with ⟨rfl, q⟩ | ⟨_, q⟩
    · cases q
      exact ⟨_, e, r'⟩
    · obtain ⟨v, e1, r1⟩ := s.sh j d q
      exact ⟨v, e1, zmono (fun _ h => .inl h) r1⟩
  · rcases set_get h with ⟨_, q⟩ | ⟨hne, q⟩
    · cases q
    · obtain ⟨c, e1, z1, r1, g1, g2⟩ := s.own j b' o' q
      refine ⟨c, e1, fun z => ?_, OwnRep.zmono (fun _ h => .inl h) r1, g1, g2⟩
      rcases z with z | z
      · exact z1 z
      · subst z
        exact hne (s.inj i j true b' o o' c hi q e e1)
  · rcases set_get h1 with ⟨_, q⟩ | ⟨_, q1⟩
    · cases q
    · rcases set_get h2 with ⟨_, q⟩ | ⟨_, q2⟩
      · cases q
      · exact s.inj j k b1 b2 o1 o2 c q1 q2 h3 h4
  · rcases h with h | h
    · exact s.zf b h
    · subst h
      exact .inr (g rfl)
  · rcases h with h | h
    · exact s.zd b h
    · subst h
      obtain ⟨_, o', e', _⟩ := s.ownH own
      rw [e']
      exact fun z => nomatch z
theorem tD_var {i : Nat} {Q : VK} (h : tD w W (rdVar i) σ H Q) : tVar i σ H Q := by
  obtain ⟨A, Z, ρ, s, p⟩ := h
  unfold rdVar at p
  cases e : ρ[i]? with
  | none => rw [e] at p; exact p.elim
  | some sl =>
    rw [e] at p
    cases sl with
    | no => exact p.elim
    | sh d =>
      obtain ⟨v, e1, r⟩ := s.sh i d e
      exact ⟨v, e1, p Z H XS.refl s v r⟩
    | own b o =>
      cases b with
      | false => exact p.elim
      | true =>
        obtain ⟨a, e1, r, x, s'⟩ := s.freeze e
        exact ⟨_, e1, p _ _ x s' _ r⟩
theorem tD_ret {d : D} {v : V} (r : ∀ Z H, Rep w Z H v d) {Q : VK} (h : tD w W (ret d) σ H Q) : tC v σ H Q := by
  obtain ⟨A, Z, ρ, s, p⟩ := h
  exact p Z H XS.refl s v (r Z H)
/-- an operand -/
def tDO (w : Wd) (W : WX) (F : M Opd) : TE := fun σ H Q => ∃ A Z ρ, SR w A Z H ρ σ ∧ Post w W A Z H ρ σ (F ρ) fun o Z' H' _ => ∀ v, OpR1 w Z' H' σ v o → Q v H'
theorem tDO_val {F : M D} {Q : VK} (h : tDO w W (bnd F fun d => ret (.val d)) σ H Q) : tD w W F σ H Q := by
  obtain ⟨A, Z, ρ, s, p⟩ := h
  exact ⟨A, Z, ρ, s, p.bnd.imp fun d Z1 H1 ρ1 x1 s1 ⟨_, _, k⟩ v r => k Z1 H1 XS.refl s1 v r⟩
theorem tDO_slot {i : Nat} {m : M D} {Q : VK} (h : tDO w W (opd (.tmp i) m) σ H Q) : tVar i σ H Q := by
  obtain ⟨A, Z, ρ, s, p⟩ := h
  unfold opd at p
  dsimp only at p
  cases e : ρ[i]? with
  | none => rw [e] at p; exact p.elim
  | some sl =>
    rw [e] at p
    cases sl with
    | no => exact p.elim
    | sh d =>
      obtain ⟨v, e1, r⟩ := s.sh i d e
      exact ⟨v, e1, p Z H XS.refl s v e1⟩
    | own b o =>
      obtain ⟨a, e1, _⟩ := s.own i b o e
      exact ⟨_, e1, p Z H XS.refl s _ e1⟩
/-- an operation upon operands -/
theorem ap_fin {o : Op} {os : List Opd} {vs : List V} {Q : VK} (s : SR w A Z H ρ σ) (r : OpRs w Z H σ vs os) (p : Post w W A Z H ρ σ (apM o os ρ) fun d Z' H' _ => ∀ v, Rep w Z' H' v d → Q v H') : rAp w o vs H Q := by
  unfold apM at p
  cases e : rslvs ρ os with
  | none => rw [e] at p; exact p.elim
  | some ds =>
    rw [e] at p
    dsimp only at p
    cases e2 : ap o ds with
    | none => rw [e2] at p; exact p.elim
    | some d =>
      rw [e2] at p
      exact ⟨Z, ds, d, s.zd, r.rslvs s e, e2, fun v Z' H' p0 rr => p Z' H' p0.xs (s.p0 p0) v rr⟩
/-- one more operand -/
theorem dens_cons {P : Ph} {e : IE} {es : List IE} {R : List Opd → (Addr → Prop) → Hp → En → Prop} (p : Post w W A Z H ρ σ (dens P (e :: es) ρ) R) :
    Post w W A Z H ρ σ (opd e (den P e) ρ) fun o Z1 H1 ρ1 => XS ρ σ Z H ρ1 Z1 H1 ∧ SR w A Z1 H1 ρ1 σ ∧ Post w W A Z1 H1 ρ1 σ (dens P es ρ1) fun os Z2 H2 ρ2 => R (o :: os) Z2 H2 ρ2 := by
  have q : Post w W A Z H ρ σ (bnd (opd e (den P e)) (fun o => bnd (dens P es) fun os => ret (o :: os)) ρ) R := p
  refine q.bnd.imp fun o Z1 H1 ρ1 x1 s1 ⟨_, _, k⟩ => ⟨x1, s1, k.bnd.imp fun os Z2 H2 ρ2 x2 s2 ⟨_, _, k2⟩ => k2 Z2 H2 XS.refl s2⟩
theorem op1_read {P : Ph} {o : Op} {a : IE} {Q : VK} (h : tD w W (bnd (dens P [a]) (apM o)) σ H Q) : tDO w W (opd a (den P a)) σ H fun x H1 => rAp w o [x] H1 Q := by
  obtain ⟨A, Z, ρ, s, p⟩ := h
  refine ⟨A, Z, ρ, s, (dens_cons p.bnd).imp fun o1 Z1 H1 ρ1 x1 s1 ⟨_, _, k⟩ v r => ?_⟩
  obtain ⟨_, _, k⟩ := k Z1 H1 XS.refl s1
  exact ap_fin s1 (.cons r .nil) k
theorem op2_read {P : Ph} {o : Op} {a b : IE} {Q : VK} (h : tD w W (bnd (dens P [a, b]) (apM o)) σ H Q) :
    tDO w W (opd a (den P a)) σ H fun x H1 => tDO w W (opd b (den P b)) σ H1 fun y H2 => rAp w o [x, y] H2 Q := by
  obtain ⟨A, Z, ρ, s, p⟩ := h
  refine ⟨A, Z, ρ, s, (dens_cons p.bnd).imp fun o1 Z1 H1 ρ1 x1 s1 ⟨_, _, k⟩ v r => ⟨A, Z1, ρ1, s1, (dens_cons k).imp fun o2 Z2 H2 ρ2 x2 s2 ⟨_, _, k2⟩ v2 r2 => ?_⟩⟩
  obtain ⟨_, _, k2⟩ := k2 Z2 H2 XS.refl s2
  exact ap_fin s2 (.cons (r.step s1 x2) (.cons r2 .nil)) k2
theorem op3_read {P : Ph} {o : Op} {a b c : IE} {Q : VK} (h : tD w W (bnd (dens P [a, b, c]) (apM o)) σ H Q) :
    tDO w W (opd a (den P a)) σ H fun x H1 => tDO w W (opd b (den P b)) σ H1 fun y H2 => tDO w W (opd c (den P c)) σ H2 fun z H3 => rAp w o [x, y, z] H3 Q := by
  obtain ⟨A, Z, ρ, s, p⟩ := h
  refine ⟨A, Z, ρ, s, (dens_cons p.bnd).imp fun o1 Z1 H1 ρ1 x1 s1 ⟨_, _, k⟩ v r => ⟨A, Z1, ρ1, s1, (dens_cons k).imp fun o2 Z2 H2 ρ2 x2 s2 ⟨_, _, k2⟩ v2 r2 =>
    ⟨A, Z2, ρ2, s2, (dens_cons k2).imp fun o3 Z3 H3 ρ3 x3 s3 ⟨_, _, k3⟩ v3 r3 => ?_⟩⟩⟩
  obtain ⟨_, _, k3⟩ := k3 Z3 H3 XS.refl s3
  exact ap_fin s3 (.cons (r.step s1 (x2.trans x3)) (.cons (r2.step s2 x3) (.cons r3 .nil))) k3
/-- all operands, as an argument list -/
theorem dens_nil {P : Ph} {Q : List V → Hp → Prop} (h : tDA w W (dens P []) σ H Q) : tNil σ H Q := by
  obtain ⟨A, Z, ρ, s, p⟩ := h
  exact p Z H XS.refl s [] .nil
theorem dens_read {P : Ph} {e : IE} {es : List IE} {Q : List V → Hp → Prop} (h : tDA w W (dens P (e :: es)) σ H Q) : tCons (tDO w W (opd e (den P e))) (tDA w W (dens P es)) σ H Q := by
  obtain ⟨A, Z, ρ, s, p⟩ := h
  refine ⟨A, Z, ρ, s, (dens_cons p).imp fun o1 Z1 H1 ρ1 x1 s1 ⟨_, _, k⟩ v r => ⟨A, Z1, ρ1, s1, k.imp fun os Z2 H2 ρ2 x2 s2 k2 vs rs => k2 _ (.cons (r.step s1 x2) rs)⟩⟩
theorem opN_read {P : Ph} {o : Op} {es : List IE} {Q : VK} (h : tD w W (bnd (dens P es) (apM o)) σ H Q) : tDA w W (dens P es) σ H fun vs H1 => rAp w o vs H1 Q := by
  obtain ⟨A, Z, ρ, s, p⟩ := h
  exact ⟨A, Z, ρ, s, p.bnd.imp fun os Z1 H1 ρ1 x1 s1 ⟨_, _, k⟩ vs r => ap_fin s1 r k⟩
/-- truth -/
theorem Rep.tru {v : V} {d : D} {k : Bool} (r : Rep w Z H v d) (h : truth d = some k) : TruV w.K v H k := by
  cases r with
  | non => cases h; rfl
  | bl b => cases h; rfl
  | int i => cases h; rfl
  | str x q =>
    cases h
    refine ⟨lim_of (sOk_len q), ?_⟩
    rw [Bool.eq_iff_iff]
    simp
  | tup s t =>
    cases h
    refine .inr (.inl ⟨_, s.sq, ?_⟩)
    cases t <;> rfl
  | lst z s t =>
    cases h
    refine .inl ⟨_, .inl s, ?_⟩
    cases t <;> rfl
  | dK z s t => cases h
  | dT z s t => cases h
  | ins z s m t => cases h
theorem lift_tru {α : Type} {d : D} {f : Bool → M α} {P : α → (Addr → Prop) → Hp → En → Prop} (p : Post w W A Z H ρ σ (bnd (lift (truth d)) f ρ) P) : ∃ k, truth d = some k ∧ Post w W A Z H ρ σ (f k ρ) P := by
  cases e : truth d with
  | none => rw [e] at p; exact p.elim
  | some k => rw [e] at p; exact ⟨k, rfl, p⟩
theorem and_read {a b : M D} {Q : VK} (h : tD w W (bnd a fun x => bnd (lift (truth x)) fun k => if k then b else ret x) σ H Q) : tAndT w.K (tD w W a) (tD w W b) σ H Q := by
  obtain ⟨A, Z, ρ, s, p⟩ := h
  refine ⟨A, Z, ρ, s, p.bnd.imp fun d Z1 H1 ρ1 x1 s1 ⟨_, _, k⟩ v r => ?_⟩
  obtain ⟨t, e, k⟩ := lift_tru k
  refine ⟨t, r.tru e, ?_⟩
  cases t with
  | true => exact ⟨A, Z1, ρ1, s1, k⟩
  | false => exact k Z1 H1 XS.refl s1 v r
theorem or_read {a b : M D} {Q : VK} (h : tD w W (bnd a fun x => bnd (lift (truth x)) fun k => if k then ret x else b) σ H Q) : tOrT w.K (tD w W a) (tD w W b) σ H Q := by
  obtain ⟨A, Z, ρ, s, p⟩ := h
  refine ⟨A, Z, ρ, s, p.bnd.imp fun d Z1 H1 ρ1 x1 s1 ⟨_, _, k⟩ v r => ?_⟩
  obtain ⟨t, e, k⟩ := lift_tru k
  refine ⟨t, r.tru e, ?_⟩
  cases t with
  | false => exact ⟨A, Z1, ρ1, s1, k⟩
  | true => exact k Z1 H1 XS.refl s1 v r
theorem not_read {a : M D} {Q : VK} (h : tD w W (bnd a fun x => bnd (lift (truth x)) fun k => ret (.bool (!k))) σ H Q) : tNotT w.K (tD w W a) σ H Q := by
  obtain ⟨A, Z, ρ, s, p⟩ := h
  refine ⟨A, Z, ρ, s, p.bnd.imp fun d Z1 H1 ρ1 x1 s1 ⟨_, _, k⟩ v r => ?_⟩
  obtain ⟨t, e, k⟩ := lift_tru k
  exact ⟨t, r.tru e, k Z1 H1 XS.refl s1 _ (.bl _)⟩
theorem tru_read {a : M D} {Q : Bool → Hp → Prop} (h : tDT w W (tru a) σ H Q) : tD w W a σ H fun x H1 => ∃ k, TruV w.K x H1 k ∧ Q k H1 := by
  obtain ⟨A, Z, ρ, s, p⟩ := h
  refine ⟨A, Z, ρ, s, (Post.bnd (m := a) p).imp fun d Z1 H1 ρ1 x1 s1 ⟨_, _, k⟩ v r => ?_⟩
  cases e : truth d with
  | none => rw [e] at k; exact k.elim
  | some t =>
    rw [e] at k
    exact ⟨t, r.tru e, k Z1 H1 XS.refl s1⟩
theorem ite_read {c : M D} {a b : M D} {Q : VK} (h : tD w W (bnd c fun x => bnd (lift (truth x)) fun k => if k then a else b) σ H Q) : tIf (tDT w W (tru c)) (tD w W a) (tD w W b) σ H Q := by
  obtain ⟨A, Z, ρ, s, p⟩ := h
  refine ⟨A, Z, ρ, s, ?_⟩
  have q := Post.bnd (m := c) p
  unfold tru M3.bnd
  cases e : c ρ with
  | stuck => rw [e] at q; exact q
  | exc x r => rw [e] at q; exact q
  | ok d ρ1 =>
    rw [e] at q
    dsimp only
    cases e2 : truth d with
    | none =>
      have : Post w W A Z H ρ σ (R.stuck : R D) fun d Z' H' _ => ∀ v, Rep w Z' H' v d → Q v H' := by
        have p2 := p
        unfold M3.bnd at p2
        rw [e] at p2
        dsimp only at p2
        rw [e2] at p2
        exact p2
      exact this
    | some t =>
      intro Z1 H1 x1 s1
      obtain ⟨_, _, k⟩ := q Z1 H1 x1 s1
      obtain ⟨t', e3, k⟩ := lift_tru k
      rw [e2] at e3
      cases e3
      cases t with
      | true => exact ⟨A, Z1, ρ1, s1, k⟩
      | false => exact ⟨A, Z1, ρ1, s1, k⟩
/-- tests of and, or, not, ite -/
theorem tru_bnd {α β : Type} (m : M α) (f : α → M β) (g : β → M Bool) : bnd (bnd m f) g = bnd m fun a => bnd (f a) g := by
  funext r
  unfold M3.bnd
  cases m r <;> rfl
theorem tru_and (a b : M D) : tru (bnd a fun x => bnd (lift (truth x)) fun k => if k then b else ret x) = bnd (tru a) fun k => if k then tru b else ret false := by
  funext r
  unfold tru M3.bnd
  cases a r with
  | stuck => rfl
  | exc x r => rfl
  | ok d r1 =>
    dsimp only
    cases e : truth d with
    | none => rfl
    | some k =>
      cases k with
      | true => rfl
      | false =>
        show (match (R.ok d r1 : R D) with | .ok a r1 => lift (truth a) r1 | .exc x r1 => .exc x r1 | .stuck => .stuck) = _
        dsimp only
        rw [e]
        rfl
theorem tru_or (a b : M D) : tru (bnd a fun x => bnd (lift (truth x)) fun k => if k then ret x else b) = bnd (tru a) fun k => if k then ret true else tru b := by
  funext r
  unfold tru M3.bnd
  cases a r with
  | stuck => rfl
  | exc x r => rfl
  | ok d r1 =>
    dsimp only
    cases e : truth d with
    | none => rfl
    | some k =>
      cases k with
      | false => rfl
      | true =>
        show (match (R.ok d r1 : R D) with | .ok a r1 => lift (truth a) r1 | .exc x r1 => .exc x r1 | .stuck => .stuck) = _
        dsimp only
        rw [e]
        rfl
theorem tru_not (a : M D) : tru (bnd a fun x => bnd (lift (truth x)) fun k => ret (.bool (!k))) = bnd (tru a) fun k => ret (!k) := by
  funext r
  unfold tru M3.bnd
  cases a r with
  | stuck => rfl
  | exc x r => rfl
  | ok d r1 =>
    dsimp only
    cases e : truth d with
    | none => rfl
    | some k => rfl
theorem tru_ite (c a b : M D) : tru (bnd c fun x => bnd (lift (truth x)) fun k => if k then a else b) = bnd (tru c) fun k => if k then tru a else tru b := by
  funext r
  unfold tru M3.bnd
  cases c r with
  | stuck => rfl
  | exc x r => rfl
  | ok d r1 =>
    dsimp only
    cases e : truth d with
    | none => rfl
    | some k => cases k <;> rfl
theorem andT_read {a b : M Bool} {Q : Bool → Hp → Prop} (h : tDT w W (bnd a fun k => if k then b else ret false) σ H Q) : tAnd (tDT w W a) (tDT w W b) σ H Q := by
  obtain ⟨A, Z, ρ, s, p⟩ := h
  refine ⟨A, Z, ρ, s, (Post.bnd (m := a) p).imp fun t Z1 H1 ρ1 x1 s1 ⟨_, _, k⟩ => ?_⟩
  cases t with
  | true => exact ⟨A, Z1, ρ1, s1, k⟩
  | false => exact k Z1 H1 XS.refl s1
theorem orT_read {a b : M Bool} {Q : Bool → Hp → Prop} (h : tDT w W (bnd a fun k => if k then ret true else b) σ H Q) : tOr (tDT w W a) (tDT w W b) σ H Q := by
  obtain ⟨A, Z, ρ, s, p⟩ := h
  refine ⟨A, Z, ρ, s, (Post.bnd (m := a) p).imp fun t Z1 H1 ρ1 x1 s1 ⟨_, _, k⟩ => ?_⟩
  cases t with
  | false => exact ⟨A, Z1, ρ1, s1, k⟩
  | true => exact k Z1 H1 XS.refl s1
theorem notT_read {a : M Bool} {Q : Bool → Hp → Prop} (h : tDT w W (bnd a fun k => ret (!k)) σ H Q) : tNot (tDT w W a) σ H Q := by
  obtain ⟨A, Z, ρ, s, p⟩ := h
  exact ⟨A, Z, ρ, s, (Post.bnd (m := a) p).imp fun t Z1 H1 ρ1 x1 s1 ⟨_, _, k⟩ => k Z1 H1 XS.refl s1⟩
end
end M3
set_option Elab.async false
set_option linter.all false
set_option maxRecDepth 100000
namespace M3
open PySem PySem.Spec L2
open PyProof.Rows hiding St
/-! ### calls: a def's promise where no repr runs -/
structure FOk (P : Program) (w : World) (K : PySem.W.Frag) (mg : Str → Option Value) (base : Heap) (CX : CXT) (k : Nat) (f : Addr) (fd : FuncData) (ps : List Str) (sp : Sp) : Prop where
  len : ∀ vs H Q E, sp vs H Q E → vs.length = ps.length
  run : ∀ (A : Around) (outer : List Env) (s : Shared) (H : Hp) (args : Args) (us : List Value) (vs : List V) (Q : VK) (E : XK),
    Room k A → A.guards = some [] → Env0 P w K mg base A outer s H → BindsTo s fd args (ps.zip us) → Vals vs us → sp vs H Q E →
    codeAny (model P w) A (.call (.ref f) args) (CR CX outer P w H s Q E) s
section
variable {P : Program} {w : World} {K : PySem.W.Frag} {mg : Str → Option Value} {base : Heap} {CX : CXT} {j k : Nat} {f : Addr} {fd : FuncData} {ps : List Str} {sp sp' : Sp}
theorem FOk.mono (F : FOk P w K mg base CX j f fd ps sp) (h : j ≤ k) : FOk P w K mg base CX k f fd ps sp :=
  ⟨F.len, fun A outer s H args us vs Q E hr => F.run A outer s H args us vs Q E (hr.mono h)⟩
theorem guards_deeper {A : Around} {env : Env} (h : A.guards = some []) : (A.deeper env).guards = some [] := h
/-- a def of the text keeps its promise by its body -/
theorem FOk.of {x qual : Str} {params : Arguments} {body : List Stmt} {scope : Scope} {dvs : List V} {kws : List (Str × V)} {N : List Str}
    (F : FunD K x qual params body scope dvs kws f fd) (S : FnScope N ps scope) (len : ∀ vs H Q E, sp vs H Q E → vs.length = ps.length)
    (hbody : ∀ (cdv : Value) (A : Around) (outer : List Env) (s : Shared) (H : Hp) (vs : List V) (Q : VK) (E : XK),
      Room (k + 1) A → A.guards = some [] → sp vs H Q E →
      ∃ t, PSs (cxOf CX P w K mg base N qual scope f cdv A outer s H E) body t ∧ t { nx := fun _ H' => Q .non H', rt := Q } (start N vs) H) :
    FOk P w K mg base CX (k + 1) f fd ps sp := by
  obtain ⟨oc, od, dV, kV, doc, pm, an, cdv, ct, osl, rfl, lk, hcd, _, _⟩ := F.ex
  refine ⟨len, fun A outer s H args us vs Q E hr hgd e0 hb r hsp => ?_⟩
  have hl := len _ _ _ _ hsp
  have KX : K.In s.heap := e0.mod.kin.keeps fun b o e => (e0.bs b o e).1
  have lim : s.heap.NoLimit := e0.mod.nolimit.keeps fun b o e => (e0.bs b o e).1
  have hkind : ∀ y ∈ ps.zip us, scope.names.lookup y.1 = some .local ∨
      (scope.names.lookup y.1 = some .cell ∧ ((cellsFrom (s.heap.objs.size + 1) scope.names []).lookup y.1).isSome = true) := fun ⟨n, v⟩ hy => by
    rcases S.par n (List.of_mem_zip hy).1 with q | q
    · exact .inl q
    · exact .inr ⟨q, PySem.W.cellsFrom_some _ _ _ (.inl q)⟩
  refine codeAny_call_function hr.depth (KX _ _ lk) rfl S.co S.gen rfl
    (PySem.W.codeRec_of KX hcd) (hb _ _ _ _ ?_)
  refine wpAny_newFunctionEnv_cells S.kind hkind fun env he s1 x => ?_
  subst he
  refine ⟨lim.keeps x.toInCall.keep, codeAny_func ?_⟩
  obtain ⟨t, ht, hq⟩ := hbody cdv A outer s H vs Q E hr hgd hsp
  have I : Inv (cxOf CX P w K mg base N qual scope f cdv A outer s H E) [] (start N vs) H s1 :=
    inv_start S hr.hd e0 hl r x
  refine wpAny_mono (ht.run [] s1 (start N vs) H _ I hq) (fun fl s' hs => ?_) fun e s' hs => hs
  have fin : ∀ {σ' : St} {H' : Hp} {v : V} {u : Value}, Inv (cxOf CX P w K mg base N qual scope f cdv A outer s H E) [] σ' H' s' →
      RelV v u → Q v H' → CE outer P w H s Q u s' := fun {σ' H' v u} J rv q => ⟨v, H', J.os, J.bare, J.base, J.hok, rv, q⟩
  cases fl with
  | ret u =>
    obtain ⟨v, σ', H', J, rv, q⟩ := hs
    exact fin J rv q
  | next =>
    obtain ⟨σ', H', J, q⟩ := hs
    exact fin (v := V.non) (u := Value.none) J rfl q
  | brk =>
    obtain ⟨_, _, _, q⟩ := hs
    exact q.elim
  | cont =>
    obtain ⟨_, _, _, q⟩ := hs
    exact q.elim
end
section
variable {X : Cx} {CX : CXT} {k : Nat} {f : Addr} {fd : FuncData} {ps : List Str} {sp : Sp} {E : XK} {x : Str} {p pos : Pos} {e : Expr} {es : List Expr} {kws : List Keyword} {t tk : TA}
/-- how its arguments bind: so many by position, the rest by their names -/
def KB (K : PySem.W.Frag) (fd : FuncData) (ps : List Str) (n : Nat) : Prop :=
  ∀ (s : Shared) (us ws : List Value), K.In s.heap → us.length = n → us.length + ws.length = ps.length → BindsTo s fd ⟨us, (ps.drop n).zip ws⟩ (ps.zip (us ++ ws))
theorem run_G {pins : List (Addr × Obj)} {σ : St} {H : Hp} {s : Shared} {Q : VK} {us ws : List Value} {vs : List V} {n : Nat}
    (F : FOk X.prog X.w X.K X.mg X.base CX k f fd ps sp) (hr : Room k X.A) (gd : X.A.guards = some []) (hb : KB X.K fd ps n) (hn : us.length = n)
    (hx : Passes CX X E) (I : Inv X pins σ H s) (r : Vals vs (us ++ ws)) (h : sp vs H Q E) :
    wpAny (model X.prog X.w) X.A (call (.ref f) us ((ps.drop n).zip ws)) (EP X pins σ Q) X.xe s := by
  have hl : us.length + ws.length = ps.length := by
    rw [← List.length_append, ← r.length]
    exact F.len _ _ _ _ h
  refine wpAny_call (codeAny_mono (F.run X.A X.stack s H ⟨us, (ps.drop n).zip ws⟩ (us ++ ws) vs Q E hr gd I.env0 (hb s us ws I.kIn hn hl) r h) fun r s' hq => ?_)
  cases r with
  | error e => exact hx pins σ H s e s' I hq
  | ok fl =>
    cases fl with
    | ret u => exact I.after hq
    | next => exact hq.elim
    | brk => exact hq.elim
    | cont => exact hq.elim
theorem pe_callG (F : FOk X.prog X.w X.K X.mg X.base CX k f fd ps sp) (hr : Room k X.A) (gd : X.A.guards = some []) (hg : Gl X x) (hm : X.mg x = some (.ref f))
    (hk : PySem.W.keepIn X.K (.ref f) = true) (hb : KB X.K fd ps ps.length) (hx : Passes CX X E) (ha : PA X (e :: es) t) (hdb : (x == ("__debug__" : Str)) = false)
    (he : starEach (e :: es) X.env = (false, eval e X.env) :: starEach es X.env) (hpl : (backTo pos (starEach es X.env)).any (·.1) = false) :
    PE X (.Call (.Name x p) (e :: es) [] pos) (fun σ H Q => t σ H fun vs H1 => sp vs H1 Q E) := by
  refine ⟨fun pins s σ H Q I h => ?_⟩
  refine wpAny_Call_Name_kw (ld_glob I hg hm ?_ hdb)
  refine PySem.W.callWith_K (h₀ := X.base) I.ok.mod.kin hk (thn (ha.run pos pins s σ H _ I h) fun us s1 ⟨vs, H1, I1, r, q⟩ => ⟨I1.kIn, ?_⟩) he hpl
  have hl : us.length = ps.length := by rw [← r.length]; exact F.len _ _ _ _ q
  have go := run_G (us := us) (ws := []) F hr gd hb hl hx I1 (by rw [List.append_nil]; exact r) q
  rw [List.zip_nil_right] at go
  exact go
theorem pe_call0G (F : FOk X.prog X.w X.K X.mg X.base CX k f fd ps sp) (hr : Room k X.A) (gd : X.A.guards = some []) (hg : Gl X x) (hm : X.mg x = some (.ref f))
    (hk : PySem.W.keepIn X.K (.ref f) = true) (hb : KB X.K fd ps ps.length) (hx : Passes CX X E) (hdb : (x == ("__debug__" : Str)) = false) :
    PE X (.Call (.Name x p) [] [] pos) (fun σ H Q => sp [] H Q E) := by
  refine ⟨fun pins s σ H Q I h => ?_⟩
  refine wpAny_Call_Name_kw (ld_glob I hg hm ?_ hdb)
  have hl : ([] : List Value).length = ps.length := F.len _ _ _ _ h
  have go := run_G (us := []) (ws := []) F hr gd hb hl hx I .nil h
  rw [List.zip_nil_right] at go
  exact PySem.W.callWith_K0 I.kIn hk go
end
/-! ### the law's end -/
theorem law_callG {P : Program} {w : World} {K : PySem.W.Frag} {mg mb : Str → Option Value} {k : Nat} {fa a : Addr} {fd : FuncData} {x : Str} {sp : Sp} {s1 : Shared} {vs : List Value} {ns : List Int}
    (KX : K.In s1.heap) (hns : s1.heap.Ns mainGlobals mg) (hb : s1.heap.Ns builtinsNs mb) (hbb : ∀ x : Str, x ≠ "__name__" → mb x = bootBuiltins x) (hlim : s1.heap.NoLimit) (hg : s1.gens = #[])
    (ha : s1.heap.get? a = some { cls := .type "list", data := .seq vs.toArray }) (hi : IntsAre vs ns) (hl : ns.length ≤ sizeLine) (hr : Room k callerA) (hKa : K.lookup a = none)
    (F : ∀ base : Heap, K.In base → base.Ns mainGlobals mg → FOk P w K mg base CX0 k fa fd [x] sp) (hbind : ∀ (s : Shared) (u : Value), BindsTo s fd ⟨[u], []⟩ [(x, u)])
    (hsp : ∀ H : Hp, Only H → Rd H a (.lst (ns.map V.int)) → sp [.ref a] H (fun v _ => v = .bl true) fun _ _ _ => False) :
    codeAny (model P w) callerA (.call (.ref fa) ⟨[.ref a], []⟩) (fun r s' => r = .ok (.ret (.bool true)) ∧ OldK s1.heap s'.heap ∧ s'.os = s1.os ∧ AllBare s'.gens) s1 := by
  have rv := vals_ints hi
  let H : Hp := fun b => if b = a then some (.frz { cls := .type "list", data := .seq vs.toArray } (.lst (ns.map V.int))) else none
  have hH : H a = some (.frz { cls := .type "list", data := .seq vs.toArray } (.lst (ns.map V.int))) := if_pos rfl
  have hN : ∀ b, b ≠ a → H b = none := fun b h => if_neg h
  have hO : Only H := fun b => by
    by_cases e : b = a
    · subst e; exact .inr ⟨_, _, hH⟩
    · exact .inl (hN b e)
  have hok : HOk P w H s1.heap := fun b u z => by
    by_cases e : b = a
    · subst e
      rw [hH] at z
      cases z
      exact ⟨ha, by rw [List.length_map]; exact hl, vs, _, rv, ha⟩
    · rw [hN b e] at z
      cases z
  have noA : ∀ {b : Addr} {o : Obj} {es : Array DictEntry} {ep : Nat}, s1.heap.get? b = some o → o.data = .dict es ep → H b = none := fun {b o es ep} e d => by
    by_cases q : b = a
    · subst q
      rw [ha] at e
      cases e
      cases d
    · exact hN b q
  have nsK : ∀ {b : Addr} {m : Str → Option Value}, s1.heap.Ns b m → (hidT s1.heap H).Ns b m := fun {b m} ⟨o, es, ep, e, d, r⟩ =>
    ⟨o, es, ep, hidT_get e (noA e d), d, r⟩
  have hKb : K.In (hidT s1.heap H) := fun b o e => hidT_get (KX b o e) (by
    by_cases q : b = a
    · subst q
      rw [hKa] at e
      cases e
    · exact hN b q)
  have hM : Mod K mg (hidT s1.heap H) := by
    obtain ⟨mc, h1, h2⟩ := hlim
    exact ⟨hKb, nsK hns, ⟨mb, nsK hb, hbb⟩, ⟨mc, nsK h1, h2⟩⟩
  have e0 : Env0 P w K mg (hidT s1.heap H) callerA [] s1 H := ⟨rfl, hM, fun b o e => of_hidT e, Nat.le_of_eq (hidT_size _ _), trivial,
    fun b hb => absurd (show b ∈ ([] : List Addr) from hb) (by simp), hok, .of_eq hg⟩
  refine codeAny_mono ((F _ hKb (nsK hns)).run callerA [] s1 H ⟨[.ref a], []⟩ [.ref a] [.ref a] _ _ hr rfl e0 (hbind s1 (.ref a)) (.cons rfl .nil) (hsp H hO (.inr ⟨_, hH⟩))) fun r s' h => ?_
  cases r with
  | error e => exact h.elim
  | ok fl =>
    cases fl with
    | next => exact h.elim
    | brk => exact h.elim
    | cont => exact h.elim
    | ret u =>
      obtain ⟨v, H', os, bare, un, hok2, r2, q⟩ := h
      have q2 : v = .bl true := q
      subst q2
      obtain rfl : u = Value.bool true := r2
      refine ⟨rfl, OldK.of_keep fun b o e => ?_, os, bare⟩
      by_cases hb2 : b = a
      · subst hb2
        have z2 := un.frzs b _ _ hH
        obtain ⟨e1, _⟩ := hok b _ hH
        obtain ⟨e2, _⟩ := hok2 b _ z2
        rw [e] at e1
        cases e1
        exact e2
      · exact un.keep b o e (hN b hb2) (fun z => absurd (show b ∈ ([] : List Addr) from z) (by simp)) (by simp)
theorem walk_G {l : PySem.W.OpenLaw} {n k : Nat} {q : Program} {loose : List Str} {XP : (Str → Option Value) → Heap → Prop} {YP : World → Heap → Prop} {d : DefRec} {x : Str}
    (hn : l.most = some n) (hn2 : n ≤ sizeLine) (hdf : d.params.defaults = []) (hr : Room k callerA)
    (F : ∀ (w : World) (mg : Str → Option Value) (fa : Addr) (h : Heap), YP w h → h.Ns mainGlobals mg → mg d.name = some (.ref fa) →
      ∃ (K : PySem.W.Frag) (fd : FuncData) (sp : Sp), K.In h ∧ (∀ a o, K.lookup a = some o → o.cls ≠ .type "list") ∧ (∀ (s : Shared) (u : Value), BindsTo s fd ⟨[u], []⟩ [(x, u)]) ∧
        (∀ (H : Hp) (a : Addr) (ns : List Int), ns.length ≤ n → Only H → Rd H a (.lst (ns.map V.int)) → sp [.ref a] H (fun v _ => v = .bl true) fun _ _ _ => False) ∧
        ∀ base : Heap, K.In base → base.Ns mainGlobals mg → FOk l.prog w K mg base CX0 k fa fd [x] sp) :
    PySem.W.WalkO q loose XP YP l.row.toRowW d [] (fun f vs => PySem.call f vs) := by
  refine Att.attach_call hn hdf fun w s₀ s₁ mg mb fa o pm cd doc a vs ns G Y ho hd hcd hmg hobj hints hlen hg => ?_
  obtain ⟨K, fd, sp, KX, hcl, hb, hsp, hF⟩ := F w mg fa _ Y G.T.g hmg
  have hKa : K.lookup a = none := by
    cases e : K.lookup a with
    | none => rfl
    | some o =>
      have e2 := KX a o e
      rw [hobj] at e2
      cases e2
      exact absurd rfl (hcl a _ e)
  exact law_callG KX G.T.g G.T.b G.T.builtins G.T.nolimit hg hobj hints (Nat.le_trans hlen hn2) hr hKa hF hb fun H hO hS => hsp H a ns hlen hO hS
end M3
set_option Elab.async false
set_option linter.all false
set_option maxRecDepth 100000
set_option maxHeartbeats 2000000
/-! F10b: instances, methods, properties: the rules over FOk. -/
namespace M3
open PySem PySem.Spec L2
open PyProof.Rows hiding St
/-- room within a body: for a call, for one more turn of the machine -/
structure RoomB (k : Nat) (A : Around) : Prop where
  hd : A.handled = none
  dp : A.depth + 3 * k + 7 < recursionLimit
  un : A.units + 16 * k + 210 < cLine
theorem RoomB.of {k : Nat} {A : Around} (r : Room (k + 1) A) (env : Env) : RoomB k (A.deeper env) :=
  ⟨r.hd, by have := r.dp; show A.depth + 1 + 3 * k + 7 < _; omega, by have := r.un; show A.units + 3 + 16 * k + 210 < _; omega⟩
theorem RoomB.room {k : Nat} {A : Around} (r : RoomB k A) : Room k A := ⟨r.hd, by have := r.dp; omega, by have := r.un; omega⟩
theorem RoomB.in1 {k : Nat} {A : Around} (r : RoomB k A) : Room k A.in1 :=
  ⟨r.hd, by have := r.dp; show A.depth + 3 * k + 5 < _; omega, by have := r.un; show A.units + 1 + 16 * k + 200 < _; omega⟩
theorem RoomB.make {k : Nat} {A : Around} (r : RoomB k A) (C : Addr) (us : List Value) (kw : List (Str × Value)) : Room k (A.under (.builtin "type.__call__" ⟨.ref C :: us, kw⟩)) :=
  ⟨r.hd, by have := r.dp; rw [make_depth]; omega, by have := r.un; rw [make_units]; omega⟩
theorem guards_in1 {A : Around} (h : A.guards = some []) : A.in1.guards = some [] := h
theorem guards_make {A : Around} {C : Addr} {us : List Value} {kw : List (Str × Value)} (h : A.guards = some []) : (A.under (.builtin "type.__call__" ⟨.ref C :: us, kw⟩)).guards = some [] := by
  first | exact h | (simp [Around.under, Code.weight, Code.isCreation, Code.isGuard, Code.isCaller, Code.frames, Code.isFrame, guardIds]; exact h)
section
variable {X : Cx} {CX : CXT} {k : Nat} {f C p g a dx : Addr} {fs : List (Str × V)} {fd : FuncData} {ps : List Str} {sp : Sp} {E : XK} {x m : Str} {pos apos : Pos} {o e : Expr} {args : List Expr} {kws : List Keyword} {ta : TE}
/-- a method's call: the receiver, the method, the arguments -/
theorem meth_late {M : Model} {A : Around} {env : Env} {E : Value → Shared → Prop} {Q : Value → Shared → Prop} {s : Shared} (hb : attributeBase o m env (eval o env) = eval o env)
    (hf : methodCallForm (args.length + kws.length) (backTo pos (starEach args env)) (backToKw pos (keywordEach kws env)) = true) (hl : (apos.endLine == pos.line) = true)
    (h : wpAny M A (eval o env) (fun ov s1 => wpAny M A (getMethod ov m (do return (← importBound o env).getD true)) (fun fx s2 => wpAny M A (callWith pos fx.1 fx.2 (backTo pos (starEach args env)) (backToKw pos (keywordEach kws env))) Q E s2) E s1) E s) :
    wpAny M A (eval (.Call (.Attribute o m apos) args kws pos) env) Q E s := by
  have hp : methodCallPos true o env apos pos = pure pos := by unfold methodCallPos; simp [hl]
  rw [arm_eval_Call, hb]
  refine wpAny_bind (wpAny_mono h (fun ov s1 h1 => wpAny_bind (wpAny_standAt ?_)) fun _ _ x => x)
  unfold methodCall
  rw [hf]
  refine wpAny_bind (wpAny_holding (wpAny_mono h1 (fun fx s2 h2 => ?_) fun _ _ x => x))
  exact wpAny_bind (wpAny_of_eq hp h2)
/-- a property is read -/
theorem prop_G {pins : List (Addr × Obj)} {σ : St} {H : Hp} {s : Shared} {Q : VK} {b : Bool} {E' : Value → Shared → Prop} (I : Inv X pins σ H s) (ea : H a = some (.ins C dx fs)) (c : Cls X.K C) (hp : PropOf X.K C m p g)
    (F : FOk X.prog X.w X.K X.mg X.base CX k g fd ps sp) (hr : RoomB k X.A) (gd : X.A.guards = some []) (hb : KB X.K fd ps 1) (hl1 : ps.length = 1) (hx : Passes CX X.nox E) (h : sp [.ref a] H Q E) :
    wpAny (model X.prog X.w) X.A (getAttr (.ref a) m b) (EP X pins σ Q) E' s := by
  obtain ⟨mA, O, _, _, _, _⟩ := ins_get I.hok ea
  obtain ⟨od, J, _⟩ := O.look
  obtain ⟨rest, hrec⟩ := hp.rec_
  have I1 := I.tok (s.toks + 1)
  have hc : (PySem.W.clsIn X.K C).isSome = true := by
    obtain ⟨cd, hc, _⟩ := PySem.W.any_some c.hd
    rw [hc]; rfl
  have bnd := hb { s with toks := s.toks + 1 } [.ref a] [] I1.kIn rfl (by rw [hl1]; rfl)
  rw [List.zip_nil_right, List.append_nil] at bnd
  refine PySem.W.get_bind I.kIn J (PySem.W.plainGet_of (c.get m)).1 (PySem.W.findObj_data hc hp.at_ hp.get hp.tak) (PySem.W.plainGet_of (c.get m)).2
    (wpAny_call (PySem.W.prop_get (s := { s with toks := s.toks + 1 }) I.kIn hrec (codeAny_mono (F.run X.A.in1 X.stack { s with toks := s.toks + 1 } H ⟨[.ref a], []⟩ [.ref a] [.ref a] Q E hr.in1 (guards_in1 gd) I1.env0.in1 bnd (.cons rfl .nil) h) fun r s' hq => ?_)))
  cases r with
  | error er => exact (hx pins σ H _ er s' (I1.wish _) hq).elim
  | ok fl =>
    cases fl with
    | next => exact hq.elim
    | brk => exact hq.elim
    | cont => exact hq.elim
    | ret u =>
      obtain ⟨v, H', I3, rv, q3⟩ := I1.after hq
      show wpAny _ _ (handedOut u) _ _ _
      rw [PySem.W.handedOut_of (handed_of rv)]
      exact wpAny_pure ⟨v, H', I3, rv, q3⟩
/-- an instance is made -/
theorem make_G {pins : List (Addr × Obj)} {σ : St} {H : Hp} {s : Shared} {Q : VK} {us ws : List Value} {vs : List V} {n : Nat} (M : Mk X.K C f) (F : FOk X.prog X.w X.K X.mg X.base CX k f fd ps sp) (hr : RoomB k X.A) (gd : X.A.guards = some []) (hb : KB X.K fd ps (n + 1)) (hn : us.length = n)
    (hx : Passes CX X E) (I : Inv X pins σ H s) (r : Vals vs (us ++ ws))
    (h : ∀ y dx, H y = none → H dx = none → dx ≠ y → sp (.ref y :: vs) (upd (upd H dx (.own y)) y (.ins C dx [])) (fun v H2 => v = .non ∧ Q (.ref y) H2) E) :
    wpAny (model X.prog X.w) X.A (call (.ref C) us ((ps.drop (n + 1)).zip ws)) (EP X pins σ Q) X.xe s := by
  have hq := h (s.heap.objs.size + 1) s.heap.objs.size (I.hok.fresh (Nat.le_succ _)) (I.hok.fresh (Nat.le_refl _)) (Nat.ne_of_lt (Nat.lt_succ_self _))
  have I2 := Inv.made (C := C) I
  have r2 : Vals (V.ref (s.heap.objs.size + 1) :: vs) ((Value.ref (s.heap.objs.size + 1) :: us) ++ ws) := .cons rfl r
  have hl : (Value.ref (s.heap.objs.size + 1) :: us).length + ws.length = ps.length := by
    have e := r2.length
    rw [F.len _ _ _ _ hq, List.length_append] at e
    exact e.symm
  have bnd := hb _ (Value.ref (s.heap.objs.size + 1) :: us) ws I2.kIn (by rw [List.length_cons, hn]) hl
  refine wpAny_call (make_map (f := f) I.kIn M.makes M.init (beq_iff_eq.mp M.fn) (codeAny_mono (F.run _ X.stack _ _ ⟨Value.ref (s.heap.objs.size + 1) :: us, (ps.drop (n + 1)).zip ws⟩ _ _ _ E (hr.make C us ((ps.drop (n + 1)).zip ws))
    (guards_make gd) (I2.env0.make C us ((ps.drop (n + 1)).zip ws)) bnd r2 hq) fun r s' hq' => ?_))
  cases r with
  | error e => exact hx pins σ _ _ e s' I2 hq'
  | ok fl =>
    cases fl with
    | next => exact hq'.elim
    | brk => exact hq'.elim
    | cont => exact hq'.elim
    | ret u =>
      obtain ⟨v, H', I3, rv, ev, q3⟩ := I2.after hq'
      subst ev
      exact ⟨rv, V.ref (s.heap.objs.size + 1), H', I3, rfl, q3⟩
end
/-! ### a def whose last parameter takes the rest -/
structure FSt (P : Program) (w : World) (K : PySem.W.Frag) (mg : Str → Option Value) (base : Heap) (CX : CXT) (k : Nat) (f : Addr) (sp : Sp) : Prop where
  run : ∀ (A : Around) (outer : List Env) (s : Shared) (H : Hp) (us : List Value) (vs : List V) (Q : VK) (E : XK),
    Room k A → A.guards = some [] → Env0 P w K mg base A outer s H → Vals vs us → sp vs H Q E → codeAny (model P w) A (.call (.ref f) ⟨us, []⟩) (CR CX outer P w H s Q E) s
/-- how it binds: the rest is a new tuple -/
def KS1 (fd : FuncData) (qs : List Str) (pv : Str) : Prop := ∀ us rest : List Value, us.length = qs.length → bindArgs fd ⟨us ++ rest, []⟩ = (newTuple rest >>= fun t => pure (qs.zip us ++ [(pv, t)]))
section
variable {P : Program} {w : World} {K : PySem.W.Frag} {mg : Str → Option Value} {base : Heap} {CX : CXT} {k : Nat} {f : Addr} {fd : FuncData} {qs : List Str} {pv : Str} {sp : Sp}
theorem FSt.of {x qual : Str} {params : Arguments} {body : List Stmt} {scope : Scope} {N : List Str} (F : FunD K x qual params body scope [] [] f fd) (S : FnScope N (qs ++ [pv]) scope) (hCX : StX.CXUp CX) (hb : KS1 fd qs pv)
    (hbody : ∀ (cdv : Value) (A : Around) (outer : List Env) (s : Shared) (H : Hp) (vs : List V) (Q : VK) (E : XK), Room (k + 1) A → A.guards = some [] → sp vs H Q E →
      ∃ t, PSs (cxOf CX P w K mg base N qual scope f cdv A outer s H E) body t ∧ t { nx := fun _ H' => Q .non H', rt := Q } (start N vs) H) :
    FSt P w K mg base CX (k + 1) f (fun vs H Q E => ∃ ws rest, vs = ws ++ rest ∧ ws.length = qs.length ∧ rest.length ≤ sizeLine ∧ ∀ p o, H p = none → o.dict = none → sp (ws ++ [V.ref p]) (upd H p (.frz o (.tup rest))) Q E) := by
  obtain ⟨oc, od, dV, kV, doc, pm, an, cdv, ct, osl, rfl, lk, hcd, _, _⟩ := F.ex
  refine ⟨fun A outer s H us vs Q E hr hgd e0 r hsp => ?_⟩
  obtain ⟨ws, rest, rfl, hl, hz, hq⟩ := hsp
  obtain ⟨u1, u2, rfl, r1, r2⟩ := StX.vals_split r
  have hn : H s.heap.objs.size = none := e0.hok.fresh (Nat.le_refl _)
  have hl1 : u1.length = qs.length := by rw [← r1.length]; exact hl
  have hl2 : u2.length ≤ sizeLine := by rw [← r2.length]; exact hz
  refine StX.run_bnd lk hcd S hr e0 (G := fun xs H2 => ∃ p o, H p = none ∧ o.dict = none ∧ xs = ws ++ [V.ref p] ∧ H2 = upd H p (.frz o (.tup rest))) (fun A' Ex Q' hk => ?_) fun s2 H2 xs hG _ => ?_
  · rw [hb u1 u2 hl1]
    refine wpAny_bind (wpAny_newTuple (wpAny_pure ?_) hl2)
    generalize ho : ({ cls := .type "tuple", data := .seq u2.toArray } : Obj) = ob
    have hd : ob.dict = none := by subst ho; rfl
    have hg : (s.heap.push ob).get? s.heap.objs.size = some ob := by subst ho; exact Heap.get?_push_size _ rfl
    have new : ObjOk P w (upd H s.heap.objs.size (.frz ob (.tup rest))) (s.heap.push ob) s.heap.objs.size (.frz ob (.tup rest)) := by
      subst ho
      exact ⟨hg, hz, u2, r2, ⟨_, hg, rfl, _, rfl⟩⟩
    have un := StX.un_laid (fs := frs outer) (s := s) (o := ob) (u := .frz ob (.tup rest)) hn
    have z := hk _ _ (ws ++ [V.ref s.heap.objs.size]) (u1 ++ [Value.ref s.heap.objs.size]) (StX.env0_laid e0 new) un rfl (fun e s' => hCX outer s H _ _ E e s' un (fun b o q => Heap.get?_push_of_some _ q) rfl)
      (r1.append (.cons rfl .nil)) (by rw [List.length_append, List.length_append, hl]; rfl) ⟨_, _, hn, hd, rfl, rfl⟩
    rw [List.zip_append hl1.symm] at z
    exact z
  · obtain ⟨p, o, hp, ho, rfl, rfl⟩ := hG
    exact hbody cdv A outer s2 _ _ Q E hr hgd (hq p o hp ho)
end
section
variable {X : Cx} {CX : CXT} {k : Nat} {f C : Addr} {sp : Sp} {E : XK}
theorem run_S {pins : List (Addr × Obj)} {σ : St} {H : Hp} {s : Shared} {Q : VK} {us : List Value} {vs : List V} (F : FSt X.prog X.w X.K X.mg X.base CX k f sp) (hr : Room k X.A) (gd : X.A.guards = some []) (hx : Passes CX X E) (I : Inv X pins σ H s) (r : Vals vs us) (h : sp vs H Q E) :
    wpAny (model X.prog X.w) X.A (call (.ref f) us) (EP X pins σ Q) X.xe s := by
  refine wpAny_call (codeAny_mono (F.run X.A X.stack s H us vs Q E hr gd I.env0 r h) fun r s' hq => ?_)
  cases r with
  | error e => exact hx pins σ H s e s' I hq
  | ok fl =>
    cases fl with
    | ret u => exact I.after hq
    | next => exact hq.elim
    | brk => exact hq.elim
    | cont => exact hq.elim
theorem make_S {pins : List (Addr × Obj)} {σ : St} {H : Hp} {s : Shared} {Q : VK} {us : List Value} {vs : List V} (M : Mk X.K C f) (F : FSt X.prog X.w X.K X.mg X.base CX k f sp) (hr : RoomB k X.A) (gd : X.A.guards = some []) (hx : Passes CX X E) (I : Inv X pins σ H s) (r : Vals vs us)
    (h : ∀ y dx, H y = none → H dx = none → dx ≠ y → sp (.ref y :: vs) (upd (upd H dx (.own y)) y (.ins C dx [])) (fun v H2 => v = .non ∧ Q (.ref y) H2) E) :
    wpAny (model X.prog X.w) X.A (call (.ref C) us) (EP X pins σ Q) X.xe s := by
  have hq := h (s.heap.objs.size + 1) s.heap.objs.size (I.hok.fresh (Nat.le_succ _)) (I.hok.fresh (Nat.le_refl _)) (Nat.ne_of_lt (Nat.lt_succ_self _))
  have I2 := Inv.made (C := C) I
  have r2 : Vals (V.ref (s.heap.objs.size + 1) :: vs) (Value.ref (s.heap.objs.size + 1) :: us) := .cons rfl r
  refine wpAny_call (make_map (f := f) I.kIn M.makes M.init (beq_iff_eq.mp M.fn) (codeAny_mono (F.run _ X.stack _ _ (Value.ref (s.heap.objs.size + 1) :: us) _ _ E (hr.make C us []) (guards_make gd) (I2.env0.make C us []) r2 hq) fun r s' hq' => ?_))
  cases r with
  | error e => exact hx pins σ _ _ e s' I2 hq'
  | ok fl =>
    cases fl with
    | next => exact hq'.elim
    | brk => exact hq'.elim
    | cont => exact hq'.elim
    | ret u =>
      obtain ⟨v, H', I3, rv, ev, q3⟩ := I2.after hq'
      subst ev
      exact ⟨rv, V.ref (s.heap.objs.size + 1), H', I3, rfl, q3⟩
end
end M3
set_option Elab.async false
set_option linter.all false
set_option maxRecDepth 100000
set_option maxHeartbeats 2000000
/-! F10c: operations by a class's own methods. -/
namespace M3
open PySem PySem.Spec L2
open PyProof.Rows hiding St
section
variable {prog : Program} {w : World} {A : Around} {E : Value → Shared → Prop} {s : Shared} {K : PySem.W.Frag} {x C L f : Addr} {h₀ : Heap} {m : Str → Option Value} {ox : Obj} {od : Option Obj} {b tb : Value}
theorem nb_bind (self : Value) : bindSpecial (.builtin "object.__ne__") self = pure (.builtin "object.__ne__", [self]) :=
  (Slot.of (T := "object") (name := "__ne__") (owner := "object") (n := "__ne__") (by rw [typeLookup_type, builtinLookup_eq_fast]; kernel_rfl) (by decide +kernel) (by decide +kernel) (by decide +kernel)
    (.inl (by decide +kernel)) (by rw [isSubtype_type]; kernel_rfl)).bind self
theorem nb_plain : plainId "object.__ne__" = true := by decide +kernel
theorem ifBound_B {M : Model} {args : List Value} {Q : Option Value → Shared → Prop} (X : K.In s.heap) (I : PySem.W.InstAt s.heap x ox C od) (hs : PySem.W.findIn K (.ref C) "__ne__" = some (some (.builtin "object.__ne__")))
    (h : wpAny M A (call (.builtin "object.__ne__") (.ref x :: args)) (fun v => Q (some v)) E s) : wpAny M A (callSpecialIfBound? (.ref x) "__ne__" args) Q E s := by
  simp only [callSpecialIfBound?, bindSpecialIfBound?]
  refine wpAny_holding (wpAny_bind (wpAny_bind (wpAny_bind (I.type.here ((PySem.W.looks_findIn X hs).here ?_)))))
  refine wpAny_bind (wpAny_askSetting (wpAny_ite ?_))
  have fin : wpAny M A (call (.builtin "object.__ne__") ([.ref x] ++ args) >>= fun v => pure (some v)) Q E s := wpAny_bind (wpAny_mono h (fun v s' h' => wpAny_pure h') fun _ _ h' => h')
  split
  · exact wpAny_bind (wpAny_of_eq (nb_bind _) (wpAny_pure (by exact fin)))
  · exact wpAny_tryCatch (wpAny_bind (wpAny_of_eq (nb_bind _) (wpAny_pure (by exact fin))))
theorem ne_entry {Q : Fin → Shared → Prop} (hu : A.units < cLine) (X : K.In s.heap) (I : PySem.W.InstAt s.heap x ox C od) (hs : PySem.W.findIn K (.ref C) "__eq__" = some (some (.ref f))) (hf : PySem.W.isFn K (.ref f) = true)
    (h : wpAny (model prog w) A (call (.ref f) [.ref x, b]) (fun v s' => ∃ k, v = .bool k ∧ Q (.done (.ret (.bool (!k)))) s') E s) : wpAny (model prog w) A (Builtin.«object.__ne__» ⟨[.ref x, b], []⟩) Q E s := by
  unfold Builtin.«object.__ne__»
  repeat (first
    | with_reducible refine wpAny_cRoomFor hu ?_
    | (refine wpAny_bind (m := callSpecialIfBound? (.ref x) (Str.ofString "__eq__") [b])
        (PySem.W.ifBound_K X I hs hf (wpAny_mono h (fun r s' hr => by
          obtain ⟨k, rfl, hq⟩ := hr
          repeat (first | exact hq | exact wpAny_pure hq | exact wpAny_truthy_bool hq | (refine wpAny_bind (m := truthy (.bool _)) (wpAny_truthy_bool ?_)) | wp_step)) fun _ _ e => e)))
    | wp_step)
theorem ne_K {Q : Value → Shared → Prop} (hu : A.units + 1 < cLine) (F : Fr h₀ L s.heap m) (X₀ : K.In h₀) (I : PySem.W.InstAt s.heap x ox C od) (hb : PySem.W.Looks (model prog w) s.heap (typeOf b) tb) (hn : PySem.W.notFirst K C tb = true)
    (hne : PySem.W.findIn K (.ref C) "__ne__" = some (some (.builtin "object.__ne__"))) (hm : PySem.W.mroIn K C (.type "object") = some true) (hs : PySem.W.findIn K (.ref C) "__eq__" = some (some (.ref f))) (hf : PySem.W.isFn K (.ref f) = true)
    (h : wpAny (model prog w) A.in1 (call (.ref f) [.ref x, b]) (fun v s' => ∃ k, v = .bool k ∧ Q (.bool (!k)) s') E s) : wpAny (model prog w) A (richCompare .NotEq (.ref x) b) Q E s := by
  have X := X₀.keeps F.keep
  have ii : PySem.W.Looks (model prog w) s.heap (isInstance (.ref x) (.type "object")) true := I.type.andThen (PySem.W.looks_mroIn X hm)
  have one : wpAny (model prog w) A (tryCompare (.ref x) "__ne__" b) (fun r s' => ∃ v, r = some v ∧ Q v s') E s := by
    unfold tryCompare
    refine wpAny_bind (ifBound_B X I hne (wpAny_call (codeAny_call_builtin nb_plain PySem.F.cmpEntry_ne (PySem.W.check_slot PySem.F.cmpKind_ne PySem.F.cmpSplit_ne ii (PySem.F.cmpArgs_ne _ _) (ne_entry (A := A.in1) hu X I hs hf (wpAny_mono h (fun v s' hv => ?_) fun _ _ e => e))))))
    obtain ⟨k, rfl, hq⟩ := hv
    exact ⟨k, rfl, wpAny_pure ⟨_, rfl, hq⟩⟩
  unfold richCompare
  simp only [oneThing_ref]
  refine wpAny_holding (wpAny_bind (wpAny_cRoomFor (by omega) ?_))
  refine wpAny_bind (I.type.here (wpAny_bind (hb.here ?_)))
  split
  · rename_i q
    have e : PySem.W.subIn K tb (.ref C) = some false := by
      rcases Bool.or_eq_true_iff.mp hn with e | e
      · rw [beq_iff_eq.mp e] at q; simp at q
      · exact beq_iff_eq.mp e
    refine wpAny_bind ((PySem.W.looks_subIn X e).here ?_)
    simp only [Bool.false_eq_true, if_false]
    refine wpAny_bind (wpAny_mono one (fun r s' z => ?_) fun _ _ e => e)
    obtain ⟨v, rfl, hq⟩ := z
    exact wpAny_pure hq
  · refine wpAny_bind (wpAny_pure ?_)
    simp only [Bool.false_eq_true, if_false]
    refine wpAny_bind (wpAny_mono one (fun r s' z => ?_) fun _ _ e => e)
    obtain ⟨v, rfl, hq⟩ := z
    exact wpAny_pure hq
end
/-! ### the rules -/
def bkR : DK → V → V → Prop
  | .neg, v, v' => v' = v
  | .ix, v, v' => v' = v
  | .bor, v, v' => (∃ a, v = .ref a) ∧ v' = v
  | .band, v, v' => (∃ a, v = .ref a) ∧ v' = v
  | .len, v, v' => (∃ n : Int, v = .int n ∧ 0 ≤ n ∧ n < 2 ^ 62) ∧ v' = v
  | .str, v, v' => (∃ y, v = .str y) ∧ v' = v
  | .repr, v, v' => (∃ y, v = .str y) ∧ v' = v
  | .isin, v, v' => (∃ k, v = .bl k) ∧ v' = v
  | .eq, v, v' => (∃ k, v = .bl k) ∧ v' = v
  | .notin, v, v' => ∃ k, v = .bl k ∧ v' = .bl (!k)
  | .ne, v, v' => ∃ k, v = .bl k ∧ v' = .bl (!k)
def bkV (k : DK) (Q : VK) : VK := fun v H => ∃ v', bkR k v v' ∧ Q v' H
/-- the other one's kind -/
def TyLk (K : PySem.W.Frag) (C : Addr) (v : V) (H : Hp) : Prop := ∃ t, TyX K H v t ∧ PySem.W.notFirst K C t = true
def TyIn (C : Addr) (v : V) (H : Hp) : Prop := ∃ a dx fs, v = .ref a ∧ H a = some (.ins C dx fs)
def tyK (K : PySem.W.Frag) (k : DK) (C : Addr) (v : V) (H : Hp) : Prop := match k with
  | .eq => TyLk K C v H
  | .ne => TyLk K C v H
  | .bor => TyIn C v H
  | .band => TyIn C v H
  | _ => True
def rD (K : PySem.W.Frag) (k : DK) (C : Addr) (sp : Sp) (vs : List V) (H : Hp) (Q : VK) : Prop := ∃ b dx fs as, rcv k vs = some (V.ref b, as) ∧ H b = some (.ins C dx fs) ∧ (∀ v ∈ as, tyK K k C v H) ∧ sp (.ref b :: as) H (bkV k Q) E0
def dkN : DK → Str
  | .neg => "__neg__"
  | .ix => "__getitem__"
  | .bor => "__or__"
  | .band => "__and__"
  | .len => "__len__"
  | .str => "__str__"
  | .repr => "__repr__"
  | .isin => "__contains__"
  | .eq => "__eq__"
  | .notin => "__contains__"
  | .ne => "__eq__"
/-- what a class has of its own, and what not -/
def tyNames : List String := ["NoneType", "bool", "int", "str", "list", "tuple", "dict"]
structure ClsX (K : PySem.W.Frag) (C : Addr) : Prop where
  cl : PySem.W.findIn K (.ref C) "__class__" = some (some (.builtin "object.__class__"))
  gt : PySem.W.specialIn K (.builtin "object.__class__") "__get__" = some (some (.builtin "getset_descriptor.__get__"))
  tk : PySem.W.takesIn K (.builtin "object.__class__") = some true
  ob : PySem.W.mroIn K C (.type "object") = some true
  ne : PySem.W.findIn K (.ref C) "__ne__" = some (some (.builtin "object.__ne__"))
  sf : PySem.W.selfFirst K C = true
  sq : PySem.W.noSeq K C = true
  ty : ∀ T ∈ tyNames, PySem.W.kitOne K (.type T) (.ref C) = some false ∧ PySem.W.subIn K (.type T) (.ref C) = some false
section
variable {X : Cx} {CX : CXT} {k : Nat} {f C : Addr} {fd : FuncData} {ps : List Str} {sp : Sp} {E : XK}
theorem run_at {A' : Around} {E' : Value → Shared → Prop} {pins : List (Addr × Obj)} {σ : St} {H : Hp} {s : Shared} {Q : VK} {us : List Value} {vs : List V} (F : FOk X.prog X.w X.K X.mg X.base CX k f fd ps sp) (hr : Room k A') (gd : A'.guards = some [])
    (e0 : Env0 X.prog X.w X.K X.mg X.base A' X.stack s H) (hb : KB X.K fd ps ps.length) (hx : Passes CX X.nox E) (I : Inv X pins σ H s) (r : Vals vs us) (h : sp vs H Q E) :
    wpAny (model X.prog X.w) A' (call (.ref f) us) (EP X pins σ Q) E' s := by
  have hl : us.length = ps.length := by rw [← r.length]; exact F.len _ _ _ _ h
  have bnd := hb s us [] I.kIn hl (by rw [hl]; rfl)
  rw [List.zip_nil_right, List.append_nil] at bnd
  refine wpAny_call (codeAny_mono (F.run A' X.stack s H ⟨us, []⟩ us vs Q E hr gd e0 bnd r h) fun r s' hq => ?_)
  cases r with
  | error e => exact (hx pins σ H s e s' (I.wish _) hq).elim
  | ok fl =>
    cases fl with
    | ret u => exact I.after hq
    | next => exact hq.elim
    | brk => exact hq.elim
    | cont => exact hq.elim
theorem RoomB.in2 {k : Nat} {A : Around} (r : RoomB k A) : Room k A.in1.in1 :=
  ⟨r.hd, by have := r.dp; show A.depth + 3 * k + 5 < _; omega, by have := r.un; show A.units + 1 + 1 + 16 * k + 200 < _; omega⟩
/-- the method is there, and keeps its promise -/
structure Dn (X : Cx) (k : Nat) (f C : Addr) (fd : FuncData) (ps : List Str) (sp : Sp) (d : DK) : Prop where
  M : Meth X.K C (dkN d) f
  F : FOk X.prog X.w X.K X.mg X.base CX0 k f fd ps sp
  hr : RoomB k X.A
  gd : X.A.guards = some []
  hb : KB X.K fd ps ps.length
  cx : ClsX X.K C
theorem D_neg (D : Dn X k f C fd ps sp .neg) : UnR X (unaryOp .USub) (fun x H Q => rD X.K .neg C sp [x] H Q) := by
  rintro pins s σ H x v Q I rx ⟨b, dx, fs, as, e, hb, _, hs⟩
  cases e
  obtain rfl : v = .ref b := rx
  obtain ⟨mA, O, _⟩ := ins_get I.hok hb
  obtain ⟨od, J, _⟩ := O.look
  obtain ⟨m, Fr⟩ := I.fr
  refine PySem.W.ksp_neg Fr I.ok.mod.kin J D.M.at_ D.M.fn (wpAny_mono (run_at D.F D.hr.room D.gd I.env0 D.hb pass0 I (.cons (show RelV (.ref b) (.ref b) from rfl) .nil) hs) (fun u s' ⟨v, H', I', rv, v', hv, q⟩ => ?_) fun _ _ z => z)
  obtain rfl : v' = v := hv
  exact ⟨_, H', I', rv, q⟩
theorem D_len (D : Dn X k f C fd ps sp .len) : CallR X (.builtin "len") (rD X.K .len C sp) := by
  rintro pins s σ H xs us Q I rx ⟨b, dx, fs, as, e, hb, _, hs⟩
  have hx : ∃ x v, xs = [x] ∧ us = [v] ∧ RelV x v := by
    match xs, e, rx with
    | [x], _, .cons rx .nil => exact ⟨x, _, rfl, rfl, rx⟩
  obtain ⟨x, v, rfl, rfl, rx1⟩ := hx
  · cases e
    obtain rfl : v = .ref b := rx1
    obtain ⟨mA, O, _⟩ := ins_get I.hok hb
    obtain ⟨od, J, _⟩ := O.look
    obtain ⟨m, Fr⟩ := I.fr
    refine PySem.W.len_K Fr I.ok.mod.kin J D.M.at_ D.M.fn (wpAny_mono (run_at D.F D.hr.in1 (guards_in1 D.gd) I.env0.in1 D.hb pass0 I (.cons (show RelV (.ref b) (.ref b) from rfl) .nil) hs) (fun u s' ⟨v, H', I', rv, v', ⟨⟨n, e1, h0, h1⟩, e2⟩, q⟩ => ?_) fun _ _ z => z)
    subst e1 e2
    obtain ⟨t, rfl⟩ := rv
    exact ⟨⟨h0, by omega⟩, .int n, H', I'.tok _, ⟨_, rfl⟩, q⟩
theorem D_repr (D : Dn X k f C fd ps sp .repr) : CallR X (.builtin "repr") (rD X.K .repr C sp) := by
  rintro pins s σ H xs us Q I rx ⟨b, dx, fs, as, e, hb, _, hs⟩
  have hx : ∃ x v, xs = [x] ∧ us = [v] ∧ RelV x v := by
    match xs, e, rx with
    | [x], _, .cons rx .nil => exact ⟨x, _, rfl, rfl, rx⟩
  obtain ⟨x, v, rfl, rfl, rx1⟩ := hx
  · cases e
    obtain rfl : v = .ref b := rx1
    obtain ⟨mA, O, _⟩ := ins_get I.hok hb
    obtain ⟨od, J, _⟩ := O.look
    obtain ⟨m, Fr⟩ := I.fr
    refine PySem.W.repr_K (by have := D.hr.un; show X.A.units + 1 < _; omega) Fr I.ok.mod.kin J D.M.at_ D.M.fn (wpAny_mono (run_at D.F D.hr.in1 (guards_in1 D.gd) I.env0.in1 D.hb pass0 I (.cons (show RelV (.ref b) (.ref b) from rfl) .nil) hs) (fun u s' ⟨v, H', I', rv, v', ⟨⟨y, e1⟩, e2⟩, q⟩ => ?_) fun _ _ z => z)
    subst e1 e2
    obtain ⟨t, rfl⟩ := rv
    exact ⟨.str y, H', I', ⟨_, rfl⟩, q⟩
theorem D_str (D : Dn X k f C fd ps sp .str) : CallR X (.type "str") (rD X.K .str C sp) := by
  rintro pins s σ H xs us Q I rx ⟨b, dx, fs, as, e, hb, _, hs⟩
  have hx : ∃ x v, xs = [x] ∧ us = [v] ∧ RelV x v := by
    match xs, e, rx with
    | [x], _, .cons rx .nil => exact ⟨x, _, rfl, rfl, rx⟩
  obtain ⟨x, v, rfl, rfl, rx1⟩ := hx
  · cases e
    obtain rfl : v = .ref b := rx1
    obtain ⟨mA, O, _⟩ := ins_get I.hok hb
    obtain ⟨od, J, _⟩ := O.look
    refine PySem.W.kso_call (by have := D.hr.un; show X.A.units + 1 + 1 < _; omega) I.kIn J D.M.at_ D.M.fn (wpAny_mono (run_at D.F D.hr.in2 (guards_in1 (guards_in1 D.gd)) I.env0.in1.in1 D.hb pass0 I (.cons (show RelV (.ref b) (.ref b) from rfl) .nil) hs) (fun u s' ⟨v, H', I', rv, v', ⟨⟨y, e1⟩, e2⟩, q⟩ => ?_) fun _ _ z => z)
    subst e1 e2
    obtain ⟨t, rfl⟩ := rv
    exact ⟨.str y, H', I', ⟨_, rfl⟩, q⟩
theorem D_in (D : Dn X k f C fd ps sp .isin) : OpR X (compareOp .In) (fun x y H Q => rD X.K .isin C sp [x, y] H Q) := by
  rintro pins s σ H x y v u Q I rx ry ⟨b, dx, fs, as, e, hb, _, hs⟩
  cases e
  obtain rfl : u = .ref b := ry
  obtain ⟨mA, O, _⟩ := ins_get I.hok hb
  obtain ⟨od, J, _⟩ := O.look
  obtain ⟨m, Fr⟩ := I.fr
  refine PySem.W.in_K Fr I.ok.mod.kin J D.M.at_ D.M.fn (wpAny_mono (run_at D.F D.hr.room D.gd I.env0 D.hb pass0 I (.cons (show RelV (.ref b) (.ref b) from rfl) (.cons rx .nil)) hs) (fun u s' ⟨v, H', I', rv, v', ⟨⟨k, e1⟩, e2⟩, q⟩ => ?_) fun _ _ z => z)
  subst e1 e2
  obtain rfl : u = .bool k := rv
  exact wpAny_truthy_bool ⟨.bl k, H', I', rfl, q⟩
theorem D_notin (D : Dn X k f C fd ps sp .notin) : OpR X (compareOp .NotIn) (fun x y H Q => rD X.K .notin C sp [x, y] H Q) := by
  rintro pins s σ H x y v u Q I rx ry ⟨b, dx, fs, as, e, hb, _, hs⟩
  cases e
  obtain rfl : u = .ref b := ry
  obtain ⟨mA, O, _⟩ := ins_get I.hok hb
  obtain ⟨od, J, _⟩ := O.look
  obtain ⟨m, Fr⟩ := I.fr
  refine PySem.W.notIn_K Fr I.ok.mod.kin J D.M.at_ D.M.fn (wpAny_mono (run_at D.F D.hr.room D.gd I.env0 D.hb pass0 I (.cons (show RelV (.ref b) (.ref b) from rfl) (.cons rx .nil)) hs) (fun u s' ⟨v, H', I', rv, v', ⟨k, e1, e2⟩, q⟩ => ?_) fun _ _ z => z)
  subst e1 e2
  obtain rfl : u = .bool k := rv
  exact wpAny_truthy_bool ⟨.bl (!k), H', I', rfl, q⟩
theorem D_eq (D : Dn X k f C fd ps sp .eq) : OpR X (compareOp .Eq) (fun x y H Q => rD X.K .eq C sp [x, y] H Q) := by
  rintro pins s σ H x y v u Q I rx ry ⟨b, dx, fs, as, e, hb, ht, hs⟩
  cases e
  obtain rfl : v = .ref b := rx
  obtain ⟨mA, O, _⟩ := ins_get I.hok hb
  obtain ⟨od, J, _⟩ := O.look
  obtain ⟨m, Fr⟩ := I.fr
  obtain ⟨t, ty, nf⟩ := ht y (by simp)
  obtain ⟨PP, Zk, pp, _⟩ := kit_of I ry ty
  refine PySem.W.cmp_ofEq (PySem.W.cmp_K (by have := D.hr.un; omega) Fr I.ok.mod.kin J (Zk.ty _ _ I.kIn pp) nf D.M.at_ D.M.fn (wpAny_mono (run_at D.F D.hr.room D.gd I.env0 D.hb pass0 I (.cons (show RelV (.ref b) (.ref b) from rfl) (.cons ry .nil)) hs) (fun u s' ⟨v, H', I', rv, v', ⟨⟨k, e1⟩, e2⟩, q⟩ => ?_) fun _ _ z => z))
  subst e1 e2
  obtain rfl : u = .bool k := rv
  exact ⟨.bl k, H', I', rfl, q⟩
theorem D_ne (D : Dn X k f C fd ps sp .ne) : OpR X (compareOp .NotEq) (fun x y H Q => rD X.K .ne C sp [x, y] H Q) := by
  rintro pins s σ H x y v u Q I rx ry ⟨b, dx, fs, as, e, hb, ht, hs⟩
  cases e
  obtain rfl : v = .ref b := rx
  obtain ⟨mA, O, _⟩ := ins_get I.hok hb
  obtain ⟨od, J, _⟩ := O.look
  obtain ⟨m, Fr⟩ := I.fr
  obtain ⟨t, ty, nf⟩ := ht y (by simp)
  obtain ⟨PP, Zk, pp, _⟩ := kit_of I ry ty
  refine PySem.W.cmp_ofNotEq (ne_K (by have := D.hr.un; omega) Fr I.ok.mod.kin J (Zk.ty _ _ I.kIn pp) nf D.cx.ne D.cx.ob D.M.at_ D.M.fn (wpAny_mono (run_at D.F D.hr.in1 (guards_in1 D.gd) I.env0.in1 D.hb pass0 I (.cons (show RelV (.ref b) (.ref b) from rfl) (.cons ry .nil)) hs) (fun u s' ⟨v, H', I', rv, v', ⟨k, e1, e2⟩, q⟩ => ?_) fun _ _ z => z))
  subst e1 e2
  obtain rfl : u = .bool k := rv
  exact ⟨k, rfl, .bl (!k), H', I', rfl, q⟩
theorem D_bor (D : Dn X k f C fd ps sp .bor) : OpR X (binaryOp .BitOr) (fun x y H Q => rD X.K .bor C sp [x, y] H Q) := by
  rintro pins s σ H x y v u Q I rx ry ⟨b, dx, fs, as, e, hb, ht, hs⟩
  cases e
  obtain rfl : v = .ref b := rx
  obtain ⟨mA, O, _⟩ := ins_get I.hok hb
  obtain ⟨od, J, _⟩ := O.look
  obtain ⟨m, Fr⟩ := I.fr
  obtain ⟨a2, dx2, fs2, rfl, ha2⟩ := ht y (by simp)
  obtain rfl : u = .ref a2 := ry
  obtain ⟨mA2, O2, _⟩ := ins_get I.hok ha2
  obtain ⟨od2, J2, _⟩ := O2.look
  refine PySem.W.binop_K Fr I.ok.mod.kin J J2.type D.cx.sf D.M.at_ D.M.fn (wpAny_mono (run_at D.F D.hr.room D.gd I.env0 D.hb pass0 I (.cons (show RelV (.ref b) (.ref b) from rfl) (.cons (show RelV (.ref a2) (.ref a2) from rfl) .nil)) hs) (fun u s' ⟨v, H', I', rv, v', ⟨⟨a, e1⟩, e2⟩, q⟩ => ?_) fun _ _ z => z)
  subst e1 e2
  obtain rfl : u = .ref a := rv
  exact ⟨.ref a, H', I', rfl, q⟩
theorem D_band (D : Dn X k f C fd ps sp .band) : OpR X (binaryOp .BitAnd) (fun x y H Q => rD X.K .band C sp [x, y] H Q) := by
  rintro pins s σ H x y v u Q I rx ry ⟨b, dx, fs, as, e, hb, ht, hs⟩
  cases e
  obtain rfl : v = .ref b := rx
  obtain ⟨mA, O, _⟩ := ins_get I.hok hb
  obtain ⟨od, J, _⟩ := O.look
  obtain ⟨m, Fr⟩ := I.fr
  obtain ⟨a2, dx2, fs2, rfl, ha2⟩ := ht y (by simp)
  obtain rfl : u = .ref a2 := ry
  obtain ⟨mA2, O2, _⟩ := ins_get I.hok ha2
  obtain ⟨od2, J2, _⟩ := O2.look
  refine PySem.W.binop_K Fr I.ok.mod.kin J J2.type D.cx.sf D.M.at_ D.M.fn (wpAny_mono (run_at D.F D.hr.room D.gd I.env0 D.hb pass0 I (.cons (show RelV (.ref b) (.ref b) from rfl) (.cons (show RelV (.ref a2) (.ref a2) from rfl) .nil)) hs) (fun u s' ⟨v, H', I', rv, v', ⟨⟨a, e1⟩, e2⟩, q⟩ => ?_) fun _ _ z => z)
  subst e1 e2
  obtain rfl : u = .ref a := rv
  exact ⟨.ref a, H', I', rfl, q⟩
end
end M3
set_option Elab.async false
set_option linter.all false
set_option maxRecDepth 100000
namespace M3
open PySem PySem.Spec L2
/-! ### values just made; calls -/
def FreshV (w : Wd) (H0 : Hp) (Z' : Addr → Prop) (H' : Hp) (v : V) (d : D) : Prop := ∃ a o, v = .ref a ∧ d = Ob.d o ∧ H0 a = none ∧ ¬ Z' a ∧ OwnRep w Z' H' a o
def tDF (w : Wd) (W : WX) (F : M D) : TE := fun σ H Q => ∃ A Z ρ, SR w A Z H ρ σ ∧ Post w W A Z H ρ σ (F ρ) fun d Z' H' _ => ∀ v, FreshV w H Z' H' v d → Q v H'
def tDAll (w : Wd) (W : WX) (F : M (List D)) : TA := fun σ H Q => ∃ A Z ρ, SR w A Z H ρ σ ∧ Post w W A Z H ρ σ (F ρ) fun ds Z' H' _ => ∀ vs, Reps w Z' H' vs ds → Q vs H'
section
variable {w : Wd} {W : WX} {A : Act} {Z Z' Z1 Z2 : Addr → Prop} {H H' H1 H2 : Hp} {ρ ρ' ρ1 ρ2 : En} {σ : St} {X : Cx} {Q : VK}
theorem OwnRep.some {a : Addr} : ∀ {o : Ob}, OwnRep w Z H a o → H a ≠ none
  | .lst _, ⟨_, e, _⟩ => by rw [e]; exact fun z => nomatch z
  | .dic _, .inl ⟨_, e, _⟩ => by rw [e]; exact fun z => nomatch z
  | .dic _, .inr ⟨_, e, _⟩ => by rw [e]; exact fun z => nomatch z
  | .ins _ _, ⟨_, _, _, e, _⟩ => by rw [e]; exact fun z => nomatch z
theorem SR.addZ (s : SR w A Z H ρ σ) {a : Addr} (hn : ¬ Own ρ σ a) (hg : A.G a = none) (hh : H a ≠ none) : SR w A (addZ Z a) H ρ σ where
  len := s.len
  sh := fun i d h => let ⟨v, e, r⟩ := s.sh i d h; ⟨v, e, zmono (fun _ q => .inl q) r⟩
  own := fun i b o h => by
    obtain ⟨c, e, z, r, g1, g2⟩ := s.own i b o h
    refine ⟨c, e, fun q => ?_, OwnRep.zmono (fun _ q => .inl q) r, g1, g2⟩
    rcases q with q | q
    · exact z q
    · subst q
      exact hn ⟨i, b, o, h, e⟩
  inj := s.inj
  frame := s.frame
  zf := fun b h => h.elim (s.zf b) fun e => .inr (e ▸ hg)
  z0 := fun b h => .inl (s.z0 b h)
  dom := s.dom
  zd := fun b h => h.elim (s.zd b) fun e => e ▸ hh
/-- what was not there at first is not owned -/
theorem SR.nown (s : SR w A Z H ρ σ) (x : XS ρ σ Z H ρ' Z' H') {a : Addr} (h : H a = none) : ¬ Own ρ' σ a := fun q => by
  obtain ⟨_, o, e, _⟩ := s.ownH (x.ow a q)
  rw [h] at e
  cases e
/-- a value just made may be given to all -/
theorem tDF_of {F : M D} (h : tD w W F σ H Q) : tDF w W F σ H Q := by
  obtain ⟨A, Z, ρ, s, p⟩ := h
  refine ⟨A, Z, ρ, s, ?_⟩
  cases e : F ρ with
  | stuck => rw [e] at p; exact p
  | exc x r => rw [e] at p; exact p
  | ok d ρ1 =>
    rw [e] at p
    rintro Z1 H1 x1 s1 v ⟨a, o, rfl, rfl, h0, nz, r⟩
    refine p (addZ Z1 a) H1 ⟨fun b h => .inl (x1.z b h), fun b h => h.elim (x1.zg b) fun q => .inr (.inl (q ▸ h0)), x1.kp, x1.dom, x1.ow⟩ (s1.addZ (s.nown x1 h0) (s.dom a h0) r.some) _ ?_
    exact OwnRep.rep (.inr rfl) (OwnRep.zmono (fun _ q => .inl q) r)
theorem denAll_nil {P : Ph} {Q : List V → Hp → Prop} (h : tDAll w W (denAll P []) σ H Q) : tNil σ H Q := by
  obtain ⟨A, Z, ρ, s, p⟩ := h
  exact p Z H XS.refl s [] .nil
theorem denAll_read {P : Ph} {e : IE} {es : List IE} {Q : List V → Hp → Prop} (h : tDAll w W (denAll P (e :: es)) σ H Q) : tCons (tD w W (den P e)) (tDAll w W (denAll P es)) σ H Q := by
  obtain ⟨A, Z, ρ, s, p⟩ := h
  have q : Post w W A Z H ρ σ (bnd (den P e) (fun o => bnd (denAll P es) fun os => ret (o :: os)) ρ) _ := p
  refine ⟨A, Z, ρ, s, q.bnd.imp fun d Z1 H1 ρ1 x1 s1 ⟨_, _, k⟩ v r => ⟨A, Z1, ρ1, s1, k.bnd.imp fun ds Z2 H2 ρ2 x2 s2 ⟨_, _, k2⟩ vs rs => ?_⟩⟩
  exact k2 Z2 H2 XS.refl s2 _ (.cons (s1.rep x2 r) rs)
theorem len_if {α : Type} {ds : List D} {a : α} {P : α → (Addr → Prop) → Hp → En → Prop} (p : Post w W A Z H ρ σ ((if ds.length ≤ LIM then ret a else fail : M α) ρ) P) (s : SR w A Z H ρ σ) : ds.length ≤ LIM ∧ ∀ Z' H', XS ρ σ Z H ρ Z' H' → SR w A Z' H' ρ σ → P a Z' H' ρ := by
  by_cases h : ds.length ≤ LIM
  · rw [if_pos h] at p
    exact ⟨h, p⟩
  · rw [if_neg h] at p
    exact p.elim
theorem lst_fresh {F : M (List D)} (h : tDF w W (bnd F fun ds => if ds.length ≤ LIM then ret (.list ds) else fail) σ H Q) : tLst (tDAll w W F) σ H Q := by
  obtain ⟨A, Z, ρ, s, p⟩ := h
  refine ⟨A, Z, ρ, s, p.bnd.imp fun ds Z1 H1 ρ1 x1 s1 ⟨_, _, k⟩ vs r => ?_⟩
  obtain ⟨hl, k⟩ := len_if k s1
  refine ⟨line_lim (by rw [r.length]; exact hl), fun p hp => ?_⟩
  have p0 : P0 Z1 H1 Z1 (upd H1 p (.lst vs)) := P0.newT s1.zd hp
  refine k Z1 _ p0.xs (s1.p0 p0) _ ⟨p, .lst ds, rfl, rfl, x1.dom p hp, fun z => s1.zd p z hp, vs, upd_same, p0.reps r⟩
theorem tup_read {F : M (List D)} (h : tD w W (bnd F fun ds => if ds.length ≤ LIM then ret (.tuple ds) else fail) σ H Q) : tTupF (tDAll w W F) σ H Q := by
  obtain ⟨A, Z, ρ, s, p⟩ := h
  refine ⟨A, Z, ρ, s, p.bnd.imp fun ds Z1 H1 ρ1 x1 s1 ⟨_, _, k⟩ vs r => ?_⟩
  obtain ⟨hl, k⟩ := len_if k s1
  refine ⟨line_lim (by rw [r.length]; exact hl), fun p o hp ho => ?_⟩
  have p0 : P0 Z1 H1 Z1 (upd H1 p (.frz o (.tup vs))) := P0.newT s1.zd hp
  exact k Z1 _ p0.xs (s1.p0 p0) _ (.tup ⟨o, upd_same, ho⟩ (p0.reps r))

/-! ### a def's promise -/
def ioA : List Bool → List V → List Addr
  | true :: ps, .ref a :: vs => a :: ioA ps vs
  | _ :: ps, _ :: vs => ioA ps vs
  | _, _ => []
inductive ArgRs (w : Wd) (Z : Addr → Prop) (H : Hp) : List Bool → List V → List D → Prop
  | nil : ArgRs w Z H [] [] []
  | sh {ps : List Bool} {v : V} {vs : List V} {d : D} {ds : List D} : Rep w Z H v d → ArgRs w Z H ps vs ds → ArgRs w Z H (false :: ps) (v :: vs) (d :: ds)
  | io {ps : List Bool} {a : Addr} {vs : List V} {o : Ob} {ds : List D} : ¬ Z a → OwnRep w Z H a o → ArgRs w Z H ps vs ds → ArgRs w Z H (true :: ps) (.ref a :: vs) (o.d :: ds)
structure CS (IO : Addr → Prop) (Z : Addr → Prop) (H : Hp) (Z' : Addr → Prop) (H' : Hp) : Prop where
  z : ∀ a, Z a → Z' a
  zg : ∀ a, Z' a → Z a ∨ H a = none
  kp : ∀ a o, H a = some o → ¬ IO a → H' a = some o
  dom : ∀ a, H' a = none → H a = none
  zd : ∀ a, Z' a → H' a ≠ none
def RetR (own : Bool) (w : Wd) (H0 : Hp) (Z' : Addr → Prop) (H' : Hp) (v : V) (d : D) : Prop := if own = true then FreshV w H0 Z' H' v d else Rep w Z' H' v d
def OutR (w : Wd) (io : List Addr) (Z' : Addr → Prop) (H' : Hp) (outs : List D) : Prop := match io with
  | [] => True
  | [a] => ¬ Z' a ∧ ∃ o, outs = [Ob.d o] ∧ OwnRep w Z' H' a o
  | _ => False
def spF (w : Wd) (F : Fn) (p : List D → FR) : Sp := fun vs H Q _ => ∃ Z ds, (∀ a, Z a → H a ≠ none) ∧ ArgRs w Z H F.ps vs ds ∧ match p ds with
  | .ok d outs => ∀ Z' H' v, CS (· ∈ ioA F.ps vs) Z H Z' H' → OutR w (ioA F.ps vs) Z' H' outs → RetR F.own w H Z' H' v d → Q v H'
  | _ => False
theorem ArgRs.len {ps : List Bool} {vs : List V} {ds : List D} (h : ArgRs w Z H ps vs ds) : vs.length = ps.length := by
  induction h with
  | nil => rfl
  | sh _ _ ih => rw [List.length_cons, List.length_cons, ih]
  | io _ _ _ ih => rw [List.length_cons, List.length_cons, ih]
/-- which operands go by reference -/
def isT : IE → Bool
  | .tmp _ => true
  | _ => false
def fits : List Bool → List IE → Bool
  | [], [] => true
  | b :: ps, e :: es => (isT e == b) && fits ps es
  | _, _ => false
def refAt (σ : St) (i : Nat) : Option Addr := match σ[i]? with
  | some (some (V.ref a)) => some a
  | _ => none
def isSlot : Opd → Bool
  | .slot _ => true
  | .val _ => false
/-- the operands as a call has them -/
def fitO : List Bool → List Opd → Bool
  | [], [] => true
  | b :: ps, o :: os => (isSlot o == b) && fitO ps os
  | _, _ => false
def one (ps : List Bool) : Bool := decide ((ps.filter id).length ≤ 1)
theorem opd_kind {e : IE} {m : M D} {r r' : En} {o : Opd} (h : opd e m r = .ok o r') : isSlot o = isT e := by
  cases e with
  | tmp i =>
    unfold opd at h
    dsimp only at h
    cases q : r[i]? with
    | none => rw [q] at h; cases h
    | some sl => rw [q] at h; cases sl <;> first | (cases h; rfl) | cases h
  | _ =>
    all_goals (
      unfold opd M3.bnd at h
      dsimp only at h
      cases q : m r with
      | ok d r1 => rw [q] at h; cases h; rfl
      | exc x r1 => rw [q] at h; cases h
      | stuck => rw [q] at h; cases h)
theorem bnd_ok {α β : Type} {m : M α} {f : α → M β} {r r' : En} {b : β} (h : bnd m f r = .ok b r') : ∃ a r1, m r = .ok a r1 ∧ f a r1 = .ok b r' := by
  unfold M3.bnd at h
  cases q : m r with
  | ok a r1 => rw [q] at h; exact ⟨a, r1, rfl, h⟩
  | exc x r1 => rw [q] at h; cases h
  | stuck => rw [q] at h; cases h
theorem fits_o {P : Ph} : ∀ {ps : List Bool} {es : List IE} {os : List Opd} {r r' : En}, fits ps es = true → dens P es r = .ok os r' → fitO ps os = true
  | [], [], os, r, r', _, h => by
    have h : (R.ok [] r : R (List Opd)) = .ok os r' := h
    cases h
    rfl
  | b :: ps, e :: es, os, r, r', hf, h => by
    have h : bnd (opd e (den P e)) (fun o => bnd (dens P es) fun os => ret (o :: os)) r = .ok os r' := h
    obtain ⟨o, r1, h1, h2⟩ := bnd_ok h
    obtain ⟨os', r2, h3, h4⟩ := bnd_ok h2
    have h4 : (R.ok (o :: os') r2 : R (List Opd)) = .ok os r' := h4
    cases h4
    have hf : ((isT e == b) && fits ps es) = true := hf
    obtain ⟨f1, f2⟩ := Bool.and_eq_true_iff.mp hf
    have k := opd_kind h1
    show ((isSlot o == b) && fitO ps os') = true
    rw [fits_o f2 h3, k, f1]
    rfl
  | [], _ :: _, _, _, _, hf, _ => by cases hf
  | _ :: _, [], _, _, _, hf, _ => by cases hf
/-- the slots of a call's operands, the addresses there -/
theorem args_of (s : SR w A Z H ρ σ) : ∀ {ps : List Bool} {vs : List V} {os : List Opd} {ds : List D}, OpRs w Z H σ vs os → fitO ps os = true → rslvs ρ os = some ds → (∀ i ∈ ioSlots os, ∃ b o, ρ[i]? = some (.own b o)) →
    ArgRs w Z H ps vs ds ∧ ioA ps vs = (ioSlots os).filterMap (refAt σ) ∧ (∀ i ∈ ioSlots os, ∃ a, σ[i]? = some (some (.ref a)))
  | [], _, _, ds, .nil, _, e, _ => by
    have e : some [] = some ds := e
    cases e
    exact ⟨.nil, rfl, fun _ h => nomatch h⟩
  | [], _, _, _, .cons _ _, hf, _, _ => by cases hf
  | _ :: _, _, _, _, .nil, hf, _, _ => by cases hf
  | b :: ps, _, _, ds, @OpRs.cons _ _ _ _ v o vs os h t, hf, e, ho => by
    have hf : ((isSlot o == b) && fitO ps os) = true := hf
    obtain ⟨f1, f2⟩ := Bool.and_eq_true_iff.mp hf
    unfold M3.rslvs at e
    cases q : rslv ρ o with
    | none => rw [q] at e; cases e
    | some d =>
      rw [q] at e
      have e : (M3.rslvs ρ os).map (d :: ·) = some ds := e
      cases q2 : M3.rslvs ρ os with
      | none => rw [q2] at e; cases e
      | some ds' =>
        rw [q2] at e
        cases e
        cases o with
        | val d' =>
          have : b = false := by cases b with | false => rfl | true => cases f1
          subst this
          have q : some d' = some d := q
          cases q
          obtain ⟨i1, i2, i3⟩ := args_of s t f2 q2 ho
          refine ⟨.sh h i1, ?_, i3⟩
          have i4 : ioA (false :: ps) (v :: vs) = ioA ps vs := by cases v <;> rfl
          rw [i4]
          exact i2
        | slot i =>
          have : b = true := by cases b with | true => rfl | false => cases f1
          subst this
          obtain ⟨b', o, hi⟩ := ho i List.mem_cons_self
          obtain ⟨a, e1, nz, r, _⟩ := s.own i b' o hi
          have h : σ[i]? = some (some v) := h
          rw [e1] at h
          cases h
          have q : rslv ρ (.slot i) = some d := q
          unfold rslv at q
          dsimp only at q
          rw [hi] at q
          cases q
          obtain ⟨i1, i2, i3⟩ := args_of s t f2 q2 fun j hj => ho j (List.mem_cons_of_mem _ hj)
          refine ⟨.io nz r i1, ?_, fun j hj => ?_⟩
          · show a :: ioA ps vs = List.filterMap _ (i :: ioSlots os)
            have e2 : refAt σ i = some a := by unfold refAt; rw [e1]
            rw [List.filterMap_cons, e2, i2]
          · rcases List.mem_cons.mp hj with rfl | hj
            · exact ⟨a, e1⟩
            · exact i3 j hj
theorem fitO_one {ps : List Bool} : ∀ {os : List Opd}, fitO ps os = true → (ioSlots os).length = (ps.filter id).length := by
  induction ps with
  | nil =>
    intro os h
    cases os with
    | nil => rfl
    | cons _ _ => cases h
  | cons b ps ih =>
    intro os h
    cases os with
    | nil => cases h
    | cons o os =>
      have hf : ((isSlot o == b) && fitO ps os) = true := h
      obtain ⟨f1, f2⟩ := Bool.and_eq_true_iff.mp hf
      cases o with
      | val d =>
        cases b with
        | false =>
          show (ioSlots os).length = _
          exact ih f2
        | true => cases f1
      | slot i =>
        cases b with
        | false => cases f1
        | true =>
          show (ioSlots os).length + 1 = _
          rw [ih f2]
          rfl
/-- a call of a def -/
theorem putBack_nil {ds : List D} {r r' : En} (h : putBack [] ds r = some r') : r' = r := by
  cases ds with
  | nil => cases h; rfl
  | cons _ _ => cases h
theorem putBack_one {i : Nat} {ds : List D} {r r' : En} (h : putBack [i] ds r = some r') : ∃ b l l', ds = [.list l'] ∧ r[i]? = some (.own b (.lst l)) ∧ r' = r.set i (.own b (.lst l')) := by
  cases ds with
  | nil => cases h
  | cons d ds =>
    unfold putBack at h
    cases q : r[i]? with
    | none => rw [q] at h; cases h
    | some sl =>
      rw [q] at h
      cases sl with
      | no => cases h
      | sh _ => cases h
      | own b o =>
        cases o with
        | lst l =>
          cases d with
          | list l' =>
            dsimp only [obOf] at h
            cases ds with
            | nil =>
              have h : some (r.set i (.own b (.lst l'))) = some r' := h
              cases h
              exact ⟨b, l, l', rfl, rfl, rfl⟩
            | cons _ _ => cases h
          | _ => cases h
        | dic _ => cases d <;> cases h
        | ins _ _ => cases d <;> cases h
theorem Own.set_own {i : Nat} {b b' : Bool} {o o' : Ob} {a : Addr} (hi : ρ[i]? = some (.own b o)) (h : Own (ρ.set i (.own b' o')) σ a) : Own ρ σ a := by
  obtain ⟨j, b2, o2, h1, h2⟩ := h
  rcases set_get h1 with ⟨rfl, e⟩ | ⟨_, e⟩
  · exact ⟨i, b, o, hi, h2⟩
  · exact ⟨j, b2, o2, e, h2⟩
/-- the frame changes one object of its own -/
theorem SR.change (s : SR w A Z H ρ σ) {i : Nat} {b : Bool} {o o' : Ob} {a : Addr} (hi : ρ[i]? = some (.own b o)) (ha : σ[i]? = some (some (.ref a)))
    (z : ∀ c, Z c → Z' c) (zg : ∀ c, Z' c → Z c ∨ H c = none) (kp : ∀ c u, H c = some u → c ≠ a → H' c = some u) (dom : ∀ c, H' c = none → H c = none) (zd : ∀ c, Z' c → H' c ≠ none) (nz : ¬ Z' a) (r : OwnRep w Z' H' a o') :
    XS ρ σ Z H (ρ.set i (.own b o')) Z' H' ∧ SR w A Z' H' (ρ.set i (.own b o')) σ := by
  have own : Own ρ σ a := ⟨i, b, o, hi, ha⟩
  have xs : XS ρ σ Z H (ρ.set i (.own b o')) Z' H' := ⟨z, fun c h => (zg c h).elim .inl fun q => .inr (.inl q), fun c u e n => kp c u e fun q => n (q ▸ own), dom, fun c h => h.set_own hi⟩
  have stay : ∀ {v : V} {d : D}, Rep w Z H v d → Rep w Z' H' v d := fun q => s.rep xs q
  obtain ⟨a', e', nz0, _, g1, g2⟩ := s.own i b o hi
  rw [ha] at e'
  cases e'
  refine ⟨xs, by rw [List.length_set]; exact s.len, fun j d h => ?_, fun j b2 o2 h => ?_, fun j k b1 b2 o1 o2 c h1 h2 h3 h4 => ?_, fun c u h n => ?_, fun c h => (zg c h).elim (s.zf c) fun q => .inr (s.dom c q), fun c h => z c (s.z0 c h), fun c h => s.dom c (dom c h), zd⟩
  · rcases set_get h with ⟨_, q⟩ | ⟨_, q⟩
    · cases q
    · obtain ⟨v, e1, r1⟩ := s.sh j d q
      exact ⟨v, e1, stay r1⟩
  · rcases set_get h with ⟨rfl, q⟩ | ⟨hne, q⟩
    · cases q
      exact ⟨a, ha, nz, r, g1, g2⟩
    · obtain ⟨c, e1, z1, r1, k1, k2⟩ := s.own j b2 o2 q
      have hca : c ≠ a := fun e => hne (s.inj i j b b2 o o2 c hi q (e ▸ ha) e1)
      have hH : ∀ u, H c = some u → H' c = some u := fun u e => kp c u e hca
      refine ⟨c, e1, fun zz => ?_, ?_, k1, k2⟩
      · rcases zg c zz with q2 | q2
        · exact z1 q2
        · exact r1.some q2
      · cases o2 with
        | lst l => obtain ⟨xs', e, rr⟩ := r1; exact ⟨xs', hH _ e, s.reps xs rr⟩
        | dic l =>
          rcases r1 with ⟨kvs, e, rr⟩ | ⟨kvs, e, rr⟩
          · exact .inl ⟨kvs, hH _ e, rr.stay xs.z (fun a u z q => xs.kp a u q (s.zn z)) fun a ys q => q.mv fun u h => xs.kp a u h (s.tn q.rd)⟩
          · exact .inr ⟨kvs, hH _ e, rr.stay xs.z (fun a u z q => xs.kp a u q (s.zn z)) fun a ys q => q.mv fun u h => xs.kp a u h (s.tn q.rd)⟩
        | ins c fs =>
          obtain ⟨C, dx, fv, e, m, rr⟩ := r1
          exact ⟨C, dx, fv, hH _ e, m, rr.stay xs.z (fun a u z q => xs.kp a u q (s.zn z)) fun a ys q => q.mv fun u h => xs.kp a u h (s.tn q.rd)⟩
  · rcases set_get h1 with ⟨rfl, _⟩ | ⟨n1, q1⟩
    · rcases set_get h2 with ⟨rfl, _⟩ | ⟨_, q2⟩
      · rfl
      · exact s.inj _ k b b2 o o2 c hi q2 h3 h4
    · rcases set_get h2 with ⟨rfl, _⟩ | ⟨_, q2⟩
      · exact s.inj j _ b1 b o1 o c q1 hi h3 h4
      · exact s.inj j k b1 b2 o1 o2 c q1 q2 h3 h4
  · refine kp c u (s.frame c u h n) fun e => ?_
    subst e
    cases b with
    | true =>
      have := g1 rfl
      rw [h] at this
      cases this
    | false => exact n (g2 rfl)
/-- a call that changes nothing here -/
theorem CS.p0 {IO : Addr → Prop} (c : CS IO Z H Z' H') (h : ∀ a, ¬ IO a) : P0 Z H Z' H' := ⟨c.z, c.zg, fun a o e => c.kp a o e (h a), c.zd⟩
def RetT (own : Bool) (w : Wd) (W : WX) (F : M D) : TE := if own = true then tDF w W F else tD w W F
def RetK (own : Bool) (w : Wd) (H0 : Hp) (Q : VK) (d : D) (Z' : Addr → Prop) (H' : Hp) : Prop := ∀ v, RetR own w H0 Z' H' v d → Q v H'
theorem RetT_iff {own : Bool} {F : M D} : RetT own w W F σ H Q ↔ ∃ A Z ρ, SR w A Z H ρ σ ∧ Post w W A Z H ρ σ (F ρ) fun d Z' H' _ => RetK own w H Q d Z' H' := by
  unfold RetT RetK RetR
  cases own with
  | true => exact Iff.rfl
  | false => exact Iff.rfl
theorem call_read {P : Ph} {f : Nat} {es : List IE} {Fn : Fn} (hf : fits Fn.ps es = true) (h1 : one Fn.ps = true) {E : XK} (h : RetT Fn.own w W (bnd (dens P es) (callM P f)) σ H Q) : tDA w W (dens P es) σ H fun vs H1 => spF w Fn (P f) vs H1 Q E := by
  obtain ⟨A, Z, ρ, s, p⟩ := RetT_iff.mp h
  refine ⟨A, Z, ρ, s, ?_⟩
  have pb := p.bnd
  cases eD : dens P es ρ with
  | stuck => rw [eD] at pb; exact pb
  | exc x r => rw [eD] at pb; exact pb
  | ok os ρ1 =>
    rw [eD] at pb
    intro Z1 H1 x1 s1 vs ro
    obtain ⟨_, _, k⟩ := pb Z1 H1 x1 s1
    have ft := fits_o hf eD
    have hone := fitO_one ft
    have h1 : (ioSlots os).length ≤ 1 := by rw [hone]; exact of_decide_eq_true h1
    unfold callM at k
    cases e1 : rslvs ρ1 os with
    | none => rw [e1] at k; exact k.elim
    | some ds =>
      rw [e1] at k
      dsimp only at k
      cases e2 : P f ds with
      | stuck => rw [e2] at k; exact k.elim
      | exc x outs => rw [e2] at k; exact k.elim
      | ok d outs =>
        rw [e2] at k
        dsimp only at k
        cases e3 : putBack (ioSlots os) outs ρ1 with
        | none => rw [e3] at k; exact k.elim
        | some ρ2 =>
          rw [e3] at k
          have hown : ∀ i ∈ ioSlots os, ∃ b o, ρ1[i]? = some (.own b o) := by
            cases eS : ioSlots os with
            | nil => exact fun _ h => nomatch h
            | cons i r =>
              cases r with
              | nil =>
                rw [eS] at e3
                obtain ⟨b, l, l', _, q, _⟩ := putBack_one e3
                intro j hj
                rcases List.mem_cons.mp hj with rfl | hj
                · exact ⟨b, _, q⟩
                · cases hj
              | cons _ _ => rw [eS] at h1; simp at h1
          obtain ⟨ar, ioe, iok⟩ := args_of s1 ro ft e1 hown
          refine ⟨Z1, ds, s1.zd, ar, ?_⟩
          rw [e2]
          dsimp only
          intro Z2 H2 v cs out rr
          have rr2 : RetR Fn.own w H Z2 H2 v d := by
            unfold RetR at rr ⊢
            cases ho : Fn.own with
            | true =>
              rw [ho] at rr
              obtain ⟨a, o, h1, h2, h3, h4⟩ := rr
              exact ⟨a, o, h1, h2, x1.dom a h3, h4⟩
            | false => rw [ho] at rr; exact rr
          cases eS : ioSlots os with
          | nil =>
            rw [eS] at e3 ioe
            have := putBack_nil e3
            subst this
            have p0 := cs.p0 (fun a h => by rw [ioe] at h; cases h)
            exact k Z2 H2 p0.xs (s1.p0 p0) v rr2
          | cons i r =>
            cases r with
            | cons _ _ => rw [eS] at h1; simp at h1
            | nil =>
              rw [eS] at e3 ioe
              obtain ⟨b, l, l', ho, hi, rfl⟩ := putBack_one e3
              obtain ⟨a, ha, _⟩ := s1.own i b _ hi
              have e4 : refAt σ i = some a := by unfold refAt; rw [ha]
              have e5 : ioA Fn.ps vs = [a] := by rw [ioe, List.filterMap_cons, e4]; rfl
              rw [e5] at out cs
              obtain ⟨nz, o', ho', ro'⟩ := out
              rw [ho] at ho'
              cases o' with
              | lst l2 =>
                cases ho'
                obtain ⟨x2, s2⟩ := s1.change (o' := .lst l') hi ha cs.z cs.zg (fun c u e n => cs.kp c u e (by simp [n])) cs.dom cs.zd nz ro'
                exact k Z2 H2 x2 s2 v rr2
              | dic _ => cases ho'
              | ins _ _ => cases ho'
end
end M3
set_option Elab.async false
set_option linter.all false
set_option maxRecDepth 100000
set_option maxHeartbeats 1000000
/-! F11b: the promise of a def whose last parameter takes the rest. -/
namespace M3
open PySem PySem.Spec L2
def spS (w : Wd) (F : Fn) (p : List D → FR) : Sp := fun vs H Q _ => ∃ ws rest, vs = ws ++ rest ∧ ws.length + 1 = F.ps.length ∧ rest.length ≤ sizeLine ∧ ∃ Z ds es, (∀ a, Z a → H a ≠ none) ∧ ArgRs w Z H F.ps.dropLast ws ds ∧ Reps w Z H rest es ∧ match p (ds ++ [.tuple es]) with
  | .ok d outs => ∀ Z' H' v, CS (· ∈ ioA F.ps.dropLast ws) Z H Z' H' → OutR w (ioA F.ps.dropLast ws) Z' H' outs → RetR F.own w H Z' H' v d → Q v H'
  | _ => False
section
variable {w : Wd} {W : WX} {A : Act} {Z Z' : Addr → Prop} {H H' : Hp}
theorem ArgRs.p0 (p : P0 Z H Z H') : ∀ {ps : List Bool} {vs : List V} {ds : List D}, ArgRs w Z H ps vs ds → ArgRs w Z H' ps vs ds
  | _, _, _, .nil => .nil
  | _, _, _, .sh r t => .sh (p.rep r) (ArgRs.p0 p t)
  | _, _, _, .io nz r t => .io nz (p.ownRep r) (ArgRs.p0 p t)
theorem ArgRs.snoc {v : V} {d : D} (r : Rep w Z H v d) : ∀ {ps : List Bool} {vs : List V} {ds : List D}, ArgRs w Z H ps vs ds → ArgRs w Z H (ps ++ [false]) (vs ++ [v]) (ds ++ [d])
  | _, _, _, .nil => .sh r .nil
  | _, _, _, .sh r1 t => .sh r1 (ArgRs.snoc r t)
  | _, _, _, .io nz r1 t => .io nz r1 (ArgRs.snoc r t)
theorem ioA_snoc {v : V} : ∀ {ps : List Bool} {vs : List V}, ps.length = vs.length → ioA (ps ++ [false]) (vs ++ [v]) = ioA ps vs
  | [], [], _ => by cases v <;> rfl
  | [], _ :: _, h => by cases h
  | _ :: _, [], h => by cases h
  | b :: ps, u :: vs, h => by
    have ih := ioA_snoc (v := v) (ps := ps) (vs := vs) (by simpa using h)
    cases b with
    | false =>
      have e : ∀ (ps : List Bool) (vs : List V), ioA (false :: ps) (u :: vs) = ioA ps vs := fun ps vs => by cases u <;> rfl
      rw [List.cons_append, List.cons_append, e, e, ih]
    | true =>
      cases u with
      | ref a =>
        show a :: ioA (ps ++ [false]) (vs ++ [v]) = a :: ioA ps vs
        rw [ih]
      | _ => exact ih
def starB (ps : List Bool) : Bool := match ps.getLast? with
  | some false => true
  | _ => false
theorem starB_eq {ps : List Bool} (h : starB ps = true) : ps = ps.dropLast ++ [false] := by
  unfold starB at h
  cases e : ps.getLast? with
  | none => rw [e] at h; cases h
  | some b =>
    rw [e] at h
    cases b with
    | true => cases h
    | false =>
      obtain ⟨l, rfl⟩ := List.getLast?_eq_some_iff.mp e
      simp
theorem spS_F {F : Fn} {p : List D → FR} {vs : List V} {Q : VK} {E : XK} (hs : starB F.ps = true) (h : spS w F p vs H Q E) : ∃ ws rest, vs = ws ++ rest ∧ ws.length + 1 = F.ps.length ∧ rest.length ≤ sizeLine ∧ ∀ y o, H y = none → o.dict = none → spF w F p (ws ++ [V.ref y]) (upd H y (.frz o (.tup rest))) Q E := by
  obtain ⟨ws, rest, rfl, hl, hz, Z, ds, es, zd, ar, rr, k⟩ := h
  refine ⟨ws, rest, rfl, hl, hz, fun y o hy ho => ?_⟩
  have p0 : P0 Z H Z (upd H y (.frz o (.tup rest))) := P0.newT zd hy
  have hps := starB_eq hs
  have hle : F.ps.dropLast.length = ws.length := by rw [List.length_dropLast]; omega
  have hn : ∀ a, upd H y (.frz o (.tup rest)) a = none → H a = none := fun a q => by
    cases e : H a with
    | none => rfl
    | some u => rw [p0.same a u e] at q; cases q
  have eio : ioA F.ps (ws ++ [V.ref y]) = ioA F.ps.dropLast ws := by
    conv => lhs; rw [hps]
    exact ioA_snoc hle
  refine ⟨Z, ds ++ [.tuple es], p0.zd, ?_, ?_⟩
  · have a := (ar.p0 p0).snoc (v := .ref y) (d := .tuple es) (.tup ⟨o, upd_same, ho⟩ (p0.reps rr))
    rw [← hps] at a
    exact a
  · cases e : p (ds ++ [.tuple es]) with
    | stuck => rw [e] at k; exact k
    | exc x q => rw [e] at k; exact k
    | ok d outs =>
      rw [e] at k
      dsimp only
      intro Z' H' v cs out ret
      rw [eio] at cs out
      refine k Z' H' v ⟨cs.z, fun a q => (cs.zg a q).elim .inl fun q => .inr (hn a q), fun a u q n => cs.kp a u (p0.same a u q) n, fun a q => hn a (cs.dom a q), cs.zd⟩ out ?_
      unfold RetR at ret ⊢
      cases ho : F.own with
      | false => rw [ho] at ret; exact ret
      | true =>
        rw [ho] at ret
        obtain ⟨a, ob, e1, e2, e3, e4, e5⟩ := ret
        exact ⟨a, ob, e1, e2, hn a e3, e4, e5⟩
end
end M3
set_option Elab.async false
set_option linter.all false
set_option maxRecDepth 100000
namespace M3
open PySem PySem.Spec L2
/-! ### readings of statements -/
structure KS (Z : Addr → Prop) (H : Hp) (Z' : Addr → Prop) (H' : Hp) : Prop where
  z : ∀ a, Z a → Z' a
  kp : ∀ a u, (Z a ∨ ∃ xs, Rd H a (.tup xs)) → H a = some u → H' a = some u
def endS (w : Wd) (A : Act) (own : Bool) (D : Ends) : Fw → St → (Addr → Prop) → Hp → Prop
  | .nx, σ, _, H => D.nx σ H
  | .bk, σ, _, H => D.bk σ H
  | .ct, σ, _, H => D.ct σ H
  | .rt d, _, Z, H => ∀ v, RetR own w A.G Z H v d → D.rt v H
def PostS (w : Wd) (W : WX) (A : Act) (own : Bool) (Z : Addr → Prop) (H : Hp) (r : R Fw) (D : Ends) : Prop := match r with
  | .ok f ρ' => ∀ σ' Z' H', KS Z H Z' H' → SR w A Z' H' ρ' σ' → endS w A own D f σ' Z' H'
  | .exc x ρ' => ∀ cls od σ' Z' H', KS Z H Z' H' → SR w A Z' H' ρ' σ' → RepX w Z' H' cls od x → W cls od σ' H'
  | .stuck => False
def tS (w : Wd) (W : WX) (own : Bool) (F : M Fw) : TS := fun D σ H => ∃ A Z ρ, SR w A Z H ρ σ ∧ PostS w W A own Z H (F ρ) D
section
variable {w : Wd} {W : WX} {A : Act} {Z Z' Z1 Z2 : Addr → Prop} {H H' H1 H2 : Hp} {ρ ρ' ρ1 ρ2 : En} {σ σ' : St} {X : Cx} {D : Ends} {own : Bool}
theorem KS.refl : KS Z H Z H := ⟨fun _ h => h, fun _ _ _ h => h⟩
theorem KS.trans (a : KS Z H Z1 H1) (b : KS Z1 H1 Z2 H2) : KS Z H Z2 H2 := ⟨fun x h => b.z x (a.z x h), fun x u h e => b.kp x u (by
  rcases h with h | ⟨xs, h⟩
  · exact .inl (a.z x h)
  · refine .inr ⟨xs, ?_⟩
    rcases h with h | ⟨o, h⟩
    · exact .inl (a.kp x _ (.inr ⟨xs, .inl h⟩) h)
    · exact .inr ⟨o, a.kp x _ (.inr ⟨xs, .inr ⟨o, h⟩⟩) h⟩) (a.kp x u h e)⟩
theorem SR.ks (s : SR w A Z H ρ σ) (x : XS ρ σ Z H ρ' Z' H') : KS Z H Z' H' := ⟨x.z, fun a u h e => x.kp a u e (by
  rcases h with h | ⟨xs, h⟩
  · exact s.zn h
  · exact s.tn h)⟩
theorem P0.ks (p : P0 Z H Z' H') : KS Z H Z' H' := ⟨p.z, fun a u _ e => p.same a u e⟩
theorem KS.rep (k : KS Z H Z' H') {v : V} {d : PyData} (r : Rep w Z H v d) : Rep w Z' H' v d :=
  r.stay k.z (fun a u z q => k.kp a u (.inl z) q) fun a xs q => q.mv fun u h => k.kp a u (.inr ⟨xs, q.rd⟩) h
theorem KS.reps (k : KS Z H Z' H') {v : List V} {d : List PyData} (r : Reps w Z H v d) : Reps w Z' H' v d :=
  r.stay k.z (fun a u z q => k.kp a u (.inl z) q) fun a xs q => q.mv fun u h => k.kp a u (.inr ⟨xs, q.rd⟩) h
theorem PostS.back {r : R Fw} (k : KS Z H Z1 H1) (h : PostS w W A own Z H r D) : PostS w W A own Z1 H1 r D := by
  cases r with
  | ok f ρ' => exact fun σ' Z' H' y s => h σ' Z' H' (k.trans y) s
  | exc x ρ' => exact fun cls od σ' Z' H' y s => h cls od σ' Z' H' (k.trans y) s
  | stuck => exact h
theorem PostS.bnd {α : Type} {m : M α} {f : α → M Fw} (s : SR w A Z H ρ σ) (h : PostS w W A own Z H (bnd m f ρ) D) :
    Post w W A Z H ρ σ (m ρ) fun a Z1 H1 ρ1 => PostS w W A own Z1 H1 (f a ρ1) D := by
  unfold M3.bnd at h
  cases e : m ρ with
  | ok a ρ1 =>
    rw [e] at h
    exact fun Z1 H1 x _ => h.back (s.ks x)
  | exc x ρ1 =>
    rw [e] at h
    exact fun cls od Z' H' x s' => h cls od σ Z' H' (s.ks x) s'
  | stuck => rw [e] at h; exact h
theorem PostS.nx (s : SR w A Z H ρ σ) (h : PostS w W A own Z H (ret .nx ρ) D) : D.nx σ H := h σ Z H KS.refl s
/-- slots are set -/
theorem SR.setSh (s : SR w A Z H ρ σ) {i : Nat} {v : V} {d : PyData} (hi : i < ρ.length) (r : Rep w Z H v d) : SR w A Z H (ρ.set i (.sh d)) (σ.set i (some v)) where
  len := by rw [List.length_set, List.length_set]; exact s.len
  sh := fun j d' h => by
    rcases set_get h with ⟨rfl, q⟩ | ⟨n, q⟩
    · cases q
      exact ⟨v, List.getElem?_set_self (s.len ▸ hi), r⟩
    · rw [List.getElem?_set_ne n]; exact s.sh j d' q
  own := fun j b o h => by
    rcases set_get h with ⟨_, q⟩ | ⟨n, q⟩
    · cases q
    · rw [List.getElem?_set_ne n]; exact s.own j b o q
  inj := fun j k b b' o o' a h1 h2 h3 h4 => by
    rcases set_get h1 with ⟨_, q⟩ | ⟨n1, q1⟩
    · cases q
    · rcases set_get h2 with ⟨_, q⟩ | ⟨n2, q2⟩
      · cases q
      · rw [List.getElem?_set_ne n1] at h3
        rw [List.getElem?_set_ne n2] at h4
        exact s.inj j k b b' o o' a q1 q2 h3 h4
  frame := s.frame
  zf := s.zf
  z0 := s.z0
  dom := s.dom
  zd := s.zd
theorem SR.setOwn (s : SR w A Z H ρ σ) {i : Nat} {a : Addr} {o : Ob} (hi : i < ρ.length) (nz : ¬ Z a) (r : OwnRep w Z H a o) (g : A.G a = none) (n : ¬ Own ρ σ a) : SR w A Z H (ρ.set i (.own true o)) (σ.set i (some (.ref a))) where
  len := by rw [List.length_set, List.length_set]; exact s.len
  sh := fun j d' h => by
    rcases set_get h with ⟨rfl, q⟩ | ⟨n, q⟩
    · cases q
    · rw [List.getElem?_set_ne n]; exact s.sh j d' q
  own := fun j b o h => by
    rcases set_get h with ⟨rfl, q⟩ | ⟨n, q⟩
    · cases q
      exact ⟨a, List.getElem?_set_self (s.len ▸ hi), nz, r, fun _ => g, fun z => nomatch z⟩
    · rw [List.getElem?_set_ne n]; exact s.own j b o q
  inj := fun j k b b' o1 o' c h1 h2 h3 h4 => by
    rcases set_get h1 with ⟨e1, q1⟩ | ⟨n1, q1⟩
    · rcases set_get h2 with ⟨e2, q2⟩ | ⟨n2, q2⟩
      · exact e1.symm.trans e2
      · subst e1
        rw [List.getElem?_set_self (s.len ▸ hi)] at h3
        rw [List.getElem?_set_ne n2] at h4
        cases h3
        exact absurd ⟨k, b', o', q2, h4⟩ n
    · rcases set_get h2 with ⟨e2, q2⟩ | ⟨n2, q2⟩
      · subst e2
        rw [List.getElem?_set_self (s.len ▸ hi)] at h4
        rw [List.getElem?_set_ne n1] at h3
        cases h4
        exact absurd ⟨j, b, o1, q1, h3⟩ n
      · rw [List.getElem?_set_ne n1] at h3
        rw [List.getElem?_set_ne n2] at h4
        exact s.inj j k b b' o1 o' c q1 q2 h3 h4
  frame := s.frame
  zf := s.zf
  z0 := s.z0
  dom := s.dom
  zd := s.zd
theorem SR.setNo (s : SR w A Z H ρ σ) {i : Nat} : SR w A Z H (ρ.set i .no) σ where
  len := by rw [List.length_set]; exact s.len
  sh := fun j d' h => by
    rcases set_get h with ⟨rfl, q⟩ | ⟨n, q⟩
    · cases q
    · exact s.sh j d' q
  own := fun j b o h => by
    rcases set_get h with ⟨rfl, q⟩ | ⟨n, q⟩
    · cases q
    · exact s.own j b o q
  inj := fun j k b b' o1 o' c h1 h2 h3 h4 => by
    rcases set_get h1 with ⟨e1, q1⟩ | ⟨n1, q1⟩
    · cases q1
    · rcases set_get h2 with ⟨e2, q2⟩ | ⟨n2, q2⟩
      · cases q2
      · exact s.inj j k b b' o1 o' c q1 q2 h3 h4
  frame := s.frame
  zf := s.zf
  z0 := s.z0
  dom := s.dom
  zd := s.zd
/-- setSl -/
theorem setSl_ok {i : Nat} {sl : Sl} {f : M Fw} (h : PostS w W A own Z H (bnd (setSl i sl) (fun _ => f) ρ) D) : i < ρ.length ∧ PostS w W A own Z H (f (ρ.set i sl)) D := by
  unfold M3.bnd setSl at h
  by_cases hi : i < ρ.length
  · rw [if_pos hi] at h
    exact ⟨hi, h⟩
  · rw [if_neg hi] at h
    exact h.elim
theorem set_read {F : M PyData} {i : Nat} (h : tS w W own (bnd F fun d => bnd (setSl i (.sh d)) fun _ => ret .nx) D σ H) : tAsg (tD w W F) (gName i) D σ H := by
  obtain ⟨A, Z, ρ, s, p⟩ := h
  refine ⟨A, Z, ρ, s, (p.bnd s).imp fun d Z1 H1 ρ1 x1 s1 k v r => ?_⟩
  obtain ⟨hi, k⟩ := setSl_ok k
  exact k.nx (s1.setSh hi r)
theorem lift_some {α : Type} {x : Option α} {f : α → M Fw} (h : PostS w W A own Z H (bnd (lift x) f ρ) D) : ∃ a, x = some a ∧ PostS w W A own Z H (f a ρ) D := by
  cases x with
  | none => exact h.elim
  | some a => exact ⟨a, rfl, h⟩
theorem ownOf_d {d : PyData} {o : Ob} (h : ownOf d = some o) : d = o.d := by
  cases d <;> cases h
  rfl
theorem own_inj {a : Addr} {o o' : Ob} (h : ownOf o.d = some o') (r : OwnRep w Z H a o) : OwnRep w Z H a o' := by
  cases o with
  | lst l => cases h; exact r
  | dic l => cases h
  | ins c fs => cases h
theorem setO_read {F : M PyData} {i : Nat} (h : tS w W own (bnd F fun d => bnd (lift (ownOf d)) fun o => bnd (setSl i (.own true o)) fun _ => ret .nx) D σ H) : tAsg (tDF w W F) (gName i) D σ H := by
  obtain ⟨A, Z, ρ, s, p⟩ := h
  refine ⟨A, Z, ρ, s, (p.bnd s).imp fun d Z1 H1 ρ1 x1 s1 k v r => ?_⟩
  obtain ⟨o, e, k2⟩ := lift_some k
  obtain ⟨hi, k3⟩ := setSl_ok k2
  obtain ⟨a, o', rfl, rfl, h0, nz, rr⟩ := r
  exact k3.nx (s1.setOwn hi nz (own_inj e rr) (s.dom a h0) (s.nown x1 h0))
theorem expr_read {F : M PyData} (h : tS w W own (bnd F fun _ => ret .nx) D σ H) : tDrop (tD w W F) D σ H := by
  obtain ⟨A, Z, ρ, s, p⟩ := h
  exact ⟨A, Z, ρ, s, (p.bnd s).imp fun d Z1 H1 ρ1 x1 s1 k v r => k.nx s1⟩
theorem ret_read {F : M PyData} (h : tS w W false (bnd F fun d => ret (.rt d)) D σ H) : tRet (tD w W F) D σ H := by
  obtain ⟨A, Z, ρ, s, p⟩ := h
  exact ⟨A, Z, ρ, s, (p.bnd s).imp fun d Z1 H1 ρ1 x1 s1 k v r => k σ Z1 H1 KS.refl s1 v r⟩
theorem retO_read {F : M PyData} (h : tS w W true (bnd F fun d => ret (.rt d)) D σ H) : tRet (tDF w W F) D σ H := by
  obtain ⟨A, Z, ρ, s, p⟩ := h
  refine ⟨A, Z, ρ, s, (p.bnd s).imp fun d Z1 H1 ρ1 x1 s1 k v r => k σ Z1 H1 KS.refl s1 v ?_⟩
  obtain ⟨a, o, h1, h2, h3, h4⟩ := r
  exact ⟨a, o, h1, h2, s.dom a h3, h4⟩
theorem retV_read {i : Nat} {m : M PyData} (h : tS w W true (bnd (giveM (.tmp i) m) fun d => ret (.rt d)) D σ H) : tRet (tVar i) D σ H := by
  obtain ⟨A, Z, ρ, s, p⟩ := h
  unfold M3.bnd giveM at p
  dsimp only at p
  cases e : ρ[i]? with
  | none => rw [e] at p; exact p.elim
  | some sl =>
    rw [e] at p
    cases sl with
    | no => exact p.elim
    | sh _ => exact p.elim
    | own b o =>
      cases b with
      | false => exact p.elim
      | true =>
        obtain ⟨a, e1, nz, r, g, _⟩ := s.own i true o e
        exact ⟨_, e1, p σ Z H KS.refl s.setNo _ ⟨a, o, rfl, rfl, g rfl, nz, r⟩⟩
theorem retN_read (h : tS w W false (ret (.rt .none)) D σ H) : tRetN D σ H := by
  obtain ⟨A, Z, ρ, s, p⟩ := h
  exact p σ Z H KS.refl s .non .non
theorem ife_read {c : M Bool} {a b : M Fw} (h : tS w W own (bnd c fun k => if k then a else b) D σ H) : tIfS (tDT w W c) (tS w W own a) (tS w W own b) D σ H := by
  obtain ⟨A, Z, ρ, s, p⟩ := h
  refine ⟨A, Z, ρ, s, (p.bnd s).imp fun t Z1 H1 ρ1 x1 s1 k => ?_⟩
  cases t with
  | true => exact ⟨A, Z1, ρ1, s1, k⟩
  | false => exact ⟨A, Z1, ρ1, s1, k⟩
theorem seq_read {m n : M Fw} (h : tS w W own (bnd m fun f => match f with | .nx => n | f => ret f) D σ H) : tSeq (tS w W own m) (tS w W own n) D σ H := by
  obtain ⟨A, Z, ρ, s, p⟩ := h
  refine ⟨A, Z, ρ, s, ?_⟩
  unfold M3.bnd at p
  cases e : m ρ with
  | stuck => rw [e] at p; exact p
  | exc x r => rw [e] at p; exact p
  | ok f ρ1 =>
    rw [e] at p
    intro σ1 Z1 H1 k1 s1
    cases f with
    | nx => exact ⟨A, Z1, ρ1, s1, p.back k1⟩
    | bk => exact p σ1 Z1 H1 k1 s1
    | ct => exact p σ1 Z1 H1 k1 s1
    | rt d => exact p σ1 Z1 H1 k1 s1
theorem nil_read (h : tS w W own (ret .nx) D σ H) : tNext D σ H := by
  obtain ⟨A, Z, ρ, s, p⟩ := h
  exact p.nx s
theorem brk_read (h : tS w W own (ret .bk) D σ H) : tBreak D σ H := by
  obtain ⟨A, Z, ρ, s, p⟩ := h
  exact p σ Z H KS.refl s
theorem cont_read (h : tS w W own (ret .ct) D σ H) : tCont D σ H := by
  obtain ⟨A, Z, ρ, s, p⟩ := h
  exact p σ Z H KS.refl s
/-! targets -/
mutual
def gOf (K : PySem.W.Frag) : Tg → TG
  | .name i => gName i
  | .tup ts => gTup K ts.length (gsOf K ts)
def gsOf (K : PySem.W.Frag) : List Tg → TGs
  | [] => gNil
  | t :: ts => gCons (gOf K t) (gsOf K ts)
end
mutual
def Tg.names : Tg → List Nat
  | .name i => [i]
  | .tup ts => namesOf ts
def namesOf : List Tg → List Nat
  | [] => []
  | t :: ts => t.names ++ namesOf ts
end
theorem wipe_get (σ : St) (j : Nat) : ∀ vs : List Nat, (wipe σ vs)[j]? = if j ∈ vs ∧ j < σ.length then some none else σ[j]?
  | [] => by simp [wipe]
  | v :: vs => by
    unfold wipe
    by_cases e : v = j
    · subst e
      by_cases hl : v < σ.length
      · rw [List.getElem?_set_self (by rw [wipe_length]; exact hl), if_pos ⟨List.mem_cons_self, hl⟩]
      · rw [if_neg (fun h => hl h.2), List.getElem?_eq_none (by rw [List.length_set, wipe_length]; omega), List.getElem?_eq_none (by omega)]
    · rw [List.getElem?_set_ne e, wipe_get σ j vs]
      have : (j ∈ v :: vs) ↔ j ∈ vs := by
        rw [List.mem_cons]
        exact ⟨fun h => h.elim (fun q => absurd q.symm e) id, .inr⟩
      simp only [this]
theorem wipe_set {σ : St} {i : Nat} {x : Option V} {vs : List Nat} (h : i ∈ vs) : wipe (σ.set i x) vs = wipe σ vs := by
  apply List.ext_getElem?
  intro j
  rw [wipe_get, wipe_get, List.length_set]
  by_cases e : j ∈ vs ∧ j < σ.length
  · rw [if_pos e, if_pos e]
  · rw [if_neg e, if_neg e]
    by_cases q : i = j
    · subst q
      have : ¬ i < σ.length := fun z => e ⟨h, z⟩
      rw [List.getElem?_eq_none (by rw [List.length_set]; omega), List.getElem?_eq_none (by omega)]
    · rw [List.getElem?_set_ne q]
theorem wipe_idem {σ : St} {vs : List Nat} : wipe (wipe σ vs) vs = wipe σ vs := by
  apply List.ext_getElem?
  intro j
  rw [wipe_get (wipe σ vs), wipe_length]
  by_cases e : j ∈ vs ∧ j < σ.length
  · rw [if_pos e, wipe_get, if_pos e]
  · rw [if_neg e]
theorem Own.set_both {i : Nat} {d : PyData} {v : V} {a : Addr} (h : Own (ρ.set i (.sh d)) (σ.set i (some v)) a) : Own ρ σ a := by
  obtain ⟨j, b, o, h1, h2⟩ := h
  rcases set_get h1 with ⟨_, e⟩ | ⟨n, e⟩
  · cases e
  · rw [List.getElem?_set_ne n] at h2
    exact ⟨j, b, o, e, h2⟩
mutual
theorem put_read {K : PySem.W.Frag} (hw : w.K = K) : ∀ (t : Tg) {d : PyData} {v : V} {ρ ρ' : En} {σ : St} {Q : St → Hp → Prop}, SR w A Z H ρ σ → Rep w Z H v d → putE t d ρ = some ρ' →
    (∀ σ', SR w A Z H ρ' σ' → (∀ vs, (∀ i ∈ t.names, i ∈ vs) → wipe σ' vs = wipe σ vs) → (∀ a, Own ρ' σ' a → Own ρ σ a) → Q σ' H) → gOf K t v σ H Q
  | .name i, d, v, ρ, ρ', σ, Q, s, r, e, k => by
    unfold putE at e
    by_cases hi : i < ρ.length
    · rw [if_pos hi] at e
      cases e
      exact k _ (s.setSh hi r) (fun vs h => wipe_set (h i (by simp [Tg.names]))) fun a h => h.set_both
    · rw [if_neg hi] at e
      cases e
  | .tup ts, d, v, ρ, ρ', σ, Q, s, r, e, k => by
    cases r with
    | tup sq rs =>
      unfold putE at e
      rename_i a xs ds
      have hl : xs.length = ts.length := by rw [rs.length]; exact puts_len ts e
      refine ⟨a, xs, rfl, sq.sq, hl, puts_read hw ts s rs e fun σ' s' hn ho => k σ' s' (fun vs h => hn vs h) ho⟩
    | _ => unfold putE at e; cases e
theorem puts_read {K : PySem.W.Frag} (hw : w.K = K) : ∀ (ts : List Tg) {ds : List PyData} {vs : List V} {ρ ρ' : En} {σ : St} {Q : St → Hp → Prop}, SR w A Z H ρ σ → Reps w Z H vs ds → putsE ts ds ρ = some ρ' →
    (∀ σ', SR w A Z H ρ' σ' → (∀ vs, (∀ i ∈ namesOf ts, i ∈ vs) → wipe σ' vs = wipe σ vs) → (∀ a, Own ρ' σ' a → Own ρ σ a) → Q σ' H) → gsOf K ts vs σ H Q
  | [], ds, vs, ρ, ρ', σ, Q, s, r, e, k => by
    cases r with
    | nil =>
      unfold putsE at e
      cases e
      exact ⟨rfl, k σ s (fun _ _ => rfl) fun _ h => h⟩
    | cons _ _ => unfold putsE at e; cases e
  | t :: ts, ds, vs, ρ, ρ', σ, Q, s, r, e, k => by
    cases r with
    | nil => unfold putsE at e; cases e
    | cons r rs =>
      unfold putsE at e
      rename_i v vs d ds
      cases q : putE t d ρ with
      | none => rw [q] at e; cases e
      | some ρ1 =>
        rw [q] at e
        have e : putsE ts ds ρ1 = some ρ' := e
        refine ⟨v, vs, rfl, put_read hw t s r q fun σ1 s1 h1 o1 => puts_read hw ts s1 rs e fun σ2 s2 h2 o2 => k σ2 s2 (fun vs h => ?_) fun a h => o1 a (o2 a h)⟩
        rw [h2 vs fun i hi => h i (by unfold namesOf; exact List.mem_append_right _ hi), h1 vs fun i hi => h i (by unfold namesOf; exact List.mem_append_left _ hi)]
theorem puts_len : ∀ (ts : List Tg) {ds : List PyData} {ρ ρ' : En}, putsE ts ds ρ = some ρ' → ds.length = ts.length
  | [], ds, ρ, ρ', e => by
    cases ds with
    | nil => rfl
    | cons _ _ => unfold putsE at e; cases e
  | t :: ts, ds, ρ, ρ', e => by
    cases ds with
    | nil => unfold putsE at e; cases e
    | cons d ds =>
      unfold putsE at e
      cases q : putE t d ρ with
      | none => rw [q] at e; cases e
      | some ρ1 =>
        rw [q] at e
        have e : putsE ts ds ρ1 = some ρ' := e
        rw [List.length_cons, List.length_cons, puts_len ts e]
end
/-! ### walks -/
structure Goes (w : Wd) (Z : Addr → Prop) (H : Hp) (J : It) (l : List PyData) : Prop where
  stop : ∀ Z2 H2, KS Z H Z2 H2 → (∀ a, Z2 a → H2 a ≠ none) → J.stop l.length H2
  step : ∀ i d Z2 H2, KS Z H Z2 H2 → (∀ a, Z2 a → H2 a ≠ none) → l[i]? = some d → J.go i H2 ∧ ∀ x H3, J.yld i H2 x H3 → P0 Z2 H2 Z2 H3 ∧ Rep w Z2 H3 x d
def tSrc (w : Wd) (W : WX) (F : M (List PyData)) : TI := fun σ H R => ∃ A Z ρ, SR w A Z H ρ σ ∧ Post w W A Z H ρ σ (F ρ) fun l Z' H' _ => ∀ J, Goes w Z' H' J l → R J H'
theorem drop_cons {α : Type} {l : List α} {i : Nat} (h : i < l.length) : ∃ x, l[i]? = some x ∧ l.drop i = x :: l.drop (i + 1) := ⟨l[i], by simp [h], by rw [List.drop_eq_getElem_cons h]⟩
theorem put_ok {t : Tg} {d : PyData} {f : M Fw} (h : PostS w W A own Z H (bnd (put t d) (fun _ => f) ρ) D) : ∃ ρ', putE t d ρ = some ρ' ∧ PostS w W A own Z H (f ρ') D := by
  unfold M3.bnd put at h
  cases e : putE t d ρ with
  | none => rw [e] at h; exact h.elim
  | some ρ' => rw [e] at h; exact ⟨ρ', rfl, h⟩
theorem for_read {K : PySem.W.Frag} (hw : w.K = K) {S : M (List PyData)} {tg : Tg} {body : M Fw} (h : tS w W own (bnd S fun l => forLoop tg body l) D σ H) : tFor (tSrc w W S) (gOf K tg) (tS w W own body) D σ H := by
  obtain ⟨A, Z, ρ, s, p⟩ := h
  refine ⟨A, Z, ρ, s, (p.bnd s).imp fun l Z1 H1 ρ1 x1 s1 k J g => ?_⟩
  refine ⟨fun i m σ H => m = l.length - i ∧ i ≤ l.length ∧ ∃ Z ρ, SR w A Z H ρ σ ∧ KS Z1 H1 Z H ∧ PostS w W A own Z H (forLoop tg body (l.drop i) ρ) D, ⟨l.length, by simp, Nat.zero_le _, Z1, ρ1, s1, KS.refl, by simpa using k⟩, ?_⟩
  rintro i m σ2 H2 ⟨rfl, hi, Z2, ρ2, s2, k2, q⟩
  by_cases hlt : i < l.length
  · obtain ⟨d, hd, hdr⟩ := drop_cons hlt
    obtain ⟨go, yl⟩ := g.step i d Z2 H2 k2 s2.zd hd
    refine .inr ⟨go, fun σ H => ∃ Z ρ, SR w A Z H ρ σ ∧ KS Z1 H1 Z H ∧ PostS w W A own Z H (forLoop tg body (l.drop (i + 1)) ρ) D, fun σ' H' n => ⟨l.length - (i + 1), by omega, rfl, hlt, n⟩, fun x H3 y => ?_⟩
    obtain ⟨p0, r⟩ := yl x H3 y
    rw [hdr] at q
    obtain ⟨ρ3, e3, q⟩ := put_ok q
    refine put_read hw tg (s2.p0 p0) r e3 fun σ3 s3 _ _ => ⟨A, Z2, ρ3, s3, ?_⟩
    have q := q.back p0.ks
    unfold M3.bnd at q
    cases e : body ρ3 with
    | stuck => rw [e] at q; exact q
    | exc x r => rw [e] at q; exact q
    | ok f ρ4 =>
      rw [e] at q
      intro σ4 Z4 H4 k4 s4
      have kk := k2.trans (p0.ks.trans k4)
      cases f with
      | nx => exact ⟨Z4, ρ4, s4, kk, q.back k4⟩
      | ct => exact ⟨Z4, ρ4, s4, kk, q.back k4⟩
      | bk => exact q σ4 Z4 H4 k4 s4
      | rt d => exact q σ4 Z4 H4 k4 s4
  · have e : i = l.length := by omega
    subst e
    rw [List.drop_length] at q
    exact .inl ⟨g.stop Z2 H2 k2 s2.zd, q.nx s2⟩
theorem while_read {c : M Bool} {body : M Fw} {n : Nat} (h : tS w W own (whileLoop c body n) D σ H) : tWhile (tDT w W c) (tS w W own body) D σ H := by
  obtain ⟨A, Z, ρ, s, p⟩ := h
  refine ⟨fun m σ H => ∃ Z ρ, SR w A Z H ρ σ ∧ PostS w W A own Z H (whileLoop c body m ρ) D, ⟨n, Z, ρ, s, p⟩, ?_⟩
  rintro m σ2 H2 ⟨Z2, ρ2, s2, q⟩
  cases m with
  | zero => exact q.elim
  | succ m =>
    have q : PostS w W A own Z2 H2 (bnd c (fun b => if b then bnd body fun f => (match f with
      | .nx => whileLoop c body m
      | .ct => whileLoop c body m
      | .bk => ret .nx
      | .rt d => ret (.rt d)) else ret .nx) ρ2) D := q
    refine ⟨A, Z2, ρ2, s2, (q.bnd s2).imp fun b Z3 H3 ρ3 x3 s3 k => ?_⟩
    cases b with
    | false => exact k.nx s3
    | true =>
      refine ⟨fun σ H => ∃ Z ρ, SR w A Z H ρ σ ∧ PostS w W A own Z H (whileLoop c body m ρ) D, fun σ' H' n => ⟨m, Nat.lt_succ_self m, n⟩, A, Z3, ρ3, s3, ?_⟩
      have k : PostS w W A own Z3 H3 (bnd body (fun f => (match f with
        | .nx => whileLoop c body m
        | .ct => whileLoop c body m
        | .bk => ret .nx
        | .rt d => ret (.rt d))) ρ3) D := k
      unfold M3.bnd at k
      cases e : body ρ3 with
      | stuck => rw [e] at k; exact k
      | exc x r => rw [e] at k; exact k
      | ok f ρ4 =>
        rw [e] at k
        intro σ4 Z4 H4 k4 s4
        cases f with
        | nx => exact ⟨Z4, ρ4, s4, k.back k4⟩
        | ct => exact ⟨Z4, ρ4, s4, k.back k4⟩
        | bk => exact k σ4 Z4 H4 k4 s4
        | rt d => exact k σ4 Z4 H4 k4 s4
end
end M3
set_option Elab.async false
set_option linter.all false
set_option maxRecDepth 100000
namespace M3
open PySem PySem.Spec L2
/-! ### comprehensions -/
structure XP (O : Addr → Prop) (Z : Addr → Prop) (H : Hp) (O' : Addr → Prop) (Z' : Addr → Prop) (H' : Hp) : Prop where
  z : ∀ a, Z a → Z' a
  zg : ∀ a, Z' a → Z a ∨ H a = none ∨ O a
  kp : ∀ a o, H a = some o → ¬ O a → H' a = some o
  dom : ∀ a, H' a = none → H a = none
  ow : ∀ a, O' a → O a
def WF : WX := fun _ _ _ _ => False
section
variable {w : Wd} {W : WX} {A : Act} {Z Z' Z0 Z1 Z2 : Addr → Prop} {O O' O0 O1 O2 : Addr → Prop} {H H' H0 H1 H2 : Hp} {ρ ρ' ρ1 ρ2 : En} {σ σ' : St} {X : Cx} {own : Bool} {L : Addr} {acc : List PyData}
theorem XP.trans (a : XP O Z H O1 Z1 H1) (b : XP O1 Z1 H1 O2 Z2 H2) : XP O Z H O2 Z2 H2 where
  z := fun x h => b.z x (a.z x h)
  zg := fun x h => by
    rcases b.zg x h with h | h | h
    · exact a.zg x h
    · exact .inr (.inl (a.dom x h))
    · exact .inr (.inr (a.ow x h))
  kp := fun x o r n => b.kp x o (a.kp x o r n) fun q => n (a.ow x q)
  dom := fun x h => a.dom x (b.dom x h)
  ow := fun x h => a.ow x (b.ow x h)
theorem XS.xp (x : XS ρ σ Z H ρ' Z' H') : XP (Own ρ σ) Z H (Own ρ' σ) Z' H' := ⟨x.z, x.zg, x.kp, x.dom, x.ow⟩
theorem XP.less (a : XP O Z H O1 Z1 H1) (h : ∀ x, O2 x → O1 x) : XP O Z H O2 Z1 H1 := ⟨a.z, a.zg, a.kp, a.dom, fun x q => a.ow x (h x q)⟩
theorem wipeE_get (r : En) (j : Nat) : ∀ vs : List Nat, (wipeE r vs)[j]? = if j ∈ vs ∧ j < r.length then some .no else r[j]?
  | [] => by simp [wipeE]
  | v :: vs => by
    have wl : ∀ vs : List Nat, (wipeE r vs).length = r.length := fun vs => by
      induction vs with
      | nil => rfl
      | cons v vs ih => unfold wipeE; rw [List.length_set, ih]
    unfold wipeE
    by_cases e : v = j
    · subst e
      by_cases hl : v < r.length
      · rw [List.getElem?_set_self (by rw [wl]; exact hl), if_pos ⟨List.mem_cons_self, hl⟩]
      · rw [if_neg (fun h => hl h.2), List.getElem?_eq_none (by rw [List.length_set, wl]; omega), List.getElem?_eq_none (by omega)]
    · rw [List.getElem?_set_ne e, wipeE_get r j vs]
      have : (j ∈ v :: vs) ↔ j ∈ vs := by
        rw [List.mem_cons]
        exact ⟨fun h => h.elim (fun q => absurd q.symm e) id, .inr⟩
      simp only [this]
theorem wipeE_length (r : En) (vs : List Nat) : (wipeE r vs).length = r.length := by
  induction vs with
  | nil => rfl
  | cons v vs ih => unfold wipeE; rw [List.length_set, ih]
theorem wipeE_got {vs : List Nat} {j : Nat} {x : Sl} (h : (wipeE ρ vs)[j]? = some x) : x = .no ∨ (j ∉ vs ∧ ρ[j]? = some x) := by
  rw [wipeE_get] at h
  by_cases e : j ∈ vs ∧ j < ρ.length
  · rw [if_pos e] at h; cases h; exact .inl rfl
  · rw [if_neg e] at h
    refine .inr ⟨fun q => e ⟨q, ?_⟩, h⟩
    exact Classical.byContradiction fun z => by rw [List.getElem?_eq_none (by omega)] at h; cases h
theorem Own.wipe {vs : List Nat} {a : Addr} (h : Own (wipeE ρ vs) (wipe σ vs) a) : Own ρ σ a := by
  obtain ⟨j, b, o, h1, h2⟩ := h
  rcases wipeE_got h1 with q | ⟨n, q⟩
  · cases q
  · rw [wipe_out n] at h2
    exact ⟨j, b, o, q, h2⟩
theorem SR.wipe (s : SR w A Z H ρ σ) (vs : List Nat) : SR w A Z H (wipeE ρ vs) (wipe σ vs) where
  len := by rw [wipeE_length, wipe_length]; exact s.len
  sh := fun j d h => by
    rcases wipeE_got h with q | ⟨n, q⟩
    · cases q
    · rw [wipe_out n]; exact s.sh j d q
  own := fun j b o h => by
    rcases wipeE_got h with q | ⟨n, q⟩
    · cases q
    · rw [wipe_out n]; exact s.own j b o q
  inj := fun j k b b' o o' a h1 h2 h3 h4 => by
    rcases wipeE_got h1 with q | ⟨n1, q1⟩
    · cases q
    · rcases wipeE_got h2 with q | ⟨n2, q2⟩
      · cases q
      · rw [wipe_out n1] at h3
        rw [wipe_out n2] at h4
        exact s.inj j k b b' o o' a q1 q2 h3 h4
  frame := s.frame
  zf := s.zf
  z0 := s.z0
  dom := s.dom
  zd := s.zd
/-- the list that grows at L, the frame beside it -/
structure LJ (w : Wd) (A : Act) (L : Addr) (O0 Z0 : Addr → Prop) (H0 : Hp) (Z : Addr → Prop) (H : Hp) (ρ : En) (σ : St) (acc : List PyData) : Prop where
  s : SR w A Z H ρ σ
  hd : ∃ xs, H L = some (.lst xs) ∧ Reps w Z H xs acc
  nz : ¬ Z L
  no : ¬ Own ρ σ L
  x : XP O0 Z0 H0 (Own ρ σ) Z H
  g : A.G L = none
  h0 : H0 L = none
theorem LJ.step (l : LJ w A L O0 Z0 H0 Z H ρ σ acc) (x : XS ρ σ Z H ρ' Z' H') (s : SR w A Z' H' ρ' σ) : LJ w A L O0 Z0 H0 Z' H' ρ' σ acc := by
  obtain ⟨xs, e, r⟩ := l.hd
  refine ⟨s, ⟨xs, x.kp L _ e l.no, l.s.reps x r⟩, fun z => ?_, fun o => l.no (x.ow L o), l.x.trans x.xp, l.g, l.h0⟩
  rcases x.zg L z with q | q | q
  · exact l.nz q
  · rw [e] at q; cases q
  · exact l.no q
theorem LJ.p0 (l : LJ w A L O0 Z0 H0 Z H ρ σ acc) (p : P0 Z H Z' H') : LJ w A L O0 Z0 H0 Z' H' ρ σ acc := l.step p.xs (l.s.p0 p)
theorem LJ.less (l : LJ w A L O0 Z0 H0 Z H ρ σ acc) (s : SR w A Z H ρ' σ') (h : ∀ a, Own ρ' σ' a → Own ρ σ a) : LJ w A L O0 Z0 H0 Z H ρ' σ' acc := ⟨s, l.hd, l.nz, fun q => l.no (h L q), l.x.less h, l.g, l.h0⟩
theorem LJ.wipe (l : LJ w A L O0 Z0 H0 Z H ρ σ acc) (vs : List Nat) : LJ w A L O0 Z0 H0 Z H (wipeE ρ vs) (wipe σ vs) acc := l.less (l.s.wipe vs) fun _ h => h.wipe
theorem ks_upd {u u' : HO} (e : H L = some u) (hu : ∀ xs, u ≠ .tup xs) (hf : ∀ o xs, u ≠ .frz o (.tup xs)) (nz : ¬ Z L) : KS Z H Z (upd H L u') := ⟨fun _ h => h, fun a u2 h e2 => by
  by_cases q : a = L
  · subst q
    rw [e] at e2
    cases e2
    rcases h with h | ⟨xs, h⟩
    · exact absurd h nz
    · rcases h with h | ⟨o, h⟩
      · rw [e] at h; cases h; exact absurd rfl (hu xs)
      · rw [e] at h; cases h; exact absurd rfl (hf o xs)
  · rw [upd_ne q]; exact e2⟩
theorem LJ.upd (l : LJ w A L O0 Z0 H0 Z H ρ σ acc) {xs : List V} {y : V} {d : PyData} (e : H L = some (.lst xs)) (r : Rep w Z H y d) : LJ w A L O0 Z0 H0 Z (upd H L (.lst (xs ++ [y]))) ρ σ (acc ++ [d]) := by
  obtain ⟨xs', e', rs⟩ := l.hd
  rw [e] at e'
  cases e'
  have ks : KS Z H Z (L2.upd H L (.lst (xs ++ [y]))) := ks_upd e (fun _ z => nomatch z) (fun _ _ z => nomatch z) l.nz
  have oth : ∀ a o, a ≠ L → H a = some o → L2.upd H L (.lst (xs ++ [y])) a = some o := fun a o n q => by rw [upd_ne n]; exact q
  refine ⟨⟨l.s.len, fun j d h => ?_, fun j b o h => ?_, l.s.inj, fun a o h n => ?_, l.s.zf, l.s.z0, fun a h => ?_, fun a h => ?_⟩, ⟨_, upd_same, ks.reps (rs.append (.cons r .nil))⟩, l.nz, l.no, ⟨l.x.z, l.x.zg, fun a o h n => ?_, fun a h => ?_, l.x.ow⟩, l.g, l.h0⟩
  · obtain ⟨v, e1, r1⟩ := l.s.sh j d h
    exact ⟨v, e1, ks.rep r1⟩
  · obtain ⟨a, e1, nz, r1, g1, g2⟩ := l.s.own j b o h
    have n : a ≠ L := fun q => l.no (q ▸ ⟨j, b, o, h, e1⟩)
    refine ⟨a, e1, nz, ?_, g1, g2⟩
    cases o with
    | lst l' => obtain ⟨zs, e, rr⟩ := r1; exact ⟨zs, oth a _ n e, ks.reps rr⟩
    | dic l' =>
      rcases r1 with ⟨kvs, e, rr⟩ | ⟨kvs, e, rr⟩
      · exact .inl ⟨kvs, oth a _ n e, rr.stay ks.z (fun a u z q => ks.kp a u (.inl z) q) fun a ys q => q.mv fun u h => ks.kp a u (.inr ⟨ys, q.rd⟩) h⟩
      · exact .inr ⟨kvs, oth a _ n e, rr.stay ks.z (fun a u z q => ks.kp a u (.inl z) q) fun a ys q => q.mv fun u h => ks.kp a u (.inr ⟨ys, q.rd⟩) h⟩
    | ins c fs =>
      obtain ⟨C, dx, fv, e, m, rr⟩ := r1
      exact ⟨C, dx, fv, oth a _ n e, m, rr.stay ks.z (fun a u z q => ks.kp a u (.inl z) q) fun a ys q => q.mv fun u h => ks.kp a u (.inr ⟨ys, q.rd⟩) h⟩
  · have n2 : a ≠ L := fun q => by have := l.g; rw [← q, h] at this; cases this
    exact oth a o n2 (l.s.frame a o h n)
  · by_cases q : a = L
    · subst q; exact l.g
    · rw [upd_ne q] at h; exact l.s.dom a h
  · by_cases q : a = L
    · subst q; rw [upd_same]; exact fun z => nomatch z
    · rw [upd_ne q]; exact l.s.zd a h
  · have n2 : a ≠ L := fun q => by have := l.h0; rw [← q, h] at this; cases this
    exact oth a o n2 (l.x.kp a o h n)
  · by_cases q : a = L
    · subst q; exact l.h0
    · rw [upd_ne q] at h; exact l.x.dom a h
/-- one loop of a comprehension -/
theorem lc_walk {K : PySem.W.Frag} (hw : w.K = K) {vs : List Nat} {tg : Tg} {tst : M Bool} {elt : M PyData} {items accF : List PyData} {J : It} {Qd : Hp → Prop} {Zi : Addr → Prop} {Hi : Hp} {rF : En} (hn : ∀ i ∈ tg.names, i ∈ vs)
    (g : Goes w Zi Hi J items) (l : LJ w A L O0 Z0 H0 Z H (wipeE ρ vs) (wipe σ vs) acc) (k : KS Zi Hi Z H) (e : lcLoop vs tg tst elt items acc ρ = .ok accF rF)
    (hd : ∀ Z H, LJ w A L O0 Z0 H0 Z H (wipeE rF vs) (wipe σ vs) accF → KS Zi Hi Z H → Qd H) :
    ∃ Wv : Nat → Nat → Hp → Prop, (∃ m, Wv 0 m H) ∧ ∀ i m H, Wv i m H →
      (J.stop i H ∧ Qd H) ∨ (J.go i H ∧ ∃ Nx : Hp → Prop, (∀ H', Nx H' → ∃ m', m' < m ∧ Wv (i + 1) m' H') ∧ ∀ x H', J.yld i H x H' → gOf K tg x (wipe σ vs) H' fun σ2 H2 => wipe σ2 vs = wipe σ vs ∧ tDT w WF tst σ2 H2 fun b H3 =>
        if b = true then tD w WF elt σ2 H3 fun y H4 => ∃ acc, H4 L = some (.lst acc) ∧ acc.length < sizeLine ∧ Nx (upd H4 L (.lst (acc ++ [y]))) else Nx H3) := by
  refine ⟨fun i m H => m = items.length - i ∧ i ≤ items.length ∧ ∃ Z ρ acc, LJ w A L O0 Z0 H0 Z H (wipeE ρ vs) (wipe σ vs) acc ∧ KS Zi Hi Z H ∧ lcLoop vs tg tst elt (items.drop i) acc ρ = .ok accF rF, ⟨items.length, by simp, Nat.zero_le _, Z, ρ, acc, l, k, by simpa using e⟩, ?_⟩
  rintro i m H2 ⟨rfl, hi, Z2, ρ2, acc2, l2, k2, q⟩
  by_cases hlt : i < items.length
  · obtain ⟨d, hdd, hdr⟩ := drop_cons hlt
    obtain ⟨go, yl⟩ := g.step i d Z2 H2 k2 l2.s.zd hdd
    refine .inr ⟨go, fun H => ∃ Z ρ acc, LJ w A L O0 Z0 H0 Z H (wipeE ρ vs) (wipe σ vs) acc ∧ KS Zi Hi Z H ∧ lcLoop vs tg tst elt (items.drop (i + 1)) acc ρ = .ok accF rF, fun H' n => ⟨items.length - (i + 1), by omega, rfl, hlt, n⟩, fun x H3 y => ?_⟩
    obtain ⟨p0, r⟩ := yl x H3 y
    rw [hdr] at q
    have q : bnd (wipeM vs) (fun _ => bnd (put tg d) fun _ => bnd tst fun b => if b then bnd elt fun d => (if acc2.length < LIM then lcLoop vs tg tst elt (items.drop (i + 1)) (acc2 ++ [d]) else fail) else lcLoop vs tg tst elt (items.drop (i + 1)) acc2) ρ2 = .ok accF rF := q
    obtain ⟨_, ρ3, e3, q⟩ := bnd_ok q
    have e3 : (R.ok () (wipeE ρ2 vs) : R Unit) = .ok _ ρ3 := e3
    cases e3
    obtain ⟨_, ρ4, e4, q⟩ := bnd_ok q
    have e4' : putE tg d (wipeE ρ2 vs) = some ρ4 := by
      unfold put at e4
      cases z : putE tg d (wipeE ρ2 vs) with
      | none => rw [z] at e4; cases e4
      | some ρ' => rw [z] at e4; cases e4; rfl
    have l3 := l2.p0 p0
    refine put_read hw tg l3.s r e4' fun σ4 s4 h4 o4 => ?_
    have w4 : wipe σ4 vs = wipe σ vs := by rw [h4 vs hn, wipe_idem]
    have l4 := l3.less s4 o4
    refine ⟨w4, A, Z2, ρ4, s4, ?_⟩
    obtain ⟨b, ρ5, e5, q⟩ := bnd_ok q
    rw [e5]
    intro Z5 H5 x5 s5
    have l5 := l4.step x5 s5
    have k5 := k2.trans (p0.ks.trans (l4.s.ks x5))
    have back : ∀ {Z H ρ acc}, LJ w A L O0 Z0 H0 Z H ρ σ4 acc → LJ w A L O0 Z0 H0 Z H (wipeE ρ vs) (wipe σ vs) acc := fun l => w4 ▸ l.wipe vs
    cases b with
    | false => exact ⟨Z5, ρ5, acc2, back l5, k5, q⟩
    | true =>
      refine ⟨A, Z5, ρ5, s5, ?_⟩
      have q : bnd elt (fun d => (if acc2.length < LIM then lcLoop vs tg tst elt (items.drop (i + 1)) (acc2 ++ [d]) else fail)) ρ5 = .ok accF rF := q
      obtain ⟨d6, ρ6, e6, q⟩ := bnd_ok q
      rw [e6]
      intro Z6 H6 x6 s6 v6 r6
      have l6 := l5.step x6 s6
      have k6 := k5.trans (l5.s.ks x6)
      by_cases hz : acc2.length < LIM
      · rw [if_pos hz] at q
        obtain ⟨xs, ex, rx⟩ := l6.hd
        refine ⟨xs, ex, ?_, Z6, ρ6, acc2 ++ [d6], back (l6.upd ex r6), k6.trans (ks_upd ex (fun _ z => nomatch z) (fun _ _ z => nomatch z) l6.nz), q⟩
        rw [rx.length]
        have : LIM ≤ sizeLine := line_lim (Nat.le_refl _)
        omega
      · rw [if_neg hz] at q
        cases q
  · have e : i = items.length := by omega
    subst e
    rw [List.drop_length] at q
    have q : (R.ok acc2 ρ2 : R (List PyData)) = .ok accF rF := q
    cases q
    exact .inl ⟨g.stop Z2 H2 k2 l2.s.zd, hd Z2 H2 l2 k2⟩
/-- the names come back -/
theorem back_get {r0 r : En} (j : Nat) (hl : r0.length = r.length) : ∀ vs : List Nat, (back r0 r vs).length = r.length ∧ (back r0 r vs)[j]? = if j ∈ vs then r0[j]? else r[j]?
  | [] => by simp [back]
  | v :: vs => by
    obtain ⟨h1, h2⟩ := back_get j hl vs
    unfold back
    cases e : r0[v]? with
    | none =>
      refine ⟨h1, ?_⟩
      rw [h2]
      have hv : ¬ v < r0.length := fun z => by rw [List.getElem?_eq_getElem z] at e; cases e
      by_cases q : j = v
      · subst q
        rw [e, if_pos List.mem_cons_self]
        split
        · rfl
        · rw [List.getElem?_eq_none (by omega)]
      · have : (j ∈ v :: vs) ↔ j ∈ vs := by rw [List.mem_cons]; exact ⟨fun h => h.elim (fun z => absurd z q) id, .inr⟩
        simp only [this]
    | some s =>
      have hv : v < r0.length := Classical.byContradiction fun z => by rw [List.getElem?_eq_none (by omega)] at e; cases e
      refine ⟨by rw [List.length_set]; exact h1, ?_⟩
      by_cases q : v = j
      · subst q
        rw [List.getElem?_set_self (by rw [h1, ← hl]; exact hv), if_pos List.mem_cons_self, e]
      · rw [List.getElem?_set_ne q, h2]
        have : (j ∈ v :: vs) ↔ j ∈ vs := by rw [List.mem_cons]; exact ⟨fun h => h.elim (fun z => absurd z.symm q) id, .inr⟩
        simp only [this]
theorem SR.back (s1 : SR w A Z1 H1 ρ1 σ) (k : KS Z1 H1 Z H) {r : En} {vs : List Nat} (hn : ∀ v ∈ vs, notOwn ρ1[v]? = true) (s : SR w A Z H (wipeE r vs) (L2.wipe σ vs)) : SR w A Z H (back ρ1 r vs) σ ∧ ∀ a, Own (M3.back ρ1 r vs) σ a → Own (wipeE r vs) (L2.wipe σ vs) a := by
  have hl : ρ1.length = r.length := by have h1 := s1.len; have h2 := s.len; rw [wipeE_length, wipe_length] at h2; omega
  have ow : ∀ {j b o}, (M3.back ρ1 r vs)[j]? = some (.own b o) → j ∉ vs ∧ (wipeE r vs)[j]? = some (.own b o) := fun {j b o} h => by
    rw [(back_get j hl vs).2] at h
    by_cases e : j ∈ vs
    · rw [if_pos e] at h
      have := hn j e
      rw [h] at this
      cases this
    · rw [if_neg e] at h
      exact ⟨e, by rw [wipeE_get, if_neg (fun z => e z.1)]; exact h⟩
  refine ⟨⟨by rw [(back_get 0 hl vs).1, ← hl]; exact s1.len, fun j d h => ?_, fun j b o h => ?_, fun i j b b' o o' a h1 h2 h3 h4 => ?_, s.frame, s.zf, s.z0, s.dom, s.zd⟩, fun a h => ?_⟩
  · rw [(back_get j hl vs).2] at h
    by_cases e : j ∈ vs
    · rw [if_pos e] at h
      obtain ⟨v, e1, r1⟩ := s1.sh j d h
      exact ⟨v, e1, k.rep r1⟩
    · rw [if_neg e] at h
      obtain ⟨v, e1, r1⟩ := s.sh j d (by rw [wipeE_get, if_neg (fun z => e z.1)]; exact h)
      rw [wipe_out e] at e1
      exact ⟨v, e1, r1⟩
  · obtain ⟨e, q⟩ := ow h
    obtain ⟨a, e1, r1⟩ := s.own j b o q
    rw [wipe_out e] at e1
    exact ⟨a, e1, r1⟩
  · obtain ⟨e1, q1⟩ := ow h1
    obtain ⟨e2, q2⟩ := ow h2
    exact s.inj i j b b' o o' a q1 q2 (by rw [wipe_out e1]; exact h3) (by rw [wipe_out e2]; exact h4)
  · obtain ⟨j, b, o, h1, h2⟩ := h
    obtain ⟨e, q⟩ := ow h1
    exact ⟨j, b, o, q, by rw [wipe_out e]; exact h2⟩
theorem block_ok {α β : Type} {vs : List Nat} {m : M α} {f : α → M β} {P : β → (Addr → Prop) → Hp → En → Prop} (h : Post w W A Z H ρ σ (bnd (block vs m) f ρ) P) :
    (∀ v ∈ vs, notOwn ρ[v]? = true) ∧ ∃ a rF, m (wipeE ρ vs) = .ok a rF ∧ Post w W A Z H ρ σ (f a (back ρ rF vs)) P := by
  unfold M3.bnd block at h
  by_cases c : (vs.all fun v => notOwn ρ[v]?) = true
  · rw [if_pos c] at h
    refine ⟨List.all_eq_true.mp c, ?_⟩
    cases e : m (wipeE ρ vs) with
    | ok a rF => rw [e] at h; exact ⟨a, rF, rfl, h⟩
    | exc x r => rw [e] at h; exact h.elim
    | stuck => rw [e] at h; exact h.elim
  · rw [if_neg c] at h
    exact h.elim
theorem lc_start (s1 : SR w A Z1 H1 ρ1 σ) (hp : H1 L = none) (vs : List Nat) : LJ w A L (Own ρ1 σ) Z1 H1 Z1 (upd H1 L (.lst [])) (wipeE (wipeE ρ1 vs) vs) (wipe σ vs) [] := by
  have p0 : P0 Z1 H1 Z1 (upd H1 L (.lst [])) := P0.newT s1.zd hp
  have no : ¬ Own ρ1 σ L := fun q => by obtain ⟨_, o, e, _⟩ := s1.ownH q; rw [hp] at e; cases e
  have l : LJ w A L (Own ρ1 σ) Z1 H1 Z1 (upd H1 L (.lst [])) ρ1 σ [] := ⟨s1.p0 p0, ⟨[], upd_same, .nil⟩, fun z => s1.zd L z hp, no, (p0.xs (ρ := ρ1) (σ := σ)).xp, s1.dom L hp, hp⟩
  have l2 := (l.wipe vs).wipe vs
  rw [wipe_idem] at l2
  exact l2
/-- the end of a comprehension -/
theorem lc_end {Q : VK} {vs : List Nat} {accF : List PyData} {rF : En} (s1 : SR w A Z1 H1 ρ1 σ) (hn : ∀ v ∈ vs, notOwn ρ1[v]? = true) (k : Post w W A Z1 H1 ρ1 σ ((ret (.list accF) : M PyData) (back ρ1 rF vs)) fun d Z' H' _ => ∀ v, Rep w Z' H' v d → Q v H')
    (l : LJ w A L (Own ρ1 σ) Z1 H1 Z H (wipeE rF vs) (wipe σ vs) accF) : Q (.ref L) H := by
  have ks : KS Z1 H1 Z H := ⟨l.x.z, fun a u h e => l.x.kp a u e (by
    rcases h with h | ⟨xs, h⟩
    · exact s1.zn h
    · exact s1.tn h)⟩
  obtain ⟨sb, ob⟩ := s1.back ks hn l.s
  obtain ⟨xs, ex, rx⟩ := l.hd
  have sL : SR w A (addZ Z L) H (back ρ1 rF vs) σ := sb.addZ (fun q => l.no (ob L q)) l.g (by rw [ex]; exact fun z => nomatch z)
  refine k (addZ Z L) H ⟨fun a h => .inl (l.x.z a h), fun a h => h.elim (l.x.zg a) fun e => .inr (.inl (e ▸ l.h0)), l.x.kp, l.x.dom, fun a h => l.x.ow a (ob a h)⟩ sL _ ?_
  exact .lst (.inr rfl) (.inl ex) (rx.stay (fun _ h => .inl h) (fun _ _ _ q => q) fun _ _ q => q)
theorem lc_read {K : PySem.W.Frag} (hw : w.K = K) {vs : List Nat} {tg : Tg} {tst : M Bool} {elt : M PyData} {S : M (List PyData)} {Q : VK} (hn : ∀ i ∈ tg.names, i ∈ vs)
    (h : tD w W (bnd S fun items => bnd (block vs (lcLoop vs tg tst elt items [])) fun acc => ret (.list acc)) σ H Q) : tLc (tSrc w W S) (gOf K tg) (tDT w WF tst) (tD w WF elt) vs σ H Q := by
  obtain ⟨A, Z, ρ, s, p⟩ := h
  refine ⟨A, Z, ρ, s, p.bnd.imp fun items Z1 H1 ρ1 x1 s1 ⟨_, _, k⟩ J g L hL => ?_⟩
  obtain ⟨hno, accF, rF, e, k⟩ := block_ok k
  have p0 : P0 Z1 H1 Z1 (upd H1 L (.lst [])) := P0.newT s1.zd hL
  exact lc_walk hw hn g (lc_start s1 hL vs) p0.ks e fun Z2 H2 l2 _ => lc_end s1 hno k l2
theorem wipeE_sub {r : En} {vs vs1 : List Nat} (h : ∀ i ∈ vs1, i ∈ vs) : wipeE (wipeE r vs1) vs = wipeE r vs := by
  apply List.ext_getElem?
  intro j
  rw [wipeE_get, wipeE_get, wipeE_get, wipeE_length]
  by_cases e : j ∈ vs ∧ j < r.length
  · rw [if_pos e, if_pos e]
  · rw [if_neg e, if_neg e, if_neg (fun z => e ⟨h j z.1, z.2⟩)]
theorem wipe_sub {r : St} {vs vs1 : List Nat} (h : ∀ i ∈ vs1, i ∈ vs) : wipe (wipe r vs1) vs = wipe r vs := by
  apply List.ext_getElem?
  intro j
  rw [wipe_get, wipe_get, wipe_get, wipe_length]
  by_cases e : j ∈ vs ∧ j < r.length
  · rw [if_pos e, if_pos e]
  · rw [if_neg e, if_neg e, if_neg (fun z => e ⟨h j z.1, z.2⟩)]
theorem lc2_read {K : PySem.W.Frag} (hw : w.K = K) {vs vs1 : List Nat} {tg tg1 : Tg} {tst tst1 : M Bool} {elt : M PyData} {S S1 : M (List PyData)} {Q : VK} (hn : ∀ i ∈ tg.names, i ∈ vs) (hn1 : ∀ i ∈ tg1.names, i ∈ vs1) (hv : ∀ i ∈ vs1, i ∈ vs)
    (h : tD w W (bnd S fun items => bnd (block vs (lcLoop2 vs vs1 tg tst S1 tg1 tst1 elt items [])) fun acc => ret (.list acc)) σ H Q) :
    tLc2 (tSrc w W S) (gOf K tg) (tDT w WF tst) (tSrc w WF S1) (gOf K tg1) (tDT w WF tst1) (tD w WF elt) vs vs1 σ H Q := by
  obtain ⟨A, Z, ρ, s, p⟩ := h
  refine ⟨A, Z, ρ, s, p.bnd.imp fun items Z1 H1 ρ1 x1 s1 ⟨_, _, k⟩ J g L hL => ?_⟩
  obtain ⟨hno, accF, rF, e, k⟩ := block_ok k
  have p0 : P0 Z1 H1 Z1 (upd H1 L (.lst [])) := P0.newT s1.zd hL
  refine ⟨fun i m H => m = items.length - i ∧ i ≤ items.length ∧ ∃ Z ρ acc, LJ w A L (Own ρ1 σ) Z1 H1 Z H (wipeE ρ vs) (wipe σ vs) acc ∧ KS Z1 H1 Z H ∧ lcLoop2 vs vs1 tg tst S1 tg1 tst1 elt (items.drop i) acc ρ = .ok accF rF, ⟨items.length, by simp, Nat.zero_le _, Z1, _, [], lc_start s1 hL vs, p0.ks, by simpa using e⟩, ?_⟩
  rintro i m H2 ⟨rfl, hi, Z2, ρ2, acc2, l2, k2, q⟩
  by_cases hlt : i < items.length
  · obtain ⟨d, hdd, hdr⟩ := drop_cons hlt
    obtain ⟨go, yl⟩ := g.step i d Z2 H2 k2 l2.s.zd hdd
    refine .inr ⟨go, fun H => ∃ Z ρ acc, LJ w A L (Own ρ1 σ) Z1 H1 Z H (wipeE ρ vs) (wipe σ vs) acc ∧ KS Z1 H1 Z H ∧ lcLoop2 vs vs1 tg tst S1 tg1 tst1 elt (items.drop (i + 1)) acc ρ = .ok accF rF, fun H' n => ⟨items.length - (i + 1), by omega, rfl, hlt, n⟩, fun x H3 y => ?_⟩
    obtain ⟨p0, r⟩ := yl x H3 y
    rw [hdr] at q
    have q : bnd (wipeM vs) (fun _ => bnd (put tg d) fun _ => bnd tst fun b => if b then bnd S1 fun its => bnd (lcLoop vs1 tg1 tst1 elt its acc2) fun acc' => lcLoop2 vs vs1 tg tst S1 tg1 tst1 elt (items.drop (i + 1)) acc' else lcLoop2 vs vs1 tg tst S1 tg1 tst1 elt (items.drop (i + 1)) acc2) ρ2 = .ok accF rF := q
    obtain ⟨_, ρ3, e3, q⟩ := bnd_ok q
    have e3 : (R.ok () (wipeE ρ2 vs) : R Unit) = .ok _ ρ3 := e3
    cases e3
    obtain ⟨_, ρ4, e4, q⟩ := bnd_ok q
    have e4' : putE tg d (wipeE ρ2 vs) = some ρ4 := by
      unfold put at e4
      cases z : putE tg d (wipeE ρ2 vs) with
      | none => rw [z] at e4; cases e4
      | some ρ' => rw [z] at e4; cases e4; rfl
    have l3 := l2.p0 p0
    refine put_read hw tg l3.s r e4' fun σ4 s4 h4 o4 => ?_
    have w4 : wipe σ4 vs = wipe σ vs := by rw [h4 vs hn, wipe_idem]
    have l4 := l3.less s4 o4
    refine ⟨w4, A, Z2, ρ4, s4, ?_⟩
    obtain ⟨b, ρ5, e5, q⟩ := bnd_ok q
    rw [e5]
    intro Z5 H5 x5 s5
    have l5 := l4.step x5 s5
    have k5 := k2.trans (p0.ks.trans (l4.s.ks x5))
    cases b with
    | false => exact ⟨Z5, ρ5, acc2, w4 ▸ l5.wipe vs, k5, q⟩
    | true =>
      refine ⟨A, Z5, ρ5, s5, ?_⟩
      have q : bnd S1 (fun its => bnd (lcLoop vs1 tg1 tst1 elt its acc2) fun acc' => lcLoop2 vs vs1 tg tst S1 tg1 tst1 elt (items.drop (i + 1)) acc') ρ5 = .ok accF rF := q
      obtain ⟨its, ρ6, e6, q⟩ := bnd_ok q
      rw [e6]
      intro Z6 H6 x6 s6 J1 g1
      have l6 := l5.step x6 s6
      have k6 := k5.trans (l5.s.ks x6)
      obtain ⟨acc7, ρ7, e7, q⟩ := bnd_ok q
      refine lc_walk hw hn1 g1 (l6.wipe vs1) KS.refl e7 fun Z8 H8 l8 k8 => ⟨Z8, ρ7, acc7, ?_, k6.trans k8, q⟩
      have l9 := l8.wipe vs
      rw [wipeE_sub hv, wipe_sub hv, w4] at l9
      exact l9
  · have e : i = items.length := by omega
    subst e
    rw [List.drop_length] at q
    have q : (R.ok acc2 ρ2 : R (List PyData)) = .ok accF rF := q
    cases q
    exact .inl ⟨g.stop Z2 H2 k2 l2.s.zd, lc_end s1 hno k l2⟩
theorem tests_nil {P : Ph} {Q : Bool → Hp → Prop} (h : tDT w W (tests P []) σ H Q) : tYes σ H Q := by
  obtain ⟨A, Z, ρ, s, p⟩ := h
  exact p Z H XS.refl s
theorem tests_one {P : Ph} {e : IE} : tests P [e] = tru (den P e) := by
  funext r
  show bnd (den P e) _ r = bnd (den P e) _ r
  unfold M3.bnd
  cases den P e r with
  | ok d r1 =>
    dsimp only
    cases truth d with
    | none => rfl
    | some k => cases k <;> rfl
  | exc x r1 => rfl
  | stuck => rfl
end
end M3
set_option Elab.async false
set_option linter.all false
set_option maxRecDepth 100000
namespace M3
open PySem PySem.Spec L2
section
variable {w : Wd} {W : WX} {A : Act} {Z Z' Z0 Z1 Z2 : Addr → Prop} {H H' H0 H1 H2 : Hp} {ρ ρ' ρ1 ρ2 : En} {σ σ' : St} {X : Cx} {own : Bool} {Q : VK} {E : Ends}
/-- comparisons give truths -/
def isB : Op → Bool
  | .eq | .ne | .lt | .le | .gt | .ge | .isin | .notin | .isN | .notN => true
  | _ => false
theorem ap_bool {o : Op} {ds : List PyData} {d : PyData} (h : isB o = true) (e : ap o ds = some d) : ∃ k, d = .bool k := by
  cases o with
  | eq =>
    match ds, e with
    | [a, b], e =>
      obtain ⟨k, _, rfl⟩ := map_some (show ((ieq a b).map PyData.bool) = some d from e)
      exact ⟨_, rfl⟩
  | ne =>
    match ds, e with
    | [a, b], e =>
      obtain ⟨k, _, rfl⟩ := map_some (show ((ieq a b).map fun k => PyData.bool (!k)) = some d from e)
      exact ⟨_, rfl⟩
  | lt =>
    match ds, e with
    | [a, b], e =>
      obtain ⟨k, _, rfl⟩ := map_some (show ((ilt a b).map PyData.bool) = some d from e)
      exact ⟨_, rfl⟩
  | gt =>
    match ds, e with
    | [a, b], e =>
      obtain ⟨k, _, rfl⟩ := map_some (show ((ilt b a).map PyData.bool) = some d from e)
      exact ⟨_, rfl⟩
  | le =>
    match ds, e with
    | [a, b], e =>
      obtain ⟨k, _, rfl⟩ := map_some (show ((ilt b a).map fun k => PyData.bool (!k)) = some d from e)
      exact ⟨_, rfl⟩
  | ge =>
    match ds, e with
    | [a, b], e =>
      obtain ⟨k, _, rfl⟩ := map_some (show ((ilt a b).map fun k => PyData.bool (!k)) = some d from e)
      exact ⟨_, rfl⟩
  | isin =>
    match ds, e with
    | [a, b], e =>
      obtain ⟨k, _, rfl⟩ := map_some (show ((isinD a b).map PyData.bool) = some d from e)
      exact ⟨_, rfl⟩
  | notin =>
    match ds, e with
    | [a, b], e =>
      obtain ⟨k, _, rfl⟩ := map_some (show ((isinD a b).map fun k => PyData.bool (!k)) = some d from e)
      exact ⟨_, rfl⟩
  | isN =>
    match ds, e with
    | [a], e =>
      have e : some (PyData.bool (isNone a)) = some d := e
      cases e
      exact ⟨_, rfl⟩
  | notN =>
    match ds, e with
    | [a], e =>
      have e : some (PyData.bool (!isNone a)) = some d := e
      cases e
      exact ⟨_, rfl⟩
  | _ => cases h
theorem bnd_assoc {α β γ : Type} (m : M α) (f : α → M β) (g : β → M γ) : bnd (bnd m f) g = bnd m fun a => bnd (f a) g := by
  funext r
  unfold M3.bnd
  cases m r <;> rfl
theorem Rep.isbl {v : V} {k : Bool} (r : Rep w Z H v (.bool k)) : v = .bl k := by cases r; rfl
/-- an operation upon values -/
theorem apV {o : Op} {x y : V} {d e : PyData} {P : PyData → (Addr → Prop) → Hp → En → Prop} {Q : VK} (s : SR w A Z H ρ σ) (r1 : Rep w Z H x d) (r2 : Rep w Z H y e) (p : Post w W A Z H ρ σ (apM o [.val d, .val e] ρ) P)
    (k : ∀ c v Z' H', SR w A Z' H' ρ σ → XS ρ σ Z H ρ Z' H' → Rep w Z' H' v c → ap o [d, e] = some c → P c Z' H' ρ → Q v H') : rAp w o [x, y] H Q := by
  unfold apM at p
  have er : rslvs ρ [.val d, .val e] = some [d, e] := rfl
  rw [er] at p
  dsimp only at p
  cases e2 : ap o [d, e] with
  | none => rw [e2] at p; exact p.elim
  | some c =>
    rw [e2] at p
    exact ⟨Z, [d, e], c, s.zd, .cons (.inl r1) (.cons (.inl r2) .nil), e2, fun v Z' H' p0 rr => k c v Z' H' (s.p0 p0) p0.xs rr e2 (p Z' H' p0.xs (s.p0 p0))⟩
theorem chain_read {a b c : M PyData} {o o' : Op} (hb : isB o = true) (h : tD w W (bnd a fun x => bnd b fun y => bnd (apM o [.val x, .val y]) fun z => match z with
    | .bool true => bnd c fun w => apM o' [.val y, .val w]
    | .bool false => ret (.bool false)
    | _ => fail) σ H Q) : tChain (r2Ap w o) (r2Ap w o') (tD w W a) (tD w W b) (tD w W c) σ H Q := by
  obtain ⟨A, Z, ρ, s, p⟩ := h
  refine ⟨A, Z, ρ, s, p.bnd.imp fun x Z1 H1 ρ1 x1 s1 ⟨_, _, k⟩ v1 r1 => ⟨A, Z1, ρ1, s1, k.bnd.imp fun y Z2 H2 ρ2 x2 s2 ⟨_, _, k⟩ v2 r2 => ?_⟩⟩
  refine apV s2 (s1.rep x2 r1) r2 k.bnd fun z v3 Z3 H3 s3 x3 r3 e3 ⟨_, _, k⟩ => ?_
  obtain ⟨t, rfl⟩ := ap_bool hb e3
  have := r3.isbl
  subst this
  refine ⟨t, rfl, ?_⟩
  cases t with
  | false => exact k Z3 H3 XS.refl s3 _ (.bl _)
  | true =>
    have k : Post w W A Z3 H3 ρ2 σ (bnd c (fun w => apM o' [.val y, .val w]) ρ2) _ := k
    refine ⟨A, Z3, ρ2, s3, k.bnd.imp fun u Z4 H4 ρ4 x4 s4 ⟨_, _, k⟩ v4 r4 => ?_⟩
    exact apV s4 (s3.rep x4 (s2.rep x3 r2)) r4 k fun c v Z5 H5 s5 x5 r5 _ q => q v r5
theorem slc_read {F : M Opd} {b1 b2 : Bool} {lo hi : M PyData} {tl th : TO} (hl : tl = if b1 then tPart (tD w W lo) else tNoPart) (hh : th = if b2 then tPart (tD w W hi) else tNoPart)
    (h : tD w W (bnd F fun oa => bnd (part b1 lo) fun l => bnd (part b2 hi) fun h => slM oa l h) σ H Q) : tSl (rSlAp w) (tDO w W F) tl th σ H Q := by
  subst hl hh
  have go : ∀ {b : Bool} {m : M PyData} {f : Option Int → M PyData} {A Z H ρ} {P : PyData → (Addr → Prop) → Hp → En → Prop} {R : Option Int → Hp → Prop}, SR w A Z H ρ σ → Post w W A Z H ρ σ (bnd (part b m) f ρ) P →
      (∀ i Z1 H1 ρ1, XS ρ σ Z H ρ1 Z1 H1 → SR w A Z1 H1 ρ1 σ → Post w W A Z1 H1 ρ1 σ (f i ρ1) P → R i H1) → (if b then tPart (tD w W m) else tNoPart) σ H R := by
    intro b m f A Z H ρ P R s p k
    cases b with
    | false =>
      have p : Post w W A Z H ρ σ (f none ρ) P := p
      exact k none Z H ρ XS.refl s p
    | true =>
      have p : Post w W A Z H ρ σ (bnd (bnd m fun d => bnd (asInt d) fun i => ret (some i)) f ρ) P := p
      refine ⟨A, Z, ρ, s, p.bnd.bnd.imp fun d Z1 H1 ρ1 x1 s1 ⟨_, _, q⟩ v r => ?_⟩
      have q : Post w W A Z1 H1 ρ1 σ (bnd (asInt d) (fun i => ret (some i)) ρ1) _ := q
      cases d with
      | int i =>
        cases r
        obtain ⟨x2, s2, q2⟩ := q Z1 H1 XS.refl s1
        exact ⟨i, rfl, k (some i) Z1 H1 ρ1 x1 s1 q2⟩
      | _ => exact q.elim
  obtain ⟨A, Z, ρ, s, p⟩ := h
  refine ⟨A, Z, ρ, s, p.bnd.imp fun oa Z1 H1 ρ1 x1 s1 ⟨_, _, k⟩ v ro => go s1 k fun l Z2 H2 ρ2 x2 s2 k2 => go s2 k2 fun u Z3 H3 ρ3 x3 s3 k3 => ?_⟩
  unfold slM at k3
  cases e : rslv ρ3 oa with
  | none => rw [e] at k3; exact k3.elim
  | some d =>
    rw [e] at k3
    dsimp only at k3
    cases e2 : slD d l u with
    | none => rw [e2] at k3; exact k3.elim
    | some c =>
      rw [e2] at k3
      exact ⟨Z3, d, c, s3.zd, OpR1.rslv s3 (ro.step s1 (x2.trans x3)) e, e2, fun v Z' H' p0 r => k3 Z' H' p0.xs (s3.p0 p0) v r⟩
/-- a method: what its receiver is, its arguments -/
theorem meth_read {P : Ph} {o : Op} {a : M PyData} {es : List IE} {T : V → Hp → Prop} (hT : ∀ {Z H v d}, Rep w Z H v d → recv o d = true → T v H)
    (h : tD w W (bnd a fun x => if recv o x then bnd (dens P es) fun os => apM o (.val x :: os) else fail) σ H Q) : tD w W a σ H fun x H1 => T x H1 ∧ tDA w W (dens P es) σ H1 fun xs H2 => rAp w o (x :: xs) H2 Q := by
  obtain ⟨A, Z, ρ, s, p⟩ := h
  refine ⟨A, Z, ρ, s, p.bnd.imp fun d Z1 H1 ρ1 x1 s1 ⟨_, _, k⟩ v r => ?_⟩
  by_cases c : recv o d = true
  · rw [if_pos c] at k
    exact ⟨hT r c, A, Z1, ρ1, s1, k.bnd.imp fun os Z2 H2 ρ2 x2 s2 ⟨_, _, k⟩ vs ro => ap_fin s2 (OpRs.cons (o := .val d) (s1.rep x2 r) ro) k⟩
  · rw [if_neg c] at k
    exact k.elim
/-- lists of one's own -/
theorem isL_ok {α : Type} {i : Nat} {f : M α} {P : α → (Addr → Prop) → Hp → En → Prop} (p : Post w W A Z H ρ σ (bnd (isL i) (fun _ => f) ρ) P) : (∃ b l, ρ[i]? = some (.own b (.lst l))) ∧ Post w W A Z H ρ σ (f ρ) P := by
  unfold M3.bnd isL at p
  cases e : ρ[i]? with
  | none => rw [e] at p; exact p.elim
  | some sl =>
    rw [e] at p
    cases sl with
    | own b o =>
      cases o with
      | lst l => exact ⟨⟨b, l, rfl⟩, p⟩
      | _ => exact p.elim
    | _ => exact p.elim
theorem isL_okS {i : Nat} {f : M Fw} (p : PostS w W A own Z H (bnd (isL i) (fun _ => f) ρ) E) : (∃ b l, ρ[i]? = some (.own b (.lst l))) ∧ PostS w W A own Z H (f ρ) E := by
  unfold M3.bnd isL at p
  cases e : ρ[i]? with
  | none => rw [e] at p; exact p.elim
  | some sl =>
    rw [e] at p
    cases sl with
    | own b o =>
      cases o with
      | lst l => exact ⟨⟨b, l, rfl⟩, p⟩
      | _ => exact p.elim
    | _ => exact p.elim
theorem SR.lst (s : SR w A Z H ρ σ) {i : Nat} {b : Bool} {l : List PyData} (h : ρ[i]? = some (.own b (.lst l))) : ∃ a xs, σ[i]? = some (some (.ref a)) ∧ ¬ Z a ∧ H a = some (.lst xs) ∧ Reps w Z H xs l := by
  obtain ⟨a, e, nz, ⟨xs, e1, r⟩, _⟩ := s.own i b _ h
  exact ⟨a, xs, e, nz, e1, r⟩
/-- a list of one's own is changed -/
theorem SR.chL (s : SR w A Z H ρ σ) {i : Nat} {b : Bool} {l l' : List PyData} {a : Addr} {xs xs' : List V} (hi : ρ[i]? = some (.own b (.lst l))) (ha : σ[i]? = some (some (.ref a))) (e : H a = some (.lst xs)) (nz : ¬ Z a) (r : Reps w Z H xs' l') :
    XS ρ σ Z H (ρ.set i (.own b (.lst l'))) Z (upd H a (.lst xs')) ∧ SR w A Z (upd H a (.lst xs')) (ρ.set i (.own b (.lst l'))) σ := by
  have ks : KS Z H Z (upd H a (.lst xs')) := ks_upd e (fun _ z => nomatch z) (fun _ _ z => nomatch z) nz
  refine s.change hi ha (fun _ h => h) (fun _ h => .inl h) (fun c u e n => by rw [upd_ne n]; exact e) (fun c h => ?_) (fun c h => ?_) nz ⟨xs', upd_same, ks.reps r⟩
  · by_cases q : c = a
    · subst q; rw [upd_same] at h; cases h
    · rw [upd_ne q] at h; exact h
  · by_cases q : c = a
    · subst q; rw [upd_same]; exact fun z => nomatch z
    · rw [upd_ne q]; exact s.zd c h
theorem tyV_list {K : PySem.W.Frag} {a : Addr} {xs : List V} (h : H a = some (.lst xs)) : tyV K "list" (.ref a) H := .inl ⟨rfl, xs, .inl (.inl h)⟩
theorem pop_read {K : PySem.W.Frag} {i : Nat} {e : M PyData} (h : tD w W (bnd (isL i) fun _ => bnd e fun d => bnd (asInt d) fun k => popM i (some k)) σ H Q) : tBM K "list" rPopAt (tVar i) (tCons (tD w W e) tNil) σ H Q := by
  obtain ⟨A, Z, ρ, s, p⟩ := h
  obtain ⟨⟨b, l, hi⟩, p⟩ := isL_ok p
  obtain ⟨a, xs, ha, _, ex, _⟩ := s.lst hi
  refine ⟨_, ha, tyV_list ex, A, Z, ρ, s, p.bnd.imp fun d Z1 H1 ρ1 x1 s1 ⟨_, _, k⟩ v r => ?_⟩
  cases d with
  | int j =>
    cases r
    have k : Post w W A Z1 H1 ρ1 σ (popM i (some j) ρ1) _ := k
    unfold popM at k
    cases e1 : ρ1[i]? with
    | none => rw [e1] at k; exact k.elim
    | some sl =>
      rw [e1] at k
      cases sl with
      | own b o =>
        cases o with
        | lst l =>
          dsimp only at k
          by_cases hlim : l.length ≤ LIM
          · rw [if_pos hlim] at k
            cases e2 : L2.ixN l.length j with
            | none => rw [e2] at k; exact k.elim
            | some m =>
              rw [e2] at k
              dsimp only at k
              cases e3 : l[m]? with
              | none => rw [e3] at k; exact k.elim
              | some x =>
                rw [e3] at k
                obtain ⟨a', xs, ha', nz, ex, rx⟩ := s1.lst e1
                rw [ha] at ha'
                cases ha'
                obtain ⟨y, hy, ry⟩ := rx.get e3
                rw [← rx.length] at e2 hlim
                obtain ⟨h1, h2, h3, h4⟩ := ixN_seq e2
                obtain ⟨x2, s2⟩ := s1.chL e1 ha ex nz (rx.eraseIdx m)
                have hL : LIM = 1000000 := rfl
                refine ⟨a, xs, j, m, y, rfl, rfl, ex, ?_, ?_, h1, hy, k Z1 _ x2 s2 y (s1.rep x2 ry)⟩
                · omega
                · omega
          · rw [if_neg hlim] at k
            exact k.elim
        | _ => exact k.elim
      | _ => exact k.elim
  | _ => exact k.elim
theorem pop0_read {K : PySem.W.Frag} {i : Nat} (h : tD w W (bnd (isL i) fun _ => popM i none) σ H Q) : tBM0 K "list" rPop (tVar i) σ H Q := by
  obtain ⟨A, Z, ρ, s, p⟩ := h
  obtain ⟨⟨b, l, hi⟩, k⟩ := isL_ok p
  obtain ⟨a, xs, ha, nz, ex, rx⟩ := s.lst hi
  refine ⟨_, ha, tyV_list ex, ?_⟩
  unfold popM at k
  rw [hi] at k
  dsimp only at k
  cases e : l.getLast? with
  | none => rw [e] at k; exact k.elim
  | some x =>
    rw [e] at k
    have e' : l[l.length - 1]? = some x := by rw [← List.getLast?_eq_getElem?]; exact e
    obtain ⟨y, hy, ry⟩ := rx.get e'
    obtain ⟨x2, s2⟩ := s.chL hi ha ex nz rx.dropLast
    exact ⟨a, xs, y, rfl, rfl, ex, by rw [rx.length]; exact hy, k Z _ x2 s2 y (s.rep x2 ry)⟩
/-- append, extend -/
theorem app_read {K : PySem.W.Frag} {i : Nat} {e : M PyData} (h : tS w W own (bnd (isL i) fun _ => bnd e fun d => bnd (appM i [d]) fun _ => ret .nx) E σ H) : tDrop (tBM K "list" rAppend (tVar i) (tCons (tD w W e) tNil)) E σ H := by
  obtain ⟨A, Z, ρ, s, p⟩ := h
  obtain ⟨⟨b, l, hi⟩, p⟩ := isL_okS p
  obtain ⟨a, xs, ha, _, ex, _⟩ := s.lst hi
  refine ⟨_, ha, tyV_list ex, A, Z, ρ, s, (p.bnd s).imp fun d Z1 H1 ρ1 x1 s1 k v r => ?_⟩
  unfold M3.bnd appM at k
  cases e1 : ρ1[i]? with
  | none => rw [e1] at k; exact k.elim
  | some sl =>
    rw [e1] at k
    cases sl with
    | own b o =>
      cases o with
      | lst l =>
        dsimp only at k
        by_cases c : l.length + [d].length ≤ LIM
        · rw [if_pos c] at k
          obtain ⟨a', xs, ha', nz, ex, rx⟩ := s1.lst e1
          rw [ha] at ha'
          cases ha'
          obtain ⟨x2, s2⟩ := s1.chL e1 ha ex nz (rx.append (.cons r .nil))
          refine ⟨a, xs, v, rfl, rfl, ex, ?_, ?_⟩
          · have := rx.length
            have hL : LIM ≤ sizeLine := line_lim (Nat.le_refl _)
            simp only [List.length_singleton] at c
            omega
          · exact (PostS.back (s1.ks x2) k).nx s2
        · rw [if_neg c] at k
          exact k.elim
      | _ => exact k.elim
    | _ => exact k.elim
/-- a slot's list, set at an index -/
theorem putIx_ok {i : Nat} {kd d : PyData} {f : M Fw} {v kv : V} (s : SR w A Z H ρ σ) (r : Rep w Z H v d) (rk : Rep w Z H kv kd) (k : PostS w W A own Z H (bnd (putIx i kd d) (fun _ => f) ρ) E) {a : Addr} (ha : σ[i]? = some (some (.ref a))) {R : Hp → Prop}
    (hR : ∀ ρ' H', SR w A Z H' ρ' σ → XS ρ σ Z H ρ' Z H' → PostS w W A own Z H' (f ρ') E → R H') : rSetL (.ref a) kv v H R := by
  unfold M3.bnd putIx at k
  cases e1 : ρ[i]? with
  | none => rw [e1] at k; exact k.elim
  | some sl =>
    rw [e1] at k
    cases sl with
    | own b o =>
      cases o with
      | lst l =>
        dsimp only at k
        cases kd with
        | int j =>
          cases rk
          dsimp only at k
          cases e2 : L2.ixN l.length j with
          | none => rw [e2] at k; exact k.elim
          | some m =>
            rw [e2] at k
            obtain ⟨a', xs, ha', nz, ex, rx⟩ := s.lst e1
            rw [ha] at ha'
            cases ha'
            obtain ⟨x2, s2⟩ := s.chL e1 ha ex nz (rx.set r m)
            exact ⟨a, xs, j, m, rfl, rfl, ex, by rw [rx.length]; exact e2, hR _ _ s2 x2 (PostS.back (s.ks x2) k)⟩
        | _ => exact k.elim
      | _ => exact k.elim
    | _ => exact k.elim
theorem setIx_read {i : Nat} {e ke : M PyData} (h : tS w W own (bnd e fun d => bnd (isL i) fun _ => bnd ke fun kd => bnd (putIx i kd d) fun _ => ret .nx) E σ H) : tAsg (tD w W e) (gSub (tVar i) (tD w W ke) rSetL) E σ H := by
  obtain ⟨A, Z, ρ, s, p⟩ := h
  refine ⟨A, Z, ρ, s, (p.bnd s).imp fun d Z1 H1 ρ1 x1 s1 k v r => ?_⟩
  obtain ⟨⟨b, l, hi⟩, k⟩ := isL_okS k
  obtain ⟨a, xs, ha, _, ex, _⟩ := s1.lst hi
  refine ⟨_, ha, A, Z1, ρ1, s1, (k.bnd s1).imp fun kd Z2 H2 ρ2 x2 s2 k2 kv rk => ?_⟩
  exact putIx_ok s2 (s1.rep x2 r) rk k2 ha fun ρ' H' s' _ k' => k'.nx s'
/-- pot[k], name = divmod(a, b) -/
theorem divm_read {K : PySem.W.Frag} (hw : w.K = K) {i j : Nat} {F : M PyData} {ke : M PyData} (h : tS w W own (bnd F fun t => match t with
    | .tuple [q, m] => bnd (isL i) fun _ => bnd ke fun kd => bnd (putIx i kd q) fun _ => bnd (setSl j (.sh m)) fun _ => ret .nx
    | _ => fail) E σ H) : tAsg (tD w W F) (gTup K 2 (gCons (gSub (tVar i) (tD w W ke) rSetL) (gCons (gName j) gNil))) E σ H := by
  obtain ⟨A, Z, ρ, s, p⟩ := h
  refine ⟨A, Z, ρ, s, (p.bnd s).imp fun d Z1 H1 ρ1 x1 s1 k v r => ?_⟩
  match d, k, r with
  | .tuple [q, m], k, r =>
    cases r with
    | tup sq rs =>
      cases rs with
      | cons r1 rs =>
        cases rs with
        | cons r2 rs =>
          cases rs
          have k : PostS w W A own Z1 H1 (bnd (isL i) (fun _ => bnd ke fun kd => bnd (putIx i kd q) fun _ => bnd (setSl j (.sh m)) fun _ => ret .nx) ρ1) E := k
          obtain ⟨⟨b, l, hi⟩, k⟩ := isL_okS k
          obtain ⟨a, xs, ha, _, ex, _⟩ := s1.lst hi
          refine ⟨_, _, rfl, sq.sq, rfl, _, _, rfl, _, ha, A, Z1, ρ1, s1, (k.bnd s1).imp fun kd Z2 H2 ρ2 x2 s2 k2 kv rk => ?_⟩
          refine putIx_ok s2 (s1.rep x2 r1) rk k2 ha fun ρ' H' s' x' k' => ⟨_, _, rfl, rfl, ?_⟩
          obtain ⟨hj, k'⟩ := setSl_ok k'
          exact k'.nx (s'.setSh hj (s2.rep x' (s1.rep x2 r2)))
  | .none, k, _ => exact k.elim
  | .bool _, k, _ => exact k.elim
  | .int _, k, _ => exact k.elim
  | .str _, k, _ => exact k.elim
  | .list _, k, _ => exact k.elim
  | .dict _, k, _ => exact k.elim
  | .tuple [], k, _ => exact k.elim
  | .tuple [_], k, _ => exact k.elim
  | .tuple (_ :: _ :: _ :: _), k, _ => exact k.elim
/-- several names at once -/
inductive ParR (w : Wd) (Z : Addr → Prop) (H : Hp) (G : Hp) : (Addr → Prop) → List (Nat × Bool) → List V → List PyData → Prop
  | nil {O : Addr → Prop} : ParR w Z H G O [] [] []
  | sh {O : Addr → Prop} {i : Nat} {is : List (Nat × Bool)} {v : V} {vs : List V} {d : PyData} {ds : List PyData} : Rep w Z H v d → ParR w Z H G O is vs ds → ParR w Z H G O ((i, false) :: is) (v :: vs) (d :: ds)
  | own {O : Addr → Prop} {i : Nat} {is : List (Nat × Bool)} {a : Addr} {vs : List V} {o : Ob} {ds : List PyData} : ¬ Z a → OwnRep w Z H a o → ¬ O a → G a = none → ParR w Z H G (fun b => O b ∨ b = a) is vs ds → ParR w Z H G O ((i, true) :: is) (.ref a :: vs) (o.d :: ds)
def setsV : List (Nat × Bool) → List V → St → St
  | (i, _) :: is, v :: vs, σ => setsV is vs (σ.set i (some v))
  | _, _, σ => σ
theorem ParR.mono {O : Addr → Prop} {G : Hp} {is : List (Nat × Bool)} {vs : List V} {ds : List PyData} (h : ParR w Z H G O is vs ds) : ∀ {O' : Addr → Prop}, (∀ a, O' a → O a) → ParR w Z H G O' is vs ds := by
  induction h with
  | nil => exact fun _ => .nil
  | sh r _ ih => exact fun k => .sh r (ih k)
  | own n r no g _ ih => exact fun k => .own n r (fun q => no (k _ q)) g (ih fun a q => q.elim (fun q => .inl (k a q)) .inr)
theorem ParR.p0 {O : Addr → Prop} {G : Hp} {is : List (Nat × Bool)} {vs : List V} {ds : List PyData} (p : P0 Z H Z H') (h : ParR w Z H G O is vs ds) : ParR w Z H' G O is vs ds := by
  induction h with
  | nil => exact .nil
  | sh r _ ih => exact .sh (p.rep r) ih
  | own n r no g _ ih => exact .own n (p.ownRep r) no g ih
theorem ParR.len {O : Addr → Prop} {G : Hp} {is : List (Nat × Bool)} {vs : List V} {ds : List PyData} (h : ParR w Z H G O is vs ds) : vs.length = is.length ∧ ds.length = is.length := by
  induction h with
  | nil => exact ⟨rfl, rfl⟩
  | sh _ _ ih => exact ⟨by rw [List.length_cons, List.length_cons, ih.1], by rw [List.length_cons, List.length_cons, ih.2]⟩
  | own _ _ _ _ _ ih => exact ⟨by rw [List.length_cons, List.length_cons, ih.1], by rw [List.length_cons, List.length_cons, ih.2]⟩
theorem Own.set_to {i : Nat} {a : Addr} {o : Ob} {b : Addr} (h : Own (ρ.set i (.own true o)) (σ.set i (some (.ref a))) b) : Own ρ σ b ∨ b = a := by
  obtain ⟨j, b', o', h1, h2⟩ := h
  rcases set_get h1 with ⟨rfl, _⟩ | ⟨n, e⟩
  · rcases set_get h2 with ⟨_, e2⟩ | ⟨n, _⟩
    · cases e2; exact .inr rfl
    · exact absurd rfl n
  · rw [List.getElem?_set_ne n] at h2
    exact .inl ⟨j, b', o', e, h2⟩
theorem setPar_ok {is : List (Nat × Bool)} {vs : List V} {ds : List PyData} {G : Hp} {O : Addr → Prop} (h : ParR w Z H G O is vs ds) : ∀ {ρ : En} {σ : St}, G = A.G → SR w A Z H ρ σ → (∀ a, Own ρ σ a → O a) → PostS w W A own Z H (bnd (setPar is ds) (fun _ => ret .nx) ρ) E → E.nx (setsV is vs σ) H := by
  induction h with
  | nil => exact fun _ s _ k => PostS.nx s k
  | sh r _ ih =>
    intro ρ σ hg s ho k
    unfold setPar at k
    rw [bnd_assoc] at k
    obtain ⟨hi, k⟩ := setSl_ok k
    exact ih hg (s.setSh hi r) (fun a q => ho a q.set_both) k
  | @own O i is a vs o ds nz r no g _ ih =>
    intro ρ σ hg s ho k
    unfold setPar at k
    rw [bnd_assoc] at k
    obtain ⟨o', e, k⟩ := lift_some k
    rw [bnd_assoc] at k
    obtain ⟨hi, k⟩ := setSl_ok k
    exact ih hg (s.setOwn hi nz (own_inj e r) (hg ▸ g) fun q => no (ho a q)) (fun b q => q.set_to.elim (fun q => .inl (ho b q)) .inr) k
def tDPar (w : Wd) (W : WX) (is : List (Nat × Bool)) (F : M (List PyData)) : TA := fun σ H Q => ∃ A Z ρ, SR w A Z H ρ σ ∧ Post w W A Z H ρ σ (F ρ) fun ds Z' H' ρ' => ∀ vs, ParR w Z' H' A.G (fun b => Own ρ' σ b ∨ H b ≠ none) is vs ds → Q vs H'
theorem par_nil {P : Ph} {Q : List V → Hp → Prop} (h : tDPar w W [] (denAll P []) σ H Q) : tNil σ H Q := by
  obtain ⟨A, Z, ρ, s, p⟩ := h
  exact p Z H XS.refl s [] .nil
theorem par_sh {P : Ph} {e : IE} {es : List IE} {i : Nat} {is : List (Nat × Bool)} {Q : List V → Hp → Prop} (h : tDPar w W ((i, false) :: is) (denAll P (e :: es)) σ H Q) : tCons (tD w W (den P e)) (tDPar w W is (denAll P es)) σ H Q := by
  obtain ⟨A, Z, ρ, s, p⟩ := h
  have q : Post w W A Z H ρ σ (bnd (den P e) (fun o => bnd (denAll P es) fun os => ret (o :: os)) ρ) _ := p
  refine ⟨A, Z, ρ, s, q.bnd.imp fun d Z1 H1 ρ1 x1 s1 ⟨_, _, k⟩ v r => ⟨A, Z1, ρ1, s1, k.bnd.imp fun ds Z2 H2 ρ2 x2 s2 ⟨_, _, k2⟩ vs rs => ?_⟩⟩
  refine k2 Z2 H2 XS.refl s2 _ (.sh (s1.rep x2 r) (rs.mono fun b q => q.imp id fun n z => n (x1.dom b z)))
theorem par_own {P : Ph} {e : IE} {es : List IE} {i : Nat} {is : List (Nat × Bool)} {Q : List V → Hp → Prop} (h : tDPar w W ((i, true) :: is) (denAll P (e :: es)) σ H Q) : tCons (tDF w W (den P e)) (tDPar w W is (denAll P es)) σ H Q := by
  obtain ⟨A, Z, ρ, s, p⟩ := h
  have q : Post w W A Z H ρ σ (bnd (den P e) (fun o => bnd (denAll P es) fun os => ret (o :: os)) ρ) _ := p
  refine ⟨A, Z, ρ, s, q.bnd.imp fun d Z1 H1 ρ1 x1 s1 ⟨_, _, k⟩ v r => ⟨A, Z1, ρ1, s1, k.bnd.imp fun ds Z2 H2 ρ2 x2 s2 ⟨_, _, k2⟩ vs rs => ?_⟩⟩
  obtain ⟨a, o, rfl, rfl, h0, nz, ro⟩ := r
  have n1 : ¬ Own ρ1 σ a := s.nown x1 h0
  have hs : H1 a ≠ none := ro.some
  have stay : OwnRep w Z2 H2 a o := by
    have go : ∀ {u}, H1 a = some u → H2 a = some u := fun e => x2.kp a _ e n1
    have ks := s1.ks x2
    cases o with
    | lst l => obtain ⟨zs, e, rr⟩ := ro; exact ⟨zs, go e, ks.reps rr⟩
    | dic l' =>
      rcases ro with ⟨kvs, e, rr⟩ | ⟨kvs, e, rr⟩
      · exact .inl ⟨kvs, go e, rr.stay ks.z (fun a u z q => ks.kp a u (.inl z) q) fun a ys q => q.mv fun u h => ks.kp a u (.inr ⟨ys, q.rd⟩) h⟩
      · exact .inr ⟨kvs, go e, rr.stay ks.z (fun a u z q => ks.kp a u (.inl z) q) fun a ys q => q.mv fun u h => ks.kp a u (.inr ⟨ys, q.rd⟩) h⟩
    | ins c fs =>
      obtain ⟨C, dx, fv, e, m, rr⟩ := ro
      exact ⟨C, dx, fv, go e, m, rr.stay ks.z (fun a u z q => ks.kp a u (.inl z) q) fun a ys q => q.mv fun u h => ks.kp a u (.inr ⟨ys, q.rd⟩) h⟩
  refine k2 Z2 H2 XS.refl s2 _ (.own (fun z => ?_) stay (fun q => ?_) (s.dom a h0) (rs.mono fun b q => ?_))
  · rcases x2.zg a z with q | q | q
    · exact nz q
    · exact hs q
    · exact n1 q
  · rcases q with q | q
    · exact n1 (x2.ow a q)
    · exact q h0
  · rcases q with q | q
    · exact q.imp id fun n z => n (x1.dom b z)
    · subst q; exact .inr hs
theorem par_core {is : List (Nat × Bool)} {F : M (List PyData)} (h : tS w W own (bnd F fun ds => bnd (setPar is ds) fun _ => ret .nx) E σ H) :
    tDPar w W is F σ H fun vs H1 => vs.length = is.length ∧ E.nx (setsV is vs σ) H1 ∧ ∀ p, H1 p = none → E.nx (setsV is vs σ) (upd H1 p (.tup vs)) := by
  obtain ⟨A, Z, ρ, s, p⟩ := h
  refine ⟨A, Z, ρ, s, (p.bnd s).imp fun ds Z1 H1 ρ1 x1 s1 k vs r => ⟨r.len.1, setPar_ok r rfl s1 (fun a q => .inl q) k, fun p hp => ?_⟩⟩
  have p0 : P0 Z1 H1 Z1 (upd H1 p (.tup vs)) := P0.newT s1.zd hp
  exact setPar_ok (r.p0 p0) rfl (s1.p0 p0) (fun a q => .inl q) (k.back p0.ks)
/-- the names of a tuple of targets, all at once -/
theorem gs_names {K : PySem.W.Frag} : ∀ {is : List (Nat × Bool)} {vs : List V} {σ : St} {H : Hp} {Q : St → Hp → Prop}, vs.length = is.length → Q (setsV is vs σ) H → gsOf K (is.map fun p => .name p.1) vs σ H Q
  | [], [], _, _, _, _, h => ⟨rfl, h⟩
  | (i, b) :: is, v :: vs, σ, H, Q, hl, h => ⟨v, vs, rfl, gs_names (is := is) (by simpa using hl) h⟩
  | [], _ :: _, _, _, _, hl, _ => by cases hl
  | _ :: _, [], _, _, _, hl, _ => by cases hl
theorem par_read {K : PySem.W.Frag} {is : List (Nat × Bool)} {F : M (List PyData)} (hz : is.length ≤ 1000) (h : tS w W own (bnd F fun ds => bnd (setPar is ds) fun _ => ret .nx) E σ H) :
    tAsg (tTup (tDPar w W is F)) (gTup K is.length (gsOf K (is.map fun p => .name p.1))) E σ H := by
  obtain ⟨A, Z, ρ, s, p⟩ := par_core h
  refine ⟨A, Z, ρ, s, p.imp fun ds Z1 H1 ρ1 x1 s1 k vs r => ?_⟩
  obtain ⟨hl, _, h2⟩ := k vs r
  refine ⟨line_lim (by omega), fun p hp => ⟨p, vs, rfl, .inl (.inl upd_same), hl, gs_names hl (h2 p hp)⟩⟩
theorem par2_read {i j : Nat} {b c : Bool} {F : M (List PyData)} (h : tS w W own (bnd F fun ds => bnd (setPar [(i, b), (j, c)] ds) fun _ => ret .nx) E σ H) : tPar i j (tDPar w W [(i, b), (j, c)] F) E σ H := by
  obtain ⟨A, Z, ρ, s, p⟩ := par_core h
  refine ⟨A, Z, ρ, s, p.imp fun ds Z1 H1 ρ1 x1 s1 k vs r => ?_⟩
  obtain ⟨hl, h1, _⟩ := k vs r
  match vs, hl, h1 with
  | [v, u], _, h1 => exact ⟨v, u, rfl, h1⟩
/-- a, b = a list, a tuple -/
theorem unpack_read {K : PySem.W.Frag} (hw : w.K = K) {is : List (Nat × Bool)} (hf : ∀ p ∈ is, p.2 = false) {F : M PyData} (h : tS w W own (bnd F fun d => bnd (elems d) fun ds => bnd (setPar is ds) fun _ => ret .nx) E σ H) :
    tAsg (tD w W F) (fun v σ H Q => gTup K is.length (gsOf K (is.map fun p => .name p.1)) v σ H Q ∨ gLst K is.length (gsOf K (is.map fun p => .name p.1)) v σ H Q) E σ H := by
  have go : ∀ {A Z H ρ} {is : List (Nat × Bool)} {vs : List V} {ds : List PyData}, (∀ p ∈ is, p.2 = false) → Reps w Z H vs ds → PostS w W A own Z H (bnd (setPar is ds) (fun _ => ret .nx) ρ) E → ParR w Z H A.G (Own ρ σ) is vs ds := by
    intro A Z H ρ is
    induction is generalizing ρ with
    | nil =>
      intro vs ds _ r k
      cases r with
      | nil => exact .nil
      | cons _ _ => exact k.elim
    | cons p is ih =>
      intro vs ds hf r k
      obtain ⟨i, b⟩ := p
      have : b = false := hf (i, b) List.mem_cons_self
      subst this
      cases r with
      | nil => exact k.elim
      | cons r rs =>
        unfold setPar at k
        rw [bnd_assoc] at k
        obtain ⟨hi, k⟩ := setSl_ok k
        refine .sh r ?_
        have q := ih (fun p hp => hf p (List.mem_cons_of_mem _ hp)) rs k
        -- no fresh one among them: the frame's own do not matter
        have free : ∀ {O O' : Addr → Prop} {is : List (Nat × Bool)} {vs ds}, (∀ p ∈ is, p.2 = false) → ParR w Z H A.G O is vs ds → ParR w Z H A.G O' is vs ds := by
          intro O O' is vs ds hf h
          induction h with
          | nil => exact .nil
          | sh r _ ih => exact .sh r (ih fun p hp => hf p (List.mem_cons_of_mem _ hp))
          | own _ _ _ _ _ _ => exact absurd (hf _ List.mem_cons_self) (by simp)
        exact free (fun p hp => hf p (List.mem_cons_of_mem _ hp)) q
  obtain ⟨A, Z, ρ, s, p⟩ := h
  refine ⟨A, Z, ρ, s, (p.bnd s).imp fun d Z1 H1 ρ1 x1 s1 k v r => ?_⟩
  cases d with
  | list l =>
    cases r with
    | lst z sq rs =>
      have k : PostS w W A own Z1 H1 (bnd (setPar is l) (fun _ => ret .nx) ρ1) E := k
      have pr := go hf rs k
      exact .inr ⟨_, _, rfl, .inl sq, pr.len.1, gs_names pr.len.1 (setPar_ok pr rfl s1 (fun _ q => q) k)⟩
  | tuple l =>
    cases r with
    | tup sq rs =>
      have k : PostS w W A own Z1 H1 (bnd (setPar is l) (fun _ => ret .nx) ρ1) E := k
      have pr := go hf rs k
      exact .inl ⟨_, _, rfl, sq.sq, pr.len.1, gs_names pr.len.1 (setPar_ok pr rfl s1 (fun _ q => q) k)⟩
  | _ => exact k.elim
/-- f(a value just made), f changes it -/
theorem callF_read {P : Ph} {f : Nat} {e : M PyData} {Fn : Fn} (h1 : Fn.ps = [true]) (h2 : Fn.own = false) {EX : XK} (h : tD w W (bnd e fun d => callFM P f d) σ H Q) : tCons (tDF w W e) tNil σ H fun vs H1 => spF w Fn (P f) vs H1 Q EX := by
  obtain ⟨A, Z, ρ, s, p⟩ := h
  refine ⟨A, Z, ρ, s, ?_⟩
  unfold M3.bnd at p
  cases ee : e ρ with
  | stuck => rw [ee] at p; exact p
  | exc x r => rw [ee] at p; exact p
  | ok d ρ1 =>
  rw [ee] at p
  have k : Post w W A Z H ρ σ (callFM P f d ρ1) _ := p
  intro Z1 H1 x1 s1 v r
  obtain ⟨a, o, rfl, rfl, h0, nz, ro⟩ := r
  refine ⟨Z1, [o.d], s1.zd, h1 ▸ .io nz ro .nil, ?_⟩
  unfold callFM at k
  cases e2 : P f [o.d] with
  | stuck => rw [e2] at k; exact k.elim
  | exc x outs => rw [e2] at k; exact k.elim
  | ok d' outs =>
    rw [e2] at k
    have hio : ioA Fn.ps [V.ref a] = [a] := by rw [h1]; rfl
    dsimp only
    rw [hio]
    intro Z' H' v cs out rr
    obtain ⟨nz', o', ho, ro'⟩ := out
    subst ho
    have rr : Rep w Z' H' v d' := by unfold RetR at rr; rw [h2] at rr; exact rr
    have n1 : ¬ Own ρ1 σ a := s.nown x1 h0
    have ea : ∀ {b}, ¬ b ∈ [a] → b ≠ a := fun n q => n (by simp [q])
    have nb : ∀ {b}, b ≠ a → ¬ b ∈ [a] := fun n q => n (by simpa using q)
    have xs : XS ρ σ Z H ρ1 Z' H' := ⟨fun b q => cs.z b (x1.z b q), fun b q => (cs.zg b q).elim (x1.zg b) fun z => .inr (.inl (x1.dom b z)),
      fun b u q n => cs.kp b u (x1.kp b u q n) (nb fun z => by rw [z, h0] at q; cases q), fun b q => x1.dom b (cs.dom b q), x1.ow⟩
    have na : ∀ {b u}, (Z1 b ∨ ∃ ys, Rd H1 b (.tup ys)) → H1 b = some u → b ≠ a := fun {b u} hb e z => by
      subst z
      rcases hb with q | ⟨ys, q⟩
      · exact nz q
      · cases o with
        | lst l => obtain ⟨zs, e1, _⟩ := ro; rcases q with q | ⟨o, q⟩ <;> (rw [e1] at q; cases q)
        | dic l' => rcases ro with ⟨kvs, e1, _⟩ | ⟨kvs, e1, _⟩ <;> (rcases q with q | ⟨o, q⟩ <;> (rw [e1] at q; cases q))
        | ins c fs => obtain ⟨C, dx, fv, e1, _⟩ := ro; rcases q with q | ⟨o, q⟩ <;> (rw [e1] at q; cases q)
    have ks : KS Z1 H1 Z' H' := ⟨cs.z, fun b u hb e => cs.kp b u e (nb (na hb e))⟩
    have sr : SR w A Z' H' ρ1 σ := by
      refine ⟨s1.len, fun j d h => ?_, fun j b o h => ?_, s1.inj, fun b u hh n => ?_, fun b q => (cs.zg b q).elim (s1.zf b) fun z => .inr (s1.dom b z), fun b q => cs.z b (s1.z0 b q), fun b q => s1.dom b (cs.dom b q), cs.zd⟩
      · obtain ⟨v, e1, r1⟩ := s1.sh j d h
        exact ⟨v, e1, ks.rep r1⟩
      · obtain ⟨c, e1, z1, r1, g1, g2⟩ := s1.own j b o h
        have hca : c ≠ a := fun q => n1 (q ▸ ⟨j, b, o, h, e1⟩)
        have go : ∀ {u}, H1 c = some u → H' c = some u := fun e => cs.kp c _ e (nb hca)
        refine ⟨c, e1, fun q => ?_, ?_, g1, g2⟩
        · rcases cs.zg c q with q | q
          · exact z1 q
          · exact r1.some q
        · cases o with
          | lst l => obtain ⟨zs, e, rr⟩ := r1; exact ⟨zs, go e, ks.reps rr⟩
          | dic l' =>
            rcases r1 with ⟨kvs, e, rr⟩ | ⟨kvs, e, rr⟩
            · exact .inl ⟨kvs, go e, rr.stay ks.z (fun a u z q => ks.kp a u (.inl z) q) fun a ys q => q.mv fun u h => ks.kp a u (.inr ⟨ys, q.rd⟩) h⟩
            · exact .inr ⟨kvs, go e, rr.stay ks.z (fun a u z q => ks.kp a u (.inl z) q) fun a ys q => q.mv fun u h => ks.kp a u (.inr ⟨ys, q.rd⟩) h⟩
          | ins cc fs =>
            obtain ⟨C, dx, fv, e, m, rr⟩ := r1
            exact ⟨C, dx, fv, go e, m, rr.stay ks.z (fun a u z q => ks.kp a u (.inl z) q) fun a ys q => q.mv fun u h => ks.kp a u (.inr ⟨ys, q.rd⟩) h⟩
      · refine cs.kp b u (s1.frame b u hh n) (nb fun z => ?_)
        rw [z, s.dom a h0] at hh
        cases hh
    exact k Z' H' xs sr v rr
end
end M3
set_option Elab.async false
set_option linter.all false
set_option maxRecDepth 100000
/-! F15: what is walked: lists, tuples, texts; enumerate, zip of any of them. -/
namespace M3
open PySem PySem.Spec L2
open PyProof.Rows hiding St
theorem lt_no {n m : Nat} (h : n + m < n) : False := by omega
theorem ne_nat {a b : Nat} (h : a < b ∨ b < a) : a ≠ b := by omega
inductive Sk where
  | l (a : Addr)
  | t (a : Addr)
  | s (x : Str)
def Sk.v : Sk → V
  | .l a => .ref a
  | .t a => .ref a
  | .s x => .str x
def Sk.ad : Sk → List Addr
  | .l a => [a]
  | .t a => [a]
  | .s _ => []
def charsV (x : Str) : List V := x.cps.toList.map fun c => V.str ⟨#[c]⟩
def Sk.h (K : PySem.W.Frag) (H : Hp) : Sk → List V → Prop
  | .l a, xs => SqL K H a xs
  | .t a, xs => SqT K H a xs
  | .s x, xs => xs = charsV x
def Sk.it (it : Addr) (i : Nat) (h : Heap) : Sk → Prop
  | .l a => h.IsListIter it a i
  | .t a => h.IsTupleIter it a i
  | .s x => ∃ t, h.IsStrIter it (strIterType x) x t i
theorem valsU {xs : List V} {us : List Value} {j : Nat} {v : Value} (r : Vals xs us) (e : us[j]? = some v) : ∃ x, xs[j]? = some x ∧ RelV x v := by
  have hl := r.length
  have hj : j < us.length := Classical.byContradiction fun z => by rw [List.getElem?_eq_none (by omega)] at e; cases e
  have hx : xs[j]? = some (xs[j]'(by omega)) := by simp [show j < xs.length by omega]
  obtain ⟨u, hu, ru⟩ := r.get hx
  rw [e] at hu
  cases hu
  exact ⟨_, hx, ru⟩
set_option maxHeartbeats 1000000 in
theorem enum_new1 {v : Value} {o : Obj} {HB : Heap → Prop} (B : Begins v o HB) :
    Meets (Builtin.«enumerate.__new__» ⟨[.type "enumerate", v], []⟩) (fun _ R s0 => HB s0.heap ∧
      R (.ok (.ret (.ref (s0.heap.push o).objs.size))) { s0 with heap := (s0.heap.push o).push { cls := .type "enumerate", data := .fields #[.none, .bool false, .ref s0.heap.objs.size, rawInt 0, .none, .none] } }) :=
  .of_wp fun prog w A R s0 hyp => by
    obtain ⟨hp, g, d, tk, os⟩ := s0; obtain ⟨hB, hyp⟩ := hyp
    have hsub := sub_enumerate
    have qI : ∀ {A' : Around} {E : Value → Shared → Prop} {Q : Value → Shared → Prop}, Q (.ref hp.objs.size) ⟨hp.push o, g, d, tk, os⟩ → wpAny (model prog w) A' (pyIter v) Q E ⟨hp, g, d, tk, os⟩ := fun q => B.iter prog w _ _ ⟨hp, g, d, tk, os⟩ _ hB q
    wp_walk using qI
    refine wpAny_stack_any fun sta => wpAny_pure ?_
    split
    · rename_i c _ _ _ _ _
      cases (c == Value.type "enumerate")
      · wp_walk using qI
        exact ⟨_, rfl, hyp⟩
      · wp_walk using qI
        exact ⟨_, rfl, hyp⟩
    · wp_walk using qI
      exact ⟨_, rfl, hyp⟩
theorem enum_call1 {prog : Program} {w : World} {A : Around} {E : Value → Shared → Prop} {s : Shared} {v : Value} {o : Obj} {HB : Heap → Prop} {Q : Value → Shared → Prop} (B : Begins v o HB) (h1 : HB s.heap)
    (hyp : ∀ h', IsEnum h' (s.heap.objs.size + 1) s.heap.objs.size 0 .none → h'.get? s.heap.objs.size = some o → (∀ b o, s.heap.get? b = some o → h'.get? b = some o) → Q (.ref (s.heap.objs.size + 1)) { s with heap := h' }) :
    wpAny (model prog w) A (call (.type "enumerate") [v]) Q E s := by
  refine callType_new F.called_enumerate (by decide) (F.typeCall_enumerate_1 _) (F.newCall_enumerate_1 _) (fun obj => F.args_object_init_2 obj _) F.entry_enumerate_new (enum_new1 B) ⟨h1, ?_⟩
  have hz : (s.heap.push o).objs.size = s.heap.objs.size + 1 := Heap.size_push ..
  show _ ∧ _
  rw [hz]
  have he : IsEnum ((s.heap.push o).push { cls := .type "enumerate", data := .fields #[.none, .bool false, .ref s.heap.objs.size, rawInt 0, .none, .none] }) (s.heap.objs.size + 1) s.heap.objs.size 0 .none := by
    have this := Heap.get?_push_size (s.heap.push o) (o := { cls := .type "enumerate", data := .fields #[.none, .bool false, .ref s.heap.objs.size, rawInt 0, .none, .none] }) rfl
    rw [hz] at this; exact this
  exact ⟨⟨_, he, rfl⟩, hyp _ he (Heap.get?_push_of_some _ (Heap.get?_push_size _ B.free)) fun b o x => Heap.get?_push_of_some _ (Heap.get?_push_of_some _ x)⟩
section
variable {X : Cx} {pins : List (Addr × Obj)} {σ : L2.St} {H : Hp} {s : Shared}
theorem Sk.inj (I : Inv X pins σ H s) {k : Sk} {xs ys : List V} (h1 : k.h X.K H xs) (h2 : k.h X.K H ys) : xs = ys := by
  cases k with
  | l a => exact I.list_inj h1 h2
  | t a => exact I.tuple_inj h1 h2
  | s x => exact h1.trans h2.symm
theorem Sk.it_keep {k : Sk} {it : Addr} {i : Nat} {h h' : Heap} (st : k.it it i h) (hk : ∀ o, h.get? it = some o → h'.get? it = some o) : k.it it i h' := by
  cases k with
  | l a => obtain ⟨o, e, r⟩ := st; exact ⟨o, hk o e, r⟩
  | t a => obtain ⟨o, e, r⟩ := st; exact ⟨o, hk o e, r⟩
  | s x => obtain ⟨t, o, e, r⟩ := st; exact ⟨t, o, hk o e, r⟩
theorem Sk.it_obj {k : Sk} {it : Addr} {i : Nat} {h : Heap} (st : k.it it i h) : ∃ o, h.get? it = some o ∧ ∀ v, o.data ≠ .cell v := by
  cases k with
  | l a => obtain ⟨o, e, c, d⟩ := st; exact ⟨o, e, fun v z => by rw [d] at z; cases z⟩
  | t a => obtain ⟨o, e, c, d⟩ := st; exact ⟨o, e, fun v z => by rw [d] at z; cases z⟩
  | s x => obtain ⟨t, o, e, c, d⟩ := st; exact ⟨o, e, fun v z => by rw [d] at z; cases z⟩
theorem Sk.draws (I : Inv X pins σ H s) (hc : X.calm = true) {k : Sk} {xs : List V} {it : Addr} {i : Nat} (hk : k.h X.K H xs) (st : k.it it i s.heap) (hn : it ∉ k.ad) :
    ∃ (fp : List Addr) (P : Nat → Value → Prop) (S : Nat → Heap → Prop), Draws X.prog X.w X.A.in1 it fp xs.length P S ∧ S i s.heap ∧ (∀ j v, P j v → ∃ x, xs[j]? = some x ∧ RelV x v) ∧ (∀ j h, S j h → k.it it j h) ∧ (∀ b, b ∈ fp → b = it ∨ b ∈ k.ad) ∧ it ∈ fp := by
  have hh : X.A.in1.handled = none := I.ok.hd hc
  cases k with
  | l a =>
    obtain ⟨its, rv, pl, hz⟩ := I.list hk
    have hne : a ≠ it := fun e => hn (by simp [Sk.ad, e])
    have hl : its.toArray.size = xs.length := by rw [List.size_toArray, rv.length]
    refine ⟨_, _, _, hl ▸ Draws.list hh it a hne its.toArray, ⟨st, pl.isList⟩, fun j v e => ?_, fun j h e => e.1, fun b hb => by simpa [Sk.ad] using hb, by simp⟩
    have e : its[j]? = some v := by simpa using e
    obtain ⟨x, hx, rx⟩ := valsU rv e
    exact ⟨x, hx, rx⟩
  | t a =>
    obtain ⟨its, rv, pl, hz⟩ := I.tuple hk
    have hne : a ≠ it := fun e => hn (by simp [Sk.ad, e])
    have hl : its.toArray.size = xs.length := by rw [List.size_toArray, rv.length]
    refine ⟨_, _, _, hl ▸ Draws.tuple hh it a hne its.toArray, ⟨st, pl⟩, fun j v e => ?_, fun j h e => e.1, fun b hb => by simpa [Sk.ad] using hb, by simp⟩
    have e : its[j]? = some v := by simpa using e
    obtain ⟨x, hx, rx⟩ := valsU rv e
    exact ⟨x, hx, rx⟩
  | s x =>
    have hk : xs = charsV x := hk
    subst hk
    obtain ⟨t, st⟩ := st
    have hl : x.cps.size = (charsV x).length := by simp [charsV]
    refine ⟨_, _, _, hl ▸ Draws.text hh it x t, st, fun j v e => ?_, fun j h e => ⟨t, e⟩, fun b hb => by simpa [Sk.ad] using hb, by simp⟩
    obtain ⟨c, u, hx, rfl⟩ := e
    refine ⟨.str ⟨#[c]⟩, ?_, u, rfl⟩
    simp [charsV, hx]
theorem Sk.begins (I : Inv X pins σ H s) {k : Sk} {xs : List V} {v : Value} (hk : k.h X.K H xs) (r : RelV k.v v) : ∃ (o : Obj) (HH : Heap → Prop), Begins v o HH ∧ HH s.heap ∧ ∀ (h : Heap) (it : Addr), h.get? it = some o → k.it it 0 h := by
  cases k with
  | l a =>
    obtain ⟨its, rv, pl, hz⟩ := I.list hk
    cases r
    exact ⟨_, _, begins_list a its.toArray, pl.isList, fun h it e => ⟨_, e, rfl, rfl⟩⟩
  | t a =>
    obtain ⟨its, rv, pl, hz⟩ := I.tuple hk
    cases r
    exact ⟨_, _, begins_tuple a its.toArray, pl, fun h it e => ⟨_, e, rfl, rfl⟩⟩
  | s x =>
    obtain ⟨t, rfl⟩ := r
    exact ⟨_, _, begins_text x t, trivial, fun h it e => ⟨t, _, e, rfl, rfl⟩⟩
/-- enumerate -/
def IteK (K : PySem.W.Frag) (k : Sk) : It :=
  ⟨fun i H => ∃ (xs : List V) (x : V), k.h K H xs ∧ xs[i]? = some x, fun i H v H' => ∃ T x, v = .ref T ∧ H T = none ∧ (∃ o : Obj, o.dict = none ∧ H' = upd H T (.frz o (.tup [.int (i : Nat), x]))) ∧ ∀ xs, k.h K H xs → xs[i]? = some x, fun i H => ∃ xs : List V, k.h K H xs ∧ xs.length = i⟩
theorem turn_enumK {P : Program} {w : World} {K : PySem.W.Frag} {elts : List Expr} {kk : Nat} {tpos : Pos} (k : Sk) (e it : Addr) :
    Turn P w K (.Tuple elts kk tpos) (IteK K k) [e, it] e (fun i h => (∃ old, IsEnum h e it ((i : Nat) : Int) old) ∧ k.it it i h ∧ e ≠ it ∧ e ∉ k.ad ∧ it ∉ k.ad) where
  mem := by simp
  obj := fun i h st b hb => by
    obtain ⟨⟨old, he⟩, hi, _⟩ := st
    have e' : b = e ∨ b = it := by simpa using hb
    rcases e' with z | z
    · rw [z]; exact ⟨_, he, fun v q => nomatch q⟩
    · rw [z]; exact Sk.it_obj hi
  keep := fun i h h' st k => let ⟨⟨old, he⟩, hi, hne⟩ := st; ⟨⟨old, k e (by simp) _ he⟩, Sk.it_keep hi fun o q => k it (by simp) o q, hne⟩
  item := by
    intro X hP hw hK hc i pins s σ H E I hf st hg
    subst hP hw hK
    obtain ⟨⟨old, he⟩, hit, hne, hea, hia⟩ := st
    obtain ⟨xs, x, hq, hx⟩ := hg
    obtain ⟨fp, Pd, S, D, st0, hP, hS, hfp, hm⟩ := Sk.draws I hc hq hit hia
    have hlt : i < xs.length := Classical.byContradiction fun z => by rw [List.getElem?_eq_none (by omega)] at hx; cases hx
    have hef : e ∉ fp := fun q => (hfp e q).elim hne hea
    have hel : e < s.heap.objs.size := Heap.lt_size he
    have hil : it < s.heap.objs.size := by obtain ⟨_, q, _⟩ := Sk.it_obj hit; exact Heap.lt_size q
    refine wpAny_pyNext_enum_itemD D he st0 hlt hne hef fun u h' tk pu ho hit' hT hsz hk => ?_
    obtain ⟨x', hx', ru⟩ := hP i u pu
    rw [hx] at hx'
    cases hx'
    refine ⟨_, rfl, wpAny_letOwnedTupleGo_enum (s := { s with heap := h', toks := tk + 1 }) ho fun h'' he' sb => ?_⟩
    have hT2 : h''.get? s.heap.objs.size = some { cls := .type "tuple", data := .seq #[.int i tk, u] } := (sb.2 _ (Nat.ne_of_gt hel)).trans hT
    have new : ObjOk X.prog X.w (upd H s.heap.objs.size (.frz { cls := .type "tuple", data := .seq #[.int i tk, u] } (.tup [.int (i : Nat), x]))) h'' s.heap.objs.size (.frz { cls := .type "tuple", data := .seq #[.int i tk, u] } (.tup [.int (i : Nat), x])) :=
      ⟨hT2, by show 2 ≤ sizeLine; decide, [.int i tk, u], .cons ⟨_, rfl⟩ (.cons ru .nil), ⟨_, hT2, rfl, _, rfl⟩⟩
    have I1 : Inv X pins σ (upd H s.heap.objs.size (.frz { cls := .type "tuple", data := .seq #[.int i tk, u] } (.tup [.int (i : Nat), x]))) { s with heap := h'', toks := tk + 1 } :=
      I.turnedNew (ch := [e, it]) (fun b ob hb q => (sb.2 b (fun z => hb (by simp [z]))).trans (hk b ob (fun z => hb (by simp [z])) (fun z => hb (by simp [z])) q)) hf (Nat.le_refl _) new
    refine ⟨.ref s.heap.objs.size, _, I1, rfl, ⟨_, x, rfl, I.hok.fresh (Nat.le_refl _), ⟨_, rfl, rfl⟩, fun ys hy => by rw [Sk.inj I hy hq]; exact hx⟩, ⟨⟨u, ?_⟩, Sk.it_keep (hS _ _ hit') fun o q => (sb.2 it (Ne.symm hne)).trans q, hne, hea, hia⟩, fun b hb => ?_⟩
    · have e1 : ((i + 1 : Nat) : Int) = (i : Int) + 1 := by omega
      rw [e1]; exact he'
    · have hb' : b < s.heap.objs.size := by
        have e' : b = e ∨ b = it := by simpa using hb
        rcases e' with z | z
        · rw [z]; exact hel
        · rw [z]; exact hil
      rw [upd_ne (Nat.ne_of_lt hb')]
      exact (hf b hb).1
  done := by
    intro X hP hw hK hc i pins s σ H E I hf st hg
    subst hP hw hK
    obtain ⟨⟨old, he⟩, hit, hne, hea, hia⟩ := st
    obtain ⟨xs, hq, hx⟩ := hg
    subst hx
    obtain ⟨fp, Pd, S, D, st0, hP, hS, hfp, hm⟩ := Sk.draws I hc hq hit hia
    obtain ⟨f0, f1, f2, f3, f4, f5⟩ := hf it (by simp)
    exact wpAny_pyNext_enum_endD D he st0 fun h' eb => ⟨rfl, I.turned (t' := s.toks) (fun b o hb q => eb b o hb q) f0 f1 f3 f4 f5⟩
  self := fun A i s Q E st h => let ⟨⟨_, he⟩, _⟩ := st; wpAny_pyIter_enum he h
def iEnumK (K : PySem.W.Frag) (ta : TA) : TI := fun σ H R => ta σ H fun vs H1 => ∃ (k : Sk) (xs : List V), vs = [k.v] ∧ k.h K H1 xs ∧ R (IteK K k) H1
theorem Sk.old (I : Inv X pins σ H s) {k : Sk} {xs : List V} (hk : k.h X.K H xs) : ∀ b ∈ k.ad, b < s.heap.objs.size := by
  intro b hb
  cases k with
  | l a =>
    obtain ⟨its, rv, pl, hz⟩ := I.list hk
    have e : b = a := by simpa [Sk.ad] using hb
    subst e
    exact pl.lt
  | t a =>
    obtain ⟨its, rv, ⟨o, ho, _⟩, hz⟩ := I.tuple hk
    have e : b = a := by simpa [Sk.ad] using hb
    subst e
    exact Heap.lt_size ho
  | s x => exact absurd hb (by simp [Sk.ad])
theorem pi_enumK {e : Expr} {ta : TA} {p pos tpos : Pos} {elts : List Expr} {kk : Nat} (hg : Gl X "enumerate") (hm : X.mg "enumerate" = none) (ha : PA X [e] ta) (hs : starEach [e] X.env = (false, eval e X.env) :: starEach [] X.env) :
    PI X (.Tuple elts kk tpos) (.Call (.Name "enumerate" p) [e] [] pos) (iEnumK X.K ta) := by
  refine ⟨fun pins s σ H R I h => ?_⟩
  refine Call_ (ld_blt I hg hm boot_enumerate (PyProof.Rows.callWith_type1 (thn (ha.run pos pins s σ H _ I h) fun us s1 ⟨vs, H1, I1, r1, q1⟩ => ?_) hs rfl))
  obtain ⟨k, xs, ex, hq, q⟩ := q1
  subst ex
  cases r1 with
  | cons r rr =>
    cases rr
    obtain ⟨o, HB, B, hB, hst⟩ := Sk.begins I1 hq r
    have old := Sk.old I1 hq
    refine enum_call1 B hB fun h' he hit hk => wpAny_pyIter_enum he ?_
    have I2 : Inv X pins σ H1 { s1 with heap := h' } := I1.kept (t' := s1.toks) hk
    refine ⟨s1.heap.objs.size + 1, [s1.heap.objs.size + 1, s1.heap.objs.size], _, _, H1, rfl, I2, turn_enumK k (s1.heap.objs.size + 1) s1.heap.objs.size, ⟨⟨.none, he⟩, hst _ _ hit, Nat.succ_ne_self _, fun z => ?_, fun z => ?_⟩, fun b hb => ?_, q⟩
    · exact lt_no (m := 1) (old _ z)
    · exact lt_no (m := 0) (old _ z)
    · have e' : b = s1.heap.objs.size + 1 ∨ b = s1.heap.objs.size := by simpa using hb
      have hle : s1.heap.objs.size ≤ b := by
        rcases e' with z | z
        · rw [z]; exact Nat.le_add_right _ _
        · rw [z]; exact Nat.le_refl _
      exact I1.fpOk hle (I1.hok.fresh hle)
/-- zip of two -/
def ItzK (K : PySem.W.Frag) (k k2 : Sk) : It :=
  ⟨fun i H => ∃ (xs ys : List V) (x y : V), k.h K H xs ∧ k2.h K H ys ∧ xs[i]? = some x ∧ ys[i]? = some y,
    fun i H v H' => ∃ T x y, v = .ref T ∧ H T = none ∧ (∃ o : Obj, o.dict = none ∧ H' = upd H T (.frz o (.tup [x, y]))) ∧ (∀ xs, k.h K H xs → xs[i]? = some x) ∧ ∀ ys, k2.h K H ys → ys[i]? = some y,
    fun i H => ∃ xs ys : List V, k.h K H xs ∧ k2.h K H ys ∧ i = min xs.length ys.length⟩
structure ZipKOk (k k2 : Sk) (z TI TO i1 i2 : Addr) : Prop where
  a1 : TI ≠ z
  a2 : TO ≠ z
  a3 : TI ≠ TO
  a4 : TI ≠ i1
  a5 : TI ≠ i2
  a6 : i1 ≠ i2
  a7 : z ≠ i1
  a8 : z ≠ i2
  a9 : TO ≠ i1
  a10 : TO ≠ i2
  b : ∀ c, c = z ∨ c = TO ∨ c = i1 ∨ c = i2 → c ∉ k.ad ∧ c ∉ k2.ad
theorem ZipKOk.sep {k k2 : Sk} {z TI TO i1 i2 : Addr} (S : ZipKOk k k2 z TI TO i1 i2) {fp1 fp2 : List Addr} (h1 : ∀ b, b ∈ fp1 → b = i1 ∨ b ∈ k.ad) (h2 : ∀ b, b ∈ fp2 → b = i2 ∨ b ∈ k2.ad) (m1 : i1 ∈ fp1) (m2 : i2 ∈ fp2) : ZipSep2 z TI TO i1 i2 fp1 fp2 where
  TIz := S.a1
  TOz := S.a2
  TITO := S.a3
  TIi1 := S.a4
  mem1 := m1
  zf1 := fun q => (h1 _ q).elim S.a7 (S.b z (.inl rfl)).1
  Tf1 := fun q => (h1 _ q).elim S.a9 (S.b TO (.inr (.inl rfl))).1
  TIi2 := S.a5
  mem2 := m2
  zf2 := fun q => (h2 _ q).elim S.a8 (S.b z (.inl rfl)).2
  Tf2 := fun q => (h2 _ q).elim S.a10 (S.b TO (.inr (.inl rfl))).2
  sep1_2 := fun q => (h2 _ q).elim S.a6 (S.b i1 (.inr (.inr (.inl rfl)))).2
  sep2_1 := fun q => (h1 _ q).elim (Ne.symm S.a6) (S.b i2 (.inr (.inr (.inr rfl)))).1
theorem turn_zipK {P : Program} {w : World} {K : PySem.W.Frag} {elts : List Expr} {kk : Nat} {tpos : Pos} {k k2 : Sk} {z TI TO i1 i2 : Addr} (S : ZipKOk k k2 z TI TO i1 i2) :
    Turn P w K (.Tuple elts kk tpos) (ItzK K k k2) [z, TI, TO, i1, i2] z (fun i h => IsZip h z TI TO .none ∧ IsTupOf2 h TI (.ref i1) (.ref i2) ∧ (∃ x y, IsTupOf2 h TO x y) ∧ k.it i1 i h ∧ k2.it i2 i h) where
  mem := by simp
  obj := fun i h st c hc => by
    obtain ⟨hz, hTI, ⟨x, y, hTO⟩, h1, h2⟩ := st
    have e' : c = z ∨ c = TI ∨ c = TO ∨ c = i1 ∨ c = i2 := by simpa using hc
    rcases e' with q | q | q | q | q
    · rw [q]; exact ⟨_, hz, fun v q => nomatch q⟩
    · rw [q]; exact ⟨_, hTI, fun v q => nomatch q⟩
    · rw [q]; exact ⟨_, hTO, fun v q => nomatch q⟩
    · rw [q]; exact Sk.it_obj h1
    · rw [q]; exact Sk.it_obj h2
  keep := fun i h h' st kp => by
    obtain ⟨hz, hTI, ⟨x, y, hTO⟩, h1, h2⟩ := st
    exact ⟨kp z (by simp) _ hz, kp TI (by simp) _ hTI, ⟨x, y, kp TO (by simp) _ hTO⟩, Sk.it_keep h1 fun o q => kp i1 (by simp) o q, Sk.it_keep h2 fun o q => kp i2 (by simp) o q⟩
  item := by
    intro X hP hw hK hc i pins s σ H E I hf st hg
    subst hP hw hK
    obtain ⟨hz, hTI, ⟨x0, y0, hTO⟩, h1, h2⟩ := st
    obtain ⟨xs, ys, x, y, hqx, hqy, hx, hy⟩ := hg
    obtain ⟨fp1, P1, S1, D1, st1, hP1, hS1, hf1, hm1⟩ := Sk.draws I hc hqx h1 (S.b i1 (.inr (.inr (.inl rfl)))).1
    obtain ⟨fp2, P2, S2, D2, st2, hP2, hS2, hf2, hm2⟩ := Sk.draws I hc hqy h2 (S.b i2 (.inr (.inr (.inr rfl)))).2
    have hlt1 : i < xs.length := Classical.byContradiction fun z => by rw [List.getElem?_eq_none (by omega)] at hx; cases hx
    have hlt2 : i < ys.length := Classical.byContradiction fun z => by rw [List.getElem?_eq_none (by omega)] at hy; cases hy
    have hzl : z < s.heap.objs.size := Heap.lt_size hz
    refine wpAny_pyNext_zipD2_item (S.sep hf1 hf2 hm1 hm2) D1 D2 hz hTI hTO st1 st2 hlt1 hlt2 fun u u2 h' tk pu pu2 z' TO' h1' h2' hT hsz hk => ?_
    obtain ⟨x', hx', ru⟩ := hP1 i u pu
    rw [hx] at hx'
    cases hx'
    obtain ⟨y', hy', ru2⟩ := hP2 i u2 pu2
    rw [hy] at hy'
    cases hy'
    refine ⟨_, rfl, wpAny_letOwnedTupleGo_zip (s := { s with heap := h', toks := tk }) z' fun h'' z'' sb => ?_⟩
    have hT2 : h''.get? s.heap.objs.size = some { cls := .type "tuple", data := .seq #[u, u2] } := (sb.2 _ (Nat.ne_of_gt hzl)).trans hT
    have new : ObjOk X.prog X.w (upd H s.heap.objs.size (.frz { cls := .type "tuple", data := .seq #[u, u2] } (.tup [x, y]))) h'' s.heap.objs.size (.frz { cls := .type "tuple", data := .seq #[u, u2] } (.tup [x, y])) :=
      ⟨hT2, by show 2 ≤ sizeLine; decide, [u, u2], .cons ru (.cons ru2 .nil), ⟨_, hT2, rfl, _, rfl⟩⟩
    have I1 : Inv X pins σ (upd H s.heap.objs.size (.frz { cls := .type "tuple", data := .seq #[u, u2] } (.tup [x, y]))) { s with heap := h'', toks := tk } :=
      I.turnedNew (ch := [z, TI, TO, i1, i2]) (fun c o hb q => (sb.2 c (fun q' => hb (by simp [q']))).trans (hk c o (fun q' => hb (by simp [q'])) (fun q' => hb (by simp [q'])) (fun q' => hb (by simp [q'])) (fun q' => hb (by simp [q'])) q)) hf (Nat.le_refl _) new
    refine ⟨.ref s.heap.objs.size, _, I1, rfl, ⟨_, x, y, rfl, I.hok.fresh (Nat.le_refl _), ⟨_, rfl, rfl⟩, fun l hl => by rw [Sk.inj I hl hqx]; exact hx, fun l hl => by rw [Sk.inj I hl hqy]; exact hy⟩, ⟨z'', ?_, ⟨u, u2, ?_⟩, ?_, ?_⟩, fun c hcm => ?_⟩
    · exact (sb.2 _ S.a1).trans (hk _ _ S.a1 S.a3 S.a4 S.a5 hTI)
    · exact (sb.2 _ S.a2).trans TO'
    · exact Sk.it_keep (hS1 _ _ h1') fun o q => (sb.2 _ (Ne.symm S.a7)).trans q
    · exact Sk.it_keep (hS2 _ _ h2') fun o q => (sb.2 _ (Ne.symm S.a8)).trans q
    · have hlt : c < s.heap.objs.size := by
        have e' : c = z ∨ c = TI ∨ c = TO ∨ c = i1 ∨ c = i2 := by simpa using hcm
        rcases e' with q | q | q | q | q
        · rw [q]; exact hzl
        · rw [q]; exact Heap.lt_size hTI
        · rw [q]; exact Heap.lt_size hTO
        · rw [q]; obtain ⟨_, e1, _⟩ := Sk.it_obj h1; exact Heap.lt_size e1
        · rw [q]; obtain ⟨_, e2, _⟩ := Sk.it_obj h2; exact Heap.lt_size e2
      rw [upd_ne (Nat.ne_of_lt hlt)]
      exact (hf c hcm).1
  done := by
    intro X hP hw hK hc i pins s σ H E I hf st hg
    subst hP hw hK
    obtain ⟨hz, hTI, ⟨x0, y0, hTO⟩, h1, h2⟩ := st
    obtain ⟨xs, ys, hqx, hqy, hend⟩ := hg
    obtain ⟨fp1, P1, S1, D1, st1, hP1, hS1, hf1, hm1⟩ := Sk.draws I hc hqx h1 (S.b i1 (.inr (.inr (.inl rfl)))).1
    obtain ⟨fp2, P2, S2, D2, st2, hP2, hS2, hf2, hm2⟩ := Sk.draws I hc hqy h2 (S.b i2 (.inr (.inr (.inr rfl)))).2
    exact wpAny_pyNext_zipD2_end (S.sep hf1 hf2 hm1 hm2) D1 D2 hz hTI hTO st1 st2 (by omega) (by omega) (by omega) fun h' tk hk => ⟨rfl, I.turnedL (ch := [z, TI, TO, i1, i2]) (fun c o hb q =>
      hk c o (fun q' => hb (by simp [q'])) (fun q' => hb (by simp [q'])) (fun q' => hb (by simp [q'])) (fun q' => hb (by simp [q'])) q) hf⟩
  self := fun A i s Q E st h => wpAny_pyIter_zip st.1 h
def iZipK (K : PySem.W.Frag) (ta : TA) : TI := fun σ H R => ta σ H fun vs H1 => ∃ (k k2 : Sk) (xs ys : List V), vs = [k.v, k2.v] ∧ k.h K H1 xs ∧ k2.h K H1 ys ∧ R (ItzK K k k2) H1
theorem pi_zipK {e e2 : Expr} {ta : TA} {p pos tpos : Pos} {elts : List Expr} {kk : Nat} (hg : Gl X "zip") (hm : X.mg "zip" = none) (ha : PA X [e, e2] ta)
    (hs : starEach [e, e2] X.env = (false, eval e X.env) :: starEach [e2] X.env) (hpl : (backTo pos (starEach [e2] X.env)).any (·.1) = false) :
    PI X (.Tuple elts kk tpos) (.Call (.Name "zip" p) [e, e2] [] pos) (iZipK X.K ta) := by
  refine ⟨fun pins s σ H R I h => ?_⟩
  refine Call_ (ld_blt I hg hm PyProof.Rows.boot_zip (PyProof.Rows.callWith_type1 (thn (ha.run pos pins s σ H _ I h) fun us s1 ⟨vs, H1, I1, r1, q1⟩ => ?_) hs hpl))
  obtain ⟨k, k2, xs, ys, ex, hqx, hqy, q⟩ := q1
  subst ex
  cases r1 with
  | cons r rr =>
    cases rr with
    | cons r' rr =>
      cases rr
      obtain ⟨o1, HB1, B1, hB1, hst1⟩ := Sk.begins I1 hqx r
      obtain ⟨o2, HB2, B2, hB2, hst2⟩ := Sk.begins I1 hqy r'
      have old1 := Sk.old I1 hqx
      have old2 := Sk.old I1 hqy
      refine zip_begins2 B1 B2 hB1 hB2 fun h' hz hTI hTO h1 h2 hsz hk => wpAny_pyIter_zip hz ?_
      have I2 : Inv X pins σ H1 { s1 with heap := h' } := I1.kept (t' := s1.toks) hk
      have S : ZipKOk k k2 (s1.heap.objs.size + 4) (s1.heap.objs.size + 2) (s1.heap.objs.size + 3) s1.heap.objs.size (s1.heap.objs.size + 1) := by
        refine ⟨ne_nat (by omega), ne_nat (by omega), ne_nat (by omega), ne_nat (by omega), ne_nat (by omega), ne_nat (by omega), ne_nat (by omega), ne_nat (by omega), ne_nat (by omega), ne_nat (by omega), fun c hc => ⟨fun z => ?_, fun z => ?_⟩⟩
        · have t := old1 _ z
          rcases hc with e | e | e | e <;> subst e
          · exact lt_no (m := 4) t
          · exact lt_no (m := 3) t
          · exact lt_no (m := 0) t
          · exact lt_no (m := 1) t
        · have t := old2 _ z
          rcases hc with e | e | e | e <;> subst e
          · exact lt_no (m := 4) t
          · exact lt_no (m := 3) t
          · exact lt_no (m := 0) t
          · exact lt_no (m := 1) t
      refine ⟨s1.heap.objs.size + 4, [s1.heap.objs.size + 4, s1.heap.objs.size + 2, s1.heap.objs.size + 3, s1.heap.objs.size, s1.heap.objs.size + 1], _, _, H1, rfl, I2, turn_zipK S, ⟨hz, hTI, ⟨_, _, hTO⟩, hst1 _ _ h1, hst2 _ _ h2⟩, fun c hcm => ?_, q⟩
      have hle : s1.heap.objs.size ≤ c := by
        have e' : c = s1.heap.objs.size + 4 ∨ c = s1.heap.objs.size + 2 ∨ c = s1.heap.objs.size + 3 ∨ c = s1.heap.objs.size ∨ c = s1.heap.objs.size + 1 := by simpa using hcm
        rcases e' with e | e | e | e | e <;> subst e
        · exact Nat.le_add_right _ _
        · exact Nat.le_add_right _ _
        · exact Nat.le_add_right _ _
        · exact Nat.le_refl _
        · exact Nat.le_add_right _ _
      exact I1.fpOk hle (I1.hok.fresh hle)
end
end M3
set_option Elab.async false
set_option linter.all false
set_option maxRecDepth 100000
namespace M3
open PySem PySem.Spec L2
def Sk.J (K : PySem.W.Frag) : Sk → It
  | .l a => Itl K a
  | .t a => Itt K a
  | .s x => Its x
def iSeqK (K : PySem.W.Frag) (tl : TE) : TI := fun σ H R => tl σ H fun x H1 => ∃ (k : Sk) (xs : List V), x = k.v ∧ k.h K H1 xs ∧ R (k.J K) H1
theorem pi_seqK {X : Cx} {tg l : Expr} {tl : TE} (hl : PE X l tl) : PI X tg l (iSeqK X.K tl) := by
  refine ⟨fun pins s σ H R I h => ?_⟩
  refine thn (hl.run pins s σ H _ I h) fun v s1 ⟨x, H1, I1, r1, q1⟩ => ?_
  obtain ⟨k, xs, rfl, hq, q⟩ := q1
  cases k with
  | l a =>
    cases r1
    obtain ⟨its, rv, p, hz⟩ := I1.list hq
    exact wpAny_pyIter_list p.isList (pi_one (tk := s1.toks) I1 _ (turn_list a _) ⟨_, Heap.get?_push_size _ rfl, rfl, rfl⟩ q)
  | t a =>
    cases r1
    obtain ⟨its, rv, p, hz⟩ := I1.tuple hq
    exact wpAny_pyIter_tuple (show s1.heap.IsTuple a its.toArray from p) (pi_one (tk := s1.toks) I1 _ (turn_tuple a _) ⟨_, Heap.get?_push_size _ rfl, rfl, rfl⟩ q)
  | s x =>
    obtain ⟨t, rfl⟩ := r1
    cases ha : x.cps.all (· < 128)
    · exact wpAny_pyIter_wide ha (pi_one (tk := s1.toks) I1 _ (turn_str _ x t "str_iterator" (.inr rfl)) ⟨_, Heap.get?_push_size _ rfl, rfl, rfl⟩ q)
    · exact wpAny_pyIter_ascii ha (pi_one (tk := s1.toks) I1 _ (turn_str _ x t "str_ascii_iterator" (.inl rfl)) ⟨_, Heap.get?_push_size _ rfl, rfl, rfl⟩ q)
section
variable {w : Wd} {W : WX} {A : Act} {Z Z' Z0 Z1 Z2 : Addr → Prop} {H H' H0 H1 H2 : Hp} {ρ ρ' ρ1 ρ2 : En} {σ σ' : St} {X : Cx} {own : Bool} {Q : VK} {E : Ends} {R : It → Hp → Prop}
theorem reps_chars {x : Str} (k : sOk x = true) : Reps w Z H (charsV x) (chars x) := by
  unfold charsV chars
  have go : ∀ l : List Nat, (∀ c ∈ l, c ∈ x.cps.toList) → Reps w Z H (l.map fun c => V.str ⟨#[c]⟩) (l.map fun c => PyData.str ⟨#[c]⟩) := by
    intro l
    induction l with
    | nil => exact fun _ => .nil
    | cons c r ih => exact fun h => .cons (.str _ (sOk_one k (h c List.mem_cons_self))) (ih fun d hd => h d (List.mem_cons_of_mem _ hd))
  exact go _ fun c hc => hc
theorem sk_of {v : V} {d : PyData} {l : List PyData} (r : Rep w Z H v d) (h : itemsOf d = some l) : ∃ (k : Sk) (xs : List V), v = k.v ∧ Reps w Z H xs l ∧ ∀ Z2 H2, KS Z H Z2 H2 → k.h w.K H2 xs := by
  cases r with
  | lst z sq rs =>
    cases h
    refine ⟨.l _, _, rfl, rs, fun Z2 H2 ks => ?_⟩
    rcases sq with q | ⟨o, q⟩
    · exact .inl (.inl (ks.kp _ _ (.inl z) q))
    · exact .inl (.inr ⟨o, ks.kp _ _ (.inl z) q⟩)
  | tup sq rs =>
    cases h
    exact ⟨.t _, _, rfl, rs, fun Z2 H2 ks => (sq.mv fun u h => ks.kp _ u (.inr ⟨_, sq.rd⟩) h).sq⟩
  | str x k =>
    cases h
    exact ⟨.s x, charsV x, rfl, reps_chars k, fun _ _ _ => rfl⟩
  | _ => cases h
theorem goes_seq {k : Sk} {xs : List V} {l : List PyData} (rs : Reps w Z H xs l) (hk : ∀ Z2 H2, KS Z H Z2 H2 → k.h w.K H2 xs) : Goes w Z H (k.J w.K) l := by
  have hl := rs.length
  refine ⟨fun Z2 H2 ks zd => ?_, fun i d Z2 H2 ks zd hd => ?_⟩
  · have h := hk Z2 H2 ks
    cases k with
    | l a => exact ⟨xs, h, by omega⟩
    | t a => exact ⟨xs, h, by omega⟩
    | s x =>
      have h : xs = charsV x := h
      subst h
      show x.cps.size ≤ l.length
      rw [← hl]
      simp [charsV]
  · have h := hk Z2 H2 ks
    obtain ⟨v, hv, rv⟩ := rs.get hd
    cases k with
    | l a =>
      refine ⟨⟨xs, v, h, hv⟩, fun x H3 y => ?_⟩
      obtain ⟨rfl, y⟩ := y
      have := y xs h
      rw [hv] at this
      cases this
      exact ⟨P0.refl zd, ks.rep rv⟩
    | t a =>
      refine ⟨⟨xs, v, h, hv⟩, fun x H3 y => ?_⟩
      obtain ⟨rfl, y⟩ := y
      have := y xs h
      rw [hv] at this
      cases this
      exact ⟨P0.refl zd, ks.rep rv⟩
    | s x =>
      have h : xs = charsV x := h
      subst h
      have hi : i < x.cps.size := Classical.byContradiction fun z => by rw [List.getElem?_eq_none (by simp [charsV]; omega)] at hv; cases hv
      refine ⟨hi, fun u H3 y => ?_⟩
      obtain ⟨rfl, c, hc, rfl⟩ := y
      have e : (charsV x)[i]? = some (.str ⟨#[c]⟩) := by simp [charsV, hc]
      rw [hv] at e
      cases e
      exact ⟨P0.refl zd, ks.rep rv⟩
theorem new_pair {a b : V} {d e : PyData} {T : Addr} {o : Obj} (ho : o.dict = none) (zd : ∀ a, Z a → H a ≠ none) (hT : H T = none) (r1 : Rep w Z H a d) (r2 : Rep w Z H b e) : P0 Z H Z (upd H T (.frz o (.tup [a, b]))) ∧ Rep w Z (upd H T (.frz o (.tup [a, b]))) (.ref T) (.tuple [d, e]) := by
  have p0 : P0 Z H Z (upd H T (.frz o (.tup [a, b]))) := P0.newT zd hT
  exact ⟨p0, .tup ⟨o, upd_same, ho⟩ (.cons (p0.rep r1) (.cons (p0.rep r2) .nil))⟩
theorem goes_enum {k : Sk} {xs : List V} {l : List PyData} (rs : Reps w Z H xs l) (hk : ∀ Z2 H2, KS Z H Z2 H2 → k.h w.K H2 xs) : Goes w Z H (IteK w.K k) (l.zipIdx.map fun p => .tuple [.int p.2, p.1]) := by
  have hl := rs.length
  refine ⟨fun Z2 H2 ks zd => ⟨xs, hk Z2 H2 ks, by simp [hl]⟩, fun i d Z2 H2 ks zd hd => ?_⟩
  have h := hk Z2 H2 ks
  rw [List.getElem?_map, List.getElem?_zipIdx] at hd
  cases e : l[i]? with
  | none => rw [e] at hd; cases hd
  | some c =>
    rw [e] at hd
    simp only [Option.map_some, Option.some.injEq] at hd
    subst hd
    obtain ⟨v, hv, rv⟩ := rs.get e
    refine ⟨⟨xs, v, h, hv⟩, fun u H3 y => ?_⟩
    obtain ⟨T, x, rfl, hT, ⟨o, ho, rfl⟩, y⟩ := y
    have := y xs h
    rw [hv] at this
    cases this
    have := new_pair ho zd hT (.int (i : Int)) (ks.rep rv)
    simpa using this
theorem goes_zip {k k2 : Sk} {xs ys : List V} {l m : List PyData} (rs : Reps w Z H xs l) (hk : ∀ Z2 H2, KS Z H Z2 H2 → k.h w.K H2 xs) (rs2 : Reps w Z H ys m) (hk2 : ∀ Z2 H2, KS Z H Z2 H2 → k2.h w.K H2 ys) :
    Goes w Z H (ItzK w.K k k2) ((l.zip m).map fun p => .tuple [p.1, p.2]) := by
  have hl := rs.length
  have hl2 := rs2.length
  refine ⟨fun Z2 H2 ks zd => ⟨xs, ys, hk Z2 H2 ks, hk2 Z2 H2 ks, by simp [hl, hl2]⟩, fun i d Z2 H2 ks zd hd => ?_⟩
  have h := hk Z2 H2 ks
  have h2 := hk2 Z2 H2 ks
  rw [List.getElem?_map] at hd
  cases e : (l.zip m)[i]? with
  | none => rw [e] at hd; cases hd
  | some c =>
    rw [e] at hd
    simp only [Option.map_some, Option.some.injEq] at hd
    subst hd
    obtain ⟨e1, e2⟩ := List.getElem?_zip_eq_some.mp e
    obtain ⟨v, hv, rv⟩ := rs.get e1
    obtain ⟨v2, hv2, rv2⟩ := rs2.get e2
    refine ⟨⟨xs, ys, v, v2, h, h2, hv, hv2⟩, fun u H3 y => ?_⟩
    obtain ⟨T, x, x2, rfl, hT, ⟨o, ho, rfl⟩, y, y2⟩ := y
    have := y xs h
    rw [hv] at this
    cases this
    have := y2 ys h2
    rw [hv2] at this
    cases this
    exact new_pair ho zd hT (ks.rep rv) (ks.rep rv2)
theorem goes_range {lo : Int} {n : Nat} : Goes w Z H (Itr lo n) ((List.range n).map fun (k : Nat) => PyData.int (lo + (k : Int))) := by
  refine ⟨fun Z2 H2 ks zd => by show n ≤ _; simp, fun i d Z2 H2 ks zd hd => ?_⟩
  rw [List.getElem?_map] at hd
  by_cases hi : i < n
  · rw [List.getElem?_range hi] at hd
    cases hd
    refine ⟨hi, fun x H3 y => ?_⟩
    obtain ⟨rfl, rfl⟩ := y
    exact ⟨P0.refl zd, .int _⟩
  · rw [List.getElem?_eq_none (by simpa using hi)] at hd
    cases hd
/-- the sources -/
theorem src_ok {k : SK} {os : List Opd} (p : Post w W A Z H ρ σ (src k os ρ) fun l Z' H' _ => ∀ J, Goes w Z' H' J l → R J H') (s : SR w A Z H ρ σ) : ∃ ds l, rslvs ρ os = some ds ∧ srcItems k ds = some l ∧ ∀ J, Goes w Z H J l → R J H := by
  unfold src at p
  cases e : rslvs ρ os with
  | none => rw [e] at p; exact p.elim
  | some ds =>
    rw [e] at p
    dsimp only at p
    cases e2 : srcItems k ds with
    | none => rw [e2] at p; exact p.elim
    | some l =>
      rw [e2] at p
      exact ⟨ds, l, rfl, e2, p Z H XS.refl s⟩
theorem opd_val {e : IE} (h : isT e = false) (m : M PyData) : opd e m = bnd m fun d => ret (.val d) := by
  cases e <;> first | rfl | cases h
theorem seq_src {P : Ph} {e : IE} (he : isT e = false) (h : tSrc w W (bnd (dens P [e]) (src .seq)) σ H R) : iSeqK w.K (tD w W (den P e)) σ H R := by
  obtain ⟨A, Z, ρ, s, p⟩ := h
  have p1 := dens_cons p.bnd
  rw [opd_val he] at p1
  refine ⟨A, Z, ρ, s, p1.bnd.imp fun d Z1 H1 ρ1 x1 s1 ⟨_, _, k⟩ v r => ?_⟩
  obtain ⟨_, _, k⟩ := k Z1 H1 XS.refl s1
  obtain ⟨_, _, k⟩ := k Z1 H1 XS.refl s1
  obtain ⟨ds, l, e1, e2, k⟩ := src_ok k s1
  have e1 : some [d] = some ds := e1
  cases e1
  obtain ⟨sk, xs, rfl, rs, hk⟩ := sk_of r (show itemsOf d = some l from e2)
  exact ⟨sk, xs, rfl, hk Z1 H1 KS.refl, k _ (goes_seq rs hk)⟩
theorem enum_src {P : Ph} {e : IE} (he : isT e = false) (h : tSrc w W (bnd (dens P [e]) (src .enum)) σ H R) : iEnumK w.K (tCons (tD w W (den P e)) tNil) σ H R := by
  obtain ⟨A, Z, ρ, s, p⟩ := h
  have p1 := dens_cons p.bnd
  rw [opd_val he] at p1
  refine ⟨A, Z, ρ, s, p1.bnd.imp fun d Z1 H1 ρ1 x1 s1 ⟨_, _, k⟩ v r => ?_⟩
  obtain ⟨_, _, k⟩ := k Z1 H1 XS.refl s1
  obtain ⟨_, _, k⟩ := k Z1 H1 XS.refl s1
  obtain ⟨ds, l, e1, e2, k⟩ := src_ok k s1
  have e1 : some [d] = some ds := e1
  cases e1
  obtain ⟨l', e3, rfl⟩ := map_some (show (itemsOf d).map (fun l => l.zipIdx.map fun p => PyData.tuple [.int p.2, p.1]) = some l from e2)
  obtain ⟨sk, xs, rfl, rs, hk⟩ := sk_of r e3
  exact ⟨sk, xs, rfl, hk Z1 H1 KS.refl, k _ (goes_enum rs hk)⟩
theorem zip_src {P : Ph} {e f : IE} (he : isT e = false) (hf : isT f = false) (h : tSrc w W (bnd (dens P [e, f]) (src .zip)) σ H R) : iZipK w.K (tCons (tD w W (den P e)) (tCons (tD w W (den P f)) tNil)) σ H R := by
  obtain ⟨A, Z, ρ, s, p⟩ := h
  have p1 := dens_cons p.bnd
  rw [opd_val he] at p1
  refine ⟨A, Z, ρ, s, p1.bnd.imp fun d Z1 H1 ρ1 x1 s1 ⟨_, _, k⟩ v r => ?_⟩
  obtain ⟨_, _, k⟩ := k Z1 H1 XS.refl s1
  have p2 := dens_cons k
  rw [opd_val hf] at p2
  refine ⟨A, Z1, ρ1, s1, p2.bnd.imp fun d2 Z2 H2 ρ2 x2 s2 ⟨_, _, k⟩ v2 r2 => ?_⟩
  obtain ⟨_, _, k⟩ := k Z2 H2 XS.refl s2
  obtain ⟨_, _, k⟩ := k Z2 H2 XS.refl s2
  obtain ⟨ds, l, e1, e2, k⟩ := src_ok k s2
  have e1 : some [d, d2] = some ds := e1
  cases e1
  have e2 : ((itemsOf d).bind fun l => (itemsOf d2).map fun m => (l.zip m).map fun p => PyData.tuple [p.1, p.2]) = some l := e2
  cases q1 : itemsOf d with
  | none => rw [q1] at e2; cases e2
  | some l1 =>
    rw [q1] at e2
    obtain ⟨l2, e4, rfl⟩ := map_some (show (itemsOf d2).map (fun m => (l1.zip m).map fun p => PyData.tuple [p.1, p.2]) = some l from e2)
    obtain ⟨sk, xs, rfl, rs, hk⟩ := sk_of (s1.rep x2 r) q1
    obtain ⟨sk2, ys, rfl, rs2, hk2⟩ := sk_of r2 e4
    exact ⟨sk, sk2, xs, ys, rfl, hk Z2 H2 KS.refl, hk2 Z2 H2 KS.refl, k _ (goes_zip rs hk rs2 hk2)⟩
theorem rng1_src {P : Ph} {e : IE} (h : tSrc w W (bnd (dens P [e]) (src .rng1)) σ H R) : iRng1 (tDA w W (dens P [e])) σ H R := by
  obtain ⟨A, Z, ρ, s, p⟩ := h
  refine ⟨A, Z, ρ, s, p.bnd.imp fun os Z1 H1 ρ1 x1 s1 ⟨_, _, k⟩ vs r => ?_⟩
  obtain ⟨ds, l, e1, e2, k⟩ := src_ok k s1
  match ds, e1, e2 with
  | [.int j], e1, e2 =>
    have e2 : (if decide (j ≤ 100000) && decide (-100000 ≤ j) then some ((List.range j.toNat).map fun (k : Nat) => PyData.int (k : Int)) else none) = some l := e2
    by_cases c : (decide (j ≤ 100000) && decide (-100000 ≤ j)) = true
    · rw [if_pos c] at e2
      cases e2
      obtain ⟨c1, c2⟩ := Bool.and_eq_true_iff.mp c
      have c1 := of_decide_eq_true c1
      have c2 := of_decide_eq_true c2
      obtain ⟨x, rfl, rx⟩ := (r.rslvs s1 e1).one
      have := rx.int
      subst this
      refine ⟨j, rfl, by omega, by omega, k _ ?_⟩
      have g := goes_range (w := w) (Z := Z1) (H := H1) (lo := 0) (n := j.toNat)
      simpa using g
    · rw [if_neg c] at e2
      cases e2
theorem rng2_src {P : Ph} {e f : IE} (h : tSrc w W (bnd (dens P [e, f]) (src .rng2)) σ H R) : iRng2 (tDA w W (dens P [e, f])) σ H R := by
  obtain ⟨A, Z, ρ, s, p⟩ := h
  refine ⟨A, Z, ρ, s, p.bnd.imp fun os Z1 H1 ρ1 x1 s1 ⟨_, _, k⟩ vs r => ?_⟩
  obtain ⟨ds, l, e1, e2, k⟩ := src_ok k s1
  match ds, e1, e2 with
  | [.int i, .int j], e1, e2 =>
    have e2 : (if decide (j ≤ 100000) && decide (-100000 ≤ i) && decide (-100000 ≤ j) && decide (i ≤ 100000) then some ((List.range (j - i).toNat).map fun (k : Nat) => PyData.int (i + (k : Int))) else none) = some l := e2
    by_cases c : (decide (j ≤ 100000) && decide (-100000 ≤ i) && decide (-100000 ≤ j) && decide (i ≤ 100000)) = true
    · rw [if_pos c] at e2
      cases e2
      obtain ⟨c, c4⟩ := Bool.and_eq_true_iff.mp c
      obtain ⟨c, c3⟩ := Bool.and_eq_true_iff.mp c
      obtain ⟨c1, c2⟩ := Bool.and_eq_true_iff.mp c
      have c1 := of_decide_eq_true c1
      have c2 := of_decide_eq_true c2
      have c3 := of_decide_eq_true c3
      have c4 := of_decide_eq_true c4
      obtain ⟨x, y, rfl, rx, ry⟩ := (r.rslvs s1 e1).two
      have := rx.int
      subst this
      have := ry.int
      subst this
      exact ⟨i, j, rfl, ⟨by omega, by omega, by omega, by omega⟩, k _ goes_range⟩
    · rw [if_neg c] at e2
      cases e2
end
end M3
set_option Elab.async false
set_option linter.all false
set_option maxRecDepth 100000
/-! F17: what is looked at in the syntax, and what each form means. -/
namespace M3
open PySem PySem.Spec L2
open PyProof.Rows hiding St
def isStar : Expr → Bool
  | .Starred _ _ => true
  | _ => false
def isSlice : Expr → Bool
  | .Slice _ _ _ _ => true
  | _ => false
def notSetE : Expr → Bool
  | .Set _ _ _ => false
  | _ => true
def isComp : Expr → Bool
  | .ListComp _ _ _ _ => true
  | .SetComp _ _ _ _ => true
  | .DictComp _ _ _ _ _ => true
  | _ => false
/-- its test is its value's truth -/
def plainT : Expr → Bool
  | .UnaryOp op _ _ => (match op with | .Not => false | _ => true)
  | .BoolOp _ _ _ => false
  | .IfExp _ _ _ _ => false
  | .Compare _ _ _ _ => false
  | _ => true
def attrOk : Expr → Bool
  | .Call (.Name _ _) [] [] _ => false
  | _ => true
theorem star_cons {e : Expr} {es : List Expr} {env : Env} (h : isStar e = false) : starEach (e :: es) env = (false, eval e env) :: starEach es env := by
  cases e <;> first | rfl | cases h
theorem star_any {env : Env} {pos : Pos} : ∀ {es : List Expr}, (∀ e ∈ es, isStar e = false) → (backTo pos (starEach es env)).any (·.1) = false
  | [], _ => rfl
  | e :: es, h => by
    rw [star_cons (h e List.mem_cons_self)]
    have := star_any (env := env) (pos := pos) (es := es) fun d hd => h d (List.mem_cons_of_mem _ hd)
    show (false || (backTo pos (starEach es env)).any (·.1)) = false
    rw [this]
    rfl
theorem star_all {env : Env} {pos : Pos} : ∀ {es : List Expr}, (∀ e ∈ es, isStar e = false) → (backTo pos (starEach es env)).all (fun x => !x.1) = true
  | [], _ => rfl
  | e :: es, h => by
    rw [star_cons (h e List.mem_cons_self)]
    have := star_all (env := env) (pos := pos) (es := es) fun d hd => h d (List.mem_cons_of_mem _ hd)
    show (true && (backTo pos (starEach es env)).all (fun x => !x.1)) = true
    rw [this]
    rfl
theorem plain_ix {b : Expr} (h : isSlice b = false) : PlainIx b := fun o i => by
  cases b <;> first | rfl | cases h
theorem plain_true {e : Expr} {env : Env} (h : plainT e = true) : ∀ whole, isTrue e env whole = (do let v ← whole; standAt e.pos; holding [v] (truthy v)) := fun whole => by
  cases e with
  | UnaryOp op a p => cases op <;> first | rfl | cases h
  | _ => first | rfl | cases h
theorem behind_no {op : CmpOp} {b : Expr} (h : notSetE b = true) : behindInMarks op b = false := by
  cases b <;> first | rfl | cases h
theorem folded_no {e : Expr} {env : Env} (h : notSetE e = true) : ∀ x, foldedSetIterable e env x = pure x := fun x => by
  cases e <;> first | rfl | cases h
theorem attr_no {o : Expr} {name : Str} {env : Env} (h : attrOk o = true) : attributeBase o name env (eval o env) = eval o env := by
  cases o with
  | Call f args kws p =>
    cases f with
    | Name x q =>
      cases args with
      | nil =>
        cases kws with
        | nil => cases h
        | cons _ _ => rfl
      | cons _ _ => rfl
    | _ => rfl
  | _ => rfl
theorem sw_no {value : Expr} {target : Option Expr} {line : Nat} {env : Env} (h : isComp value = false) : swapsWith value target line env = pure false := by
  cases value <;> first | rfl | cases h
/-- a tuple's methods -/
theorem ty_tuple {X : Cx} : TyOk X "tuple" (fun x H => ∃ a xs, x = V.ref a ∧ TpR H a xs) := by
  intro pins σ H s x v I r h
  obtain ⟨a, xs, rfl, o, e, d⟩ := h
  cases r
  obtain ⟨e1, _, its, _, o2, e2, hc, _⟩ := I.hok a _ e
  rw [e1] at e2
  cases e2
  refine ⟨⟨o, e1, hc⟩, fun b hb => ?_⟩
  cases hb
  exact ⟨o, e1, d⟩
theorem ty_list {X : Cx} : TyOk X "list" (fun x H => ∃ a xs, x = V.ref a ∧ Rd H a (.lst xs)) := by
  intro pins σ H s x v I r h
  obtain ⟨a, xs, rfl, e⟩ := h
  cases r
  obtain ⟨its, n, _, _, _, e1⟩ := Rd.lstM I e
  refine ⟨⟨_, e1, rfl⟩, fun b hb => ?_⟩
  cases hb
  exact ⟨_, e1, rfl⟩
theorem ty_str {X : Cx} : TyOk X "str" (fun x H => ∃ y, x = V.str y) := by
  intro pins σ H s x v I r h
  obtain ⟨y, rfl⟩ := h
  obtain ⟨t, rfl⟩ := r
  exact ⟨typeIs_str s y t, fun _ e => nomatch e⟩
/-! ### the context -/
/-- where a def stands: a global; a method, a property, the maker of a class -/
inductive MK where
  | meth | prop | init
inductive At where
  | fn (x : Str)
  | me (c m : Str) (k : MK)
structure CC where
  N : List Str
  sc : Scope
  lc : Scope
  fs : List (At × List Str × Fn)
  cs : List (Str × PyData)
  cl : List (Str × List Str)
def AtOk (K : PySem.W.Frag) (mg : Str → Option Value) : At → Addr → Prop
  | .fn x, fa => mg x = some (.ref fa) ∧ PySem.W.keepIn K (.ref fa) = true
  | .me c m .meth, fa => ∃ Ca, mg c = some (.ref Ca) ∧ Cls K Ca ∧ Meth K Ca m fa
  | .me c m .prop, fa => ∃ Ca p, mg c = some (.ref Ca) ∧ Cls K Ca ∧ PropOf K Ca m p fa
  | .me c _ .init, fa => ∃ Ca, mg c = some (.ref Ca) ∧ Cls K Ca ∧ Mk K Ca fa
def ClOk (K : PySem.W.Frag) (mg : Str → Option Value) (p : Str × List Str) : Prop := ∃ Ca, mg p.1 = some (.ref Ca) ∧ Cls K Ca ∧ (∀ x ∈ p.2, NoAttr K Ca x) ∧ ClsX K Ca
/-- two classes, beside each other -/
def ClOk2 (K : PySem.W.Frag) (mg : Str → Option Value) (c c' : Str) : Prop := ∃ Ca Cb, mg c = some (.ref Ca) ∧ mg c' = some (.ref Cb) ∧ PySem.W.kitOne K (.ref Ca) (.ref Cb) = some (decide (c = c'))
def visB (C : CC) (x : Str) : Bool := match C.sc.names.lookup x with
  | some .local => true
  | some .cell => true
  | some .free => true
  | _ => false
def relS (scope sc : Scope) : Scope :=
  { scope with names := scope.names.map fun (n, k) => if (k == .free && sc.kind == .function && sc.names.lookup n == some .cell) then (n, .cell) else (n, k) }
/-- within a comprehension -/
def CC.inn (C : CC) (scope : Scope) : CC := { C with sc := relS scope C.sc, lc := scope }
def locB (C : CC) (x : Str) : Bool := match C.lc.names.lookup x with
  | some .local => true
  | some .cell => true
  | _ => false
def glB (C : CC) (x : Str) : Bool := match C.sc.names.lookup x with
  | some .globalImplicit => true
  | _ => false
def bltNames : List Str := ["len", "abs", "int", "bool", "str", "repr", "tuple", "list", "sorted", "all", "any", "sum", "max", "min", "divmod", "isinstance", "range", "enumerate", "zip", "set"]
structure CxOk (X : Cx) (C : CC) (P : Ph) : Prop where
  xa : XA X
  n : X.N = C.N
  nd : C.N.Nodup
  sc : X.env.scope = C.sc
  fn : ∀ x, locB C x = true → L2.Loc X.env.scope x ∧ (X.fn x = true ∨ X.env.scope.names.lookup x = some .local)
  blt : ∀ x ∈ bltNames, X.mg x = none
  fs : ∀ (i : Nat) (x : At) (ps : List Str) (F : Fn), C.fs[i]? = some (x, ps, F) → ∃ fa fd k, AtOk X.K X.mg x fa ∧
    (F.star = false → FOk X.prog X.w X.K X.mg X.base CX0 k fa fd ps (spF (wdX X) F (P i)) ∧ ∀ n, n = ps.length ∨ n ∈ F.kb → KB X.K fd ps n) ∧ (F.star = true → FSt X.prog X.w X.K X.mg X.base CX0 k fa (spS (wdX X) F (P i))) ∧ RoomB k X.A ∧ one F.ps = true
  cl : ∀ p ∈ C.cl, ClOk X.K X.mg p
  cl2 : ∀ p ∈ C.cl, ∀ q ∈ C.cl, ClOk2 X.K X.mg p.1 q.1
  cs : ∀ p ∈ C.cs, ∃ u v, X.mg p.1 = some u ∧ RelV v u ∧ ∀ Z H, Rep (wdX X) Z H v p.2
section
variable {X : Cx} {C : CC} {P : Ph}
theorem CxOk.vis (ok : CxOk X C P) {x : Str} (h : visB C x = true) : Vis X.env.scope x := by
  rw [ok.sc]
  unfold visB at h
  unfold Vis
  cases e : C.sc.names.lookup x with
  | none => rw [e] at h; cases h
  | some k => rw [e] at h; cases k <;> first | exact .inl rfl | exact .inr (.inl rfl) | exact .inr (.inr rfl) | cases h
theorem CxOk.loc (ok : CxOk X C P) {x : Str} (h : locB C x = true) : L2.Loc X.env.scope x := (ok.fn x h).1
theorem CxOk.gl (ok : CxOk X C P) {x : Str} (h : glB C x = true) : Gl X x := by
  show X.env.scope.names.lookup x = some .globalImplicit
  rw [ok.sc]
  unfold glB at h
  cases e : C.sc.names.lookup x with
  | none => rw [e] at h; cases h
  | some k => rw [e] at h; cases k <;> first | rfl | cases h
/-- names -/
def isVar (C : CC) (i : Nat) : Expr → Bool
  | .Name x _ => decide (C.N[i]? = some x) && visB C x && !(x == ("__debug__" : Str)) && !(x == ("__classdict__" : Str))
  | _ => false
theorem var_pe (ok : CxOk X C P) {i : Nat} {e : Expr} (h : isVar C i e = true) : PE X e (tVar i) ∧ plainT e = true ∧ isStar e = false := by
  cases e with
  | Name x p =>
    have h : (decide (C.N[i]? = some x) && visB C x && !(x == ("__debug__" : Str)) && !(x == ("__classdict__" : Str))) = true := h
    obtain ⟨h, h4⟩ := and_true h
    obtain ⟨h, h3⟩ := and_true h
    obtain ⟨h1, h2⟩ := and_true h
    refine ⟨pe_var (by rw [ok.n]; exact of_decide_eq_true h1) (ok.vis h2) (by simpa using h3) (by simpa using h4), rfl, rfl⟩
  | _ => cases h
def isLocT (C : CC) (i : Nat) : Expr → Bool
  | .Name x _ => decide (C.N[i]? = some x) && locB C x
  | _ => false
theorem loc_pg (ok : CxOk X C P) {i : Nat} {e : Expr} (h : isLocT C i e = true) : PG X e (gName i) := by
  cases e with
  | Name x p =>
    have h : (decide (C.N[i]? = some x) && locB C x) = true := h
    obtain ⟨h1, h2⟩ := and_true h
    exact pg_name (by rw [ok.n]; exact ok.nd) (by rw [ok.n]; exact of_decide_eq_true h1) (ok.loc h2) (ok.fn x h2).2
  | _ => cases h
/-! ### operands all -/
inductive AllO (X : Cx) (P : Ph) : List IE → List Expr → Prop
  | nil : AllO X P [] []
  | cons {i : IE} {is : List IE} {e : Expr} {es : List Expr} : PE X e (tDO (wdX X) WF (opd i (den P i))) → isStar e = false → AllO X P is es → AllO X P (i :: is) (e :: es)
theorem AllO.pa {is : List IE} {es : List Expr} (h : AllO X P is es) : PA X es (tDA (wdX X) WF (dens P is)) := by
  induction h with
  | nil => exact PA.imp pa_nil fun σ H Q q => dens_nil q
  | cons h1 h2 _ ih => exact PA.imp (pa_cons h1 ih (star_cons h2)) fun σ H Q q => dens_read q
theorem AllO.star {is : List IE} {es : List Expr} (h : AllO X P is es) : ∀ e ∈ es, isStar e = false := by
  induction h with
  | nil => exact fun _ h => nomatch h
  | cons _ h2 _ ih => exact fun d hd => (List.mem_cons.mp hd).elim (fun q => q ▸ h2) (ih d)
inductive AllV (X : Cx) (P : Ph) : List IE → List Expr → Prop
  | nil : AllV X P [] []
  | cons {i : IE} {is : List IE} {e : Expr} {es : List Expr} : PE X e (tD (wdX X) WF (den P i)) → PT X e (tDT (wdX X) WF (tru (den P i))) → isStar e = false → AllV X P is es → AllV X P (i :: is) (e :: es)
theorem AllV.pa {is : List IE} {es : List Expr} (h : AllV X P is es) : PA X es (tDAll (wdX X) WF (denAll P is)) := by
  induction h with
  | nil => exact PA.imp pa_nil fun σ H Q q => denAll_nil q
  | cons h1 _ h2 _ ih => exact PA.imp (pa_cons h1 ih (star_cons h2)) fun σ H Q q => denAll_read q
/-! ### operations -/
def binOf : Op → Option Operator
  | .add => some .Add
  | .sub => some .Sub
  | .mul => some .Mult
  | .fdiv => some .FloorDiv
  | .mod => some .Mod
  | .pow => some .Pow
  | .shl => some .LShift
  | .shr => some .RShift
  | .band => some .BitAnd
  | .bor => some .BitOr
  | _ => none
theorem bin_rule {o : Op} {op : Operator} (h : binOf o = some op) : OpR X (binaryOp op) (r2Ap (wdX X) o) := by
  cases o <;> cases h
  · exact R_add
  · exact R_sub
  · exact R_mul
  · exact R_fdiv
  · exact R_mod
  · exact R_pow
  · exact R_shl
  · exact R_shr
  · exact R_band
  · exact R_bor
def unOf : Op → Option UnaryOp
  | .neg => some .USub
  | .inv => some .Invert
  | _ => none
theorem un_rule {o : Op} {op : UnaryOp} (h : unOf o = some op) : UnR X (unaryOp op) (r1Ap (wdX X) o) ∧ op ≠ .Not := by
  cases o <;> cases h
  · exact ⟨R_neg, fun z => nomatch z⟩
  · exact ⟨R_inv, fun z => nomatch z⟩
def cmpOf : Op → Option CmpOp
  | .eq => some .Eq
  | .ne => some .NotEq
  | .lt => some .Lt
  | .le => some .LtE
  | .gt => some .Gt
  | .ge => some .GtE
  | .isin => some .In
  | .notin => some .NotIn
  | _ => none
theorem cmp_rule (xa : XA X) {o : Op} {op : CmpOp} (h : cmpOf o = some op) : OpR X (compareOp op) (r2Ap (wdX X) o) ∧ isB o = true := by
  cases o <;> cases h
  · exact ⟨R_eq xa, rfl⟩
  · exact ⟨R_ne xa, rfl⟩
  · exact ⟨R_lt xa, rfl⟩
  · exact ⟨R_le xa, rfl⟩
  · exact ⟨R_gt xa, rfl⟩
  · exact ⟨R_ge xa, rfl⟩
  · exact ⟨R_isin xa, rfl⟩
  · exact ⟨R_notin xa, rfl⟩
/-- builtin functions, builtin types -/
def bfOf : Op → Option (Str × String × Nat)
  | .len => some ("len", "len", 1)
  | .abs => some ("abs", "abs", 1)
  | .repr => some ("repr", "repr", 1)
  | .sorted => some ("sorted", "sorted", 1)
  | .all => some ("all", "all", 1)
  | .any => some ("any", "any", 1)
  | .sum => some ("sum", "sum", 1)
  | .max2 => some ("max", "max", 2)
  | .min2 => some ("min", "min", 2)
  | .divmod => some ("divmod", "divmod", 2)
  | _ => none
def btOf : Op → Option (Str × String)
  | .int => some ("int", "int")
  | .bool => some ("bool", "bool")
  | .str => some ("str", "str")
  | .tuple => some ("tuple", "tuple")
  | .list => some ("list", "list")
  | _ => none
theorem bf_rule (xa : XA X) {o : Op} {x : Str} {id : String} {n : Nat} (h : bfOf o = some (x, id, n)) : CallR X (.builtin id) (rAp (wdX X) o) ∧ bootBuiltins x = some (.builtin id) ∧ x ∈ bltNames := by
  cases o <;> cases h
  · exact ⟨R_len, boot_len, by decide⟩
  · exact ⟨R_abs, boot_abs, by decide⟩
  · exact ⟨R_repr xa, boot_repr, by decide⟩
  · exact ⟨R_sorted xa, boot_sorted, by decide⟩
  · exact ⟨R_all xa, boot_all, by decide⟩
  · exact ⟨R_any xa, boot_any, by decide⟩
  · exact ⟨R_sum xa, boot_sum, by decide⟩
  · exact ⟨R_max2 xa, boot_max, by decide⟩
  · exact ⟨R_min2 xa, boot_min, by decide⟩
  · exact ⟨R_divmod, boot_divmod, by decide⟩
theorem bt_rule {o : Op} {x : Str} {id : String} (h : btOf o = some (x, id)) : CallR X (.type id) (rAp (wdX X) o) ∧ bootBuiltins x = some (.type id) ∧ x ∈ bltNames := by
  cases o <;> cases h
  · exact ⟨R_int, boot_int, by decide⟩
  · exact ⟨R_bool, boot_bool, by decide⟩
  · exact ⟨R_str, boot_str, by decide⟩
  · exact ⟨R_tuple, boot_tuple, by decide⟩
  · exact ⟨R_list, boot_list, by decide⟩
theorem blt_ne {x : Str} (h : x ∈ bltNames) : x ≠ "__name__" ∧ (x == ("__debug__" : Str)) = false := by
  have go : (bltNames.all fun x => decide (x ≠ "__name__") && !(x == ("__debug__" : Str))) = true := by decide +kernel
  have q := List.all_eq_true.mp go x h
  obtain ⟨q1, q2⟩ := and_true q
  exact ⟨of_decide_eq_true q1, by simpa using q2⟩
def isiName : Nat → Str
  | 0 => "str"
  | 1 => "int"
  | 2 => "bool"
  | 3 => "tuple"
  | _ => "list"
def isNoneC : Expr → Bool
  | .Constant .none _ _ => true
  | _ => false
def nonA (o : Op) (op : CmpOp) (a b : Expr) : Option (List Expr) := match o, op with
  | .isN, .Is => if isNoneC b then some [a] else none
  | .notN, .IsNot => if isNoneC b then some [a] else none
  | _, _ => none
def isiA (C : CC) (o : Op) (x : Str) (args : List Expr) : Option (List Expr) := match o, args with
  | .isi t, [a, .Name y _] => if decide (t < 5) && x == "isinstance" && y == isiName t && glB C x && glB C y then some [a] else none
  | _, _ => none
def nestA (C : CC) (o : Op) (x : Str) (args : List Expr) : Option (List Expr) := match o, args with
  | .setlen, [.Call (.Name y _) [a] [] _] => if x == "len" && y == "set" && glB C x && glB C y then some [a] else none
  | .rangeL, [.Call (.Name y _) [a] [] _] => if x == "list" && y == "range" && glB C x && glB C y then some [a] else none
  | _, _ => none
def bltA (C : CC) (o : Op) (x : Str) (args : List Expr) : Option (List Expr) := match bfOf o with
  | some (y, _, n) => if x == y && args.length == n && glB C x && !args.isEmpty then some args else none
  | none => (match btOf o with
    | some (y, _) => if x == y && args.length == 1 && glB C x then some args else none
    | none => none)
def isRev : Expr → Bool
  | .Slice none none (some (.UnaryOp .USub (.Constant (.int 1) _ _) _)) _ => true
  | _ => false
theorem isRev_eq {b : Expr} (h : isRev b = true) : ∃ k p1 p2 p3, b = .Slice none none (some (.UnaryOp .USub (.Constant (.int 1) k p1) p2)) p3 := by
  unfold isRev at h
  split at h
  · exact ⟨_, _, _, _, rfl⟩
  · cases h
/-- the arguments of an operation, as the syntax has it -/
def opArgs (C : CC) (o : Op) : Expr → Option (List Expr)
  | .BinOp l op r _ => if binOf o == some op then some [l, r] else none
  | .UnaryOp op a _ => if unOf o == some op then some [a] else none
  | .Compare a [op] [b] _ => if cmpOf o == some op && notSetE b then some [a, b] else nonA o op a b
  | .Subscript a b _ => (match o with | .ix => if !isSlice b then some [a, b] else none | .rev => if isRev b then some [a] else none | _ => none)
  | .Call (.Name x _) args [] _ => (match isiA C o x args with
      | some r => some r
      | none => (match nestA C o x args with
        | some r => some r
        | none => bltA C o x args))
  | _ => none
end
end M3
set_option Elab.async false
set_option linter.all false
set_option maxRecDepth 100000
namespace M3
open PySem PySem.Spec L2
open PyProof.Rows hiding St
section
variable {X : Cx} {C : CC} {P : Ph}
/-- a value and a test -/
def Both (X : Cx) (e : Expr) (F : M PyData) : Prop := PE X e (tD (wdX X) WF F) ∧ PT X e (tDT (wdX X) WF (tru F))
theorem both_plain {e : Expr} {F : M PyData} (h : PE X e (tD (wdX X) WF F)) (hp : plainT e = true) : Both X e F := ⟨h, PT.imp (pt_truth h (plain_true hp)) fun σ H Q q => tru_read q⟩
theorem tD_bool {w : Wd} {W : WX} {F : M PyData} (hb : ∀ ρ d ρ', F ρ = .ok d ρ' → ∃ k, d = .bool k) {σ : St} {H : Hp} {Q : Bool → Hp → Prop} (h : tDT w W (tru F) σ H Q) : tD w W F σ H fun x H' => ∃ k, x = .bl k ∧ Q k H' := by
  obtain ⟨A, Z, ρ, s, p⟩ := h
  refine ⟨A, Z, ρ, s, ?_⟩
  unfold tru M3.bnd at p
  cases e : F ρ with
  | stuck => rw [e] at p; exact p
  | exc x r => rw [e] at p; exact p
  | ok d ρ1 =>
    rw [e] at p
    obtain ⟨k, rfl⟩ := hb ρ d ρ1 e
    intro Z' H' x s' v r
    exact ⟨k, r.isbl, p Z' H' x s'⟩
theorem tDO_imp {w : Wd} {W : WX} {F : M Opd} {σ : St} {H : Hp} {Q Q' : VK} (h : tDO w W F σ H Q) (f : ∀ v H', Q v H' → Q' v H') : tDO w W F σ H Q' := by
  obtain ⟨A, Z, ρ, s, p⟩ := h
  exact ⟨A, Z, ρ, s, p.imp fun a Z' H' ρ' _ _ k v r => f v H' (k v r)⟩
theorem apM_ok {o : Op} {os : List Opd} {ρ ρ' : En} {d : PyData} (h : apM o os ρ = .ok d ρ') : ∃ ds, ap o ds = some d := by
  unfold apM at h
  cases e : rslvs ρ os with
  | none => rw [e] at h; cases h
  | some ds =>
    rw [e] at h
    dsimp only at h
    cases e2 : ap o ds with
    | none => rw [e2] at h; cases h
    | some c => rw [e2] at h; cases h; exact ⟨ds, e2⟩
theorem op_bool {o : Op} (hb : isB o = true) {es : List IE} : ∀ ρ d ρ', bnd (dens P es) (apM o) ρ = .ok d ρ' → ∃ k, d = .bool k := fun ρ d ρ' h => by
  obtain ⟨os, ρ1, _, h2⟩ := bnd_ok h
  obtain ⟨ds, e⟩ := apM_ok h2
  exact ap_bool hb e
theorem opt_beq {α : Type} [BEq α] [LawfulBEq α] {a : Option α} {b : α} (h : (a == some b) = true) : a = some b := by simpa using h
theorem allO1 {is : List IE} {e : Expr} (h : AllO X P is [e]) : ∃ i, is = [i] ∧ PE X e (tDO (wdX X) WF (opd i (den P i))) ∧ isStar e = false := by
  cases h with | cons h1 h2 t => cases t; exact ⟨_, rfl, h1, h2⟩
theorem allO2 {is : List IE} {e f : Expr} (h : AllO X P is [e, f]) : ∃ i j, is = [i, j] ∧ PE X e (tDO (wdX X) WF (opd i (den P i))) ∧ PE X f (tDO (wdX X) WF (opd j (den P j))) := by
  cases h with | cons h1 h2 t => cases t with | cons h3 h4 t => cases t; exact ⟨_, _, rfl, h1, h3⟩
theorem call_sound (ok : CxOk X C P) {o : Op} {x : Str} {p pos : Pos} {es : List IE} {args : List Expr} (hx : x ∈ bltNames) (hg : glB C x = true) (ha : AllO X P es args) (hn : args.isEmpty = false)
    (hr : (∃ id, CallR X (.builtin id) (rAp (wdX X) o) ∧ bootBuiltins x = some (.builtin id)) ∨ ∃ id, CallR X (.type id) (rAp (wdX X) o) ∧ bootBuiltins x = some (.type id)) : PE X (.Call (.Name x p) args [] pos) (tD (wdX X) WF (bnd (dens P es) (apM o))) := by
  obtain ⟨n1, n2⟩ := blt_ne hx
  have st := ha.star
  cases args with
  | nil => cases hn
  | cons e r =>
    have pa := ha.pa
    have h1 := star_cons (es := r) (env := X.env) (st e List.mem_cons_self)
    have h2 : (backTo pos (starEach r X.env)).any (·.1) = false := star_any fun d hd => st d (List.mem_cons_of_mem _ hd)
    rcases hr with ⟨id, hc, hv⟩ | ⟨id, hc, hv⟩
    · exact PE.imp (pe_callB hc (ok.gl hg) (ok.blt x hx) hv pa n1 n2 h1 h2) fun σ H Q q => opN_read q
    · exact PE.imp (pe_callTy hc (ok.gl hg) (ok.blt x hx) hv pa n1 n2 h1 h2) fun σ H Q q => opN_read q
theorem isi_name {t : Nat} (h : t < 5) : bootBuiltins (isiName t) = some (.type (isiT t)) ∧ isiName t ∈ bltNames := by
  match t, h with
  | 0, _ => exact ⟨boot_str, by decide⟩
  | 1, _ => exact ⟨boot_int, by decide⟩
  | 2, _ => exact ⟨boot_bool, by decide⟩
  | 3, _ => exact ⟨boot_tuple, by decide⟩
  | 4, _ => exact ⟨boot_list, by decide⟩
theorem opArgs_blt {o : Op} {x : Str} {args as : List Expr} (h : bltA C o x args = some as) :
    as = args ∧ args.isEmpty = false ∧ glB C x = true ∧ ((∃ id n, bfOf o = some (x, id, n)) ∨ ∃ id, btOf o = some (x, id)) := by
  unfold bltA at h
  cases e : bfOf o with
  | some b =>
    obtain ⟨y, id, n⟩ := b
    rw [e] at h
    dsimp only at h
    by_cases c : (x == y && args.length == n && glB C x && !args.isEmpty) = true
    · rw [if_pos c] at h
      cases h
      obtain ⟨c, c4⟩ := and_true c
      obtain ⟨c, c3⟩ := and_true c
      obtain ⟨c1, c2⟩ := and_true c
      have c1 : x = y := by simpa using c1
      subst c1
      exact ⟨rfl, by simpa using c4, c3, .inl ⟨id, n, rfl⟩⟩
    · rw [if_neg c] at h
      cases h
  | none =>
    rw [e] at h
    dsimp only at h
    cases e2 : btOf o with
    | none => rw [e2] at h; cases h
    | some b =>
      obtain ⟨y, id⟩ := b
      rw [e2] at h
      dsimp only at h
      by_cases c : (x == y && args.length == 1 && glB C x) = true
      · rw [if_pos c] at h
        cases h
        obtain ⟨c, c3⟩ := and_true c
        obtain ⟨c1, c2⟩ := and_true c
        have c1 : x = y := by simpa using c1
        subst c1
        refine ⟨rfl, ?_, c3, .inr ⟨id, rfl⟩⟩
        cases args with
        | nil => cases c2
        | cons _ _ => rfl
      · rw [if_neg c] at h
        cases h
theorem nest_sound (ok : CxOk X C P) {o : Op} {x : Str} {p pos : Pos} {as args : List Expr} {es : List IE} (h : nestA C o x as = some args) (ha : AllO X P es args) : Both X (.Call (.Name x p) as [] pos) (bnd (dens P es) (apM o)) := by
  unfold nestA at h
  split at h
  · rename_i y q a q2
    by_cases c : (x == "len" && y == "set" && glB C x && glB C y) = true
    · rw [if_pos c] at h
      cases h
      obtain ⟨c, c4⟩ := and_true c
      obtain ⟨c, c3⟩ := and_true c
      obtain ⟨c1, c2⟩ := and_true c
      have c1 : x = "len" := by simpa using c1
      have c2 : y = "set" := by simpa using c2
      subst c1 c2
      obtain ⟨i, rfl, h1, h2⟩ := allO1 ha
      exact both_plain (PE.imp (pe_setlen ok.xa.calm (ok.gl c3) (ok.blt _ (by decide)) (ok.gl c4) (ok.blt _ (by decide)) h1 (star_cons h2)) fun σ H Q q => op1_read q) rfl
    · rw [if_neg c] at h; cases h
  · rename_i y q a q2
    by_cases c : (x == "list" && y == "range" && glB C x && glB C y) = true
    · rw [if_pos c] at h
      cases h
      obtain ⟨c, c4⟩ := and_true c
      obtain ⟨c, c3⟩ := and_true c
      obtain ⟨c1, c2⟩ := and_true c
      have c1 : x = "list" := by simpa using c1
      have c2 : y = "range" := by simpa using c2
      subst c1 c2
      obtain ⟨i, rfl, h1, h2⟩ := allO1 ha
      refine both_plain (PE.imp (pe_listRg ok.xa.calm (ok.gl c3) (ok.blt _ (by decide)) (prg_1 (ok.gl c4) (ok.blt _ (by decide)) h1 (star_cons h2)) rfl) fun σ H Q q => ?_) rfl
      refine tDO_imp (op1_read q) fun v H' q => ?_
      obtain ⟨Z, ds, d, zd, r, e, k⟩ := q
      obtain ⟨d1, rfl, rx⟩ := r.v1
      cases d1 with
      | int j =>
        have e : (if (decide (j ≤ 100000) && decide (-100000 ≤ j)) = true then some (PyData.list ((List.range j.toNat).map fun (k : Nat) => PyData.int (k : Int))) else none) = some d := e
        by_cases cc : (decide (j ≤ 100000) && decide (-100000 ≤ j)) = true
        · rw [if_pos cc] at e
          cases e
          obtain ⟨k1, k2⟩ := and_true cc
          have k1 := of_decide_eq_true k1
          have k2 := of_decide_eq_true k2
          have := rx.int
          subst this
          refine ⟨j, rfl, ⟨by omega, by omega, by omega, by omega, by omega⟩, new_list zd ?_ k⟩
          have e1 : rgV 0 j = ((List.range j.toNat).map fun (k : Nat) => ((k : Nat) : Int)).map V.int := by
            unfold rgV
            rw [List.map_map]
            simp
          have e2 : ((List.range j.toNat).map fun (k : Nat) => PyData.int (k : Int)) = ((List.range j.toNat).map fun (k : Nat) => ((k : Nat) : Int)).map PyData.int := by rw [List.map_map]; rfl
          rw [e1, e2]
          exact Reps.of_ints
        · rw [if_neg cc] at e
          cases e
      | _ => cases e
    · rw [if_neg c] at h; cases h
  · cases h
theorem op_sound (ok : CxOk X C P) {o : Op} {e : Expr} {es : List IE} {args : List Expr} (h : opArgs C o e = some args) (ha : AllO X P es args) : Both X e (bnd (dens P es) (apM o)) := by
  cases e with
  | BinOp l op r pos =>
    have h : (if binOf o == some op then some [l, r] else none) = some args := h
    by_cases c : (binOf o == some op) = true
    · rw [if_pos c] at h
      cases h
      obtain ⟨i, j, rfl, h1, h2⟩ := allO2 ha
      exact both_plain (PE.imp (pe_op (bin_rule (opt_beq c)) h1 h2) fun σ H Q q => op2_read q) rfl
    · rw [if_neg c] at h; cases h
  | UnaryOp op a pos =>
    have h : (if unOf o == some op then some [a] else none) = some args := h
    by_cases c : (unOf o == some op) = true
    · rw [if_pos c] at h
      cases h
      obtain ⟨i, rfl, h1, _⟩ := allO1 ha
      obtain ⟨r, n⟩ := un_rule (X := X) (opt_beq c)
      refine both_plain (PE.imp (pe_un r h1) fun σ H Q q => op1_read q) ?_
      cases op <;> first | rfl | exact absurd rfl n
    · rw [if_neg c] at h; cases h
  | Compare a ops bs pos =>
    match ops, bs, h with
    | [op], [b], h =>
      have h : (if cmpOf o == some op && notSetE b then some [a, b] else nonA o op a b) = some args := h
      by_cases c : (cmpOf o == some op && notSetE b) = true
      · rw [if_pos c] at h
        cases h
        obtain ⟨c1, c2⟩ := and_true c
        obtain ⟨i, j, rfl, h1, h2⟩ := allO2 ha
        obtain ⟨r, hb⟩ := cmp_rule ok.xa (opt_beq c1)
        exact ⟨PE.imp (pe_cmpR r h1 h2 (behind_no c2)) fun σ H Q q => op2_read q, PT.imp (pt_cmpR r h1 h2 (behind_no c2)) fun σ H Q q => op2_read (tD_bool (op_bool hb) q)⟩
      · rw [if_neg c] at h
        have nn : ∀ {b : Expr}, isNoneC b = true → ∃ k p, b = .Constant .none k p := fun {b} hb => by
          cases b with
          | Constant v k p => cases v <;> first | exact ⟨k, p, rfl⟩ | cases hb
          | _ => cases hb
        unfold nonA at h
        split at h
        · by_cases c : isNoneC b = true
          · rw [if_pos c] at h
            cases h
            obtain ⟨k, p, rfl⟩ := nn c
            obtain ⟨i, rfl, h1, _⟩ := allO1 ha
            exact ⟨PE.imp (pe_cmp (pc_isN h1)) fun σ H Q q => tDO_imp (op1_read q) fun v H' q => R_isN (σ := σ) q, PT.imp (pt_cmp (pc_isN h1)) fun σ H Q q => tDO_imp (op1_read (tD_bool (op_bool rfl) q)) fun v H' q => R_isN (σ := σ) q⟩
          · rw [if_neg c] at h
            cases h
        · by_cases c : isNoneC b = true
          · rw [if_pos c] at h
            cases h
            obtain ⟨k, p, rfl⟩ := nn c
            obtain ⟨i, rfl, h1, _⟩ := allO1 ha
            exact ⟨PE.imp (pe_cmp (pc_notN h1)) fun σ H Q q => tDO_imp (op1_read q) fun v H' q => R_notN (σ := σ) q, PT.imp (pt_cmp (pc_notN h1)) fun σ H Q q => tDO_imp (op1_read (tD_bool (op_bool rfl) q)) fun v H' q => R_notN (σ := σ) q⟩
          · rw [if_neg c] at h
            cases h
        · cases h
    | [], _, h => cases h
    | [_], [], h => cases h
    | [_], _ :: _ :: _, h => cases h
    | _ :: _ :: _, _, h => cases h
  | Subscript a b pos =>
    match o, h with
    | .ix, h =>
      have h : (if !isSlice b then some [a, b] else none) = some args := h
      by_cases c : (!isSlice b) = true
      · rw [if_pos c] at h
        cases h
        obtain ⟨i, j, rfl, h1, h2⟩ := allO2 ha
        exact both_plain (PE.imp (pe_ix R_ix h1 h2 (plain_ix (by simpa using c))) fun σ H Q q => op2_read q) rfl
      · rw [if_neg c] at h; cases h
    | .rev, h =>
      have h : (if isRev b then some [a] else none) = some args := h
      by_cases c : isRev b = true
      · rw [if_pos c] at h
        cases h
        obtain ⟨k, p1, p2, p3, rfl⟩ := isRev_eq c
        obtain ⟨i, rfl, h1, _⟩ := allO1 ha
        exact both_plain (PE.imp (pe_rev h1) fun σ H Q q => op1_read q) rfl
      · rw [if_neg c] at h; cases h
  | Call f as kws pos =>
    match f, kws, h with
    | .Name x p, [], h =>
      have h : (match isiA C o x as with
        | some r => some r
        | none => (match nestA C o x as with
          | some r => some r
          | none => bltA C o x as)) = some args := h
      cases e : isiA C o x as with
      | some r =>
        rw [e] at h
        cases h
        have hi : ∃ t a y q, o = .isi t ∧ as = [a, .Name y q] := by
          unfold isiA at e
          split at e
          · exact ⟨_, _, _, _, rfl, rfl⟩
          · cases e
        obtain ⟨t, a, y, q, rfl, rfl⟩ := hi
        have h : (if decide (t < 5) && x == "isinstance" && y == isiName t && glB C x && glB C y then some [a] else none) = some args := e
        by_cases c : (decide (t < 5) && x == "isinstance" && y == isiName t && glB C x && glB C y) = true
        · rw [if_pos c] at h
          cases h
          obtain ⟨c, c5⟩ := and_true c
          obtain ⟨c, c4⟩ := and_true c
          obtain ⟨c, c3⟩ := and_true c
          obtain ⟨c1, c2⟩ := and_true c
          have c1 := of_decide_eq_true c1
          have c2 : x = "isinstance" := by simpa using c2
          have c3 : y = isiName t := by simpa using c3
          subst c2 c3
          obtain ⟨i, rfl, h1, h2⟩ := allO1 ha
          obtain ⟨b1, b2⟩ := isi_name c1
          obtain ⟨n1, n2⟩ := blt_ne b2
          have py : PE X (.Name (isiName t) q) (tC (.ty (isiT t))) := pe_bltn (ok.gl c5) (ok.blt _ b2) b1 rfl n1 n2
          have pa : PA X [a, .Name (isiName t) q] _ := pa_cons h1 (pa_cons py pa_nil) (star_cons h2)
          refine both_plain (PE.imp (pe_callB (R_isi t c1) (ok.gl c4) (ok.blt _ (by decide)) boot_isinstance pa (by decide) (by decide) (star_cons h2)) fun σ H Q q => ?_) rfl
          have q := op1_read q
          obtain ⟨A, Z, ρ, s, p⟩ := q
          exact ⟨A, Z, ρ, s, p.imp fun o Z' H' ρ' _ _ k v r => ⟨v, rfl, k v r⟩⟩
        · rw [if_neg c] at h; cases h
      | none =>
        rw [e] at h
        dsimp only at h
        cases e9 : nestA C o x as with
        | some r =>
          rw [e9] at h
          cases h
          exact nest_sound ok e9 ha
        | none =>
        rw [e9] at h
        obtain ⟨rfl, hne, hg, hb⟩ := opArgs_blt h
        refine both_plain ?_ rfl
        rcases hb with ⟨id, n, e⟩ | ⟨id, e⟩
        · obtain ⟨r1, r2, r3⟩ := bf_rule ok.xa e
          exact call_sound ok r3 hg ha hne (.inl ⟨id, r1, r2⟩)
        · obtain ⟨r1, r2, r3⟩ := bt_rule (X := X) e
          exact call_sound ok r3 hg ha hne (.inr ⟨id, r1, r2⟩)
    | .Name x p, _ :: _, h => cases h
  | _ => cases h
/-! ### calls of defs -/
theorem dens_append : ∀ {is1 is2 : List IE}, dens P (is1 ++ is2) = bnd (dens P is1) fun os => bnd (dens P is2) fun os2 => ret (os ++ os2)
  | [], is2 => by
    funext r
    show dens P is2 r = bnd (ret []) _ r
    unfold M3.bnd ret
    dsimp only
    cases dens P is2 r <;> rfl
  | i :: is1, is2 => by
    show bnd (opd i (den P i)) (fun o => bnd (dens P (is1 ++ is2)) fun os => ret (o :: os)) = bnd (bnd (opd i (den P i)) fun o => bnd (dens P is1) fun os => ret (o :: os)) _
    rw [dens_append (is1 := is1)]
    funext r
    unfold M3.bnd ret
    cases opd i (den P i) r with
    | stuck => rfl
    | exc x r => rfl
    | ok o r1 =>
      dsimp only
      cases dens P is1 r1 with
      | stuck => rfl
      | exc x r => rfl
      | ok os r2 =>
        dsimp only
        cases dens P is2 r2 <;> rfl
theorem dens_len : ∀ {is : List IE} {os : List Opd} {r r' : En}, dens P is r = .ok os r' → os.length = is.length
  | [], os, r, r', h => by
    have h : (R.ok [] r : R (List Opd)) = .ok os r' := h
    cases h
    rfl
  | i :: is, os, r, r', h => by
    have h : bnd (opd i (den P i)) (fun o => bnd (dens P is) fun os => ret (o :: os)) r = .ok os r' := h
    obtain ⟨o, r1, h1, h2⟩ := bnd_ok h
    obtain ⟨os', r2, h3, h4⟩ := bnd_ok h2
    have h4 : (R.ok (o :: os') r2 : R (List Opd)) = .ok os r' := h4
    cases h4
    rw [List.length_cons, List.length_cons, dens_len h3]
theorem OpRs.append {w : Wd} {Z : Addr → Prop} {H : Hp} {σ : St} : ∀ {vs ws : List V} {os ps : List Opd}, OpRs w Z H σ vs os → OpRs w Z H σ ws ps → OpRs w Z H σ (vs ++ ws) (os ++ ps)
  | _, _, _, _, .nil, s => s
  | _, _, _, _, .cons h t, s => .cons h (OpRs.append t s)
theorem OpRs.length {w : Wd} {Z : Addr → Prop} {H : Hp} {σ : St} : ∀ {vs : List V} {os : List Opd}, OpRs w Z H σ vs os → vs.length = os.length
  | _, _, .nil => rfl
  | _, _, .cons _ t => by rw [List.length_cons, List.length_cons, OpRs.length t]
theorem dens_two {w : Wd} {W : WX} {is1 is2 : List IE} {σ : St} {H : Hp} {R : List V → Hp → Prop} (h : tDA w W (dens P (is1 ++ is2)) σ H R) :
    tDA w W (dens P is1) σ H fun vs H1 => vs.length = is1.length ∧ tDA w W (dens P is2) σ H1 fun zs H2 => R (vs ++ zs) H2 := by
  obtain ⟨A, Z, ρ, s, p⟩ := h
  rw [dens_append] at p
  refine ⟨A, Z, ρ, s, ?_⟩
  have pb := p.bnd
  cases e : dens P is1 ρ with
  | stuck => rw [e] at pb; exact pb
  | exc x r => rw [e] at pb; exact pb
  | ok os ρ1 =>
    rw [e] at pb
    intro Z1 H1 x1 s1 vs r
    obtain ⟨_, _, k⟩ := pb Z1 H1 x1 s1
    refine ⟨by rw [r.length, dens_len e], A, Z1, ρ1, s1, k.bnd.imp fun os2 Z2 H2 ρ2 x2 s2 ⟨_, _, k2⟩ zs r2 => ?_⟩
    exact k2 Z2 H2 XS.refl s2 _ ((r.step s1 x2).append r2)
theorem AllO.split {is : List IE} : ∀ {es fs : List Expr}, AllO X P is (es ++ fs) → ∃ is1 is2, is = is1 ++ is2 ∧ AllO X P is1 es ∧ AllO X P is2 fs := by
  intro es
  induction es generalizing is with
  | nil => exact fun h => ⟨[], is, rfl, .nil, h⟩
  | cons e es ih =>
    intro fs h
    cases h with
    | cons h1 h2 t =>
      obtain ⟨is1, is2, rfl, a1, a2⟩ := ih t
      exact ⟨_ :: is1, is2, rfl, .cons h1 h2 a1, a2⟩
theorem AllO.len {is : List IE} {es : List Expr} (h : AllO X P is es) : is.length = es.length := by
  induction h with
  | nil => rfl
  | cons _ _ _ ih => rw [List.length_cons, List.length_cons, ih]
theorem AllO.pk {is : List IE} : ∀ {kws : List Keyword}, AllO X P is (kws.map (·.value)) → PK X kws (tDA (wdX X) WF (dens P is)) := by
  intro kws
  induction kws generalizing is with
  | nil =>
    intro h
    cases h
    exact ⟨fun pos pins s σ H Q I q => pk_nil.run pos pins s σ H Q I (dens_nil q)⟩
  | cons k kws ih =>
    intro h
    cases h with
    | cons h1 h2 t =>
      obtain ⟨nm, v, kp⟩ := k
      exact ⟨fun pos pins s σ H Q I q => (pk_cons h1 (ih t)).run pos pins s σ H Q I (dens_read q)⟩
theorem kw_names {kws : List Keyword} {env : Env} {pos : Pos} : ∀ {ks : List Str}, kws.map (·.arg) = ks.map some → (backToKw pos (keywordEach kws env)).all (·.1.isSome) = true ∧ (backToKw pos (keywordEach kws env)).filterMap (·.1) = ks ∧ (backToKw pos (keywordEach kws env)).any (·.1.isNone) = false := by
  induction kws with
  | nil =>
    intro ks h
    cases ks with
    | nil => exact ⟨rfl, rfl, rfl⟩
    | cons _ _ => cases h
  | cons k kws ih =>
    intro ks h
    cases ks with
    | nil => cases h
    | cons x ks =>
      obtain ⟨nm, v, kp⟩ := k
      have h1 : nm = some x := (List.cons.inj h).1
      obtain ⟨i1, i2, i3⟩ := ih (List.cons.inj h).2
      subst h1
      refine ⟨?_, ?_, ?_⟩
      · show (true && (backToKw pos (keywordEach kws env)).all (·.1.isSome)) = true
        rw [i1]; rfl
      · show x :: (backToKw pos (keywordEach kws env)).filterMap (·.1) = x :: ks
        rw [i2]
      · show (false || (backToKw pos (keywordEach kws env)).any (·.1.isNone)) = false
        rw [i3]; rfl
theorem call_pe (ok : CxOk X C P) {f : Nat} {x : Str} {ps : List Str} {Fn : Fn} {es : List IE} {args : List Expr} {kws : List Keyword} {p pos : Pos} (hf : C.fs[f]? = some (.fn x, ps, Fn)) (hst : Fn.star = false) (hg : glB C x = true) (hdb : (x == ("__debug__" : Str)) = false)
    (hl : args.length + kws.length = ps.length) (hnk : args.length = ps.length ∨ args.length ∈ Fn.kb) (hk : kws.map (·.arg) = (ps.drop args.length).map some) (ha : AllO X P es (args ++ kws.map (·.value))) :
    PE X (.Call (.Name x p) args kws pos) (fun σ H Q => tDA (wdX X) WF (dens P es) σ H fun vs H1 => spF (wdX X) Fn (P f) vs H1 Q E0) := by
  obtain ⟨fa, fd, k, ⟨hm, hkp⟩, FO, _, hr, _⟩ := ok.fs f (.fn x) ps Fn hf
  obtain ⟨F, hb⟩ := FO hst
  obtain ⟨is1, is2, rfl, a1, a2⟩ := ha.split
  obtain ⟨n1, n2, n3⟩ := kw_names (env := X.env) (pos := pos) hk
  have l1 := a1.len
  have st := a1.star
  have sa : (backTo pos (starEach args X.env)).any (·.1) = false := star_any st
  have fin : ∀ {pins σ H s Q us ws} {vs zs : List V}, Inv X pins σ H s → Vals vs us → Vals zs ws → vs.length = is1.length → spF (wdX X) Fn (P f) (vs ++ zs) H Q E0 → wpAny (model X.prog X.w) X.A (call (.ref fa) us ((ps.drop args.length).zip ws)) (EP X pins σ Q) X.xe s := by
    intro pins σ H s Q us ws vs zs I r rz hlv h
    exact run_G F hr.room ok.xa.gd (hb args.length hnk) (by rw [← r.length, hlv, l1]) pass0 I (r.append rz) h
  refine ⟨fun pins s σ H Q I h => ?_⟩
  have h := dens_two h
  refine wpAny_Call_Name_kw (ld_glob I (ok.gl hg) hm ?_ hdb)
  cases args with
  | nil =>
    cases a1
    have h0 : tDA (wdX X) WF (dens P is2) σ H fun zs H2 => spF (wdX X) Fn (P f) zs H2 Q E0 := by
      obtain ⟨A, Z, ρ, s, p⟩ := h
      obtain ⟨_, q⟩ := p Z H XS.refl s [] .nil
      exact q
    refine PySem.W.callWith_KW0 (h₀ := X.base) I.ok.mod.kin hkp n1 (thn (a2.pk.run pos pins s σ H _ I h0) fun ws s2 ⟨zs, H2, I2, rz, q2⟩ => ⟨I2.kIn, ?_⟩) (by show ((backTo pos (starEach [] X.env)).any (·.1) || _) = false; rw [n3]; rfl)
    rw [n2]
    exact fin (us := []) (vs := []) I2 .nil rz rfl q2
  | cons e r =>
    refine PySem.W.callWith_KW (h₀ := X.base) I.ok.mod.kin hkp n1 (thn (a1.pa.run pos pins s σ H _ I h) fun us s1 ⟨vs, H1, I1, rv, hv, q⟩ => ?_) (by rw [sa, n3]; rfl) (star_cons (st e List.mem_cons_self))
    refine thn (a2.pk.run pos pins s1 σ H1 _ I1 q) fun ws s2 ⟨zs, H2, I2, rz, q2⟩ => ⟨I2.kIn, ?_⟩
    rw [n2]
    exact fin I2 rv rz hv q2
end
end M3
set_option Elab.async false
set_option linter.all false
set_option maxRecDepth 100000
set_option maxHeartbeats 2000000
/-! F18b: instances: fields, methods, properties, making. -/
namespace M3
open PySem PySem.Spec L2
open PyProof.Rows hiding St
section
variable {w : Wd} {W : WX} {A : Act} {Z Z' Z1 Z2 : Addr → Prop} {H H' H1 H2 : Hp} {ρ ρ' ρ1 ρ2 : En} {σ : St} {X : Cx} {C : CC} {P : Ph}
theorem RepKs.hd {kvs : List (Key × V)} {l : List (PyData × PyData)} (q : RepKs w Z H kvs l) : match l with
    | [] => True
    | p :: _ => p.1 ≠ .none := by
  cases q with
  | nil => trivial
  | @cons k v r d l h1 h2 h3 => cases k <;> exact fun z => nomatch z
theorem RepTs.hd {kvs : List (List Key × V)} {l : List (PyData × PyData)} (q : RepTs w Z H kvs l) : match l with
    | [] => True
    | p :: _ => p.1 ≠ .none := by
  cases q with
  | nil => trivial
  | cons h1 h2 h3 => exact fun z => nomatch z
/-- an instance, laid -/
theorem Rep.inst {v : V} {d : PyData} {c : Str} {l : List (PyData × PyData)} (r : Rep w Z H v d) (h : insF d = some (c, l)) : ∃ a C dx fs, v = .ref a ∧ Z a ∧ H a = some (.ins C dx fs) ∧ w.mg c = some (.ref C) ∧ RepFs w Z H fs l := by
  unfold insF at h
  split at h
  · cases h
    generalize hd : PyData.dict ((.none, .str c) :: l) = d at r
    cases r with
    | dK z s q =>
      cases hd
      exact absurd rfl q.hd
    | dT z s q =>
      cases hd
      exact absurd rfl q.hd
    | ins z s m q =>
      cases hd
      exact ⟨_, _, _, _, rfl, z, s, m, q⟩
    | _ => cases hd
  · cases h
theorem RepFs.lookup : ∀ {fs : List (Str × V)} {l : List (PyData × PyData)} {ds : List (Str × PyData)}, RepFs w Z H fs l → fldsOf l = some ds → ∀ x, match ds.lookup x with
    | some d => ∃ v, fs.lookup x = some v ∧ Rep w Z H v d
    | none => fs.lookup x = none
  | _, _, ds, .nil, e, x => by
    have e : some [] = some ds := e
    cases e
    rfl
  | _, _, ds, @RepFs.cons _ _ _ f v r d l h t, e, x => by
    have e : (fldsOf l).map ((f, d) :: ·) = some ds := e
    cases q : fldsOf l with
    | none => rw [q] at e; cases e
    | some ds' =>
      rw [q] at e
      cases e
      have ih := RepFs.lookup t q x
      cases hx : x == f with
      | true =>
        rw [show ((f, d) :: ds').lookup x = some d by rw [List.lookup_cons, hx]]
        exact ⟨v, by rw [List.lookup_cons, hx], h⟩
      | false =>
        rw [show ((f, d) :: ds').lookup x = ds'.lookup x by rw [List.lookup_cons, hx], show ((f, v) :: r).lookup x = r.lookup x by rw [List.lookup_cons, hx]]
        exact ih
theorem RepFs.length : ∀ {fs : List (Str × V)} {l : List (PyData × PyData)}, RepFs w Z H fs l → fs.length = l.length
  | _, _, .nil => rfl
  | _, _, .cons _ t => by rw [List.length_cons, List.length_cons, RepFs.length t]
theorem RepFs.put {x : Str} {v : V} {d : PyData} (r : Rep w Z H v d) : ∀ {ds : List (Str × PyData)} {fs : List (Str × V)}, RepFs w Z H fs (ds.map fun p => (.str p.1, p.2)) → RepFs w Z H (putF x v fs) ((putD x d ds).map fun p => (.str p.1, p.2))
  | [], fs, q => by
    cases q
    exact .cons r .nil
  | (g, e) :: ds, fs, q => by
    cases q with
    | @cons f v' r' _ _ h t =>
      show RepFs w Z H (if g = x then (g, v) :: r' else (g, v') :: putF x v r') ((if g = x then (g, d) :: ds else (g, e) :: putD x d ds).map fun p => (.str p.1, p.2))
      by_cases hg : g = x
      · rw [if_pos hg, if_pos hg]
        exact .cons r t
      · rw [if_neg hg, if_neg hg]
        exact .cons h (RepFs.put r t)
/-- a field is read -/
theorem fld_read {a : IE} {c x : Str} {Q : VK} (hc : ∃ Ca, w.mg c = some (.ref Ca) ∧ Cls w.K Ca ∧ NoAttr w.K Ca x) (h : tD w W (bnd (den P a) fun d => lift (rdFld c x d)) σ H Q) : tFld w.K (tD w W (den P a)) x σ H Q := by
  obtain ⟨A, Z, ρ, s, p⟩ := h
  refine ⟨A, Z, ρ, s, p.bnd.imp fun d Z1 H1 ρ1 x1 s1 ⟨_, _, k⟩ v r => ?_⟩
  unfold rdFld at k
  cases e : insF d with
  | none => rw [e] at k; exact k.elim
  | some q =>
    obtain ⟨c', l⟩ := q
    rw [e] at k
    dsimp only at k
    by_cases hcc : c' = c
    · rw [if_pos hcc] at k
      subst hcc
      obtain ⟨b, C', dx, fs, rfl, z, hb, hm, rf⟩ := r.inst e
      cases e2 : fldsOf l with
      | none => rw [e2] at k; exact k.elim
      | some ds =>
        rw [e2] at k
        dsimp only at k
        have lk := rf.lookup e2 x
        cases e3 : ds.lookup x with
        | none => rw [e3] at k; exact k.elim
        | some d' =>
          rw [e3] at k lk
          obtain ⟨v', l1, r1⟩ := lk
          obtain ⟨Ca, m1, cl, na⟩ := hc
          rw [hm] at m1
          cases m1
          exact ⟨b, C', dx, fs, v', rfl, hb, cl, na, l1, k Z1 H1 XS.refl s1 v' r1⟩
    · rw [if_neg hcc] at k
      exact k.elim
/-- a call of a def that changes nothing of its arguments -/
def allF (ps : List Bool) : Bool := ps.all fun b => !b
theorem ArgRs.allF : ∀ {ps : List Bool} {vs : List V} {ds : List PyData}, allF ps = true → ps.length = vs.length → Reps w Z H vs ds → ArgRs w Z H ps vs ds
  | [], _, _, _, _, .nil => .nil
  | [], _, _, _, hl, .cons _ _ => by cases hl
  | _ :: _, _, _, _, hl, .nil => by cases hl
  | b :: ps, _, _, hf, hl, .cons h t => by
    have hf : (!b && M3.allF ps) = true := hf
    obtain ⟨f1, f2⟩ := and_true hf
    have : b = false := by simpa using f1
    subst this
    exact .sh h (ArgRs.allF f2 (by simpa using hl) t)
theorem ioA_allF : ∀ {ps : List Bool} {vs : List V}, allF ps = true → ioA ps vs = []
  | [], _, _ => by unfold ioA; rfl
  | b :: ps, [], hf => by
    have hf : (!b && M3.allF ps) = true := hf
    obtain ⟨f1, f2⟩ := and_true hf
    have : b = false := by simpa using f1
    subst this
    unfold ioA; rfl
  | b :: ps, v :: vs, hf => by
    have hf : (!b && M3.allF ps) = true := hf
    obtain ⟨f1, f2⟩ := and_true hf
    have : b = false := by simpa using f1
    subst this
    have e : ioA (false :: ps) (v :: vs) = ioA ps vs := by cases v <;> rfl
    rw [e]; exact ioA_allF f2
theorem mc_read {F : Fn} {p : List PyData → FR} {vs : List V} {ds : List PyData} {Q : VK} {f : Nat} {d0 : List PyData} (hp : p ds = P f ds) (hf : allF F.ps = true) (ho : F.own = false) (hl : F.ps.length = vs.length) (s : SR w A Z H ρ σ) (r : Reps w Z H vs ds)
    (k : Post w W A Z H ρ σ (mcM P f ds ρ) fun d Z' H' _ => ∀ v, Rep w Z' H' v d → Q v H') (E : XK) : spF w F p vs H Q E := by
  refine ⟨Z, ds, s.zd, .allF hf hl r, ?_⟩
  rw [hp]
  unfold mcM at k
  cases e : P f ds with
  | stuck => rw [e] at k; exact k.elim
  | exc x o => rw [e] at k; exact k.elim
  | ok d outs =>
    rw [e] at k
    intro Z' H' v c _ rr
    rw [ioA_allF hf] at c
    unfold RetR at rr
    rw [ho] at rr
    have rr : Rep w Z' H' v d := rr
    cases outs with
    | cons _ _ => exact k.elim
    | nil => exact k Z' H' (c.p0 (by simp)).xs (s.p0 (c.p0 (by simp))) v rr
/-! values in a row -/
theorem AllV.star {is : List IE} {es : List Expr} (h : AllV X P is es) : ∀ e ∈ es, isStar e = false := by
  induction h with
  | nil => exact fun _ h => nomatch h
  | cons _ _ h2 _ ih => exact fun d hd => (List.mem_cons.mp hd).elim (fun q => q ▸ h2) (ih d)
theorem AllV.len {is : List IE} {es : List Expr} (h : AllV X P is es) : is.length = es.length := by
  induction h with
  | nil => rfl
  | cons _ _ _ _ ih => rw [List.length_cons, List.length_cons, ih]
theorem AllV.split {is : List IE} : ∀ {es fs : List Expr}, AllV X P is (es ++ fs) → ∃ is1 is2, is = is1 ++ is2 ∧ AllV X P is1 es ∧ AllV X P is2 fs := by
  intro es
  induction es generalizing is with
  | nil => exact fun h => ⟨[], is, rfl, .nil, h⟩
  | cons e es ih =>
    intro fs h
    cases h with
    | cons h1 h3 h2 t =>
      obtain ⟨is1, is2, rfl, a1, a2⟩ := ih t
      exact ⟨_ :: is1, is2, rfl, .cons h1 h3 h2 a1, a2⟩
theorem AllV.pk {is : List IE} : ∀ {kws : List Keyword}, AllV X P is (kws.map (·.value)) → PK X kws (tDAll (wdX X) WF (denAll P is)) := by
  intro kws
  induction kws generalizing is with
  | nil =>
    intro h
    cases h
    exact ⟨fun pos pins s σ H Q I q => pk_nil.run pos pins s σ H Q I (denAll_nil q)⟩
  | cons k kws ih =>
    intro h
    cases h with
    | cons h1 h3 h2 t =>
      obtain ⟨nm, v, kp⟩ := k
      exact ⟨fun pos pins s σ H Q I q => (pk_cons h1 (ih t)).run pos pins s σ H Q I (denAll_read q)⟩
theorem denAll_append : ∀ {is1 is2 : List IE}, denAll P (is1 ++ is2) = bnd (denAll P is1) fun os => bnd (denAll P is2) fun os2 => ret (os ++ os2)
  | [], is2 => by
    funext r
    show denAll P is2 r = bnd (ret []) _ r
    unfold M3.bnd ret
    dsimp only
    cases denAll P is2 r <;> rfl
  | i :: is1, is2 => by
    show bnd (den P i) (fun o => bnd (denAll P (is1 ++ is2)) fun os => ret (o :: os)) = bnd (bnd (den P i) fun o => bnd (denAll P is1) fun os => ret (o :: os)) _
    rw [denAll_append (is1 := is1)]
    funext r
    unfold M3.bnd ret
    cases den P i r with
    | stuck => rfl
    | exc x r => rfl
    | ok o r1 =>
      dsimp only
      cases denAll P is1 r1 with
      | stuck => rfl
      | exc x r => rfl
      | ok os r2 =>
        dsimp only
        cases denAll P is2 r2 <;> rfl
theorem denAll_len : ∀ {is : List IE} {os : List PyData} {r r' : En}, denAll P is r = .ok os r' → os.length = is.length
  | [], os, r, r', h => by
    have h : (R.ok [] r : R (List PyData)) = .ok os r' := h
    cases h
    rfl
  | i :: is, os, r, r', h => by
    have h : bnd (den P i) (fun o => bnd (denAll P is) fun os => ret (o :: os)) r = .ok os r' := h
    obtain ⟨o, r1, h1, h2⟩ := bnd_ok h
    obtain ⟨os', r2, h3, h4⟩ := bnd_ok h2
    have h4 : (R.ok (o :: os') r2 : R (List PyData)) = .ok os r' := h4
    cases h4
    rw [List.length_cons, List.length_cons, denAll_len h3]
theorem denAll_two {is1 is2 : List IE} {R : List V → Hp → Prop} (h : tDAll w W (denAll P (is1 ++ is2)) σ H R) :
    tDAll w W (denAll P is1) σ H fun vs H1 => vs.length = is1.length ∧ tDAll w W (denAll P is2) σ H1 fun zs H2 => R (vs ++ zs) H2 := by
  obtain ⟨A, Z, ρ, s, p⟩ := h
  rw [denAll_append] at p
  refine ⟨A, Z, ρ, s, ?_⟩
  have pb := p.bnd
  cases e : denAll P is1 ρ with
  | stuck => rw [e] at pb; exact pb
  | exc x r => rw [e] at pb; exact pb
  | ok os ρ1 =>
    rw [e] at pb
    intro Z1 H1 x1 s1 vs r
    obtain ⟨_, _, k⟩ := pb Z1 H1 x1 s1
    refine ⟨by rw [r.length, denAll_len e], A, Z1, ρ1, s1, k.bnd.imp fun os2 Z2 H2 ρ2 x2 s2 ⟨_, _, k2⟩ zs r2 => ?_⟩
    exact k2 Z2 H2 XS.refl s2 _ ((s1.reps x2 r).append r2)
/-- the arguments of a call, some by name, then what is called -/
theorem args_run {args : List Expr} {kws : List Keyword} {es : List IE} {fv : Value} {first : List Value} {ks : List Str} {pos : Pos} {pins : List (Addr × Obj)} {s : Shared} {Q : VK} (hkp : PySem.W.keepIn X.K fv = true) (hk : kws.map (·.arg) = ks.map some) (ha : AllV X P es (args ++ kws.map (·.value)))
    (I : Inv X pins σ H s) {R : List V → Hp → Prop} (h : tDAll (wdX X) WF (denAll P es) σ H R)
    (fin : ∀ (s2 : Shared) (H2 : Hp) (us ws : List Value) (vs : List V), Inv X pins σ H2 s2 → us.length = args.length → Vals vs (us ++ ws) → R vs H2 → wpAny (model X.prog X.w) X.A (call fv (first ++ us) (ks.zip ws)) (EP X pins σ Q) X.xe s2) :
    wpAny (model X.prog X.w) X.A (callWith pos fv first (backTo pos (starEach args X.env)) (backToKw pos (keywordEach kws X.env))) (EP X pins σ Q) X.xe s := by
  obtain ⟨is1, is2, rfl, a1, a2⟩ := ha.split
  obtain ⟨n1, n2, n3⟩ := kw_names (env := X.env) (pos := pos) hk
  have l1 := a1.len
  have st := a1.star
  have sa : (backTo pos (starEach args X.env)).any (·.1) = false := star_any st
  have h := denAll_two h
  cases args with
  | nil =>
    cases a1
    have h0 : tDAll (wdX X) WF (denAll P is2) σ H R := by
      obtain ⟨A, Z, ρ, s, p⟩ := h
      obtain ⟨_, q⟩ := p Z H XS.refl s [] .nil
      exact q
    refine PySem.W.callWith_KW0 (h₀ := X.base) I.ok.mod.kin hkp n1 (thn (a2.pk.run pos pins s σ H _ I h0) fun ws s2 ⟨zs, H2, I2, rz, q2⟩ => ⟨I2.kIn, ?_⟩) (by show ((backTo pos (starEach [] X.env)).any (·.1) || _) = false; rw [n3]; rfl)
    rw [n2]
    exact fin s2 H2 [] ws zs I2 rfl rz q2
  | cons e r =>
    refine PySem.W.callWith_KW (h₀ := X.base) I.ok.mod.kin hkp n1 (thn (a1.pa.run pos pins s σ H _ I h) fun us s1 ⟨vs, H1, I1, rv, hv, q⟩ => ?_) (by rw [sa, n3]; rfl) (star_cons (st e List.mem_cons_self))
    refine thn (a2.pk.run pos pins s1 σ H1 _ I1 q) fun ws s2 ⟨zs, H2, I2, rz, q2⟩ => ⟨I2.kIn, ?_⟩
    rw [n2]
    exact fin s2 H2 us ws _ I2 (by rw [← rv.length, hv, l1]) (rv.append rz) q2
theorem form_ok {args : List Expr} {kws : List Keyword} {ks : List Str} {pos : Pos} (hs : ∀ e ∈ args, isStar e = false) (hk : kws.map (·.arg) = ks.map some) (hl : args.length + kws.length < 25) :
    methodCallForm (args.length + kws.length) (backTo pos (starEach args X.env)) (backToKw pos (keywordEach kws X.env)) = true := by
  obtain ⟨n1, _, _⟩ := kw_names (env := X.env) (pos := pos) hk
  unfold methodCallForm
  rw [star_all hs, n1]
  simp only [Bool.true_and, decide_eq_true_eq]
  split <;> omega
/-- o.m(..) -/
theorem mcall_pe (ok : CxOk X C P) {f : Nat} {c m : Str} {ps : List Str} {F : Fn} {a : IE} {es : List IE} {o : Expr} {args : List Expr} {kws : List Keyword} {apos pos : Pos} (hf : C.fs[f]? = some (.me c m .meth, ps, F)) (hst : F.star = false) (ho : PE X o (tD (wdX X) WF (den P a)))
    (hat : attrOk o = true) (hline : (apos.endLine == pos.line) = true) (hlen : args.length + kws.length < 25) (hl : args.length + kws.length + 1 = ps.length) (hpl : F.ps.length = ps.length) (hnk : args.length + 1 = ps.length ∨ args.length + 1 ∈ F.kb) (hk : kws.map (·.arg) = (ps.drop (args.length + 1)).map some)
    (haf : allF F.ps = true) (hown : F.own = false) (ha : AllV X P es (args ++ kws.map (·.value))) :
    PE X (.Call (.Attribute o m apos) args kws pos) (tD (wdX X) WF (den P (.mcall c m f a es))) := by
  obtain ⟨fa, fd, k, ⟨Ca, hm, hc, hme⟩, F1, _, hr, _⟩ := ok.fs f _ ps F hf
  obtain ⟨FO, hb⟩ := F1 hst
  have st : ∀ e ∈ args, isStar e = false := fun e he => ha.star e (List.mem_append_left _ he)
  refine ⟨fun pins s σ H Q I h => ?_⟩
  have h : tD (wdX X) WF (bnd (den P a) fun d => if isIns c d && noFld m d then bnd (denAll P es) fun ds => mcM P f (d :: ds) else fail) σ H Q := h
  obtain ⟨A, Z, ρ, sr, p⟩ := h
  have h1 : tD (wdX X) WF (den P a) σ H fun v H1 => ∃ b dx fs, v = .ref b ∧ H1 b = some (.ins Ca dx fs) ∧ fs.lookup m = none ∧ tDAll (wdX X) WF (denAll P es) σ H1 fun vs H2 => spF (wdX X) F (P f) (.ref b :: vs) H2 Q E0 := by
    refine ⟨A, Z, ρ, sr, p.bnd.imp fun d Z1 H1 ρ1 x1 s1 ⟨_, _, kk⟩ v r => ?_⟩
    by_cases g : (isIns c d && noFld m d) = true
    · rw [if_pos g] at kk
      obtain ⟨g1, g2⟩ := and_true g
      unfold isIns at g1
      unfold noFld at g2
      cases e : insF d with
      | none => rw [e] at g1; cases g1
      | some q =>
        obtain ⟨c', l⟩ := q
        rw [e] at g1 g2
        have g1 : c' = c := of_decide_eq_true g1
        subst g1
        dsimp only at g2
        obtain ⟨b, C', dx, fs, rfl, z, hbb, hmm, rf⟩ := r.inst e
        have hmm : X.mg c' = some (.ref C') := hmm
        rw [hm] at hmm
        cases hmm
        cases e2 : fldsOf l with
        | none => rw [e2] at g2; cases g2
        | some ds =>
          rw [e2] at g2
          dsimp only at g2
          have lk := rf.lookup e2 m
          cases e3 : ds.lookup m with
          | some d' => rw [e3] at g2; cases g2
          | none =>
            rw [e3] at lk
            refine ⟨b, dx, fs, rfl, hbb, lk, A, Z1, ρ1, s1, ?_⟩
            have kb := kk.bnd
            cases e9 : denAll P es ρ1 with
            | stuck => rw [e9] at kb; exact kb
            | exc x r => rw [e9] at kb; exact kb
            | ok ds2 ρ2 =>
              rw [e9] at kb
              intro Z2 H2 x2 s2 vs rv
              obtain ⟨_, _, k2⟩ := kb Z2 H2 x2 s2
              have hvl : F.ps.length = (V.ref b :: vs).length := by
                have h1 := ha.len
                have h2 := denAll_len e9
                have h3 := rv.length
                simp only [List.length_append, List.length_map] at h1
                rw [List.length_cons]
                omega
              exact mc_read (d0 := []) rfl haf hown hvl s2 (.cons (s1.rep x2 r) rv) k2 E0
    · rw [if_neg g] at kk
      exact kk.elim
  refine meth_late (attr_no hat) (form_ok st hk hlen) hline (thn (ho.run pins s σ H _ I h1) fun u s1 ⟨v, H1, I1, rv, b, dx, fs, ev, eb, lk, q⟩ => ?_)
  subst ev
  obtain rfl : u = Value.ref b := rv
  refine getmeth_ok I1 eb hc hme lk ?_
  refine args_run (ks := ps.drop (args.length + 1)) hme.kp hk ha I1 q fun s2 H2 us ws vs I2 hus r h2 => ?_
  exact run_G (n := args.length + 1) FO hr.room ok.xa.gd (hb _ hnk) (by simp [hus]) pass0 I2 (.cons (show RelV (.ref b) (.ref b) from rfl) r) h2
/-- o.x, a property -/
theorem prop_pe (ok : CxOk X C P) {f : Nat} {c x : Str} {ps : List Str} {F : Fn} {a : IE} {o : Expr} {pos : Pos} (hf : C.fs[f]? = some (.me c x .prop, ps, F)) (hst : F.star = false) (ho : PE X o (tD (wdX X) WF (den P a))) (hat : attrOk o = true) (hl : ps.length = 1) (hpl : F.ps.length = ps.length)
    (haf : allF F.ps = true) (hown : F.own = false) : PE X (.Attribute o x pos) (tD (wdX X) WF (den P (.prop c x f a))) := by
  obtain ⟨fa, fd, k, ⟨Ca, pa, hm, hc, hpr⟩, F1, _, hr, _⟩ := ok.fs f _ ps F hf
  obtain ⟨FO, hb⟩ := F1 hst
  refine ⟨fun pins s σ H Q I h => ?_⟩
  have h : tD (wdX X) WF (bnd (den P a) fun d => if isIns c d then mcM P f [d] else fail) σ H Q := h
  obtain ⟨A, Z, ρ, sr, p⟩ := h
  have h1 : tD (wdX X) WF (den P a) σ H fun v H1 => ∃ b dx fs, v = .ref b ∧ H1 b = some (.ins Ca dx fs) ∧ spF (wdX X) F (P f) [.ref b] H1 Q E0 := by
    refine ⟨A, Z, ρ, sr, p.bnd.imp fun d Z1 H1 ρ1 x1 s1 ⟨_, _, kk⟩ v r => ?_⟩
    by_cases g : isIns c d = true
    · rw [if_pos g] at kk
      unfold isIns at g
      cases e : insF d with
      | none => rw [e] at g; cases g
      | some q =>
        obtain ⟨c', l⟩ := q
        rw [e] at g
        have g1 : c' = c := of_decide_eq_true g
        subst g1
        obtain ⟨b, C', dx, fs, rfl, z, hbb, hmm, rf⟩ := r.inst e
        have hmm : X.mg c' = some (.ref C') := hmm
        rw [hm] at hmm
        cases hmm
        exact ⟨b, dx, fs, rfl, hbb, mc_read (d0 := []) rfl haf hown (by rw [hpl, hl]; rfl) s1 (.cons r .nil) kk E0⟩
    · rw [if_neg g] at kk
      exact kk.elim
  refine attr_of (attr_no hat) (thn (ho.run pins s σ H _ I h1) fun u s1 ⟨v, H1, I1, rv, b, dx, fs, ev, eb, q⟩ => ?_)
  subst ev
  obtain rfl : u = Value.ref b := rv
  exact prop_G I1 eb hc hpr FO hr ok.xa.gd (hb 1 (.inl hl.symm)) hl pass0 q
/-- a new instance -/
theorem new_read {F : Fn} {f : Nat} {c : Str} {Ca : Addr} {qs : List Bool} {vs : List V} {ds : List PyData} {Q : VK} (hm : w.mg c = some (.ref Ca)) (hq : F.ps = true :: qs) (hf : allF qs = true) (ho : F.own = false) (hl : qs.length = vs.length) (s : SR w A Z H ρ σ) (r : Reps w Z H vs ds)
    (k : Post w W A Z H ρ σ (newM P c f ds ρ) fun d Z' H' _ => ∀ v, Rep w Z' H' v d → Q v H') (y dx : Addr) (hy : H y = none) (hdx : H dx = none) (hne : dx ≠ y) (E : XK) :
    spF w F (P f) (.ref y :: vs) (upd (upd H dx (.own y)) y (.ins Ca dx [])) (fun v H3 => v = .non ∧ Q (.ref y) H3) E := by
  have same : ∀ a o, H a = some o → upd (upd H dx (.own y)) y (.ins Ca dx []) a = some o := fun a o e => by
    rw [upd_ne (fun z => by rw [z, hy] at e; cases e), upd_ne (fun z => by rw [z, hdx] at e; cases e)]
    exact e
  have p0 : P0 Z H Z (upd (upd H dx (.own y)) y (.ins Ca dx [])) := ⟨fun _ h => h, fun _ h => .inl h, same, fun a z q => by
    cases e : H a with
    | none => exact s.zd a z e
    | some o => rw [same a o e] at q; cases q⟩
  have nz : ¬ Z y := fun z => s.zd y z hy
  refine ⟨Z, insD c [] :: ds, p0.zd, ?_, ?_⟩
  · rw [hq]
    exact .io (o := .ins c []) nz ⟨Ca, dx, [], upd_same, hm, .nil⟩ (.allF hf hl (p0.reps r))
  · unfold newM at k
    cases e : P f (insD c [] :: ds) with
    | stuck => rw [e] at k; exact k.elim
    | exc x o => rw [e] at k; exact k.elim
    | ok d outs =>
      rw [e] at k
      intro Z' H' v cs out rr
      rw [hq] at cs out
      have eio : ioA (true :: qs) (V.ref y :: vs) = [y] := by
        show y :: ioA qs vs = [y]
        rw [ioA_allF hf]
      rw [eio] at cs out
      unfold RetR at rr
      rw [ho] at rr
      have rr : Rep w Z' H' v d := rr
      match d, outs, k, rr, out with
      | .none, [o], k, rr, out =>
        obtain ⟨nz', ob, eo, ro⟩ := out
        cases eo
        cases rr
        refine ⟨rfl, ?_⟩
        have hn : ∀ a, upd (upd H dx (.own y)) y (.ins Ca dx []) a = none → H a = none := fun a z => by
          cases q : H a with
          | none => rfl
          | some o => rw [same a o q] at z; cases z
        have p1 : P0 Z H (addZ Z' y) H' := ⟨fun a h => .inl (cs.z a h), fun a h => h.elim (fun h => (cs.zg a h).elim .inl fun q => .inr (hn a q)) fun q => .inr (q ▸ hy), fun a o e => cs.kp a o (same a o e) (fun z => by
          have : a = y := by simpa using z
          rw [this, hy] at e; cases e), fun a h => h.elim (cs.zd a) fun q => q ▸ ro.some⟩
        exact k (addZ Z' y) H' p1.xs (s.p0 p1) _ (OwnRep.rep (.inr rfl) (OwnRep.zmono (fun _ q => .inl q) ro))
      | .none, [], k, _, _ => exact k.elim
      | .none, _ :: _ :: _, k, _, _ => exact k.elim
      | .bool _, _, k, _, _ => exact k.elim
      | .int _, _, k, _, _ => exact k.elim
      | .str _, _, k, _, _ => exact k.elim
      | .list _, _, k, _, _ => exact k.elim
      | .tuple _, _, k, _, _ => exact k.elim
      | .dict _, _, k, _, _ => exact k.elim
def initB (ps : List Bool) : Bool := match ps with
  | true :: qs => allF qs
  | _ => false
theorem new_pe (ok : CxOk X C P) {f : Nat} {c m : Str} {ps : List Str} {F : Fn} {es : List IE} {args : List Expr} {kws : List Keyword} {p pos : Pos} (hf : C.fs[f]? = some (.me c m .init, ps, F)) (hst : F.star = false) (hg : glB C c = true) (hdb : (c == ("__debug__" : Str)) = false)
    (hl : args.length + kws.length + 1 = ps.length) (hpl : F.ps.length = ps.length) (hnk : args.length + 1 = ps.length ∨ args.length + 1 ∈ F.kb) (hk : kws.map (·.arg) = (ps.drop (args.length + 1)).map some)
    (haf : initB F.ps = true) (hown : F.own = false) (ha : AllV X P es (args ++ kws.map (·.value))) : PE X (.Call (.Name c p) args kws pos) (tD (wdX X) WF (den P (.new c f es))) := by
  obtain ⟨fa, fd, k, ⟨Ca, hm, hc, hmk⟩, F1, _, hr, _⟩ := ok.fs f _ ps F hf
  obtain ⟨FO, hb⟩ := F1 hst
  obtain ⟨qs, hq, hqf⟩ : ∃ qs, F.ps = true :: qs ∧ allF qs = true := by
    unfold initB at haf
    split at haf
    · rename_i qs h; exact ⟨qs, h, haf⟩
    · cases haf
  refine ⟨fun pins s σ H Q I h => ?_⟩
  have h : tD (wdX X) WF (bnd (denAll P es) fun ds => newM P c f ds) σ H Q := h
  obtain ⟨A, Z, ρ, sr, pp⟩ := h
  have h1 : tDAll (wdX X) WF (denAll P es) σ H fun vs H2 => ∀ y dx, H2 y = none → H2 dx = none → dx ≠ y → spF (wdX X) F (P f) (.ref y :: vs) (upd (upd H2 dx (.own y)) y (.ins Ca dx [])) (fun v H3 => v = .non ∧ Q (.ref y) H3) E0 := by
    refine ⟨A, Z, ρ, sr, ?_⟩
    have kb := pp.bnd
    cases e9 : denAll P es ρ with
    | stuck => rw [e9] at kb; exact kb
    | exc x r => rw [e9] at kb; exact kb
    | ok ds2 ρ2 =>
      rw [e9] at kb
      intro Z2 H2 x2 s2 vs rv y dx hy hdx hne
      obtain ⟨_, _, k2⟩ := kb Z2 H2 x2 s2
      have hvl : qs.length = vs.length := by
        have h1 := ha.len
        have h2 := denAll_len e9
        have h3 := rv.length
        have h4 := congrArg List.length hq
        simp only [List.length_append, List.length_map] at h1
        rw [List.length_cons] at h4
        omega
      exact new_read hm hq hqf hown hvl s2 rv k2 y dx hy hdx hne E0
  refine wpAny_Call_Name_kw (ld_glob I (ok.gl hg) hm ?_ hdb)
  refine args_run (first := []) (ks := ps.drop (args.length + 1)) hmk.kp hk ha I h1 fun s2 H2 us ws vs I2 hus r h2 => ?_
  exact make_G hmk FO hr ok.xa.gd (hb _ hnk) hus pass0 I2 r h2
/-! ### the rest in one -/
theorem mc_readS {F : Fn} {b : Addr} {d : PyData} {vs : List V} {ds : List PyData} {Q : VK} {f : Nat} (hf : F.ps = [false, false]) (ho : F.own = false) (s : SR w A Z H ρ σ) (r0 : Rep w Z H (.ref b) d) (r : Reps w Z H vs ds) (hl : ds.length ≤ LIM)
    (k : Post w W A Z H ρ σ (mcM P f [d, .tuple ds] ρ) fun d Z' H' _ => ∀ v, Rep w Z' H' v d → Q v H') (E : XK) : spS w F (P f) (.ref b :: vs) H Q E := by
  refine ⟨[.ref b], vs, rfl, by rw [hf]; rfl, line_lim (by rw [r.length]; exact hl), Z, [d], ds, s.zd, by rw [hf]; exact .sh r0 .nil, r, ?_⟩
  unfold mcM at k
  show match P f [d, .tuple ds] with
    | .ok d outs => _
    | _ => False
  cases e : P f [d, .tuple ds] with
  | stuck => rw [e] at k; exact k.elim
  | exc x o => rw [e] at k; exact k.elim
  | ok d outs =>
    rw [e] at k
    intro Z' H' v c _ rr
    have eio : ioA F.ps.dropLast [V.ref b] = [] := by rw [hf]; rfl
    rw [eio] at c
    unfold RetR at rr
    rw [ho] at rr
    have rr : Rep w Z' H' v d := rr
    cases outs with
    | cons _ _ => exact k.elim
    | nil => exact k Z' H' (c.p0 (by simp)).xs (s.p0 (c.p0 (by simp))) v rr
theorem new_readS {F : Fn} {f : Nat} {c : Str} {Ca : Addr} {vs : List V} {ds : List PyData} {Q : VK} (hm : w.mg c = some (.ref Ca)) (hq : F.ps = [true, false]) (ho : F.own = false) (s : SR w A Z H ρ σ) (r : Reps w Z H vs ds) (hl : ds.length ≤ LIM)
    (k : Post w W A Z H ρ σ (newM P c f [.tuple ds] ρ) fun d Z' H' _ => ∀ v, Rep w Z' H' v d → Q v H') (y dx : Addr) (hy : H y = none) (hdx : H dx = none) (hne : dx ≠ y) (E : XK) :
    spS w F (P f) (.ref y :: vs) (upd (upd H dx (.own y)) y (.ins Ca dx [])) (fun v H3 => v = .non ∧ Q (.ref y) H3) E := by
  have same : ∀ a o, H a = some o → upd (upd H dx (.own y)) y (.ins Ca dx []) a = some o := fun a o e => by
    rw [upd_ne (fun z => by rw [z, hy] at e; cases e), upd_ne (fun z => by rw [z, hdx] at e; cases e)]
    exact e
  have p0 : P0 Z H Z (upd (upd H dx (.own y)) y (.ins Ca dx [])) := ⟨fun _ h => h, fun _ h => .inl h, same, fun a z q => by
    cases e : H a with
    | none => exact s.zd a z e
    | some o => rw [same a o e] at q; cases q⟩
  have nz : ¬ Z y := fun z => s.zd y z hy
  refine ⟨[.ref y], vs, rfl, by rw [hq]; rfl, line_lim (by rw [r.length]; exact hl), Z, [insD c []], ds, p0.zd, ?_, p0.reps r, ?_⟩
  · rw [hq]
    exact .io (o := .ins c []) nz ⟨Ca, dx, [], upd_same, hm, .nil⟩ .nil
  · unfold newM at k
    show match P f [insD c [], .tuple ds] with
      | .ok d outs => _
      | _ => False
    cases e : P f [insD c [], .tuple ds] with
    | stuck => rw [e] at k; exact k.elim
    | exc x o => rw [e] at k; exact k.elim
    | ok d outs =>
      rw [e] at k
      intro Z' H' v cs out rr
      have eio : ioA F.ps.dropLast [V.ref y] = [y] := by rw [hq]; rfl
      rw [eio] at cs out
      unfold RetR at rr
      rw [ho] at rr
      have rr : Rep w Z' H' v d := rr
      match d, outs, k, rr, out with
      | .none, [o], k, rr, out =>
        obtain ⟨nz', ob, eo, ro⟩ := out
        cases eo
        cases rr
        refine ⟨rfl, ?_⟩
        have hn : ∀ a, upd (upd H dx (.own y)) y (.ins Ca dx []) a = none → H a = none := fun a z => by
          cases q : H a with
          | none => rfl
          | some o => rw [same a o q] at z; cases z
        have p1 : P0 Z H (addZ Z' y) H' := ⟨fun a h => .inl (cs.z a h), fun a h => h.elim (fun h => (cs.zg a h).elim .inl fun q => .inr (hn a q)) fun q => .inr (q ▸ hy), fun a o e => cs.kp a o (same a o e) (fun z => by
          have : a = y := by simpa using z
          rw [this, hy] at e; cases e), fun a h => h.elim (cs.zd a) fun q => q ▸ ro.some⟩
        exact k (addZ Z' y) H' p1.xs (s.p0 p1) _ (OwnRep.rep (.inr rfl) (OwnRep.zmono (fun _ q => .inl q) ro))
      | .none, [], k, _, _ => exact k.elim
      | .none, _ :: _ :: _, k, _, _ => exact k.elim
      | .bool _, _, k, _, _ => exact k.elim
      | .int _, _, k, _, _ => exact k.elim
      | .str _, _, k, _, _ => exact k.elim
      | .list _, _, k, _, _ => exact k.elim
      | .tuple _, _, k, _, _ => exact k.elim
      | .dict _, _, k, _, _ => exact k.elim
/-- o.m(..), the rest in one -/
theorem mcallS_pe (ok : CxOk X C P) {f : Nat} {c m : Str} {ps : List Str} {F : Fn} {a : IE} {es : List IE} {o : Expr} {args : List Expr} {apos pos : Pos} (hf : C.fs[f]? = some (.me c m .meth, ps, F)) (hst : F.star = true) (ho : PE X o (tD (wdX X) WF (den P a)))
    (hat : attrOk o = true) (hline : (apos.endLine == pos.line) = true) (hlen : args.length < 25) (hps : F.ps = [false, false]) (hown : F.own = false) (ha : AllV X P es args) :
    PE X (.Call (.Attribute o m apos) args [] pos) (tD (wdX X) WF (den P (.mcallS c m f a es))) := by
  obtain ⟨fa, fd, k, ⟨Ca, hm, hc, hme⟩, _, F2, hr, _⟩ := ok.fs f _ ps F hf
  have FO := F2 hst
  have ha' : AllV X P es (args ++ ([] : List Keyword).map (·.value)) := by rw [List.map_nil, List.append_nil]; exact ha
  have hk : ([] : List Keyword).map (·.arg) = ([] : List Str).map some := rfl
  refine ⟨fun pins s σ H Q I h => ?_⟩
  have h : tD (wdX X) WF (bnd (den P a) fun d => if isIns c d && noFld m d then bnd (denAll P es) fun ds => if ds.length ≤ LIM then mcM P f [d, .tuple ds] else fail else fail) σ H Q := h
  obtain ⟨A, Z, ρ, sr, p⟩ := h
  have h1 : tD (wdX X) WF (den P a) σ H fun v H1 => ∃ b dx fs, v = .ref b ∧ H1 b = some (.ins Ca dx fs) ∧ fs.lookup m = none ∧ tDAll (wdX X) WF (denAll P es) σ H1 fun vs H2 => vs.length = es.length ∧ spS (wdX X) F (P f) (.ref b :: vs) H2 Q E0 := by
    refine ⟨A, Z, ρ, sr, p.bnd.imp fun d Z1 H1 ρ1 x1 s1 ⟨_, _, kk⟩ v r => ?_⟩
    by_cases g : (isIns c d && noFld m d) = true
    · rw [if_pos g] at kk
      obtain ⟨g1, g2⟩ := and_true g
      unfold isIns at g1
      unfold noFld at g2
      cases e : insF d with
      | none => rw [e] at g1; cases g1
      | some q =>
        obtain ⟨c', l⟩ := q
        rw [e] at g1 g2
        have g1 : c' = c := of_decide_eq_true g1
        subst g1
        dsimp only at g2
        obtain ⟨b, C', dx, fs, rfl, z, hbb, hmm, rf⟩ := r.inst e
        have hmm : X.mg c' = some (.ref C') := hmm
        rw [hm] at hmm
        cases hmm
        cases e2 : fldsOf l with
        | none => rw [e2] at g2; cases g2
        | some ds =>
          rw [e2] at g2
          dsimp only at g2
          have lk := rf.lookup e2 m
          cases e3 : ds.lookup m with
          | some d' => rw [e3] at g2; cases g2
          | none =>
            rw [e3] at lk
            refine ⟨b, dx, fs, rfl, hbb, lk, A, Z1, ρ1, s1, ?_⟩
            have kb := kk.bnd
            cases e9 : denAll P es ρ1 with
            | stuck => rw [e9] at kb; exact kb
            | exc x r => rw [e9] at kb; exact kb
            | ok ds2 ρ2 =>
              rw [e9] at kb
              intro Z2 H2 x2 s2 vs rv
              obtain ⟨_, _, k2⟩ := kb Z2 H2 x2 s2
              refine ⟨by rw [rv.length, denAll_len e9], ?_⟩
              by_cases hl : ds2.length ≤ LIM
              · rw [if_pos hl] at k2
                exact mc_readS hps hown s2 (s1.rep x2 r) rv hl k2 E0
              · rw [if_neg hl] at k2
                exact k2.elim
    · rw [if_neg g] at kk
      exact kk.elim
  refine meth_late (attr_no hat) (form_ok (ks := []) ha.star hk (by simpa using hlen)) hline (thn (ho.run pins s σ H _ I h1) fun u s1 ⟨v, H1, I1, rv, b, dx, fs, ev, eb, lk, q⟩ => ?_)
  subst ev
  obtain rfl : u = Value.ref b := rv
  refine getmeth_ok I1 eb hc hme lk ?_
  refine args_run (ks := []) hme.kp hk ha' I1 q fun s2 H2 us ws vs I2 hus r h2 => ?_
  obtain ⟨hvl, h2⟩ := h2
  have hw : ws = [] := by
    have h3 := r.length
    have h4 := ha.len
    rw [List.length_append] at h3
    exact List.eq_nil_of_length_eq_zero (by omega)
  subst hw
  rw [List.append_nil] at r
  exact run_S FO hr.room ok.xa.gd pass0 I2 (.cons (show RelV (.ref b) (.ref b) from rfl) r) h2
/-- a field is set -/
theorem setF_read {own : Bool} {D : Ends} {i : Nat} {c x : Str} {e : IE} (hc : ∃ Ca, w.mg c = some (.ref Ca) ∧ Cls w.K Ca ∧ NoAttr w.K Ca x) (h : tS w W own (exe P (.setF i c x e)) D σ H) : sFld w.K (tVar i) (tD w W (den P e)) x D σ H := by
  have h : tS w W own (bnd (den P e) fun d => bnd (setFld i c x d) fun _ => ret .nx) D σ H := h
  obtain ⟨A, Z, ρ, s, p⟩ := h
  refine ⟨A, Z, ρ, s, (PostS.bnd s p).imp fun d Z1 H1 ρ1 x1 s1 k v r => ?_⟩
  have kp := PostS.bnd s1 k
  clear k
  unfold setFld at kp
  cases q : ρ1[i]? with
  | none => rw [q] at kp; exact kp.elim
  | some sl =>
    rw [q] at kp
    cases sl with
    | no => exact kp.elim
    | sh d => exact kp.elim
    | own b o =>
      cases o with
      | lst l => exact kp.elim
      | dic l => exact kp.elim
      | ins c' fs =>
        dsimp only at kp
        by_cases g : (decide (c' = c) && decide (fs.length < 1000)) = true
        · rw [if_pos g] at kp
          obtain ⟨g1, g2⟩ := and_true g
          have g1 := of_decide_eq_true g1
          have g2 := of_decide_eq_true g2
          subst g1
          obtain ⟨a, e1, nz, ⟨C', dx, fv, ha, hm, rf⟩, _, _⟩ := s1.own i b _ q
          obtain ⟨Ca, m1, cl, na⟩ := hc
          have m1 : w.mg c' = some (.ref Ca) := m1
          rw [hm] at m1
          cases m1
          have hlen : fv.length < 1000 := by have := rf.length; simp at this; omega
          refine ⟨.ref a, e1, a, C', dx, fv, rfl, ha, cl, na, hlen, ?_⟩
          have hk : ∀ b' u, Z1 b' → H1 b' = some u → upd H1 a (.ins C' dx (putF x v fv)) b' = some u := fun b' u z e => by
            have hne : b' ≠ a := fun q => nz (q ▸ z)
            rw [upd_ne hne]; exact e
          have ht : ∀ b' xs, TpR H1 b' xs → TpR (upd H1 a (.ins C' dx (putF x v fv))) b' xs := fun b' xs q => q.mv fun u h => by
            have hne : b' ≠ a := fun z => by obtain ⟨o, e, _⟩ := q; rw [z, ha] at e; cases e
            rw [upd_ne hne]; exact h
          have rf' : RepFs w Z1 (upd H1 a (.ins C' dx (putF x v fv))) (putF x v fv) ((putD x d fs).map fun p => (.str p.1, p.2)) := RepFs.put (r.stay (fun _ h => h) hk ht) (rf.stay (fun _ h => h) hk ht)
          obtain ⟨xs, sr⟩ := s1.change (o' := .ins c' (putD x d fs)) (Z' := Z1) (H' := upd H1 a (.ins C' dx (putF x v fv))) q e1 (fun _ h => h) (fun _ h => .inl h) (fun b' u e n => by rw [upd_ne n]; exact e)
            (fun b' e => by
              by_cases hb : b' = a
              · rw [hb, upd_same] at e; cases e
              · rwa [upd_ne hb] at e)
            (fun b' z e => by
              by_cases hb : b' = a
              · exact nz (hb ▸ z)
              · rw [upd_ne hb] at e; exact s1.zd b' z e) nz ⟨C', dx, putF x v fv, upd_same, hm, rf'⟩
          exact PostS.nx sr (kp Z1 _ xs sr)
        · rw [if_neg g] at kp
          exact kp.elim
end
end M3
set_option Elab.async false
set_option linter.all false
set_option maxRecDepth 100000
set_option maxHeartbeats 2000000
/-! F18c: instances: star calls of a class, isinstance, operations by own methods. -/
namespace M3
open PySem PySem.Spec L2
open PyProof.Rows hiding St
section
variable {w : Wd} {W : WX} {A : Act} {Z Z' Z1 Z2 : Addr → Prop} {H H' H1 H2 : Hp} {ρ ρ' ρ1 ρ2 : En} {σ : St} {X : Cx} {C : CC} {P : Ph}
/-- c(..), the rest in one -/
theorem newS_pe (ok : CxOk X C P) {f : Nat} {c m : Str} {ps : List Str} {F : Fn} {es : List IE} {args : List Expr} {p pos : Pos} (hf : C.fs[f]? = some (.me c m .init, ps, F)) (hst : F.star = true) (hg : glB C c = true) (hdb : (c == ("__debug__" : Str)) = false)
    (hps : F.ps = [true, false]) (hown : F.own = false) (ha : AllV X P es args) : PE X (.Call (.Name c p) args [] pos) (tD (wdX X) WF (den P (.newS c f es))) := by
  obtain ⟨fa, fd, k, ⟨Ca, hm, hc, hmk⟩, _, F2, hr, _⟩ := ok.fs f _ ps F hf
  have FO := F2 hst
  have ha' : AllV X P es (args ++ ([] : List Keyword).map (·.value)) := by rw [List.map_nil, List.append_nil]; exact ha
  have hk : ([] : List Keyword).map (·.arg) = ([] : List Str).map some := rfl
  refine ⟨fun pins s σ H Q I h => ?_⟩
  have h : tD (wdX X) WF (bnd (denAll P es) fun ds => if ds.length ≤ LIM then newM P c f [.tuple ds] else fail) σ H Q := h
  obtain ⟨A, Z, ρ, sr, pp⟩ := h
  have h1 : tDAll (wdX X) WF (denAll P es) σ H fun vs H2 => vs.length = es.length ∧ ∀ y dx, H2 y = none → H2 dx = none → dx ≠ y → spS (wdX X) F (P f) (.ref y :: vs) (upd (upd H2 dx (.own y)) y (.ins Ca dx [])) (fun v H3 => v = .non ∧ Q (.ref y) H3) E0 := by
    refine ⟨A, Z, ρ, sr, ?_⟩
    have kb := pp.bnd
    cases e9 : denAll P es ρ with
    | stuck => rw [e9] at kb; exact kb
    | exc x r => rw [e9] at kb; exact kb
    | ok ds2 ρ2 =>
      rw [e9] at kb
      intro Z2 H2 x2 s2 vs rv
      refine ⟨by rw [rv.length, denAll_len e9], fun y dx hy hdx hne => ?_⟩
      obtain ⟨_, _, k2⟩ := kb Z2 H2 x2 s2
      by_cases hl : ds2.length ≤ LIM
      · rw [if_pos hl] at k2
        exact new_readS hm hps hown s2 rv hl k2 y dx hy hdx hne E0
      · rw [if_neg hl] at k2
        exact k2.elim
  refine wpAny_Call_Name_kw (ld_glob I (ok.gl hg) hm ?_ hdb)
  refine args_run (first := []) (ks := []) hmk.kp hk ha' I h1 fun s2 H2 us ws vs I2 hus r h2 => ?_
  obtain ⟨hvl, h2⟩ := h2
  have hw : ws = [] := by
    have h3 := r.length
    have h4 := ha.len
    rw [List.length_append] at h3
    exact List.eq_nil_of_length_eq_zero (by omega)
  subst hw
  rw [List.append_nil] at r
  exact make_S hmk FO hr ok.xa.gd pass0 I2 r h2
/-- c(*e) -/
theorem newL_pe (ok : CxOk X C P) {f : Nat} {c m : Str} {ps : List Str} {F : Fn} {a : IE} {e : Expr} {p pos sp : Pos} (hf : C.fs[f]? = some (.me c m .init, ps, F)) (hst : F.star = true) (hg : glB C c = true) (hdb : (c == ("__debug__" : Str)) = false)
    (hps : F.ps = [true, false]) (hown : F.own = false) (he : PE X e (tD (wdX X) WF (den P a))) : PE X (.Call (.Name c p) [.Starred e sp] [] pos) (tD (wdX X) WF (den P (.newL c f a))) := by
  obtain ⟨fa, fd, k, ⟨Ca, hm, hc, hmk⟩, _, F2, hr, _⟩ := ok.fs f _ ps F hf
  have FO := F2 hst
  refine ⟨fun pins s σ H Q I h => ?_⟩
  have h : tD (wdX X) WF (bnd (den P a) fun d => bnd (lift (seqOf d)) fun l => if l.length ≤ LIM then newM P c f [.tuple l] else fail) σ H Q := h
  obtain ⟨A, Z, ρ, sr, pp⟩ := h
  have h1 : tD (wdX X) WF (den P a) σ H fun v H1 => ∃ b xs, v = V.ref b ∧ (SqT X.K H1 b xs ∨ SqL X.K H1 b xs) ∧ ∀ y dx, H1 y = none → H1 dx = none → dx ≠ y → spS (wdX X) F (P f) (.ref y :: xs) (upd (upd H1 dx (.own y)) y (.ins Ca dx [])) (fun v H3 => v = .non ∧ Q (.ref y) H3) E0 := by
    refine ⟨A, Z, ρ, sr, pp.bnd.imp fun d Z1 H1 ρ1 x1 s1 ⟨_, _, kk⟩ v r => ?_⟩
    cases e2 : seqOf d with
    | none => rw [e2] at kk; exact kk.elim
    | some l =>
      rw [e2] at kk
      have kk : Post (wdX X) WF A Z1 H1 ρ1 σ ((if l.length ≤ LIM then newM P c f [.tuple l] else fail) ρ1) _ := kk
      by_cases hl : l.length ≤ LIM
      · rw [if_pos hl] at kk
        cases d with
        | list l' =>
          cases e2
          cases r with
          | lst _ hb rx =>
          exact ⟨_, _, rfl, .inr (.inl hb), fun y dx hy hdx hne => new_readS hm hps hown s1 rx hl kk y dx hy hdx hne E0⟩
        | tuple l' =>
          cases e2
          cases r with
          | tup ht rx =>
            obtain ⟨o, h1, _⟩ := id ht
            exact ⟨_, _, rfl, .inl (.inl (.inr ⟨o, h1⟩)), fun y dx hy hdx hne => new_readS hm hps hown s1 rx hl kk y dx hy hdx hne E0⟩
        | _ => cases e2
      · rw [if_neg hl] at kk
        exact kk.elim
  refine wpAny_Call_Name_kw (ld_glob I (ok.gl hg) hm ?_ hdb)
  refine PySem.W.callWith_S (h₀ := X.base) I.ok.mod.kin hmk.kp (thn (he.run pins s σ H _ I h1) fun v s1 ⟨y, H1, I1, ry, b, xs, ey, hxs, q⟩ => ?_) rfl
  subst ey
  obtain rfl : v = Value.ref b := ry
  exact StX.star_any I1 hxs fun us s2 I2 rv => ⟨I2.kIn, make_S hmk FO hr ok.xa.gd pass0 I2 rv q⟩
/-! ### kinds -/
theorem Rep.tyx {K : PySem.W.Frag} {v : V} {d : PyData} (r : Rep w Z H v d) (h : noDic d = true) : ∃ T ∈ tyNames, TyX K H v (.type T) := by
  cases r with
  | non => exact ⟨_, by simp [tyNames], .base .non⟩
  | bl b => exact ⟨"bool", by simp [tyNames], .base (.bl b)⟩
  | int i => exact ⟨"int", by simp [tyNames], .base (.int i)⟩
  | str x _ => exact ⟨"str", by simp [tyNames], .base (.str x)⟩
  | tup ht _ => obtain ⟨o, h1, _⟩ := ht; exact ⟨"tuple", by simp [tyNames], .fTuple h1⟩
  | lst _ hr _ => exact ⟨"list", by simp [tyNames], tyX_list hr⟩
  | dK => cases h
  | dT => cases h
  | ins => cases h
theorem tyx_ins {K : PySem.W.Frag} {a Ca dx : Addr} {fs : List (Str × V)} (e : H a = some (.ins Ca dx fs)) (c : Cls K Ca) (cx : ClsX K Ca) : TyX K H (.ref a) (.ref Ca) := .base (.ins e c cx.cl cx.gt cx.tk cx.ob)
/-- isinstance(e, c) -/
theorem isC_pe (ok : CxOk X C P) {c : Str} {cs : List Str} {a : IE} {e : Expr} {p q pos : Pos} (hc : ∃ pr ∈ C.cl, pr.1 = c) (hcs : ∀ x ∈ cs, ∃ pr ∈ C.cl, pr.1 = x) (hg : glB C "isinstance" = true) (hgc : glB C c = true) (hdb : (c == ("__debug__" : Str)) = false)
    (he : PE X e (tD (wdX X) WF (den P a))) (hs : isStar e = false) : PE X (.Call (.Name "isinstance" p) [e, .Name c q] [] pos) (tD (wdX X) WF (den P (.isC c cs a))) := by
  obtain ⟨pr, hpr, rfl⟩ := hc
  obtain ⟨Ca, hm, hcl, _, hcx⟩ := ok.cl pr hpr
  have py : PE X (.Name pr.1 q) (tC (.ref Ca)) := ⟨fun pins s σ H Q I h => ld_glob I (ok.gl hgc) hm ⟨.ref Ca, H, I, rfl, h⟩ hdb⟩
  have pa : PA X [e, .Name pr.1 q] _ := pa_cons he (pa_cons py pa_nil) (star_cons hs)
  refine PE.imp (pe_callB call_isi (ok.gl hg) (ok.blt _ (by decide)) boot_isinstance pa (by decide) (by decide) (star_cons hs)) fun σ H Q h => ?_
  have h : tD (wdX X) WF (bnd (den P a) fun d => lift (isiC pr.1 cs d)) σ H Q := h
  obtain ⟨A, Z, ρ, sr, pp⟩ := h
  refine ⟨A, Z, ρ, sr, pp.bnd.imp fun d Z1 H1 ρ1 x1 s1 ⟨_, _, kk⟩ v r => ?_⟩
  show rIsi X.K [v, .ref Ca] H1 Q
  unfold isiC at kk
  cases e1 : insF d with
  | some u =>
    obtain ⟨c', l⟩ := u
    rw [e1] at kk
    dsimp only at kk
    by_cases hcc : cs.contains c' = true
    · rw [if_pos hcc] at kk
      obtain ⟨b, C', dx, fs, rfl, z, hb, hmm, rf⟩ := r.inst e1
      obtain ⟨pr2, hpr2, rfl⟩ := hcs c' (by simpa using hcc)
      obtain ⟨Ca2, hm2, hcl2, _, hcx2⟩ := ok.cl pr2 hpr2
      have hmm : X.mg pr2.1 = some (.ref C') := hmm
      rw [hm2] at hmm
      cases hmm
      obtain ⟨Ca3, Cb3, m3, m4, kit⟩ := ok.cl2 pr2 hpr2 pr hpr
      rw [hm2] at m3
      rw [hm] at m4
      cases m3
      cases m4
      exact ⟨_, _, _, _, _, rfl, .own _, tyx_ins hb hcl2 hcx2, kit, kk Z1 H1 XS.refl s1 _ (.bl _)⟩
    · rw [if_neg hcc] at kk
      exact kk.elim
  | none =>
    rw [e1] at kk
    dsimp only at kk
    by_cases hn : noDic d = true
    · rw [if_pos hn] at kk
      obtain ⟨T, hT, ty⟩ := r.tyx (K := X.K) hn
      exact ⟨_, _, _, _, _, rfl, .own _, ty, (hcx.ty T hT).1, kk Z1 H1 XS.refl s1 _ (.bl _)⟩
    · rw [if_neg hn] at kk
      exact kk.elim
/-! ### operations -/
theorem rcv_reps {k : DK} {vs : List V} {ds : List PyData} {d : PyData} {as : List PyData} (r : Reps w Z H vs ds) (h : rcv k ds = some (d, as)) : ∃ v vas, rcv k vs = some (v, vas) ∧ Rep w Z H v d ∧ Reps w Z H vas as := by
  cases r with
  | nil => cases k <;> cases h
  | cons r1 t =>
    cases t with
    | nil => cases k <;> first | (cases h; exact ⟨_, _, rfl, r1, .nil⟩) | cases h
    | cons r2 t2 =>
      cases t2 with
      | nil => cases k <;> first | (cases h; exact ⟨_, _, rfl, r1, .cons r2 .nil⟩) | (cases h; exact ⟨_, _, rfl, r2, .cons r1 .nil⟩) | cases h
      | cons _ _ => cases k <;> cases h
theorem dkR_ok {k : DK} {v : V} {d d' : PyData} (h : dkR k d = some d') (r : Rep w Z H v d) : ∃ v', bkR k v v' ∧ Rep w Z H v' d' := by
  have go : ∀ {d d'}, (if (insF d).isSome then some d else none) = some d' → Rep w Z H v d → (∃ a, v = .ref a) ∧ d' = d := fun {d d'} h r => by
    cases e : insF d with
    | none => rw [e] at h; cases h
    | some q =>
      rw [e] at h
      cases h
      obtain ⟨c, l⟩ := q
      obtain ⟨b, _, _, _, rfl, _⟩ := r.inst e
      exact ⟨⟨b, rfl⟩, rfl⟩
  cases k with
  | neg => cases h; exact ⟨v, rfl, r⟩
  | ix => cases h; exact ⟨v, rfl, r⟩
  | bor => obtain ⟨a, rfl⟩ := go h r; exact ⟨v, ⟨a, rfl⟩, r⟩
  | band => obtain ⟨a, rfl⟩ := go h r; exact ⟨v, ⟨a, rfl⟩, r⟩
  | len =>
    cases d with
    | int n =>
      have h : (if (decide (0 ≤ n) && decide (n < 2 ^ 62)) = true then some (PyData.int n) else none) = some d' := h
      by_cases c : (decide (0 ≤ n) && decide (n < 2 ^ 62)) = true
      · rw [if_pos c] at h
        cases h
        obtain ⟨c1, c2⟩ := and_true c
        cases r
        exact ⟨_, ⟨⟨n, rfl, of_decide_eq_true c1, of_decide_eq_true c2⟩, rfl⟩, .int n⟩
      · rw [if_neg c] at h
        cases h
    | _ => cases h
  | str =>
    cases d with
    | str y => cases h; cases r with | str _ hs => exact ⟨_, ⟨⟨y, rfl⟩, rfl⟩, .str y hs⟩
    | _ => cases h
  | repr =>
    cases d with
    | str y => cases h; cases r with | str _ hs => exact ⟨_, ⟨⟨y, rfl⟩, rfl⟩, .str y hs⟩
    | _ => cases h
  | isin =>
    cases d with
    | bool y => cases h; cases r with | bl _ => exact ⟨_, ⟨⟨y, rfl⟩, rfl⟩, .bl y⟩
    | _ => cases h
  | eq =>
    cases d with
    | bool y => cases h; cases r with | bl _ => exact ⟨_, ⟨⟨y, rfl⟩, rfl⟩, .bl y⟩
    | _ => cases h
  | notin =>
    cases d with
    | bool y => cases h; cases r with | bl _ => exact ⟨_, ⟨y, rfl, rfl⟩, .bl (!y)⟩
    | _ => cases h
  | ne =>
    cases d with
    | bool y => cases h; cases r with | bl _ => exact ⟨_, ⟨y, rfl, rfl⟩, .bl (!y)⟩
    | _ => cases h
theorem tyK_ok {k : DK} {c : Str} {Ca : Addr} (hm : w.mg c = some (.ref Ca)) (cl : Cls w.K Ca) (cx : ClsX w.K Ca) : ∀ {vs : List V} {ds : List PyData}, Reps w Z H vs ds → dkA k c ds = true → ∀ v ∈ vs, tyK w.K k Ca v H := by
  have hin : ∀ {v d}, Rep w Z H v d → isIns c d = true → ∃ a dx fs, v = .ref a ∧ H a = some (.ins Ca dx fs) := fun {v d} r g => by
    unfold isIns at g
    cases e : insF d with
    | none => rw [e] at g; cases g
    | some q =>
      obtain ⟨c', l⟩ := q
      rw [e] at g
      have g1 : c' = c := of_decide_eq_true g
      subst g1
      obtain ⟨b, C', dx, fs, rfl, z, hbb, hmm, rf⟩ := r.inst e
      rw [hm] at hmm
      cases hmm
      exact ⟨b, dx, fs, rfl, hbb⟩
  have hlk : ∀ {v d}, Rep w Z H v d → (isIns c d || noDic d) = true → TyLk w.K Ca v H := fun {v d} r g => by
    rcases Bool.or_eq_true_iff.mp g with g | g
    · obtain ⟨a, dx, fs, rfl, e⟩ := hin r g
      exact ⟨_, tyx_ins e cl cx, by unfold PySem.W.notFirst; simp⟩
    · obtain ⟨T, hT, ty⟩ := r.tyx (K := w.K) g
      refine ⟨_, ty, ?_⟩
      unfold PySem.W.notFirst
      rw [(cx.ty T hT).2]
      simp
  have go : ∀ (vs : List V) (ds : List PyData), Reps w Z H vs ds → dkA k c ds = true → ∀ v ∈ vs, tyK w.K k Ca v H := by
    intro vs
    induction vs with
    | nil => exact fun _ _ _ v hv => nomatch hv
    | cons v0 vs ih =>
      intro ds r h
      cases r with
      | cons r1 t =>
        cases k with
        | eq =>
          obtain ⟨g1, g2⟩ := and_true (show ((isIns c _ || noDic _) && dkA .eq c _) = true from h)
          exact fun v hv => (List.mem_cons.mp hv).elim (fun e => e ▸ hlk r1 g1) (ih _ t g2 v)
        | ne =>
          obtain ⟨g1, g2⟩ := and_true (show ((isIns c _ || noDic _) && dkA .ne c _) = true from h)
          exact fun v hv => (List.mem_cons.mp hv).elim (fun e => e ▸ hlk r1 g1) (ih _ t g2 v)
        | bor =>
          obtain ⟨g1, g2⟩ := and_true (show (isIns c _ && dkA .bor c _) = true from h)
          exact fun v hv => (List.mem_cons.mp hv).elim (fun e => e ▸ hin r1 g1) (ih _ t g2 v)
        | band =>
          obtain ⟨g1, g2⟩ := and_true (show (isIns c _ && dkA .band c _) = true from h)
          exact fun v hv => (List.mem_cons.mp hv).elim (fun e => e ▸ hin r1 g1) (ih _ t g2 v)
        | _ => exact fun v hv => trivial
  exact fun {vs ds} r h => go vs ds r h
theorem dun_read {k : DK} {c : Str} {f : Nat} {F : Fn} {es : List IE} {Ca : Addr} {n : Nat} {Q : VK} (hm : w.mg c = some (.ref Ca)) (cl : Cls w.K Ca) (cx : ClsX w.K Ca) (haf : allF F.ps = true) (hown : F.own = false) (hn : F.ps.length = es.length)
    (h : tD w W (den P (.dun k c f es)) σ H Q) : tDAll w W (denAll P es) σ H fun vs H1 => rD w.K k Ca (spF w F (P f)) vs H1 Q := by
  have h : tD w W (bnd (denAll P es) fun ds => dunM P k c f ds) σ H Q := h
  obtain ⟨A, Z, ρ, sr, pp⟩ := h
  refine ⟨A, Z, ρ, sr, ?_⟩
  have kb := pp.bnd
  cases e9 : denAll P es ρ with
  | stuck => rw [e9] at kb; exact kb
  | exc x r => rw [e9] at kb; exact kb
  | ok ds ρ2 =>
    rw [e9] at kb
    intro Z2 H2 x2 s2 vs rv
    obtain ⟨_, _, k2⟩ := kb Z2 H2 x2 s2
    unfold dunM at k2
    cases e1 : rcv k ds with
    | none => rw [e1] at k2; exact k2.elim
    | some q =>
      obtain ⟨d, as⟩ := q
      rw [e1] at k2
      dsimp only at k2
      by_cases g : (isIns c d && dkA k c as) = true
      · rw [if_pos g] at k2
        obtain ⟨g1, g2⟩ := and_true g
        obtain ⟨v, vas, ev, r1, r2⟩ := rcv_reps rv e1
        unfold isIns at g1
        cases e : insF d with
        | none => rw [e] at g1; cases g1
        | some q =>
          obtain ⟨c', l⟩ := q
          rw [e] at g1
          have g1 : c' = c := of_decide_eq_true g1
          subst g1
          obtain ⟨b, C', dx, fs, rfl, z, hbb, hmm, rf⟩ := r1.inst e
          rw [hm] at hmm
          cases hmm
          have hlen : F.ps.length = (V.ref b :: vas).length := by
            have h2 := denAll_len e9
            have h3 := r2.length
            have h4 : ds.length = as.length + 1 := by
              match k, ds, e1 with
              | .neg, [_], e1 => cases e1; rfl
              | .len, [_], e1 => cases e1; rfl
              | .str, [_], e1 => cases e1; rfl
              | .repr, [_], e1 => cases e1; rfl
              | .isin, [_, _], e1 => cases e1; rfl
              | .notin, [_, _], e1 => cases e1; rfl
              | .eq, [_, _], e1 => cases e1; rfl
              | .ne, [_, _], e1 => cases e1; rfl
              | .ix, [_, _], e1 => cases e1; rfl
              | .bor, [_, _], e1 => cases e1; rfl
              | .band, [_, _], e1 => cases e1; rfl
            rw [List.length_cons]
            omega
          refine ⟨b, dx, fs, vas, ev, hbb, tyK_ok hm cl cx r2 g2, mc_read (d0 := []) rfl haf hown hlen s2 (.cons r1 r2) (k2.bnd.imp fun r Z3 H3 ρ3 x3 s3 ⟨_, _, k3⟩ v rr => ?_) E0⟩
          cases e5 : dkR k r with
          | none => rw [e5] at k3; exact k3.elim
          | some d' =>
            rw [e5] at k3
            obtain ⟨v', b1, b2⟩ := dkR_ok e5 rr
            exact ⟨v', b1, k3 Z3 H3 XS.refl s3 v' b2⟩
      · rw [if_neg g] at k2
        exact k2.elim
def dunArgs (C : CC) (k : DK) (e : Expr) : Option (List Expr) := match k, e with
  | .neg, .UnaryOp .USub a _ => some [a]
  | .len, .Call (.Name x _) [a] [] _ => if x == "len" && glB C x then some [a] else none
  | .repr, .Call (.Name x _) [a] [] _ => if x == "repr" && glB C x then some [a] else none
  | .str, .Call (.Name x _) [a] [] _ => if x == "str" && glB C x then some [a] else none
  | .isin, .Compare a [.In] [b] _ => if notSetE b then some [a, b] else none
  | .notin, .Compare a [.NotIn] [b] _ => if notSetE b then some [a, b] else none
  | .eq, .Compare a [.Eq] [b] _ => if notSetE b then some [a, b] else none
  | .ne, .Compare a [.NotEq] [b] _ => if notSetE b then some [a, b] else none
  | .bor, .BinOp a .BitOr b _ => some [a, b]
  | .band, .BinOp a .BitAnd b _ => some [a, b]
  | _, _ => none
theorem allV1 {is : List IE} {e : Expr} (h : AllV X P is [e]) : ∃ i, is = [i] ∧ PE X e (tD (wdX X) WF (den P i)) ∧ isStar e = false := by
  cases h with | cons h1 _ h2 t => cases t; exact ⟨_, rfl, h1, h2⟩
theorem allV2 {is : List IE} {e f : Expr} (h : AllV X P is [e, f]) : ∃ i j, is = [i, j] ∧ PE X e (tD (wdX X) WF (den P i)) ∧ PE X f (tD (wdX X) WF (den P j)) := by
  cases h with | cons h1 _ h2 t => cases t with | cons h3 _ h4 t => cases t; exact ⟨_, _, rfl, h1, h3⟩
theorem dA1 {i : IE} {R : List V → Hp → Prop} (h : tDAll w W (denAll P [i]) σ H R) : tD w W (den P i) σ H fun v H1 => R [v] H1 := by
  obtain ⟨A, Z, ρ, s, p⟩ := denAll_read h
  refine ⟨A, Z, ρ, s, p.imp fun d Z1 H1 ρ1 x1 s1 k v r => ?_⟩
  obtain ⟨A2, Z2, ρ2, s2, p2⟩ := k v r
  exact p2 Z2 H1 XS.refl s2 [] .nil
theorem dA2 {i j : IE} {R : List V → Hp → Prop} (h : tDAll w W (denAll P [i, j]) σ H R) : tD w W (den P i) σ H fun v H1 => tD w W (den P j) σ H1 fun u H2 => R [v, u] H2 := by
  obtain ⟨A, Z, ρ, s, p⟩ := denAll_read h
  exact ⟨A, Z, ρ, s, p.imp fun d Z1 H1 ρ1 x1 s1 k v r => dA1 (k v r)⟩
theorem bnd_bool {F : M PyData} (hb : ∀ ρ d ρ', F ρ = .ok d ρ' → ∃ k, d = .bool k) : True := trivial
def isBk : DK → Bool
  | .isin => true
  | .notin => true
  | .eq => true
  | .ne => true
  | _ => false
theorem dun_bool {k : DK} {c : Str} {f : Nat} {es : List IE} (hb : isBk k = true) : ∀ ρ d ρ', den P (.dun k c f es) ρ = .ok d ρ' → ∃ b, d = .bool b := fun ρ d ρ' h => by
  have h : bnd (denAll P es) (fun ds => dunM P k c f ds) ρ = .ok d ρ' := h
  obtain ⟨ds, ρ1, _, h2⟩ := bnd_ok h
  unfold dunM at h2
  cases e1 : rcv k ds with
  | none => rw [e1] at h2; cases h2
  | some q =>
    obtain ⟨d0, as⟩ := q
    rw [e1] at h2
    dsimp only at h2
    by_cases g : (isIns c d0 && dkA k c as) = true
    · rw [if_pos g] at h2
      obtain ⟨r, ρ2, _, h3⟩ := bnd_ok h2
      cases e5 : dkR k r with
      | none => rw [e5] at h3; cases h3
      | some d' =>
        rw [e5] at h3
        cases h3
        cases k <;> cases hb <;> (cases r <;> cases e5 <;> exact ⟨_, rfl⟩)
    · rw [if_neg g] at h2
      cases h2
theorem dun_pe (ok : CxOk X C P) {k : DK} {f : Nat} {c : Str} {ps : List Str} {F : Fn} {es : List IE} {e : Expr} {args : List Expr} (hf : C.fs[f]? = some (.me c (dkN k) .meth, ps, F)) (hst : F.star = false) (hc : ∃ pr ∈ C.cl, pr.1 = c) (hpl : F.ps.length = ps.length) (hl : args.length = ps.length)
    (haf : allF F.ps = true) (hown : F.own = false) (h : dunArgs C k e = some args) (ha : AllV X P es args) : Both X e (den P (.dun k c f es)) := by
  obtain ⟨pr, hpr, rfl⟩ := hc
  obtain ⟨Ca, hm, hcl, _, hcx⟩ := ok.cl pr hpr
  obtain ⟨fa, fd, n, ⟨Ca', hm', hc', hme⟩, F1, _, hr, _⟩ := ok.fs f _ ps F hf
  obtain ⟨FO, hb⟩ := F1 hst
  rw [hm] at hm'
  cases hm'
  have D : Dn X n fa Ca fd ps (spF (wdX X) F (P f)) k := ⟨hme, FO, hr, ok.xa.gd, hb _ (.inl rfl), hcx⟩
  have hn : F.ps.length = es.length := by rw [ha.len, hpl, hl]
  have rd : ∀ {σ H Q}, tD (wdX X) WF (den P (.dun k pr.1 f es)) σ H Q → tDAll (wdX X) WF (denAll P es) σ H fun vs H1 => rD X.K k Ca (spF (wdX X) F (P f)) vs H1 Q := fun {σ H Q} q => dun_read (n := 0) hm hcl hcx haf hown hn q
  unfold dunArgs at h
  split at h
  · cases h
    obtain ⟨i, rfl, h1, h2⟩ := allV1 ha
    exact both_plain (PE.imp (pe_un (D_neg D) h1) fun σ H Q q => dA1 (rd q)) rfl
  · split at h
    · rename_i x _ a _ g
      cases h
      obtain ⟨g1, g2⟩ := and_true g
      have g1 : x = "len" := by simpa using g1
      subst g1
      obtain ⟨i, rfl, h1, h2⟩ := allV1 ha
      exact both_plain (PE.imp (pe_callB (D_len D) (ok.gl g2) (ok.blt _ (by decide)) boot_len ha.pa (by decide) (by decide) (star_cons h2)) fun σ H Q q => rd q) rfl
    · cases h
  · split at h
    · rename_i x _ a _ g
      cases h
      obtain ⟨g1, g2⟩ := and_true g
      have g1 : x = "repr" := by simpa using g1
      subst g1
      obtain ⟨i, rfl, h1, h2⟩ := allV1 ha
      exact both_plain (PE.imp (pe_callB (D_repr D) (ok.gl g2) (ok.blt _ (by decide)) boot_repr ha.pa (by decide) (by decide) (star_cons h2)) fun σ H Q q => rd q) rfl
    · cases h
  · split at h
    · rename_i x _ a _ g
      cases h
      obtain ⟨g1, g2⟩ := and_true g
      have g1 : x = "str" := by simpa using g1
      subst g1
      obtain ⟨i, rfl, h1, h2⟩ := allV1 ha
      exact both_plain (PE.imp (pe_callTy (D_str D) (ok.gl g2) (ok.blt _ (by decide)) boot_str ha.pa (by decide) (by decide) (star_cons h2)) fun σ H Q q => rd q) rfl
    · cases h
  · split at h
    · rename_i g
      cases h
      obtain ⟨i, j, rfl, h1, h2⟩ := allV2 ha
      exact ⟨PE.imp (pe_cmpR (D_in D) h1 h2 (behind_no g)) fun σ H Q q => dA2 (rd q), PT.imp (pt_cmpR (D_in D) h1 h2 (behind_no g)) fun σ H Q q => dA2 (rd (tD_bool (dun_bool rfl) q))⟩
    · cases h
  · split at h
    · rename_i g
      cases h
      obtain ⟨i, j, rfl, h1, h2⟩ := allV2 ha
      exact ⟨PE.imp (pe_cmpR (D_notin D) h1 h2 (behind_no g)) fun σ H Q q => dA2 (rd q), PT.imp (pt_cmpR (D_notin D) h1 h2 (behind_no g)) fun σ H Q q => dA2 (rd (tD_bool (dun_bool rfl) q))⟩
    · cases h
  · split at h
    · rename_i g
      cases h
      obtain ⟨i, j, rfl, h1, h2⟩ := allV2 ha
      exact ⟨PE.imp (pe_cmpR (D_eq D) h1 h2 (behind_no g)) fun σ H Q q => dA2 (rd q), PT.imp (pt_cmpR (D_eq D) h1 h2 (behind_no g)) fun σ H Q q => dA2 (rd (tD_bool (dun_bool rfl) q))⟩
    · cases h
  · split at h
    · rename_i g
      cases h
      obtain ⟨i, j, rfl, h1, h2⟩ := allV2 ha
      exact ⟨PE.imp (pe_cmpR (D_ne D) h1 h2 (behind_no g)) fun σ H Q q => dA2 (rd q), PT.imp (pt_cmpR (D_ne D) h1 h2 (behind_no g)) fun σ H Q q => dA2 (rd (tD_bool (dun_bool rfl) q))⟩
    · cases h
  · cases h
    obtain ⟨i, j, rfl, h1, h2⟩ := allV2 ha
    exact both_plain (PE.imp (pe_op (D_bor D) h1 h2) fun σ H Q q => dA2 (rd q)) rfl
  · cases h
    obtain ⟨i, j, rfl, h1, h2⟩ := allV2 ha
    exact both_plain (PE.imp (pe_op (D_band D) h1 h2) fun σ H Q q => dA2 (rd q)) rfl
  · cases h
end
end M3
set_option Elab.async false
set_option linter.all false
set_option maxRecDepth 100000
/-! F19: the expressions of the language against the syntax. -/
namespace M3
open PySem PySem.Spec L2
open PyProof.Rows hiding St
def chkCst (d : PyData) : Expr → Bool
  | .Constant c _ _ => (match d, c with
    | .none, .none => true
    | .bool a, .bool b => a == b
    | .int a, .int b => a == b
    | .str a, .str b => a == b && sOk a
    | _, _ => false)
  | _ => false
def eqC : PyData → PyData → Bool
  | .int a, .int b => a == b
  | .str a, .str b => a == b
  | _, _ => false
theorem eqC_eq {a b : PyData} (h : eqC a b = true) : a = b := by
  cases a <;> cases b <;> first | cases h | skip
  · exact congrArg PyData.int (by simpa [eqC] using h)
  · exact congrArg PyData.str (by simpa [eqC] using h)
def methOf : Op → Option (Str × String × String)
  | .split => some ("split", "str.split", "str")
  | .join => some ("join", "str.join", "str")
  | .index => some ("index", "tuple.index", "tuple")
  | .indexL => some ("index", "list.index", "list")
  | .count => some ("count", "list.count", "list")
  | _ => none
/-- a comprehension's own names -/
def ownNames (C : CC) (vs : List Nat) : List (Str × Nat) := vs.map fun i => (C.N.getD i "", i)
def subB (a b : List Nat) : Bool := a.all fun i => b.contains i
theorem subB_ok {a b : List Nat} (h : subB a b = true) : ∀ i ∈ a, i ∈ b := fun i hi => by
  have := List.all_eq_true.mp h i hi
  simpa using this
mutual
def chkT (C : CC) : Tg → Expr → Bool
  | .name i, e => isLocT C i e
  | .tup ts, .Tuple es _ _ => chkTs C ts es
  | .tup _, _ => false
def chkTs (C : CC) : List Tg → List Expr → Bool
  | [], [] => true
  | t :: ts, e :: es => chkT C t e && !isStar e && chkTs C ts es
  | _, _ => false
end
def isTup : Expr → Bool
  | .Tuple _ _ _ => true
  | _ => false
/-- what is walked: its arguments in the syntax -/
def srcArgs (C : CC) (k : SK) (tg : Expr) (e : Expr) : Option (List Expr) := match k, e with
  | .seq, e => if notSetE e && !isStar e then some [e] else none
  | .rng1, .Call (.Name x _) [a] [] _ => if x == "range" && glB C x then some [a] else none
  | .rng2, .Call (.Name x _) [a, b] [] _ => if x == "range" && glB C x then some [a, b] else none
  | .enum, .Call (.Name x _) [a] [] _ => if x == "enumerate" && glB C x && isTup tg then some [a] else none
  | .zip, .Call (.Name x _) [a, b] [] _ => if x == "zip" && glB C x && isTup tg then some [a, b] else none
  | _, _ => none
def valOnly : SK → Bool
  | .rng1 => false
  | .rng2 => false
  | _ => true
def isVarT (C : CC) : IE → Expr → Bool
  | .tmp i, e => isVar C i e
  | _, _ => false
def isListO : Op → Bool
  | .list => true
  | _ => false
def clH (C : CC) (c : Str) : Bool := C.cl.any fun p => p.1 == c
theorem clH_ok {C : CC} {c : Str} (h : clH C c = true) : ∃ pr ∈ C.cl, pr.1 = c := by
  obtain ⟨p, hp, e⟩ := List.any_eq_true.mp h
  exact ⟨p, hp, by simpa using e⟩
def flB (C : CC) (c x : Str) : Bool := C.cl.any fun p => p.1 == c && p.2.contains x
mutual
def chkE : IE → CC → Expr → Bool
  | .var i, C, e => isVar C i e
  | .tmp _, C, _ => false
  | .cst d, C, e => chkCst d e
  | .glb x d, C, .Name y _ => y == x && glB C x && !(x == ("__debug__" : Str)) && (match C.cs.lookup x with | some d' => eqC d' d | none => false)
  | .op o es, C, e => (match opArgs C o e with
    | some args => chkOs es C args
    | none => false)
  | .tup es, C, .Tuple as _ _ => chkVs es C as
  | .lst es, C, .List as _ => chkVs es C as
  | .slc b1 b2 a lo hi, C, .Subscript e (.Slice l h none _) _ => (if isT a then isVarT C a e else chkE a C e) && (match b1, l with
      | true, some x => chkE lo C x
      | false, none => true
      | _, _ => false) && (match b2, h with
      | true, some x => chkE hi C x
      | false, none => true
      | _, _ => false)
  | .meth o a es, C, .Call (.Attribute e name apos) args [] pos => (match methOf o with
    | some (n, _, _) => name == n && attrOk e && (apos.endLine == pos.line) && decide (args.length < 20) && !args.isEmpty && chkE a C e && chkOs es C args
    | none => false)
  | .and a b, C, .BoolOp .And (x :: y :: rest) pos => chkE a C x && (match rest with
      | [] => chkE b C y
      | r :: rs => chkE b C (.BoolOp .And (y :: r :: rs) pos))
  | .or a b, C, .BoolOp .Or (x :: y :: rest) pos => chkE a C x && (match rest with
      | [] => chkE b C y
      | r :: rs => chkE b C (.BoolOp .Or (y :: r :: rs) pos))
  | .not a, C, .UnaryOp .Not x _ => chkE a C x
  | .ite c a b, C, .IfExp x y z _ => chkE c C x && chkE a C y && chkE b C z
  | .chain o o' a b c, C, .Compare x [op, op'] [y, z] _ => (cmpOf o == some op) && (cmpOf o' == some op') && notSetE z && chkE a C x && chkE b C y && chkE c C z
  | .call f es, C, .Call (.Name x _) args kws _ => (match C.fs[f]? with
    | some (.fn n, ps, F) => !F.star && x == n && glB C x && !(x == ("__debug__" : Str)) && fits F.ps es && !F.own && decide (args.length + kws.length = ps.length) && decide (args.length = ps.length ∨ args.length ∈ F.kb) && decide (kws.map (·.arg) = (ps.drop args.length).map some) && chkOs es C (args ++ kws.map (·.value))
    | _ => false)
  | .callF f e, C, .Call (.Name x _) [a] [] _ => (match C.fs[f]? with
    | some (.fn n, ps, F) => !F.star && x == n && glB C x && !(x == ("__debug__" : Str)) && decide (F.ps = [true]) && !F.own && decide (ps.length = 1) && chkF e C a && !isStar a
    | _ => false)
  | .pop i e, C, .Call (.Attribute v name apos) [a] [] pos => name == "pop" && isVar C i v && attrOk v && (apos.endLine == pos.line) && chkE e C a && !isStar a
  | .pop0 i, C, .Call (.Attribute v name apos) [] [] pos => name == "pop" && isVar C i v && attrOk v && (apos.endLine == pos.line)
  | .lc vs tg k s ifs e, C, .ListComp elt [⟨t, it, cs, a⟩] scope _ => (match srcArgs C k t it with
    | some args => decide (a = 0) && subB tg.names vs && blkC C.N C.sc scope (ownNames C vs) && (s.all fun e => !isT e || !valOnly k) && chkOs s C args && chkT (C.inn scope) tg t &&
        decide (ifs.length ≤ 1) && chkVs ifs (C.inn scope) cs && chkE e (C.inn scope) elt
    | none => false)
  | .lc2 vs vs1 tg k s ifs tg1 k1 s1 ifs1 e, C, .ListComp elt [⟨t, it, cs, a⟩, ⟨t1, it1, cs1, a1⟩] scope _ => (match srcArgs C k t it, srcArgs (C.inn scope) k1 t1 it1 with
    | some args, some args1 => decide (a = 0) && decide (a1 = 0) && subB tg.names vs && subB tg1.names vs1 && subB vs1 vs && blkC C.N C.sc scope (ownNames C vs) && (s.all fun e => !isT e || !valOnly k) && (s1.all fun e => !isT e || !valOnly k1) &&
        chkOs s C args && chkOs s1 (C.inn scope) args1 && chkT (C.inn scope) tg t && chkT (C.inn scope) tg1 t1 && decide (ifs.length ≤ 1) && decide (ifs1.length ≤ 1) &&
        chkVs ifs (C.inn scope) cs && chkVs ifs1 (C.inn scope) cs1 && chkE e (C.inn scope) elt
    | _, _ => false)
  | .new c f es, C, .Call (.Name x _) args kws _ => (match C.fs[f]? with
    | some (.me c' _ .init, ps, F) => !F.star && x == c && c' == c && glB C c && !(c == ("__debug__" : Str)) && initB F.ps && !F.own && decide (args.length + kws.length + 1 = ps.length) && decide (F.ps.length = ps.length) &&
        decide (args.length + 1 = ps.length ∨ args.length + 1 ∈ F.kb) && decide (kws.map (·.arg) = (ps.drop (args.length + 1)).map some) && chkVs es C (args ++ kws.map (·.value))
    | _ => false)
  | .fld c x a, C, .Attribute e y _ => y == x && attrOk e && flB C c x && chkE a C e
  | .prop c x f a, C, .Attribute e y _ => (match C.fs[f]? with
    | some (.me c' x' .prop, ps, F) => !F.star && y == x && x' == x && c' == c && attrOk e && decide (ps.length = 1) && decide (F.ps.length = ps.length) && allF F.ps && !F.own && chkE a C e
    | _ => false)
  | .mcall c m f a es, C, .Call (.Attribute e y apos) args kws pos => (match C.fs[f]? with
    | some (.me c' m' .meth, ps, F) => !F.star && y == m && m' == m && c' == c && attrOk e && (apos.endLine == pos.line) && decide (args.length + kws.length < 25) && decide (args.length + kws.length + 1 = ps.length) && decide (F.ps.length = ps.length) &&
        decide (args.length + 1 = ps.length ∨ args.length + 1 ∈ F.kb) && decide (kws.map (·.arg) = (ps.drop (args.length + 1)).map some) && allF F.ps && !F.own && chkE a C e && chkVs es C (args ++ kws.map (·.value))
    | _ => false)
  | .mcallS c m f a es, C, .Call (.Attribute e y apos) args [] pos => (match C.fs[f]? with
    | some (.me c' m' .meth, ps, F) => F.star && y == m && m' == m && c' == c && attrOk e && (apos.endLine == pos.line) && decide (args.length < 25) && decide (F.ps = [false, false]) && !F.own && chkE a C e && chkVs es C args
    | _ => false)
  | .newS c f es, C, .Call (.Name x _) args [] _ => (match C.fs[f]? with
    | some (.me c' _ .init, ps, F) => F.star && x == c && c' == c && glB C c && !(c == ("__debug__" : Str)) && decide (F.ps = [true, false]) && !F.own && chkVs es C args
    | _ => false)
  | .newL c f a, C, .Call (.Name x _) [.Starred e _] [] _ => (match C.fs[f]? with
    | some (.me c' _ .init, ps, F) => F.star && x == c && c' == c && glB C c && !(c == ("__debug__" : Str)) && decide (F.ps = [true, false]) && !F.own && chkE a C e
    | _ => false)
  | .isC c cs a, C, .Call (.Name x _) [e, .Name y _] [] _ => x == "isinstance" && y == c && clH C c && cs.all (clH C) && glB C "isinstance" && glB C c && !(c == ("__debug__" : Str)) && !isStar e && chkE a C e
  | .dun k c f es, C, e => (match C.fs[f]?, dunArgs C k e with
    | some (.me c' m .meth, ps, F), some args => !F.star && c' == c && m == dkN k && clH C c && decide (F.ps.length = ps.length) && decide (args.length = ps.length) && allF F.ps && !F.own && chkVs es C args
    | _, _ => false)
  | _, C, _ => false
def chkOs : List IE → CC → List Expr → Bool
  | [], C, [] => true
  | i :: is, C, e :: es => (if isT i then isVarT C i e else chkE i C e) && !isStar e && chkOs is C es
  | _, C, _ => false
def chkVs : List IE → CC → List Expr → Bool
  | [], C, [] => true
  | i :: is, C, e :: es => chkE i C e && !isStar e && chkVs is C es
  | _, C, _ => false
/-- what makes an object of one's own -/
def chkF : IE → CC → Expr → Bool
  | .lst es, C, .List as _ => chkVs es C as
  | .op o es, C, .Call (.Name x _) args [] _ => isListO o && x == "list" && glB C x && decide (args.length = 1) && chkOs es C args
  | .call f es, C, .Call (.Name x _) args kws _ => (match C.fs[f]? with
    | some (.fn n, ps, F) => !F.star && x == n && glB C x && !(x == ("__debug__" : Str)) && fits F.ps es && F.own && decide (args.length + kws.length = ps.length) && decide (args.length = ps.length ∨ args.length ∈ F.kb) && decide (kws.map (·.arg) = (ps.drop args.length).map some) && chkOs es C (args ++ kws.map (·.value))
    | _ => false)
  | _, C, _ => false
end
def chkO (C : CC) (i : IE) (e : Expr) : Bool := if isT i then isVarT C i e else chkE i C e
end M3
set_option Elab.async false
set_option linter.all false
set_option maxRecDepth 100000
set_option maxHeartbeats 1000000
namespace M3
open PySem PySem.Spec L2
open PyProof.Rows hiding St
section
variable {X : Cx} {C : CC} {P : Ph}
theorem rel_lookup {sc : Scope} {x : Str} {k : NameKind} (hk : k = .local ∨ k = .cell) : ∀ {names : List (Str × NameKind)}, names.lookup x = some k →
    (names.map fun (n, k) => if (k == NameKind.free && sc.kind == .function && sc.names.lookup n == some .cell) then (n, NameKind.cell) else (n, k)).lookup x = some k
  | [], h => by cases h
  | (n, k') :: r, h => by
    have ih := rel_lookup (sc := sc) (x := x) hk (names := r)
    rw [List.map_cons]
    rw [List.lookup_cons] at h
    cases hx : x == n with
    | true =>
      rw [hx] at h
      cases h
      have e : (k == NameKind.free && sc.kind == .function && sc.names.lookup n == some .cell) = false := by rcases hk with z | z <;> (rw [z]; rfl)
      dsimp only
      rw [e, if_neg (by simp), List.lookup_cons, hx]
    | false =>
      rw [hx] at h
      dsimp only
      by_cases c : (k' == NameKind.free && sc.kind == .function && sc.names.lookup n == some .cell) = true
      · rw [if_pos c, List.lookup_cons, hx]; exact ih h
      · rw [if_neg c, List.lookup_cons, hx]; exact ih h
theorem CxOk.blk (ok : CxOk X C P) (scope : Scope) (s : Shared) (H : Hp) (D : Addr) (cl : List (Str × Addr)) (fp : List Addr) : CxOk (X.blk s H scope (compEnvC scope cl D X.env) fp) (C.inn scope) P := by
  have hsc : (compEnvC scope cl D X.env).scope = relS scope C.sc := by
    rw [← ok.sc]
    rfl
  refine ⟨⟨ok.xa.calm, ok.xa.un, ok.xa.gd⟩, ok.n, ok.nd, hsc, fun x h => ?_, ok.blt, ok.fs, ok.cl, ok.cl2, ok.cs⟩
  unfold locB at h
  have h : (match scope.names.lookup x with | some .local => true | some .cell => true | _ => false) = true := h
  show L2.Loc (compEnvC scope cl D X.env).scope x ∧ ((scope.names.lookup x == some .cell) = true ∨ (compEnvC scope cl D X.env).scope.names.lookup x = some .local)
  rw [hsc]
  cases e : scope.names.lookup x with
  | none => rw [e] at h; cases h
  | some k =>
    rw [e] at h
    cases k with
    | «local» => exact ⟨.inl (rel_lookup (.inl rfl) e), .inr (rel_lookup (.inl rfl) e)⟩
    | cell => exact ⟨.inr (rel_lookup (.inr rfl) e), .inl rfl⟩
    | free => cases h
    | globalExplicit => cases h
    | globalImplicit => cases h
/-- targets -/
theorem assign_star {env : Env} : ∀ {es : List Expr}, (∀ e ∈ es, isStar e = false) → (assignEach es env).length = es.length ∧ (assignEach es env).findIdx? (·.1) = none
  | [], _ => ⟨rfl, rfl⟩
  | e :: es, h => by
    have e1 : assignEach (e :: es) env = (false, assign e env) :: assignEach es env := by
      have := h e List.mem_cons_self
      cases e <;> first | rfl | cases this
    obtain ⟨i1, i2⟩ := assign_star (env := env) (es := es) fun d hd => h d (List.mem_cons_of_mem _ hd)
    rw [e1]
    refine ⟨by rw [List.length_cons, List.length_cons, i1], ?_⟩
    rw [List.findIdx?_cons, i2]
    rfl
theorem assign_cons {e : Expr} {es : List Expr} {env : Env} (h : isStar e = false) : (assignEach (e :: es) env).map (·.2) = assign e env :: (assignEach es env).map (·.2) := by
  cases e <;> first | rfl | cases h
mutual
theorem sndT : ∀ (t : Tg) {X : Cx} {C : CC} {e : Expr}, CxOk X C P → chkT C t e = true → PG X e (gOf X.K t)
  | .name i, X, C, e, ok, h => loc_pg ok (by unfold chkT at h; exact h)
  | .tup ts, X, C, e, ok, h => by
    cases e with
    | Tuple es k p =>
      unfold chkT at h
      obtain ⟨h1, h2, h3⟩ := sndTs ts ok h
      obtain ⟨a1, a2⟩ := assign_star (env := X.env) h2
      unfold gOf
      exact pg_tup ok.xa.calm h1 (by rw [a1, h3]) a2
    | _ => unfold chkT at h; cases h
theorem sndTs : ∀ (ts : List Tg) {X : Cx} {C : CC} {es : List Expr}, CxOk X C P → chkTs C ts es = true → PGs X es (gsOf X.K ts) ∧ (∀ e ∈ es, isStar e = false) ∧ es.length = ts.length
  | [], X, C, es, ok, h => by
    cases es with
    | nil => exact ⟨pgs_nil, (fun _ h => nomatch h), rfl⟩
    | cons _ _ => unfold chkTs at h; cases h
  | t :: ts, X, C, es, ok, h => by
    cases es with
    | nil => unfold chkTs at h; cases h
    | cons e es =>
      unfold chkTs at h
      obtain ⟨h, h3⟩ := and_true h
      obtain ⟨h1, h2⟩ := and_true h
      have h2 : isStar e = false := by simpa using h2
      obtain ⟨i1, i2, i3⟩ := sndTs ts ok h3
      refine ⟨pgs_cons (sndT t ok h1) i1 (assign_cons h2), fun d hd => (List.mem_cons.mp hd).elim (fun q => q ▸ h2) (i2 d), by rw [List.length_cons, List.length_cons, i3]⟩
end
/-- sources -/
theorem src_pi (ok : CxOk X C P) {k : SK} {tg it : Expr} {s : List IE} {args : List Expr} (h : srcArgs C k tg it = some args) (hv : (s.all fun e => !isT e || !valOnly k) = true) (ha : AllO X P s args) : PI X tg it (tSrc (wdX X) WF (bnd (dens P s) (src k))) ∧ ∀ x, foldedSetIterable it X.env x = pure x := by
  have PIimp : ∀ {wi wi' : TI}, PI X tg it wi → (∀ σ H R, wi' σ H R → wi σ H R) → PI X tg it wi' := fun p f => ⟨fun pins s σ H R I q => p.run pins s σ H R I (f σ H R q)⟩
  have val : ∀ {i : IE} {e : Expr}, isT i = false → PE X e (tDO (wdX X) WF (opd i (den P i))) → PE X e (tD (wdX X) WF (den P i)) := fun {i e} hi p => PE.imp p fun σ H Q q => by
    obtain ⟨A, Z, ρ, s, q⟩ := q
    refine ⟨A, Z, ρ, s, ?_⟩
    rw [opd_val hi]
    unfold M3.bnd
    cases e : den P i ρ with
    | stuck => rw [e] at q; exact q
    | exc x r => rw [e] at q; exact q
    | ok d ρ1 => rw [e] at q; exact fun Z' H' x s v r => q Z' H' x s v r
  cases k with
  | seq =>
    have h : (if notSetE it && !isStar it then some [it] else none) = some args := by unfold srcArgs at h; exact h
    by_cases c : (notSetE it && !isStar it) = true
    · rw [if_pos c] at h
      cases h
      obtain ⟨i, rfl, h1, h2⟩ := allO1 ha
      have hi : isT i = false := by simpa [valOnly] using hv
      exact ⟨PIimp (pi_seqK (val hi h1)) fun σ H R q => seq_src hi q, folded_no (and_true c).1⟩
    · rw [if_neg c] at h; cases h
  | rng1 =>
    unfold srcArgs at h
    split at h
    · rename_i heq; cases heq
    · rename_i x p a pos heq
      by_cases c : (x == "range" && glB C x) = true
      · rw [if_pos c] at h
        cases h
        obtain ⟨c1, c2⟩ := and_true c
        have c1 : x = "range" := by simpa using c1
        subst c1
        have ps := ha.pa
        obtain ⟨i, rfl, h1, h2⟩ := allO1 ha
        exact ⟨PIimp (pi_range1 (ok.gl c2) (ok.blt _ (by decide)) ps (star_cons h2)) fun σ H R q => rng1_src q, fun _ => rfl⟩
      · rw [if_neg c] at h; cases h
    all_goals (first | (rename_i heq; cases heq) | (rename_i heq _; cases heq) | cases h)
  | rng2 =>
    unfold srcArgs at h
    split at h
    · rename_i heq; cases heq
    · rename_i heq; cases heq
    · rename_i x p a b pos heq
      by_cases c : (x == "range" && glB C x) = true
      · rw [if_pos c] at h
        cases h
        obtain ⟨c1, c2⟩ := and_true c
        have c1 : x = "range" := by simpa using c1
        subst c1
        have ps := ha.pa
        have st := ha.star
        obtain ⟨i, j, rfl, h1, h2⟩ := allO2 ha
        have s2 : starEach [b] X.env = [(false, eval b X.env)] := star_cons (st b (by simp))
        have s1 : starEach [a, b] X.env = [(false, eval a X.env), (false, eval b X.env)] := by rw [star_cons (st a (by simp)), s2]
        exact ⟨PIimp (pi_range2 (ok.gl c2) (ok.blt _ (by decide)) ps s1 s2) fun σ H R q => rng2_src q, fun _ => rfl⟩
      · rw [if_neg c] at h; cases h
    all_goals (first | (rename_i heq; cases heq) | cases h)
  | enum =>
    unfold srcArgs at h
    split at h
    · rename_i heq; cases heq
    · rename_i heq; cases heq
    · rename_i heq; cases heq
    · rename_i x p a pos heq
      by_cases c : (x == "enumerate" && glB C x && isTup tg) = true
      · rw [if_pos c] at h
        cases h
        obtain ⟨c, c3⟩ := and_true c
        obtain ⟨c1, c2⟩ := and_true c
        have c1 : x = "enumerate" := by simpa using c1
        subst c1
        obtain ⟨i, rfl, h1, h2⟩ := allO1 ha
        have hi : isT i = false := by simpa [valOnly] using hv
        cases tg with
        | Tuple es kk tp => exact ⟨PIimp (pi_enumK (ok.gl c2) (ok.blt _ (by decide)) (pa_cons (val hi h1) pa_nil (star_cons h2)) (star_cons h2)) fun σ H R q => enum_src hi q, fun _ => rfl⟩
        | _ => cases c3
      · rw [if_neg c] at h; cases h
    all_goals (first | (rename_i heq; cases heq) | cases h)
  | zip =>
    unfold srcArgs at h
    split at h
    · rename_i heq; cases heq
    · rename_i heq; cases heq
    · rename_i heq; cases heq
    · rename_i heq; cases heq
    · rename_i x p a b pos heq
      by_cases c : (x == "zip" && glB C x && isTup tg) = true
      · rw [if_pos c] at h
        cases h
        obtain ⟨c, c3⟩ := and_true c
        obtain ⟨c1, c2⟩ := and_true c
        have c1 : x = "zip" := by simpa using c1
        subst c1
        have st := ha.star
        obtain ⟨i, j, rfl, h1, h2⟩ := allO2 ha
        have hij : isT i = false ∧ isT j = false := by simpa [valOnly] using hv
        have s2 : starEach [b] X.env = (false, eval b X.env) :: starEach [] X.env := star_cons (st b (by simp))
        have s1 : starEach [a, b] X.env = (false, eval a X.env) :: starEach [b] X.env := star_cons (st a (by simp))
        cases tg with
        | Tuple es kk tp => exact ⟨PIimp (pi_zipK (ok.gl c2) (ok.blt _ (by decide)) (pa_cons (val hij.1 h1) (pa_cons (val hij.2 h2) pa_nil s2) s1) s1 (star_any fun d hd => st d (by simp at hd; simp [hd]))) fun σ H R q => zip_src hij.1 hij.2 q, fun _ => rfl⟩
        | _ => cases c3
      · rw [if_neg c] at h; cases h
    all_goals (first | (rename_i heq; cases heq) | cases h)
  | items =>
    unfold srcArgs at h
    split at h
    all_goals (first | (rename_i heq; cases heq) | cases h)
  | keys =>
    unfold srcArgs at h
    split at h
    all_goals (first | (rename_i heq; cases heq) | cases h)
end
end M3
set_option Elab.async false
set_option linter.all false
set_option maxRecDepth 100000
set_option maxHeartbeats 4000000
/-! F21: the expressions mean what they say. -/
namespace M3
open PySem PySem.Spec L2
open PyProof.Rows hiding St
section
variable {X : Cx} {C : CC} {P : Ph}
theorem pw_bool {op : BoolOp} {vs : List Expr} {pos : Pos} {t : TT} (h : PT X (.BoolOp op vs pos) t) : PW X (.BoolOp op vs pos) t := ⟨fun whole pins s σ H Q I q => h.run pins s σ H Q I q⟩
def tIfT (c a b : TT) : TT := fun σ H Q => c σ H fun k H1 => if k = true then a σ H1 Q else b σ H1 Q
theorem pt_ifExp {c a b : Expr} {tc ta tb : TT} {pos : Pos} (hc : PT X c tc) (ha : PT X a ta) (hb : PT X b tb) : PT X (.IfExp c a b pos) (tIfT tc ta tb) := by
  refine ⟨fun pins s σ H Q I h => ?_⟩
  show wpAny _ _ (do if ← isTrue c X.env (eval c X.env) then isTrue a X.env (eval a X.env) else isTrue b X.env (eval b X.env)) _ _ s
  refine wpAny_bind (thn (hc.run pins s σ H _ I h) fun k s1 ⟨H1, I1, q1⟩ => ?_)
  cases k with
  | true => exact ha.run pins s1 σ H1 Q I1 q1
  | false => exact hb.run pins s1 σ H1 Q I1 q1
theorem iteT_read {w : Wd} {W : WX} {σ : St} {H : Hp} {c a b : M Bool} {Q : Bool → Hp → Prop} (h : tDT w W (bnd c fun k => if k then a else b) σ H Q) : tIfT (tDT w W c) (tDT w W a) (tDT w W b) σ H Q := by
  obtain ⟨A, Z, ρ, s, p⟩ := h
  refine ⟨A, Z, ρ, s, (Post.bnd (m := c) p).imp fun t Z1 H1 ρ1 x1 s1 ⟨_, _, k⟩ => ?_⟩
  cases t with
  | true => exact ⟨A, Z1, ρ1, s1, k⟩
  | false => exact ⟨A, Z1, ρ1, s1, k⟩
theorem cst_pe {d : PyData} {e : Expr} (h : chkCst d e = true) : Both X e (ret d) := by
  cases e with
  | Constant c k p =>
    unfold chkCst at h
    dsimp only at h
    have go : ∀ {v : V}, PE X (.Constant c k p) (tC v) → (∀ Z H, Rep (wdX X) Z H v d) → Both X (.Constant c k p) (ret d) := fun pv r => both_plain (PE.imp pv fun σ H Q q => tD_ret r q) rfl
    cases d <;> cases c <;> first | cases h | skip
    · exact go pe_non fun _ _ => .non
    · rename_i a b
      have : a = b := by simpa using h
      subst this
      exact go pe_bl fun _ _ => .bl _
    · rename_i a b
      have : a = b := by simpa using h
      subst this
      exact go pe_int fun _ _ => .int _
    · rename_i a b
      obtain ⟨h1, h2⟩ := and_true h
      have : a = b := by simpa using h1
      subst this
      exact go pe_str fun _ _ => .str _ h2
  | _ => cases h
theorem meth_pe (ok : CxOk X C P) {o : Op} {n : Str} {id T : String} (hm : methOf o = some (n, id, T)) {a : IE} {es : List IE} {e : Expr} {args : List Expr} {apos pos : Pos} (ha : PE X e (tD (wdX X) WF (den P a))) (hs : AllO X P es args)
    (hat : attrOk e = true) (hl : (apos.endLine == pos.line) = true) (hn : args.length < 20) (hne : args.isEmpty = false) :
    PE X (.Call (.Attribute e n apos) args [] pos) (tD (wdX X) WF (bnd (den P a) fun x => if recv o x then bnd (dens P es) fun os => apM o (.val x :: os) else fail)) := by
  have st := hs.star
  cases args with
  | nil => cases hne
  | cons x r =>
    have hfew : ((backTo pos (starEach (x :: r) X.env)).all (fun x => !x.1) && (backToKw pos (keywordEach [] X.env)).all (fun x => x.1.isSome)
      && decide ((x :: r).length + ([] : List Keyword).length + (if ([] : List Keyword).isEmpty then 0 else 1) < 30)) = true := by
      rw [star_all st]
      show (true && true && decide ((x :: r).length + 0 + 0 < 30)) = true
      rw [decide_eq_true (by omega)]
      rfl
    have h1 := star_cons (es := r) (env := X.env) (st x List.mem_cons_self)
    have h2 : (backTo pos (starEach r X.env)).any (·.1) = false := star_any fun d hd => st d (List.mem_cons_of_mem _ hd)
    have go : ∀ {T id : String} {ty : V → Hp → Prop}, TyOk X T ty → PlainAttrs T → Slot T n id → typeOf (.builtin id) = pure (.type "method_descriptor") → MtR X id (fun x xs H Q => rAp (wdX X) o (x :: xs) H Q) → (∀ {Z H v d}, Rep (wdX X) Z H v d → recv o d = true → ty v H) →
        PE X (.Call (.Attribute e n apos) (x :: r) [] pos) (tD (wdX X) WF (bnd (den P a) fun x => if recv o x then bnd (dens P es) fun os => apM o (.val x :: os) else fail)) := fun ht pa sl hty hmt hT =>
      PE.imp (pe_mG ht pa sl hty hmt ha hs.pa (attr_no hat) hfew hl h1 h2) fun σ H Q q => meth_read hT q
    cases o <;> cases hm
    · exact go ty_str PySem.F.plainAttrs_str PySem.F.slot_str_split PySem.F.type_str_split M_split fun r h => by
        cases r <;> first | exact ⟨_, rfl⟩ | cases h
    · exact go ty_str PySem.F.plainAttrs_str PySem.F.slot_str_join PySem.F.type_str_join M_join fun r h => by
        cases r <;> first | exact ⟨_, rfl⟩ | cases h
    · exact go ty_tuple PySem.F.plainAttrs_tuple PySem.F.slot_tuple_index PySem.F.type_tuple_index M_index fun r h => by
        cases r <;> first | exact ⟨_, _, rfl, by assumption⟩ | cases h
    · exact go ty_list PySem.F.plainAttrs_list PySem.F.slot_list_index PySem.F.type_list_index M_indexL fun r h => by
        cases r <;> first | exact ⟨_, _, rfl, by assumption⟩ | cases h
    · exact go ty_list PySem.F.plainAttrs_list PySem.F.slot_list_count PySem.F.type_list_count (M_count ok.xa) fun r h => by
        cases r <;> first | exact ⟨_, _, rfl, by assumption⟩ | cases h
theorem list_fresh {w : Wd} {W : WX} {i : IE} {σ : St} {H : Hp} {Q : VK} (h : tDF w W (bnd (dens P [i]) (apM .list)) σ H Q) :
    tCB (fun xs H Q => ∃ p ys, xs = [.ref p] ∧ (SqL w.K H p ys ∨ SqT w.K H p ys) ∧ ∀ l, H l = none → Q (.ref l) (upd H l (.lst ys))) (tCons (tDO w W (opd i (den P i))) tNil) σ H Q := by
  obtain ⟨A, Z, ρ, s, p⟩ := h
  refine ⟨A, Z, ρ, s, (dens_cons p.bnd).imp fun o1 Z1 H1 ρ1 x1 s1 ⟨_, _, k⟩ v r => ?_⟩
  obtain ⟨_, _, k⟩ := k Z1 H1 XS.refl s1
  unfold apM at k
  cases e : rslvs ρ1 [o1] with
  | none => rw [e] at k; exact k.elim
  | some ds =>
    rw [e] at k
    dsimp only at k
    cases e2 : ap .list ds with
    | none => rw [e2] at k; exact k.elim
    | some d =>
      rw [e2] at k
      obtain ⟨d1, rfl, r1⟩ := (OpRs.rslvs s1 (.cons r .nil) e).v1
      obtain ⟨l, e3, rfl⟩ := map_some (show (seqOf d1).map PyData.list = some d from e2)
      have fin : ∀ {ys : List V}, Reps w Z1 H1 ys l → ∀ q, H1 q = none → Q (.ref q) (upd H1 q (.lst ys)) := fun {ys} ry q hq => by
        have p0 : P0 Z1 H1 Z1 (upd H1 q (.lst ys)) := P0.newT s1.zd hq
        exact k Z1 _ p0.xs (s1.p0 p0) _ ⟨q, .lst l, rfl, rfl, x1.dom q hq, fun z => s1.zd q z hq, ys, upd_same, p0.reps ry⟩
      cases d1 with
      | list m =>
        cases e3
        obtain ⟨a, ys, rfl, ha, ra⟩ := r1.list
        exact ⟨a, ys, rfl, .inl (.inl ha), fin ra⟩
      | tuple m =>
        cases e3
        obtain ⟨a, ys, rfl, ha, ra⟩ := r1.tuple
        exact ⟨a, ys, rfl, .inr ha.sq, fin ra⟩
      | _ => cases e3
theorem own_map (C : CC) (vs : List Nat) : (ownNames C vs).map (·.2) = vs := by
  unfold ownNames
  rw [List.map_map]
  show vs.map (fun i => i) = vs
  rw [List.map_id']
theorem tests_pts {ifs : List IE} {cs : List Expr} (h : AllV X P ifs cs) (hl : ifs.length ≤ 1) : PTs X cs (tDT (wdX X) WF (tests P ifs)) := by
  cases h with
  | nil => exact ⟨fun pins s σ H Q I q => pts_nil.run pins s σ H Q I (tests_nil q)⟩
  | cons h1 h2 _ t =>
    cases t with
    | nil => exact ⟨fun pins s σ H Q I q => (pts_one h2).run pins s σ H Q I (by rw [tests_one] at q; exact q)⟩
    | cons _ _ _ _ => simp at hl
theorem denO {i : IE} {e : Expr} (hi : isT i = false) (p : PE X e (tD (wdX X) WF (den P i))) : PE X e (tDO (wdX X) WF (opd i (den P i))) := PE.imp p fun σ H Q q => by
  rw [opd_val hi] at q
  exact tDO_val q
theorem callP (ok : CxOk X C P) {f : Nat} {x : Str} {ps : List Str} {F : Fn} {es : List IE} {args : List Expr} {kws : List Keyword} {p pos : Pos} (hf : C.fs[f]? = some (.fn x, ps, F)) (hst : F.star = false) (hg : glB C x = true) (hdb : (x == ("__debug__" : Str)) = false) (hfit : fits F.ps es = true)
    (hl : args.length + kws.length = ps.length) (hnk : args.length = ps.length ∨ args.length ∈ F.kb) (hk : kws.map (·.arg) = (ps.drop args.length).map some) (ha : AllO X P es (args ++ kws.map (·.value))) : PE X (.Call (.Name x p) args kws pos) (RetT F.own (wdX X) WF (bnd (dens P es) (callM P f))) := by
  obtain ⟨_, _, _, _, _, _, _, h1⟩ := ok.fs f (.fn x) ps F hf
  exact PE.imp (call_pe ok hf hst hg hdb hl hnk hk ha) fun σ H Q q => call_read hfit h1 q
end
mutual
theorem sndE : ∀ (i : IE) {X : Cx} {C : CC} {P : Ph} {e : Expr}, CxOk X C P → chkE i C e = true → Both X e (den P i)
  | .var i, X, C, P, e, ok, h => by
    unfold chkE at h
    unfold den
    obtain ⟨h1, h2, _⟩ := var_pe ok h
    exact both_plain (PE.imp h1 fun σ H Q q => tD_var q) h2
  | .tmp i, X, C, P, e, ok, h => by
    unfold chkE at h
    cases h
  | .cst d, X, C, P, e, ok, h => by
    unfold chkE at h
    unfold den
    exact cst_pe h
  | .glb x d, X, C, P, e, ok, h => by
    unfold den
    cases e with
    | Name y p =>
      unfold chkE at h
      obtain ⟨h, h4⟩ := and_true h
      obtain ⟨h, h3⟩ := and_true h
      obtain ⟨h1, h2⟩ := and_true h
      have h1 : y = x := by simpa using h1
      subst h1
      cases e : C.cs.lookup y with
      | none => rw [e] at h4; cases h4
      | some d' =>
        rw [e] at h4
        have := eqC_eq h4
        subst this
        obtain ⟨u, v, hm, r, rp⟩ := ok.cs (y, d') (PySem.mem_of_lookup e)
        exact both_plain (PE.imp (pe_glob (ok.gl h2) hm r (by simpa using h3)) fun σ H Q q => tD_ret rp q) rfl
    | _ => unfold chkE at h; cases h
  | .op o es, X, C, P, e, ok, h => by
    unfold chkE at h
    unfold den
    cases e1 : opArgs C o e with
    | none => rw [e1] at h; cases h
    | some args =>
      rw [e1] at h
      exact op_sound ok e1 (sndOs es ok h)
  | .tup es, X, C, P, e, ok, h => by
    cases e with
    | Tuple as k p =>
      unfold chkE at h
      unfold den
      exact both_plain (PE.imp (pe_tupF (sndVs es ok h).pa) fun σ H Q q => tup_read q) rfl
    | _ => unfold chkE at h; cases h
  | .lst es, X, C, P, e, ok, h => by
    cases e with
    | List as p =>
      unfold chkE at h
      unfold den
      exact both_plain (PE.imp (pe_lst (sndVs es ok h).pa) fun σ H Q q => lst_fresh (tDF_of q)) rfl
    | _ => unfold chkE at h; cases h
  | .slc b1 b2 a lo hi, X, C, P, e, ok, h => by
    cases e with
    | Subscript v sl p =>
      cases sl with
      | Slice l u st p2 =>
        cases st with
        | some _ => unfold chkE at h; cases h
        | none =>
          unfold chkE at h
          unfold den
          obtain ⟨h, h3⟩ := and_true h
          obtain ⟨h1, h2⟩ := and_true h
          have pa := sndO a ok h1
          have pl : PO X l (if b1 then tPart (tD (wdX X) WF (den P lo)) else tNoPart) := by
            cases b1 with
            | false => cases l with | none => exact po_none | some _ => cases h2
            | true => cases l with | none => cases h2 | some x => exact po_some (sndE lo ok h2).1
          have pu : PO X u (if b2 then tPart (tD (wdX X) WF (den P hi)) else tNoPart) := by
            cases b2 with
            | false => cases u with | none => exact po_none | some _ => cases h3
            | true => cases u with | none => cases h3 | some x => exact po_some (sndE hi ok h3).1
          exact both_plain (PE.imp (pe_slice R_sl pa pl pu) fun σ H Q q => slc_read rfl rfl q) rfl
      | _ => unfold chkE at h; cases h
    | _ => unfold chkE at h; cases h
  | .meth o a es, X, C, P, e, ok, h => by
    cases e with
    | Call f args kws pos =>
      cases f with
      | Attribute v name apos =>
        cases kws with
        | cons _ _ => unfold chkE at h; cases h
        | nil =>
          unfold chkE at h
          unfold den
          cases e1 : methOf o with
          | none => rw [e1] at h; cases h
          | some m =>
            obtain ⟨n, id, T⟩ := m
            rw [e1] at h
            dsimp only at h
            obtain ⟨h, h7⟩ := and_true h
            obtain ⟨h, h6⟩ := and_true h
            obtain ⟨h, h5⟩ := and_true h
            obtain ⟨h, h4⟩ := and_true h
            obtain ⟨h, h3⟩ := and_true h
            obtain ⟨h1, h2⟩ := and_true h
            have h1 : name = n := by simpa using h1
            subst h1
            exact both_plain (meth_pe ok e1 (sndE a ok h6).1 (sndOs es ok h7) h2 h3 (of_decide_eq_true h4) (by simpa using h5)) rfl
      | _ => unfold chkE at h; cases h
    | _ => unfold chkE at h; cases h
  | .and a b, X, C, P, e, ok, h => by
    cases e with
    | BoolOp op vs pos =>
      cases op with
      | Or => unfold chkE at h; cases h
      | And =>
        match vs, h with
        | [], h => unfold chkE at h; cases h
        | [_], h => unfold chkE at h; cases h
        | x :: y :: rest, h =>
          unfold chkE at h
          unfold den
          obtain ⟨h1, h2⟩ := and_true h
          have ha := sndE a ok h1
          have hb : PE X (.BoolOp .And (y :: rest) pos) (tD (wdX X) WF (den P b)) ∧ PW X (.BoolOp .And (y :: rest) pos) (tDT (wdX X) WF (tru (den P b))) := by
            cases rest with
            | nil =>
              have hb := sndE b ok h2
              exact ⟨pe_one hb.1, pw_and1 hb.2⟩
            | cons r rs =>
              have hb := sndE b ok h2
              exact ⟨hb.1, pw_bool hb.2⟩
          refine ⟨PE.imp (pe_andT ha.1 hb.1) fun σ H Q q => and_read q, PT.imp (pw_and ha.2 hb.2).pt fun σ H Q q => ?_⟩
          rw [tru_and] at q
          exact andT_read q
    | _ => unfold chkE at h; cases h
  | .or a b, X, C, P, e, ok, h => by
    cases e with
    | BoolOp op vs pos =>
      cases op with
      | And => unfold chkE at h; cases h
      | Or =>
        match vs, h with
        | [], h => unfold chkE at h; cases h
        | [_], h => unfold chkE at h; cases h
        | x :: y :: rest, h =>
          unfold chkE at h
          unfold den
          obtain ⟨h1, h2⟩ := and_true h
          have ha := sndE a ok h1
          have hb : PE X (.BoolOp .Or (y :: rest) pos) (tD (wdX X) WF (den P b)) ∧ PW X (.BoolOp .Or (y :: rest) pos) (tDT (wdX X) WF (tru (den P b))) := by
            cases rest with
            | nil =>
              have hb := sndE b ok h2
              exact ⟨pe_one hb.1, pw_or1 hb.2⟩
            | cons r rs =>
              have hb := sndE b ok h2
              exact ⟨hb.1, pw_bool hb.2⟩
          refine ⟨PE.imp (pe_orT ha.1 hb.1) fun σ H Q q => or_read q, PT.imp (pw_or ha.2 hb.2).pt fun σ H Q q => ?_⟩
          rw [tru_or] at q
          exact orT_read q
    | _ => unfold chkE at h; cases h
  | .not a, X, C, P, e, ok, h => by
    cases e with
    | UnaryOp op x pos =>
      cases op with
      | Not =>
        unfold chkE at h
        unfold den
        have ha := sndE a ok h
        refine ⟨PE.imp (pe_notT ha.1) fun σ H Q q => not_read q, PT.imp (pt_not ha.2) fun σ H Q q => ?_⟩
        rw [tru_not] at q
        exact notT_read q
      | _ => unfold chkE at h; cases h
    | _ => unfold chkE at h; cases h
  | .ite c a b, X, C, P, e, ok, h => by
    cases e with
    | IfExp x y z pos =>
      unfold chkE at h
      unfold den
      obtain ⟨h, h3⟩ := and_true h
      obtain ⟨h1, h2⟩ := and_true h
      have hc := sndE c ok h1
      have ha := sndE a ok h2
      have hb := sndE b ok h3
      refine ⟨PE.imp (pe_ifExp hc.2 ha.1 hb.1) fun σ H Q q => ite_read q, PT.imp (pt_ifExp hc.2 ha.2 hb.2) fun σ H Q q => ?_⟩
      rw [tru_ite] at q
      exact iteT_read q
    | _ => unfold chkE at h; cases h
  | .chain o o' a b c, X, C, P, e, ok, h => by
    cases e with
    | Compare x ops bs pos =>
      match ops, bs, h with
      | [op, op'], [y, z], h =>
        unfold chkE at h
        unfold den
        obtain ⟨h, h6⟩ := and_true h
        obtain ⟨h, h5⟩ := and_true h
        obtain ⟨h, h4⟩ := and_true h
        obtain ⟨h, h3⟩ := and_true h
        obtain ⟨h1, h2⟩ := and_true h
        obtain ⟨r, hb⟩ := cmp_rule ok.xa (opt_beq h1)
        obtain ⟨r', hb'⟩ := cmp_rule ok.xa (opt_beq h2)
        have ha := sndE a ok h4
        have hbb := sndE b ok h5
        have hc := sndE c ok h6
        have hm : lastMarks [op, op'] [y, z] = false := by show behindInMarks op' z = false; exact behind_no h3
        refine ⟨PE.imp (pe_chain r r' ha.1 hbb.1 hc.1 hm) fun σ H Q q => chain_read hb q, PT.imp (pt_chain r r' ha.1 hbb.1 hc.1 hm) fun σ H Q q => chain_read hb (tD_bool (fun ρ d ρ' hd => ?_) q)⟩
        obtain ⟨_, _, _, hd⟩ := bnd_ok hd
        obtain ⟨_, _, _, hd⟩ := bnd_ok hd
        obtain ⟨t, ρ3, _, hd⟩ := bnd_ok hd
        split at hd
        · obtain ⟨_, _, _, hd⟩ := bnd_ok hd
          obtain ⟨ds, e⟩ := apM_ok hd
          exact ap_bool hb' e
        · cases hd; exact ⟨_, rfl⟩
        · cases hd
      | [], _, h => unfold chkE at h; cases h
      | [_], _, h => unfold chkE at h; cases h
      | [_, _], [], h => unfold chkE at h; cases h
      | [_, _], [_], h => unfold chkE at h; cases h
      | [_, _], _ :: _ :: _ :: _, h => unfold chkE at h; cases h
      | _ :: _ :: _ :: _, _, h => unfold chkE at h; cases h
    | _ => unfold chkE at h; cases h
  | .call f es, X, C, P, e, ok, h => by
    cases e with
    | Call fn args kws pos =>
      cases fn with
      | Name x p =>
        unfold chkE at h
        unfold den
        cases e1 : C.fs[f]? with
        | none => rw [e1] at h; cases h
        | some m =>
          obtain ⟨a0, ps, F⟩ := m
          rw [e1] at h
          cases a0 with
          | me _ _ _ => cases h
          | fn n =>
          dsimp only at h
          obtain ⟨h, h8⟩ := and_true h
          obtain ⟨h, h7⟩ := and_true h
          obtain ⟨h, h9⟩ := and_true h
          obtain ⟨h, h6⟩ := and_true h
          obtain ⟨h, h5⟩ := and_true h
          obtain ⟨h, h4⟩ := and_true h
          obtain ⟨h, h3⟩ := and_true h
          obtain ⟨h, h2⟩ := and_true h
          obtain ⟨h0, h1⟩ := and_true h
          have h0 : F.star = false := by simpa using h0
          have h1 : x = n := by simpa using h1
          subst h1
          have h5 : F.own = false := by simpa using h5
          have q := callP (p := p) (pos := pos) ok e1 h0 h2 (by simpa using h3) h4 (of_decide_eq_true h6) (of_decide_eq_true h9) (of_decide_eq_true h7) (sndOs es ok h8)
          rw [h5] at q
          exact both_plain q rfl
      | _ => unfold chkE at h; cases h
    | _ => unfold chkE at h; cases h
  | .callF f i, X, C, P, e, ok, h => by
    cases e with
    | Call fn args kws pos =>
      cases fn with
      | Name x p =>
        match args, kws, h with
        | [a], [], h =>
          unfold chkE at h
          unfold den
          cases e1 : C.fs[f]? with
          | none => rw [e1] at h; cases h
          | some m =>
            obtain ⟨a0, ps, F⟩ := m
            rw [e1] at h
            cases a0 with
            | me _ _ _ => cases h
            | fn n =>
            dsimp only at h
            obtain ⟨h, h8⟩ := and_true h
            obtain ⟨h, h7⟩ := and_true h
            obtain ⟨h, h6⟩ := and_true h
            obtain ⟨h, h5⟩ := and_true h
            obtain ⟨h, h4⟩ := and_true h
            obtain ⟨h, h3⟩ := and_true h
            obtain ⟨h, h2⟩ := and_true h
            obtain ⟨h0, h1⟩ := and_true h
            have h0 : F.star = false := by simpa using h0
            have h1 : x = n := by simpa using h1
            subst h1
            have h5 : F.own = false := by simpa using h5
            have h8 : isStar a = false := by simpa using h8
            obtain ⟨fa, fd, k, ⟨hm, hkp⟩, F1, _, hr, _⟩ := ok.fs f (.fn x) ps F e1
            obtain ⟨FO, hb⟩ := F1 h0
            have pf := sndF i ok h7
            have h6 := of_decide_eq_true h6
            refine both_plain (PE.imp (pe_callG FO hr.room ok.xa.gd (ok.gl h2) hm hkp (hb ps.length (.inl rfl)) pass0 (pa_cons pf pa_nil (star_cons h8)) (by simpa using h3) (star_cons h8) rfl) fun σ H Q q => ?_) rfl
            exact callF_read (of_decide_eq_true h4) h5 (EX := E0) q
        | [], _, h => unfold chkE at h; cases h
        | [_], _ :: _, h => unfold chkE at h; cases h
        | _ :: _ :: _, _, h => unfold chkE at h; cases h
      | _ => unfold chkE at h; cases h
    | _ => unfold chkE at h; cases h
  | .pop i j, X, C, P, e, ok, h => by
    cases e with
    | Call fn args kws pos =>
      cases fn with
      | Attribute v name apos =>
        match args, kws, h with
        | [a], [], h =>
          unfold chkE at h
          unfold den
          obtain ⟨h, h6⟩ := and_true h
          obtain ⟨h, h5⟩ := and_true h
          obtain ⟨h, h4⟩ := and_true h
          obtain ⟨h, h3⟩ := and_true h
          obtain ⟨h1, h2⟩ := and_true h
          have h1 : name = "pop" := by simpa using h1
          subst h1
          have h6 : isStar a = false := by simpa using h6
          have pv := (var_pe ok h2).1
          have pe := (sndE j ok h5).1
          refine both_plain (PE.imp (pe_bm PySem.F.plainAttrs_list PySem.F.slot_list_pop PySem.F.type_list_pop mt_popAt pv (pa_cons pe pa_nil (star_cons h6)) (attr_no h3) (by rw [star_all (fun d hd => by simp at hd; rw [hd]; exact h6)]; rfl) h4 (star_cons h6) rfl) fun σ H Q q => pop_read q) rfl
        | [], _, h => unfold chkE at h; cases h
        | [_], _ :: _, h => unfold chkE at h; cases h
        | _ :: _ :: _, _, h => unfold chkE at h; cases h
      | _ => unfold chkE at h; cases h
    | _ => unfold chkE at h; cases h
  | .pop0 i, X, C, P, e, ok, h => by
    cases e with
    | Call fn args kws pos =>
      cases fn with
      | Attribute v name apos =>
        match args, kws, h with
        | [], [], h =>
          unfold chkE at h
          unfold den
          obtain ⟨h, h4⟩ := and_true h
          obtain ⟨h, h3⟩ := and_true h
          obtain ⟨h1, h2⟩ := and_true h
          have h1 : name = "pop" := by simpa using h1
          subst h1
          have pv := (var_pe ok h2).1
          exact both_plain (PE.imp (pe_bm0 PySem.F.plainAttrs_list PySem.F.slot_list_pop PySem.F.type_list_pop mt_pop pv (attr_no h3) h4) fun σ H Q q => pop0_read q) rfl
        | [], _ :: _, h => unfold chkE at h; cases h
        | _ :: _, _, h => unfold chkE at h; cases h
      | _ => unfold chkE at h; cases h
    | _ => unfold chkE at h; cases h
  | .lc vs tg k s ifs i, X, C, P, e, ok, h => by
    cases e with
    | ListComp elt gs scope pos =>
      match gs, h with
      | [⟨t, it, cs, a⟩], h =>
        unfold chkE at h
        unfold den
        cases e1 : srcArgs C k t it with
        | none => rw [e1] at h; cases h
        | some args =>
          rw [e1] at h
          dsimp only at h
          obtain ⟨h, h9⟩ := and_true h
          obtain ⟨h, h8⟩ := and_true h
          obtain ⟨h, h7⟩ := and_true h
          obtain ⟨h, h6⟩ := and_true h
          obtain ⟨h, h5⟩ := and_true h
          obtain ⟨h, h4⟩ := and_true h
          obtain ⟨h, h3⟩ := and_true h
          obtain ⟨h1, h2⟩ := and_true h
          have h1 := of_decide_eq_true h1
          subst h1
          obtain ⟨pi, hs⟩ := src_pi ok e1 h4 (sndOs s ok h5)
          have bk : BlkOk X.N X.env.scope scope (ownNames C vs) := by rw [ok.n, ok.sc]; exact blkOk_by h3
          refine both_plain (PE.imp (pe_lc (g := gOf X.K tg) (tt := tDT (wdX X) WF (tests P ifs)) (te := tD (wdX X) WF (den P i)) ok.xa.calm (by rw [ok.n]; exact ok.nd) pi bk (fun s H D cl fp => sndT tg (ok.blk scope s H D cl fp) h6) (fun s H D cl fp => tests_pts (sndVs ifs (ok.blk scope s H D cl fp) h8) (of_decide_eq_true h7)) (fun s H D cl fp => (sndE i (ok.blk scope s H D cl fp) h9).1) hs) fun σ H Q q => ?_) rfl
          rw [own_map]
          rw [← bnd_assoc] at q
          exact lc_read rfl (subB_ok h2) q
      | [], h => unfold chkE at h; cases h
      | ⟨_, _, _, _⟩ :: ⟨_, _, _, _⟩ :: _, h => unfold chkE at h; cases h
    | _ => unfold chkE at h; cases h
  | .lc2 vs vs1 tg k s ifs tg1 k1 s1 ifs1 i, X, C, P, e, ok, h => by
    cases e with
    | ListComp elt gs scope pos =>
      match gs, h with
      | [⟨t, it, cs, a⟩, ⟨t1, it1, cs1, a1⟩], h =>
        unfold chkE at h
        unfold den
        cases e1 : srcArgs C k t it with
        | none => rw [e1] at h; cases h
        | some args =>
          rw [e1] at h
          cases e2 : srcArgs (C.inn scope) k1 t1 it1 with
          | none => rw [e2] at h; cases h
          | some args1 =>
            rw [e2] at h
            dsimp only at h
            obtain ⟨h, g17⟩ := and_true h
            obtain ⟨h, g16⟩ := and_true h
            obtain ⟨h, g15⟩ := and_true h
            obtain ⟨h, g14⟩ := and_true h
            obtain ⟨h, g13⟩ := and_true h
            obtain ⟨h, g12⟩ := and_true h
            obtain ⟨h, g11⟩ := and_true h
            obtain ⟨h, g10⟩ := and_true h
            obtain ⟨h, g9⟩ := and_true h
            obtain ⟨h, g8⟩ := and_true h
            obtain ⟨h, g7⟩ := and_true h
            obtain ⟨h, g6⟩ := and_true h
            obtain ⟨h, g5⟩ := and_true h
            obtain ⟨h, g4⟩ := and_true h
            obtain ⟨h, g3⟩ := and_true h
            obtain ⟨g1, g2⟩ := and_true h
            have g1 := of_decide_eq_true g1
            have g2 := of_decide_eq_true g2
            subst g1 g2
            obtain ⟨pi, hs⟩ := src_pi ok e1 g7 (sndOs s ok g9)
            have bk : BlkOk X.N X.env.scope scope (ownNames C vs) := by rw [ok.n, ok.sc]; exact blkOk_by g6
            have hs1 : ∀ env x, foldedSetIterable it1 env x = pure x := by
              unfold srcArgs at e2
              split at e2
              · rename_i heq
                by_cases c : (notSetE it1 && !isStar it1) = true
                · exact fun env => folded_no (and_true c).1
                · rw [if_neg c] at e2; cases e2
              all_goals (first | exact fun _ _ => rfl | cases e2)
            refine both_plain (PE.imp (pe_lc2 (vs1 := vs1) (g := gOf X.K tg) (tt := tDT (wdX X) WF (tests P ifs)) (wi1 := tSrc (wdX X) WF (bnd (dens P s1) (src k1))) (g1 := gOf X.K tg1) (tt1 := tDT (wdX X) WF (tests P ifs1)) (te := tD (wdX X) WF (den P i)) ok.xa.calm (by rw [ok.n]; exact ok.nd) pi bk (by rw [own_map]; exact subB_ok g5) (fun s H D cl fp => sndT tg (ok.blk scope s H D cl fp) g11) (fun s H D cl fp => tests_pts (sndVs ifs (ok.blk scope s H D cl fp) g15) (of_decide_eq_true g13))
              (fun s H D cl fp => (src_pi (ok.blk scope s H D cl fp) e2 g8 (sndOs s1 (ok.blk scope s H D cl fp) g10)).1) (fun s H D cl fp => sndT tg1 (ok.blk scope s H D cl fp) g12) (fun s H D cl fp => tests_pts (sndVs ifs1 (ok.blk scope s H D cl fp) g16) (of_decide_eq_true g14))
              (fun s H D cl fp => (sndE i (ok.blk scope s H D cl fp) g17).1) hs hs1) fun σ H Q q => ?_) rfl
            rw [own_map]
            rw [← bnd_assoc] at q
            exact lc2_read rfl (subB_ok g3) (subB_ok g4) (subB_ok g5) q
      | [], h => unfold chkE at h; cases h
      | [⟨_, _, _, _⟩], h => unfold chkE at h; cases h
      | ⟨_, _, _, _⟩ :: ⟨_, _, _, _⟩ :: ⟨_, _, _, _⟩ :: _, h => unfold chkE at h; cases h
    | _ => unfold chkE at h; cases h
  | .new c f es, X, C, P, e, ok, h => by
    cases e with
    | Call fn args kws pos =>
      cases fn with
      | Name x p =>
        unfold chkE at h
        cases e1 : C.fs[f]? with
        | none => rw [e1] at h; cases h
        | some q =>
          obtain ⟨a0, ps, F⟩ := q
          rw [e1] at h
          match a0, e1, h with
          | .fn _, e1, h => cases h
          | .me _ _ .meth, e1, h => cases h
          | .me _ _ .prop, e1, h => cases h
          | .me c' m .init, e1, h =>
            dsimp only at h
            obtain ⟨h, h11⟩ := and_true h
            obtain ⟨h, h10⟩ := and_true h
            obtain ⟨h, h9⟩ := and_true h
            obtain ⟨h, h8⟩ := and_true h
            obtain ⟨h, h7⟩ := and_true h
            obtain ⟨h, h6⟩ := and_true h
            obtain ⟨h, h5⟩ := and_true h
            obtain ⟨h, h4⟩ := and_true h
            obtain ⟨h, h3⟩ := and_true h
            obtain ⟨h, h2⟩ := and_true h
            obtain ⟨h0, h1⟩ := and_true h
            have h0 : F.star = false := by simpa using h0
            have h1 : x = c := by simpa using h1
            have h2 : c' = c := by simpa using h2
            subst h1 h2
            exact both_plain (new_pe ok e1 h0 h3 (by simpa using h4) (of_decide_eq_true h7) (of_decide_eq_true h8) (of_decide_eq_true h9) (of_decide_eq_true h10) h5 (by simpa using h6) (sndVs es ok h11)) rfl
      | _ => unfold chkE at h; cases h
    | _ => unfold chkE at h; cases h
  | .fld c x a, X, C, P, e, ok, h => by
    cases e with
    | Attribute v y pos =>
      unfold chkE at h
      obtain ⟨h, h4⟩ := and_true h
      obtain ⟨h, h3⟩ := and_true h
      obtain ⟨h1, h2⟩ := and_true h
      have h1 : y = x := by simpa using h1
      subst h1
      have hc : ∃ Ca, X.mg c = some (.ref Ca) ∧ Cls X.K Ca ∧ NoAttr X.K Ca y := by
        unfold flB at h3
        obtain ⟨q, hq, h5⟩ := List.any_eq_true.mp h3
        obtain ⟨h5, h6⟩ := and_true h5
        have h5 : q.1 = c := by simpa using h5
        obtain ⟨Ca, m1, cl, na, _⟩ := ok.cl q hq
        exact ⟨Ca, by rw [← h5]; exact m1, cl, na y (by simpa using h6)⟩
      refine both_plain (PE.imp (pe_fld (sndE a ok h4).1 (attr_no h2)) fun σ H Q q => ?_) rfl
      unfold den at q
      exact fld_read (w := wdX X) hc q
    | _ => unfold chkE at h; cases h
  | .prop c x f a, X, C, P, e, ok, h => by
    cases e with
    | Attribute v y pos =>
      unfold chkE at h
      cases e1 : C.fs[f]? with
      | none => rw [e1] at h; cases h
      | some q =>
        obtain ⟨a0, ps, F⟩ := q
        rw [e1] at h
        match a0, e1, h with
        | .fn _, e1, h => cases h
        | .me _ _ .meth, e1, h => cases h
        | .me _ _ .init, e1, h => cases h
        | .me c' x' .prop, e1, h =>
          dsimp only at h
          obtain ⟨h, h9⟩ := and_true h
          obtain ⟨h, h8⟩ := and_true h
          obtain ⟨h, h7⟩ := and_true h
          obtain ⟨h, h6⟩ := and_true h
          obtain ⟨h, h5⟩ := and_true h
          obtain ⟨h, h4⟩ := and_true h
          obtain ⟨h, h3⟩ := and_true h
          obtain ⟨h, h2⟩ := and_true h
          obtain ⟨h0, h1⟩ := and_true h
          have h0 : F.star = false := by simpa using h0
          have h1 : y = x := by simpa using h1
          have h2 : x' = x := by simpa using h2
          have h3 : c' = c := by simpa using h3
          subst h1 h2 h3
          exact both_plain (prop_pe ok e1 h0 (sndE a ok h9).1 h4 (of_decide_eq_true h5) (of_decide_eq_true h6) h7 (by simpa using h8)) rfl
    | _ => unfold chkE at h; cases h
  | .mcall c m f a es, X, C, P, e, ok, h => by
    cases e with
    | Call fn args kws pos =>
      cases fn with
      | Attribute v y apos =>
        unfold chkE at h
        cases e1 : C.fs[f]? with
        | none => rw [e1] at h; cases h
        | some q =>
          obtain ⟨a0, ps, F⟩ := q
          rw [e1] at h
          match a0, e1, h with
          | .fn _, e1, h => cases h
          | .me _ _ .prop, e1, h => cases h
          | .me _ _ .init, e1, h => cases h
          | .me c' m' .meth, e1, h =>
            dsimp only at h
            obtain ⟨h, h14⟩ := and_true h
            obtain ⟨h, h13⟩ := and_true h
            obtain ⟨h, h12⟩ := and_true h
            obtain ⟨h, h11⟩ := and_true h
            obtain ⟨h, h10⟩ := and_true h
            obtain ⟨h, h9⟩ := and_true h
            obtain ⟨h, h8⟩ := and_true h
            obtain ⟨h, h7⟩ := and_true h
            obtain ⟨h, h6⟩ := and_true h
            obtain ⟨h, h5⟩ := and_true h
            obtain ⟨h, h4⟩ := and_true h
            obtain ⟨h, h3⟩ := and_true h
            obtain ⟨h, h2⟩ := and_true h
            obtain ⟨h0, h1⟩ := and_true h
            have h0 : F.star = false := by simpa using h0
            have h1 : y = m := by simpa using h1
            have h2 : m' = m := by simpa using h2
            have h3 : c' = c := by simpa using h3
            subst h1 h2 h3
            exact both_plain (mcall_pe ok e1 h0 (sndE a ok h13).1 h4 h5 (of_decide_eq_true h6) (of_decide_eq_true h7) (of_decide_eq_true h8) (of_decide_eq_true h9) (of_decide_eq_true h10) h11 (by simpa using h12) (sndVs es ok h14)) rfl
      | _ => unfold chkE at h; cases h
    | _ => unfold chkE at h; cases h
  | .mcallS c m f a es, X, C, P, e, ok, h => by
    cases e with
    | Call fn args kws pos =>
      cases fn with
      | Attribute v y apos =>
        cases kws with
        | cons _ _ => unfold chkE at h; cases h
        | nil =>
        unfold chkE at h
        cases e1 : C.fs[f]? with
        | none => rw [e1] at h; cases h
        | some q =>
          obtain ⟨a0, ps, F⟩ := q
          rw [e1] at h
          match a0, e1, h with
          | .fn _, e1, h => cases h
          | .me _ _ .prop, e1, h => cases h
          | .me _ _ .init, e1, h => cases h
          | .me c' m' .meth, e1, h =>
            dsimp only at h
            obtain ⟨h, h10⟩ := and_true h
            obtain ⟨h, h9⟩ := and_true h
            obtain ⟨h, h8⟩ := and_true h
            obtain ⟨h, h7⟩ := and_true h
            obtain ⟨h, h6⟩ := and_true h
            obtain ⟨h, h5⟩ := and_true h
            obtain ⟨h, h4⟩ := and_true h
            obtain ⟨h, h3⟩ := and_true h
            obtain ⟨h, h2⟩ := and_true h
            obtain ⟨h0, h1⟩ := and_true h
            have h1 : y = m := by simpa using h1
            have h2 : m' = m := by simpa using h2
            have h3 : c' = c := by simpa using h3
            subst h1 h2 h3
            exact both_plain (mcallS_pe ok e1 h0 (sndE a ok h9).1 h4 h5 (of_decide_eq_true h6) (of_decide_eq_true h7) (by simpa using h8) (sndVs es ok h10)) rfl
      | _ => unfold chkE at h; cases h
    | _ => unfold chkE at h; cases h
  | .newS c f es, X, C, P, e, ok, h => by
    cases e with
    | Call fn args kws pos =>
      cases fn with
      | Name x p =>
        cases kws with
        | cons _ _ => unfold chkE at h; cases h
        | nil =>
        unfold chkE at h
        cases e1 : C.fs[f]? with
        | none => rw [e1] at h; cases h
        | some q =>
          obtain ⟨a0, ps, F⟩ := q
          rw [e1] at h
          match a0, e1, h with
          | .fn _, e1, h => cases h
          | .me _ _ .meth, e1, h => cases h
          | .me _ _ .prop, e1, h => cases h
          | .me c' m .init, e1, h =>
            dsimp only at h
            obtain ⟨h, h7⟩ := and_true h
            obtain ⟨h, h6⟩ := and_true h
            obtain ⟨h, h5⟩ := and_true h
            obtain ⟨h, h4⟩ := and_true h
            obtain ⟨h, h3⟩ := and_true h
            obtain ⟨h, h2⟩ := and_true h
            obtain ⟨h0, h1⟩ := and_true h
            have h1 : x = c := by simpa using h1
            have h2 : c' = c := by simpa using h2
            subst h1 h2
            exact both_plain (newS_pe ok e1 h0 h3 (by simpa using h4) (of_decide_eq_true h5) (by simpa using h6) (sndVs es ok h7)) rfl
      | _ => unfold chkE at h; cases h
    | _ => unfold chkE at h; cases h
  | .newL c f a, X, C, P, e, ok, h => by
    cases e with
    | Call fn args kws pos =>
      cases fn with
      | Name x p =>
        match args, kws, h with
        | [w0], [], h =>
          have hw : ∃ v sp, w0 = .Starred v sp := by cases w0 <;> first | exact ⟨_, _, rfl⟩ | (unfold chkE at h; cases h)
          obtain ⟨v, sp, rfl⟩ := hw
          unfold chkE at h
          cases e1 : C.fs[f]? with
          | none => rw [e1] at h; cases h
          | some q =>
            obtain ⟨a0, ps, F⟩ := q
            rw [e1] at h
            match a0, e1, h with
            | .fn _, e1, h => cases h
            | .me _ _ .meth, e1, h => cases h
            | .me _ _ .prop, e1, h => cases h
            | .me c' m .init, e1, h =>
              dsimp only at h
              obtain ⟨h, h7⟩ := and_true h
              obtain ⟨h, h6⟩ := and_true h
              obtain ⟨h, h5⟩ := and_true h
              obtain ⟨h, h4⟩ := and_true h
              obtain ⟨h, h3⟩ := and_true h
              obtain ⟨h, h2⟩ := and_true h
              obtain ⟨h0, h1⟩ := and_true h
              have h1 : x = c := by simpa using h1
              have h2 : c' = c := by simpa using h2
              subst h1 h2
              exact both_plain (newL_pe ok e1 h0 h3 (by simpa using h4) (of_decide_eq_true h5) (by simpa using h6) (sndE a ok h7).1) rfl
        | [], _, h => unfold chkE at h; cases h
        | w0 :: _ :: _, _, h => cases w0 <;> (unfold chkE at h; cases h)
        | [w0], _ :: _, h => cases w0 <;> (unfold chkE at h; cases h)
      | _ => unfold chkE at h; cases h
    | _ => unfold chkE at h; cases h
  | .isC c cs a, X, C, P, e, ok, h => by
    cases e with
    | Call fn args kws pos =>
      cases fn with
      | Name x p =>
        match args, kws, h with
        | [v, w0], [], h =>
          cases w0 with
          | Name y q =>
            unfold chkE at h
            obtain ⟨h, h9⟩ := and_true h
            obtain ⟨h, h8⟩ := and_true h
            obtain ⟨h, h7⟩ := and_true h
            obtain ⟨h, h6⟩ := and_true h
            obtain ⟨h, h5⟩ := and_true h
            obtain ⟨h, h4⟩ := and_true h
            obtain ⟨h, h3⟩ := and_true h
            obtain ⟨h1, h2⟩ := and_true h
            have h1 : x = "isinstance" := by simpa using h1
            have h2 : y = c := by simpa using h2
            subst h1 h2
            exact both_plain (isC_pe ok (clH_ok h3) (fun z hz => clH_ok (List.all_eq_true.mp h4 z hz)) h5 h6 (by simpa using h7) (sndE a ok h9).1 (by simpa using h8)) rfl
          | _ => unfold chkE at h; cases h
        | [], _, h => unfold chkE at h; cases h
        | [_], _, h => unfold chkE at h; cases h
        | [_, w0], _ :: _, h => cases w0 <;> (unfold chkE at h; cases h)
        | _ :: w0 :: _ :: _, _, h => cases w0 <;> (unfold chkE at h; cases h)
      | _ => unfold chkE at h; cases h
    | _ => unfold chkE at h; cases h
  | .dun k c f es, X, C, P, e, ok, h => by
    unfold chkE at h
    cases e1 : C.fs[f]? with
    | none => rw [e1] at h; cases h
    | some q =>
      obtain ⟨a0, ps, F⟩ := q
      rw [e1] at h
      cases e2 : dunArgs C k e with
      | none =>
        rw [e2] at h
        match a0, h with
        | .fn _, h => cases h
        | .me _ _ .prop, h => cases h
        | .me _ _ .init, h => cases h
        | .me _ _ .meth, h => cases h
      | some args =>
        rw [e2] at h
        match a0, e1, h with
        | .fn _, e1, h => cases h
        | .me _ _ .prop, e1, h => cases h
        | .me _ _ .init, e1, h => cases h
        | .me c' m .meth, e1, h =>
          dsimp only at h
          obtain ⟨h, h8⟩ := and_true h
          obtain ⟨h, h7⟩ := and_true h
          obtain ⟨h, h6⟩ := and_true h
          obtain ⟨h, h5⟩ := and_true h
          obtain ⟨h, h4⟩ := and_true h
          obtain ⟨h, h3⟩ := and_true h
          obtain ⟨h, h2⟩ := and_true h
          obtain ⟨h0, h1⟩ := and_true h
          have h1 : c' = c := by simpa using h1
          have h2 : m = dkN k := by simpa using h2
          subst h1 h2
          exact dun_pe ok e1 (by simpa using h0) (clH_ok h3) (of_decide_eq_true h4) (of_decide_eq_true h5) h6 (by simpa using h7) e2 (sndVs es ok h8)
theorem sndO : ∀ (i : IE) {X : Cx} {C : CC} {P : Ph} {e : Expr}, CxOk X C P → chkO C i e = true → PE X e (tDO (wdX X) WF (opd i (den P i)))
  | i, X, C, P, e, ok, h => by
    unfold chkO at h
    cases hi : isT i with
    | true =>
      rw [hi, if_pos rfl] at h
      cases i <;> first | cases hi | skip
      exact PE.imp (var_pe ok h).1 fun σ H Q q => tDO_slot q
    | false =>
      rw [hi, if_neg (by decide)] at h
      exact denO hi (sndE i ok h).1
theorem sndOs : ∀ (is : List IE) {X : Cx} {C : CC} {P : Ph} {es : List Expr}, CxOk X C P → chkOs is C es = true → AllO X P is es
  | [], X, C, P, es, ok, h => by
    cases es with
    | nil => exact .nil
    | cons _ _ => unfold chkOs at h; cases h
  | i :: is, X, C, P, es, ok, h => by
    cases es with
    | nil => unfold chkOs at h; cases h
    | cons e es =>
      unfold chkOs at h
      obtain ⟨h, h3⟩ := and_true h
      obtain ⟨h1, h2⟩ := and_true h
      exact .cons (sndO i ok h1) (by simpa using h2) (sndOs is ok h3)
theorem sndVs : ∀ (is : List IE) {X : Cx} {C : CC} {P : Ph} {es : List Expr}, CxOk X C P → chkVs is C es = true → AllV X P is es
  | [], X, C, P, es, ok, h => by
    cases es with
    | nil => exact .nil
    | cons _ _ => unfold chkVs at h; cases h
  | i :: is, X, C, P, es, ok, h => by
    cases es with
    | nil => unfold chkVs at h; cases h
    | cons e es =>
      unfold chkVs at h
      obtain ⟨h, h3⟩ := and_true h
      obtain ⟨h1, h2⟩ := and_true h
      have := sndE i ok h1
      exact .cons this.1 this.2 (by simpa using h2) (sndVs is ok h3)
theorem sndF : ∀ (i : IE) {X : Cx} {C : CC} {P : Ph} {e : Expr}, CxOk X C P → chkF i C e = true → PE X e (tDF (wdX X) WF (den P i))
  | .lst es, X, C, P, e, ok, h => by
    cases e with
    | List as p =>
      unfold chkF at h
      unfold den
      exact PE.imp (pe_lst (sndVs es ok h).pa) fun σ H Q q => lst_fresh q
    | _ => unfold chkF at h; cases h
  | .op o es, X, C, P, e, ok, h => by
    cases e with
    | Call fn args kws pos =>
      cases fn with
      | Name x p =>
        cases kws with
        | cons _ _ => unfold chkF at h; cases h
        | nil =>
          unfold chkF at h
          unfold den
          obtain ⟨h, h5⟩ := and_true h
          obtain ⟨h, h4⟩ := and_true h
          obtain ⟨h, h3⟩ := and_true h
          obtain ⟨h1, h2⟩ := and_true h
          have h2 : x = "list" := by simpa using h2
          subst h2
          have h1 : o = .list := by cases o <;> first | rfl | cases h1
          subst h1
          have h4 := of_decide_eq_true h4
          match args, h4, h5 with
          | [a], _, h5 =>
            obtain ⟨i, rfl, p1, h6⟩ := allO1 (sndOs es ok h5)
            exact PE.imp (pe_callTy call_list_of (ok.gl h3) (ok.blt _ (by decide)) boot_list (pa_cons p1 pa_nil (star_cons h6)) (by decide) (by decide) (star_cons h6) rfl) fun σ H Q q => list_fresh q
      | _ => unfold chkF at h; cases h
    | _ => unfold chkF at h; cases h
  | .call f es, X, C, P, e, ok, h => by
    cases e with
    | Call fn args kws pos =>
      cases fn with
      | Name x p =>
        unfold chkF at h
        unfold den
        cases e1 : C.fs[f]? with
        | none => rw [e1] at h; cases h
        | some m =>
          obtain ⟨a0, ps, F⟩ := m
          rw [e1] at h
          cases a0 with
          | me _ _ _ => cases h
          | fn n =>
          dsimp only at h
          obtain ⟨h, h8⟩ := and_true h
          obtain ⟨h, h7⟩ := and_true h
          obtain ⟨h, h9⟩ := and_true h
          obtain ⟨h, h6⟩ := and_true h
          obtain ⟨h, h5⟩ := and_true h
          obtain ⟨h, h4⟩ := and_true h
          obtain ⟨h, h3⟩ := and_true h
          obtain ⟨h, h2⟩ := and_true h
          obtain ⟨h0, h1⟩ := and_true h
          have h0 : F.star = false := by simpa using h0
          have h1 : x = n := by simpa using h1
          subst h1
          have q := callP (p := p) (pos := pos) ok e1 h0 h2 (by simpa using h3) h4 (of_decide_eq_true h6) (of_decide_eq_true h9) (of_decide_eq_true h7) (sndOs es ok h8)
          rw [h5] at q
          exact q
      | _ => unfold chkF at h; cases h
    | _ => unfold chkF at h; cases h
  | .var _, X, C, P, e, ok, h => by unfold chkF at h; cases h
  | .tmp _, X, C, P, e, ok, h => by unfold chkF at h; cases h
  | .cst _, X, C, P, e, ok, h => by unfold chkF at h; cases h
  | .glb _ _, X, C, P, e, ok, h => by unfold chkF at h; cases h
  | .tup _, X, C, P, e, ok, h => by unfold chkF at h; cases h
  | .slc _ _ _ _ _, X, C, P, e, ok, h => by unfold chkF at h; cases h
  | .meth _ _ _, X, C, P, e, ok, h => by unfold chkF at h; cases h
  | .and _ _, X, C, P, e, ok, h => by unfold chkF at h; cases h
  | .or _ _, X, C, P, e, ok, h => by unfold chkF at h; cases h
  | .not _, X, C, P, e, ok, h => by unfold chkF at h; cases h
  | .ite _ _ _, X, C, P, e, ok, h => by unfold chkF at h; cases h
  | .chain _ _ _ _ _, X, C, P, e, ok, h => by unfold chkF at h; cases h
  | .callF _ _, X, C, P, e, ok, h => by unfold chkF at h; cases h
  | .pop _ _, X, C, P, e, ok, h => by unfold chkF at h; cases h
  | .pop0 _, X, C, P, e, ok, h => by unfold chkF at h; cases h
  | .lc _ _ _ _ _ _, X, C, P, e, ok, h => by unfold chkF at h; cases h
  | .lc2 _ _ _ _ _ _ _ _ _ _ _, X, C, P, e, ok, h => by unfold chkF at h; cases h
  | .new _ _ _, X, C, P, e, ok, h => by unfold chkF at h; cases h
  | .fld _ _ _, X, C, P, e, ok, h => by unfold chkF at h; cases h
  | .prop _ _ _ _, X, C, P, e, ok, h => by unfold chkF at h; cases h
  | .mcall _ _ _ _ _, X, C, P, e, ok, h => by unfold chkF at h; cases h
  | .mcallS _ _ _ _ _, X, C, P, e, ok, h => by unfold chkF at h; cases h
  | .newS _ _ _, X, C, P, e, ok, h => by unfold chkF at h; cases h
  | .newL _ _ _, X, C, P, e, ok, h => by unfold chkF at h; cases h
  | .isC _ _ _, X, C, P, e, ok, h => by unfold chkF at h; cases h
  | .dun _ _ _ _, X, C, P, e, ok, h => by unfold chkF at h; cases h
end
end M3
set_option Elab.async false
set_option linter.all false
set_option maxRecDepth 100000
set_option maxHeartbeats 4000000
/-! F22: the statements. -/
namespace M3
open PySem PySem.Spec L2
open PyProof.Rows hiding St
def nmOf (C : CC) (line : Nat) : Expr → Option Str
  | .Name id pos => if C.sc.names.lookup id == some .local && pos.line == line then some id else none
  | _ => none
def swN (C : CC) (ts vs : List Expr) : Option (Option (List Str)) :=
  if !(ts.length == 2 || ts.length == 3) || vs.length != ts.length then some none else
  if vs.any isStar then some none else
  if (ts.filterMap (nmOf C ((ts.head?.map (·.pos.line)).getD 0))).length != ts.length || (ts.filterMap (nmOf C ((ts.head?.map (·.pos.line)).getD 0))).eraseDups.length != (ts.filterMap (nmOf C ((ts.head?.map (·.pos.line)).getD 0))).length then some none else
  if vs.all (foldedForSure 8) then some none else
  if vs.all (constantsAlone 8) then none else some (some (ts.filterMap (nmOf C ((ts.head?.map (·.pos.line)).getD 0))))
theorem sw_eq {C : CC} {env : Env} {ts vs : List Expr} {k k2 : Nat} {p p2 : Pos} {r : Option (List Str)} (hk : env.blockKind = .function) (hs : env.scope = C.sc) (h : swN C ts vs = some r) : swappedStores [.Tuple ts k p] (.Tuple vs k2 p2) env = pure r := by
  obtain ⟨N, sc, lc, fs, cs, cl⟩ := C
  have hs : env.scope = sc := hs
  subst hs
  unfold swN at h
  unfold swappedStores
  dsimp only
  rw [hk]
  generalize hnm : (ts.filterMap (nmOf ⟨N, env.scope, lc, fs, cs, cl⟩ ((ts.head?.map (·.pos.line)).getD 0))) = nm at h
  change (if (!(ts.length == 2 || ts.length == 3) || vs.length != ts.length || false) = true then pure none else
    if vs.any isStar = true then pure none else
    if ((ts.filterMap (nmOf ⟨N, env.scope, lc, fs, cs, cl⟩ ((ts.head?.map (·.pos.line)).getD 0))).length != ts.length || (ts.filterMap (nmOf ⟨N, env.scope, lc, fs, cs, cl⟩ ((ts.head?.map (·.pos.line)).getD 0))).eraseDups.length != (ts.filterMap (nmOf ⟨N, env.scope, lc, fs, cs, cl⟩ ((ts.head?.map (·.pos.line)).getD 0))).length) = true then pure none else
    if vs.all (foldedForSure 8) = true then pure none else
    if vs.all (constantsAlone 8) = true then (do unsupported "assign.tuple-of-constant-expressions:order-of-the-stores"; pure (some (ts.filterMap (nmOf ⟨N, env.scope, lc, fs, cs, cl⟩ ((ts.head?.map (·.pos.line)).getD 0))))) else pure (some (ts.filterMap (nmOf ⟨N, env.scope, lc, fs, cs, cl⟩ ((ts.head?.map (·.pos.line)).getD 0)))) : Sem (Option (List Str))) = pure r
  rw [hnm, Bool.or_false]
  by_cases c1 : (!(ts.length == 2 || ts.length == 3) || vs.length != ts.length) = true
  · rw [if_pos c1] at h ⊢
    cases h
    rfl
  · rw [if_neg c1] at h ⊢
    by_cases c2 : vs.any isStar = true
    · rw [if_pos c2] at h ⊢
      cases h
      rfl
    · rw [if_neg c2] at h ⊢
      by_cases c3 : (nm.length != ts.length || nm.eraseDups.length != nm.length) = true
      · rw [if_pos c3] at h ⊢
        cases h
        rfl
      · rw [if_neg c3] at h ⊢
        by_cases c4 : vs.all (foldedForSure 8) = true
        · rw [if_pos c4] at h ⊢
          cases h
          rfl
        · rw [if_neg c4] at h ⊢
          by_cases c5 : vs.all (constantsAlone 8) = true
          · rw [if_pos c5] at h; cases h
          · rw [if_neg c5] at h ⊢
            cases h
            rfl
end M3
set_option Elab.async false
set_option linter.all false
set_option maxRecDepth 100000
set_option maxHeartbeats 4000000
namespace M3
open PySem PySem.Spec L2
open PyProof.Rows hiding St
def chkNs (C : CC) : List Nat → List Expr → Bool
  | [], [] => true
  | i :: is, e :: es => isLocT C i e && chkNs C is es
  | _, _ => false
def chkPar (C : CC) : List (Nat × Bool) → List IE → List Expr → Bool
  | [], [], [] => true
  | (_, b) :: is, i :: es, e :: as => (if b then chkF i C e else chkE i C e) && !isStar e && chkPar C is es as
  | _, _, _ => false
/-- name = [..] on one line -/
def swB (C : CC) (y : Str) (py : Pos) (scope : Scope) (pos : Pos) : Bool := C.sc.names.lookup y == some .local && py.line == pos.line && !(scope.names.any fun (n, k) => n == y && (k == .local || k == .cell))
def notTup : Expr → Bool
  | .Tuple _ _ _ => false
  | _ => true
def divT : List Expr → Option (Expr × Expr × Expr)
  | [.Tuple [.Subscript o ix _, .Name y p] _ _] => some (o, ix, .Name y p)
  | _ => none
theorem divT_eq {ts : List Expr} {o ix t : Expr} (h : divT ts = some (o, ix, t)) : ∃ p1 y p3 kk p, ts = [.Tuple [.Subscript o ix p1, .Name y p3] kk p] ∧ t = .Name y p3 := by
  unfold divT at h
  split at h
  · cases h
    exact ⟨_, _, _, _, _, rfl, rfl⟩
  · cases h
theorem sole {t v : Expr} {l : Nat} {env : Env} : swapsWithSole [t] v l env = swapsWith v (some t) l env := by
  unfold swapsWithSole
  rfl
mutual
def chkS (C : CC) (own : Bool) : IS → Stmt → Bool
  | .set i e, .Assign [.Name x p] v _ => isLocT C i (.Name x p) && chkE e C v && (match v with
    | .ListComp _ _ scope pos => (!swB C x p scope pos || C.sc.names.lookup x == some .local)
    | v => !isComp v)
  | .setO i e, .Assign [.Name x p] v _ => isLocT C i (.Name x p) && chkF e C v && !isComp v
  | .unpack is e, .Assign [.Tuple ts _ _] v _ => chkNs C is ts && chkE e C v && notTup v
  | .par is es, .Assign [.Tuple ts _ _] (.Tuple vs _ _) _ => chkNs C (is.map (·.1)) ts && chkPar C is es vs && decide (is.length ≤ 30) && (match swN C ts vs with
    | some none => true
    | some (some _) => (decide (is.length = 2) || decide (is.length = 3)) && decide (is.map (·.1)).Nodup
    | none => false)
  | .setIx i k e, .Assign [.Subscript o ix _] v _ => isVar C i o && chkE k C ix && !isSlice ix && chkE e C v && !isComp v
  | .divm i k j a b, .Assign ts v _ => (match divT ts with
    | some (o, ix, t) => isVar C i o && chkE k C ix && !isSlice ix && isLocT C j t && (match opArgs C .divmod v with
      | some args => chkOs [a, b] C args && notTup v && !isComp v
      | none => false)
    | none => false)
  | .app i e, .Expr (.Call (.Attribute v name apos) [a] [] pos) _ => name == "append" && isVar C i v && attrOk v && (apos.endLine == pos.line) && chkE e C a && !isStar a
  | .ret e, .Return (some v) _ => !own && chkE e C v
  | .ret (.cst .none), .Return none _ => !own
  | .retO e, .Return (some v) _ => own && (match e with
    | .tmp i => isVar C i v
    | e => chkF e C v)
  | .ife c a b, .If t x y _ => chkE c C t && chkSs C own a x && chkSs C own b y
  | .for_ tg k s body, .For t it b [] _ => (match srcArgs C k t it with
    | some args => (s.all fun e => !isT e || !valOnly k) && chkOs s C args && chkT C tg t && chkSs C own body b
    | none => false)
  | .while_ c body, .While t b [] _ => chkE c C t && chkSs C own body b
  | .expr e, .Expr v _ => chkE e C v && !isComp v
  | .setF i c x e, .Assign [.Attribute o y _] v _ => isVar C i o && y == x && flB C c x && chkE e C v
  | .stop, _ => true
  | .pass, .Pass _ => true
  | .brk, .Break _ => true
  | .cont, .Continue _ => true
  | _, _ => false
def chkSs (C : CC) (own : Bool) : List IS → List Stmt → Bool
  | [], [] => true
  | i :: is, s :: ss => chkS C own i s && chkSs C own is ss
  | _, _ => false
end
section
variable {X : Cx} {C : CC} {P : Ph} {own : Bool}
theorem names_pgs (ok : CxOk X C P) : ∀ {is : List (Nat × Bool)} {ts : List Expr}, chkNs C (is.map (·.1)) ts = true → PGs X ts (gsOf X.K (is.map fun p => .name p.1)) ∧ (∀ e ∈ ts, isStar e = false) ∧ ts.length = is.length
  | [], ts, h => by
    cases ts with
    | nil => exact ⟨pgs_nil, (fun _ h => nomatch h), rfl⟩
    | cons _ _ => cases h
  | (i, b) :: is, ts, h => by
    cases ts with
    | nil => cases h
    | cons e ts =>
      have h : (isLocT C i e && chkNs C (is.map (·.1)) ts) = true := h
      obtain ⟨h1, h2⟩ := and_true h
      obtain ⟨i1, i2, i3⟩ := names_pgs ok h2
      have hs : isStar e = false := by cases e <;> first | rfl | cases h1
      have pg : PG X e (gOf X.K (.name i)) := by unfold gOf; exact loc_pg ok h1
      refine ⟨?_, fun d hd => (List.mem_cons.mp hd).elim (fun q => q ▸ hs) (i2 d), by rw [List.length_cons, List.length_cons, i3]⟩
      show PGs X (e :: ts) (gsOf X.K (.name i :: is.map fun p => .name p.1))
      unfold gsOf
      exact pgs_cons pg i1 (assign_cons hs)
theorem par_pa (ok : CxOk X C P) : ∀ {is : List (Nat × Bool)} {es : List IE} {as : List Expr}, chkPar C is es as = true → PA X as (tDPar (wdX X) WF is (denAll P es)) ∧ ∀ e ∈ as, isStar e = false
  | [], [], [], _ => ⟨PA.imp pa_nil fun σ H Q q => par_nil q, fun _ h => nomatch h⟩
  | (i, b) :: is, x :: es, e :: as, h => by
    have h : ((if b then chkF x C e else chkE x C e) && !isStar e && chkPar C is es as) = true := h
    obtain ⟨h, h3⟩ := and_true h
    obtain ⟨h1, h2⟩ := and_true h
    have h2 : isStar e = false := by simpa using h2
    obtain ⟨i1, i2⟩ := par_pa ok h3
    refine ⟨?_, fun d hd => (List.mem_cons.mp hd).elim (fun q => q ▸ h2) (i2 d)⟩
    cases b with
    | true => exact PA.imp (pa_cons (sndF x ok h1) i1 (star_cons h2)) fun σ H Q q => par_own q
    | false => exact PA.imp (pa_cons (sndE x ok h1).1 i1 (star_cons h2)) fun σ H Q q => par_sh q
  | [], [], _ :: _, h => by cases h
  | [], _ :: _, _, h => by cases h
  | _ :: _, [], _, h => by cases h
  | _ :: _, _ :: _, [], h => by cases h
theorem PG.or {e : Expr} {g g' : TG} (h : PG X e g) (h' : PG X e g') : PG X e (fun v σ H Q => g v σ H Q ∨ g' v σ H Q) := ⟨fun pins s σ H v u Q I r q => q.elim (h.run pins s σ H v u Q I r) (h'.run pins s σ H v u Q I r)⟩
theorem sw_tup {v : Expr} {ts : List Expr} {k : Nat} {p : Pos} {line : Nat} {env : Env} : swapsWith v (some (.Tuple ts k p)) line env = pure false := by
  cases v <;> rfl
theorem sw_attr {v o : Expr} {x : Str} {p : Pos} {line : Nat} {env : Env} : swapsWith v (some (.Attribute o x p)) line env = pure false := by
  cases v <;> rfl
theorem sw_sub {v o ix : Expr} {p : Pos} {line : Nat} {env : Env} : swapsWith v (some (.Subscript o ix p)) line env = pure false := by
  cases v <;> rfl
theorem stores_no {t v : Expr} {env : Env} (h : notTup v = true) : swappedStores [t] v env = pure none := by
  cases v <;> first | (cases t <;> rfl) | cases h
theorem stores_sub {o ix v : Expr} {p : Pos} {env : Env} : swappedStores [.Subscript o ix p] v env = pure none := by
  cases v <;> rfl
theorem sub_pg (ok : CxOk X C P) {i : Nat} {k : IE} {o ix : Expr} {p : Pos} (h1 : isVar C i o = true) (h2 : chkE k C ix = true) (h3 : isSlice ix = false) : PG X (.Subscript o ix p) (gSub (tVar i) (tD (wdX X) WF (den P k)) rSetL) :=
  pg_sub (var_pe ok h1).1 (sndE k ok h2).1 set_list fun v => by cases ix <;> first | rfl | cases h3
theorem sw_lc {elt : Expr} {gs : List Comprehension} {scope : Scope} {pos py : Pos} {y : Str} {l : Nat} {env : Env} (hk : env.blockKind = .function) (hs : env.scope = C.sc) : swapsWith (.ListComp elt gs scope pos) (some (.Name y py)) l env = pure (swB C y py scope pos) := by
  unfold swapsWith
  dsimp only
  rw [hk]
  have e : env.kindOf y = C.sc.names.lookup y := by rw [← hs]; rfl
  rw [e]
  rfl
theorem blk_fn (h : X.env.scope.kind = .function) : X.env.blockKind = .function := by
  unfold Env.blockKind
  rw [h]
  rfl
/-- name = [..]: the list is stored before the block is left -/
theorem setLc_ps (ok : CxOk X C P) (hk : X.env.scope.kind = .function) {i : Nat} {e : IE} {x : Str} {p pos spos : Pos} {elt : Expr} {gs : List Comprehension} {scope : Scope} (hi : isLocT C i (.Name x p) = true) (he : chkE e C (.ListComp elt gs scope pos) = true) (hx : C.sc.names.lookup x = some .local)
    (hsw : swB C x p scope pos = true) : PS X (.Assign [.Name x p] (.ListComp elt gs scope pos) spos) (tAsg (tD (wdX X) WF (den P e)) (gName i)) := by
  have hsw := (sw_lc (C := C) (elt := elt) (gs := gs) (l := spos.line) (blk_fn hk) ok.sc).trans (congrArg pure hsw)
  have hyl : X.env.scope.names.lookup x = some .local := by rw [ok.sc]; exact hx
  have hN : X.N.Nodup := by rw [ok.n]; exact ok.nd
  have hy : X.N[i]? = some x := by
    have h : (decide (C.N[i]? = some x) && locB C x) = true := hi
    rw [ok.n]
    exact of_decide_eq_true (and_true h).1
  cases e with
  | lc vs tg k s ifs i =>
    match gs, he with
    | [⟨t, it, cs, a⟩], h =>
      unfold chkE at h
      unfold den
      cases e1 : srcArgs C k t it with
      | none => rw [e1] at h; cases h
      | some args =>
        rw [e1] at h
        dsimp only at h
        obtain ⟨h, h9⟩ := and_true h
        obtain ⟨h, h8⟩ := and_true h
        obtain ⟨h, h7⟩ := and_true h
        obtain ⟨h, h6⟩ := and_true h
        obtain ⟨h, h5⟩ := and_true h
        obtain ⟨h, h4⟩ := and_true h
        obtain ⟨h, h3⟩ := and_true h
        obtain ⟨h1, h2⟩ := and_true h
        have h1 := of_decide_eq_true h1
        subst h1
        obtain ⟨pi, hs⟩ := src_pi ok e1 h4 (sndOs s ok h5)
        have bk : BlkOk X.N X.env.scope scope (ownNames C vs) := by rw [ok.n, ok.sc]; exact blkOk_by h3
        refine PS.imp (ps_setLc (g := gOf X.K tg) (tt := tDT (wdX X) WF (tests P ifs)) (te := tD (wdX X) WF (den P i)) ok.xa.calm hN hy hyl hsw pi bk (fun s H D cl fp => sndT tg (ok.blk scope s H D cl fp) h6) (fun s H D cl fp => tests_pts (sndVs ifs (ok.blk scope s H D cl fp) h8) (of_decide_eq_true h7)) (fun s H D cl fp => (sndE i (ok.blk scope s H D cl fp) h9).1) hs) fun D σ H q => ?_
        rw [own_map]
        unfold tAsg at q ⊢
        rw [← bnd_assoc] at q
        exact lc_read rfl (subB_ok h2) q
    | [], h => unfold chkE at h; cases h
    | ⟨_, _, _, _⟩ :: ⟨_, _, _, _⟩ :: _, h => unfold chkE at h; cases h
  | lc2 vs vs1 tg k s ifs tg1 k1 s1 ifs1 i =>
    match gs, he with
    | [⟨t, it, cs, a⟩, ⟨t1, it1, cs1, a1⟩], h =>
      unfold chkE at h
      unfold den
      cases e1 : srcArgs C k t it with
      | none => rw [e1] at h; cases h
      | some args =>
        rw [e1] at h
        cases e2 : srcArgs (C.inn scope) k1 t1 it1 with
        | none => rw [e2] at h; cases h
        | some args1 =>
          rw [e2] at h
          dsimp only at h
          obtain ⟨h, g17⟩ := and_true h
          obtain ⟨h, g16⟩ := and_true h
          obtain ⟨h, g15⟩ := and_true h
          obtain ⟨h, g14⟩ := and_true h
          obtain ⟨h, g13⟩ := and_true h
          obtain ⟨h, g12⟩ := and_true h
          obtain ⟨h, g11⟩ := and_true h
          obtain ⟨h, g10⟩ := and_true h
          obtain ⟨h, g9⟩ := and_true h
          obtain ⟨h, g8⟩ := and_true h
          obtain ⟨h, g7⟩ := and_true h
          obtain ⟨h, g6⟩ := and_true h
          obtain ⟨h, g5⟩ := and_true h
          obtain ⟨h, g4⟩ := and_true h
          obtain ⟨h, g3⟩ := and_true h
          obtain ⟨g1, g2⟩ := and_true h
          have g1 := of_decide_eq_true g1
          have g2 := of_decide_eq_true g2
          subst g1 g2
          obtain ⟨pi, hs⟩ := src_pi ok e1 g7 (sndOs s ok g9)
          have bk : BlkOk X.N X.env.scope scope (ownNames C vs) := by rw [ok.n, ok.sc]; exact blkOk_by g6
          have hs1 : ∀ env x, foldedSetIterable it1 env x = pure x := by
            unfold srcArgs at e2
            split at e2
            · rename_i heq
              by_cases c : (notSetE it1 && !isStar it1) = true
              · exact fun env => folded_no (and_true c).1
              · rw [if_neg c] at e2; cases e2
            all_goals (first | exact fun _ _ => rfl | cases e2)
          refine PS.imp (ps_setLc2 (vs1 := vs1) (g := gOf X.K tg) (tt := tDT (wdX X) WF (tests P ifs)) (wi1 := tSrc (wdX X) WF (bnd (dens P s1) (src k1))) (g1 := gOf X.K tg1) (tt1 := tDT (wdX X) WF (tests P ifs1)) (te := tD (wdX X) WF (den P i)) ok.xa.calm hN hy hyl hsw pi bk (by rw [own_map]; exact subB_ok g5) (fun s H D cl fp => sndT tg (ok.blk scope s H D cl fp) g11) (fun s H D cl fp => tests_pts (sndVs ifs (ok.blk scope s H D cl fp) g15) (of_decide_eq_true g13))
            (fun s H D cl fp => (src_pi (ok.blk scope s H D cl fp) e2 g8 (sndOs s1 (ok.blk scope s H D cl fp) g10)).1) (fun s H D cl fp => sndT tg1 (ok.blk scope s H D cl fp) g12) (fun s H D cl fp => tests_pts (sndVs ifs1 (ok.blk scope s H D cl fp) g16) (of_decide_eq_true g14))
            (fun s H D cl fp => (sndE i (ok.blk scope s H D cl fp) g17).1) hs hs1) fun D σ H q => ?_
          rw [own_map]
          unfold tAsg at q ⊢
          rw [← bnd_assoc] at q
          exact lc2_read rfl (subB_ok g3) (subB_ok g4) (subB_ok g5) q
    | [], h => unfold chkE at h; cases h
    | [⟨_, _, _, _⟩], h => unfold chkE at h; cases h
    | ⟨_, _, _, _⟩ :: ⟨_, _, _, _⟩ :: ⟨_, _, _, _⟩ :: _, h => unfold chkE at h; cases h
  | op o es =>
    unfold chkE at he
    have : opArgs C o (.ListComp elt gs scope pos) = none := rfl
    rw [this] at he
    cases he
  | dun k c f es =>
    unfold chkE at he
    have : dunArgs C k (.ListComp elt gs scope pos) = none := by cases k <;> rfl
    rw [this] at he
    cases e9 : C.fs[f]? with
    | none => rw [e9] at he; cases he
    | some q =>
      obtain ⟨a0, ps, F⟩ := q
      rw [e9] at he
      match a0, he with
      | .fn _, he => cases he
      | .me _ _ .prop, he => cases he
      | .me _ _ .init, he => cases he
      | .me _ _ .meth, he => cases he
  | var i => unfold chkE at he; cases he
  | cst d => unfold chkE at he; cases he
  | _ => unfold chkE at he; cases he
end
end M3
set_option Elab.async false
set_option linter.all false
set_option maxRecDepth 100000
set_option maxHeartbeats 4000000
namespace M3
open PySem PySem.Spec L2
open PyProof.Rows hiding St
theorem exe_divm {P : Ph} {i j : Nat} {k a b : IE} : exe P (.divm i k j a b) = bnd (bnd (dens P [a, b]) (apM .divmod)) fun t => match t with
    | .tuple [q, m] => bnd (isL i) fun _ => bnd (den P k) fun kd => bnd (putIx i kd q) fun _ => bnd (setSl j (.sh m)) fun _ => ret .nx
    | _ => fail := by
  rw [bnd_assoc]
  unfold exe
  rfl
section
variable {X : Cx} {C : CC} {P : Ph} {own : Bool}
theorem par3_read {w : Wd} {W : WX} {i j l : Nat} {b c d : Bool} {F : M (List PyData)} {E : Ends} {σ : St} {H : Hp} (h : tS w W own (bnd F fun ds => bnd (setPar [(i, b), (j, c), (l, d)] ds) fun _ => ret .nx) E σ H) : tPar3 i j l (tDPar w W [(i, b), (j, c), (l, d)] F) E σ H := by
  obtain ⟨A, Z, ρ, s, p⟩ := par_core h
  refine ⟨A, Z, ρ, s, p.imp fun ds Z1 H1 ρ1 x1 s1 k vs r => ?_⟩
  obtain ⟨hl, h1, _⟩ := k vs r
  match vs, hl, h1 with
  | [v, u, t], _, h1 => exact ⟨v, u, t, rfl, h1⟩
theorem isLoc_name {C : CC} {t : Expr} {i : Nat} (h : isLocT C i t = true) : ∃ x q, t = .Name x q ∧ C.N[i]? = some x := by
  cases t with
  | Name x q =>
    have h : (decide (C.N[i]? = some x) && locB C x) = true := h
    exact ⟨x, q, rfl, of_decide_eq_true (and_true h).1⟩
  | _ => cases h
theorem nmOf_some {C : CC} {n : Nat} {x : Str} {q : Pos} {z : Str} (hz : nmOf C n (.Name x q) = some z) : z = x ∧ C.sc.names.lookup x = some .local := by
  have hz : (if (C.sc.names.lookup x == some .local && q.line == n) = true then some x else none) = some z := hz
  by_cases cc : (C.sc.names.lookup x == some .local && q.line == n) = true
  · rw [if_pos cc] at hz
    cases hz
    exact ⟨rfl, by simpa using (and_true cc).1⟩
  · rw [if_neg cc] at hz
    cases hz
theorem par3_ps (ok : CxOk X C P) {is : List (Nat × Bool)} {es : List IE} {ts vs : List Expr} {k k2 : Nat} {p p2 pos : Pos} {nm : List Str} (c1 : is.length = 3) (h1 : chkNs C (is.map (·.1)) ts = true) (h2 : chkPar C is es vs = true) (c2 : (is.map (·.1)).Nodup)
    (e : swN C ts vs = some (some nm)) (hw : swappedStores [.Tuple ts k p] (.Tuple vs k2 p2) X.env = pure (some nm)) (pa : PA X vs (tDPar (wdX X) WF is (denAll P es))) : PS X (.Assign [.Tuple ts k p] (.Tuple vs k2 p2) pos) (tS (wdX X) WF own (bnd (denAll P es) fun ds => bnd (setPar is ds) fun _ => ret .nx)) := by
  match is, c1, h1, h2, c2, pa with
  | [(i, b), (j, c), (l, d)], _, h1, h2, c2, pa =>
    match ts, h1, e, hw with
    | [t1, t2, t3], h1, e, hw =>
      have h1 : (isLocT C i t1 && (isLocT C j t2 && (isLocT C l t3 && true))) = true := h1
      obtain ⟨l1, l2⟩ := and_true h1
      obtain ⟨l2, l3⟩ := and_true l2
      obtain ⟨l3, _⟩ := and_true l3
      match es, vs, h2, e, hw, pa with
      | [x, y, z], [v1, v2, v3], h2, e, hw, pa =>
        obtain ⟨x1, q1, rfl, n1⟩ := isLoc_name l1
        obtain ⟨x2, q2, rfl, n2⟩ := isLoc_name l2
        obtain ⟨x3, q3, rfl, n3⟩ := isLoc_name l3
        have hij : i ≠ j := by intro z; subst z; simp at c2
        have hil : i ≠ l := by intro z; subst z; simp at c2
        have hjl : j ≠ l := by intro z; subst z; simp at c2
        have both : nm = [x1, x2, x3] ∧ C.sc.names.lookup x1 = some .local ∧ C.sc.names.lookup x2 = some .local ∧ C.sc.names.lookup x3 = some .local := by
          unfold swN at e
          split at e
          · cases e
          · split at e
            · cases e
            · split at e
              · cases e
              · rename_i c
                split at e
                · cases e
                · split at e
                  · cases e
                  · have e : some (some (([.Name x1 q1, .Name x2 q2, .Name x3 q3] : List Expr).filterMap (nmOf C q1.line))) = some (some nm) := e
                    have c : ¬ ((([.Name x1 q1, .Name x2 q2, .Name x3 q3] : List Expr).filterMap (nmOf C q1.line)).length != 3 || _) = true := c
                    have f : ([.Name x1 q1, .Name x2 q2, .Name x3 q3] : List Expr).filterMap (nmOf C q1.line) = (nmOf C q1.line (.Name x1 q1)).toList ++ ((nmOf C q1.line (.Name x2 q2)).toList ++ (nmOf C q1.line (.Name x3 q3)).toList) := by
                      rw [List.filterMap_cons, List.filterMap_cons, List.filterMap_cons, List.filterMap_nil]
                      cases nmOf C q1.line (.Name x1 q1) <;> cases nmOf C q1.line (.Name x2 q2) <;> cases nmOf C q1.line (.Name x3 q3) <;> rfl
                    rw [f] at e c
                    cases u1 : nmOf C q1.line (.Name x1 q1) with
                    | none =>
                      rw [u1] at c
                      exfalso; apply c
                      cases nmOf C q1.line (.Name x2 q2) <;> cases nmOf C q1.line (.Name x3 q3) <;> rfl
                    | some z1 =>
                      rw [u1] at c e
                      cases u2 : nmOf C q1.line (.Name x2 q2) with
                      | none =>
                        rw [u2] at c
                        exfalso; apply c
                        cases nmOf C q1.line (.Name x3 q3) <;> rfl
                      | some z2 =>
                        rw [u2] at e c
                        cases u3 : nmOf C q1.line (.Name x3 q3) with
                        | none => rw [u3] at c; exfalso; exact c rfl
                        | some z3 =>
                          rw [u3] at e
                          cases e
                          obtain ⟨rfl, k1⟩ := nmOf_some u1
                          obtain ⟨rfl, k2⟩ := nmOf_some u2
                          obtain ⟨rfl, k3⟩ := nmOf_some u3
                          exact ⟨rfl, k1, k2, k3⟩
        obtain ⟨rfl, y1, y2, y3⟩ := both
        exact PS.imp (ps_par3 ok.xa.calm (by rw [ok.n]; exact ok.nd) (by rw [ok.n]; exact n1) (by rw [ok.n]; exact n2) (by rw [ok.n]; exact n3) hij hil hjl (by rw [ok.sc]; exact y1) (by rw [ok.sc]; exact y2) (by rw [ok.sc]; exact y3) pa hw (sole.trans sw_tup)) fun D σ H q => par3_read q
      | [], _, h2, _, _, _ => cases h2
      | [_], [], h2, _, _, _ => cases h2
      | [_], _ :: _, h2, _, _, _ => simp [chkPar] at h2
      | [_, _], [], h2, _, _, _ => cases h2
      | [_, _], [_], h2, _, _, _ => simp [chkPar] at h2
      | [_, _], _ :: _ :: _, h2, _, _, _ => simp [chkPar] at h2
      | _ :: _ :: _ :: _, [], h2, _, _, _ => cases h2
      | _ :: _ :: _ :: _, [_], h2, _, _, _ => simp [chkPar] at h2
      | _ :: _ :: _ :: _, [_, _], h2, _, _, _ => simp [chkPar] at h2
      | _ :: _ :: _ :: _ :: _, [_, _, _], h2, _, _, _ => simp [chkPar] at h2
      | _ :: _ :: _ :: _, _ :: _ :: _ :: _ :: _, h2, _, _, _ => simp [chkPar] at h2
    | [], h1, _, _ => cases h1
    | [_], h1, _, _ => simp [chkNs] at h1
    | [_, _], h1, _, _ => simp [chkNs] at h1
    | _ :: _ :: _ :: _ :: _, h1, _, _ => simp [chkNs] at h1
theorem par_ps (ok : CxOk X C P) (hk : X.env.scope.kind = .function) {is : List (Nat × Bool)} {es : List IE} {ts vs : List Expr} {k k2 : Nat} {p p2 pos : Pos} (h1 : chkNs C (is.map (·.1)) ts = true) (h2 : chkPar C is es vs = true) (h3 : is.length ≤ 30)
    (h4 : (match swN C ts vs with
      | some none => true
      | some (some _) => (decide (is.length = 2) || decide (is.length = 3)) && decide (is.map (·.1)).Nodup
      | none => false) = true) : PS X (.Assign [.Tuple ts k p] (.Tuple vs k2 p2) pos) (tS (wdX X) WF own (bnd (denAll P es) fun ds => bnd (setPar is ds) fun _ => ret .nx)) := by
  obtain ⟨g1, g2, g3⟩ := names_pgs ok h1
  obtain ⟨pa, st⟩ := par_pa ok h2
  cases e : swN C ts vs with
  | none => rw [e] at h4; cases h4
  | some r =>
    rw [e] at h4
    have hw := sw_eq (k := k) (k2 := k2) (p := p) (p2 := p2) (blk_fn hk) ok.sc e
    cases r with
    | none =>
      obtain ⟨a1, a2⟩ := assign_star (env := X.env) g2
      exact PS.imp (ps_asg (pe_tup pa) (pg_tup (n := is.length) ok.xa.calm g1 (by rw [a1, g3]) a2) (sole.trans sw_tup) hw rfl) fun D σ H q => par_read (by omega) q
    | some nm =>
      obtain ⟨c1, c2⟩ := and_true h4
      have c2 := of_decide_eq_true c2
      rcases Bool.or_eq_true _ _ ▸ c1 with c1 | c1
      rotate_left
      · exact par3_ps ok (of_decide_eq_true c1) h1 h2 c2 e hw pa
      have c1 := of_decide_eq_true c1
      match is, c1, h1, h2, c2, pa, g1, g3 with
      | [(i, b), (j, c)], _, h1, h2, c2, pa, g1, g3 =>
        match ts, h1, e, hw, g3 with
        | [t1, t2], h1, e, hw, _ =>
          have h1 : (isLocT C i t1 && (isLocT C j t2 && true)) = true := h1
          obtain ⟨l1, l2⟩ := and_true h1
          obtain ⟨l2, _⟩ := and_true l2
          match es, vs, h2, e, hw, pa with
          | [x, y], [v1, v2], h2, e, hw, pa =>
            -- the two names
            have hne : ∀ {t : Expr} {i : Nat}, isLocT C i t = true → ∃ x q, t = .Name x q ∧ C.N[i]? = some x := fun {t i} h => by
              cases t with
              | Name x q =>
                have h : (decide (C.N[i]? = some x) && locB C x) = true := h
                exact ⟨x, q, rfl, of_decide_eq_true (and_true h).1⟩
              | _ => cases h
            obtain ⟨x1, q1, rfl, n1⟩ := hne l1
            obtain ⟨x2, q2, rfl, n2⟩ := hne l2
            have hij : i ≠ j := by
              intro z
              subst z
              simp at c2
            -- swN says both are local
            have both : nm = [x1, x2] ∧ C.sc.names.lookup x1 = some .local ∧ C.sc.names.lookup x2 = some .local := by
              unfold swN at e
              split at e
              · cases e
              · split at e
                · cases e
                · split at e
                  · cases e
                  · rename_i c
                    split at e
                    · cases e
                    · split at e
                      · cases e
                      · have e : some (some (([.Name x1 q1, .Name x2 q2] : List Expr).filterMap (nmOf C q1.line))) = some (some nm) := e
                        have c : ¬ ((([.Name x1 q1, .Name x2 q2] : List Expr).filterMap (nmOf C q1.line)).length != 2 || _) = true := c
                        have f : ([.Name x1 q1, .Name x2 q2] : List Expr).filterMap (nmOf C q1.line) = (nmOf C q1.line (.Name x1 q1)).toList ++ (nmOf C q1.line (.Name x2 q2)).toList := by
                          rw [List.filterMap_cons, List.filterMap_cons, List.filterMap_nil]
                          cases nmOf C q1.line (.Name x1 q1) <;> cases nmOf C q1.line (.Name x2 q2) <;> rfl
                        rw [f] at e c
                        have nm1 : ∀ {x : Str} {q : Pos} {z : Str}, nmOf C q1.line (.Name x q) = some z → z = x ∧ C.sc.names.lookup x = some .local := fun {x q z} hz => by
                          have hz : (if (C.sc.names.lookup x == some .local && q.line == q1.line) = true then some x else none) = some z := hz
                          by_cases cc : (C.sc.names.lookup x == some .local && q.line == q1.line) = true
                          · rw [if_pos cc] at hz
                            cases hz
                            exact ⟨rfl, by simpa using (and_true cc).1⟩
                          · rw [if_neg cc] at hz
                            cases hz
                        cases u1 : nmOf C q1.line (.Name x1 q1) with
                        | none =>
                          rw [u1] at c
                          cases u2 : nmOf C q1.line (.Name x2 q2) with
                          | none => rw [u2] at c; exact absurd rfl c
                          | some _ => rw [u2] at c; exact absurd rfl c
                        | some z1 =>
                          rw [u1] at c e
                          cases u2 : nmOf C q1.line (.Name x2 q2) with
                          | none => rw [u2] at c; exact absurd rfl c
                          | some z2 =>
                            rw [u2] at e
                            cases e
                            obtain ⟨rfl, k1⟩ := nm1 u1
                            obtain ⟨rfl, k2⟩ := nm1 u2
                            exact ⟨rfl, k1, k2⟩
            obtain ⟨rfl, y1, y2⟩ := both
            exact PS.imp (ps_par ok.xa.calm (by rw [ok.n]; exact ok.nd) (by rw [ok.n]; exact n1) (by rw [ok.n]; exact n2) hij (by rw [ok.sc]; exact y1) (by rw [ok.sc]; exact y2) pa hw (sole.trans sw_tup)) fun D σ H q => par2_read q
          | [], _, h2, _, _, _ => cases h2
          | [_], [], h2, _, _, _ => cases h2
          | [_], [_], h2, _, _, _ => simp [chkPar] at h2
          | [_], _ :: _ :: _, h2, _, _, _ => simp [chkPar] at h2
          | _ :: _ :: _, [], h2, _, _, _ => cases h2
          | _ :: _ :: _, [_], h2, _, _, _ => simp [chkPar] at h2
          | [_, _], _ :: _ :: _ :: _, h2, _, _, _ => simp [chkPar] at h2
          | _ :: _ :: _ :: _, [_, _], h2, _, _, _ => simp [chkPar] at h2
          | _ :: _ :: _ :: _, _ :: _ :: _ :: _, h2, _, _, _ => simp [chkPar] at h2
mutual
theorem sndS (ok : CxOk X C P) (hk : X.env.scope.kind = .function) (hp : PassesOwn (model X.prog X.w) X.A X.env X.xe) : ∀ (i : IS) {s : Stmt}, chkS C own i s = true → PS X s (tS (wdX X) WF own (exe P i))
  | .set i e, s, h => by
    unfold exe
    cases s with
    | Assign ts v pos =>
      match ts, h with
      | [.Name x p], h =>
        unfold chkS at h
        obtain ⟨h, h3⟩ := and_true h
        obtain ⟨h1, h2⟩ := and_true h
        have hl : (decide (C.N[i]? = some x) && locB C x) = true := h1
        obtain ⟨l1, l2⟩ := and_true hl
        have hi : X.N[i]? = some x := by rw [ok.n]; exact of_decide_eq_true l1
        have hN : X.N.Nodup := by rw [ok.n]; exact ok.nd
        have go : swapsWith v (some (.Name x p)) pos.line X.env = pure false → PS X (.Assign [.Name x p] v pos) (tS (wdX X) WF own (bnd (den P e) fun d => bnd (setSl i (.sh d)) fun _ => ret .nx)) := fun hs =>
          PS.imp (ps_set hN hi (ok.loc l2) (sndE e ok h2).1 hs (ok.fn x l2).2) fun D σ H q => set_read q
        cases v with
        | ListComp elt gs scope lp =>
          cases hb : swB C x p scope lp with
          | false => exact go ((sw_lc (blk_fn hk) ok.sc).trans (by rw [hb]))
          | true =>
            have hx : C.sc.names.lookup x = some .local := by
              unfold swB at hb
              simpa using (and_true (and_true hb).1).1
            exact PS.imp (setLc_ps ok hk h1 h2 hx hb) fun D σ H q => set_read q
        | _ => exact go (sw_no (by first | rfl | simpa using h3))
      | [], h => unfold chkS at h; cases h
      | t :: _ :: _, h => cases t <;> (unfold chkS at h; cases h)
    | _ => unfold chkS at h; cases h
  | .setO i e, s, h => by
    unfold exe
    cases s with
    | Assign ts v pos =>
      match ts, h with
      | [.Name x p], h =>
        unfold chkS at h
        obtain ⟨h, h3⟩ := and_true h
        obtain ⟨h1, h2⟩ := and_true h
        have hl : (decide (C.N[i]? = some x) && locB C x) = true := h1
        obtain ⟨l1, l2⟩ := and_true hl
        exact PS.imp (ps_set (by rw [ok.n]; exact ok.nd) (by rw [ok.n]; exact of_decide_eq_true l1) (ok.loc l2) (sndF e ok h2) (sw_no (by simpa using h3)) (ok.fn x l2).2) fun D σ H q => setO_read q
      | [], h => unfold chkS at h; cases h
      | t :: _ :: _, h => cases t <;> (unfold chkS at h; cases h)
    | _ => unfold chkS at h; cases h
  | .unpack is e, s, h => by
    unfold exe
    cases s with
    | Assign ts v pos =>
      match ts, h with
      | [.Tuple ts k p], h =>
        unfold chkS at h
        obtain ⟨h, h3⟩ := and_true h
        obtain ⟨h1, h2⟩ := and_true h
        have e1 : (is.map fun i => (i, false)).map (·.1) = is := by rw [List.map_map]; show is.map (fun i => i) = is; rw [List.map_id']
        obtain ⟨g1, g2, g3⟩ := names_pgs (is := is.map fun i => (i, false)) ok (by rw [e1]; exact h1)
        obtain ⟨a1, a2⟩ := assign_star (env := X.env) g2
        exact PS.imp (ps_asg (sndE e ok h2).1 (PG.or (pg_tup (n := (is.map fun i => (i, false)).length) ok.xa.calm g1 (by rw [a1, g3]) a2) (pg_lst (n := (is.map fun i => (i, false)).length) ok.xa.calm g1 (by rw [a1, g3]) a2)) (sole.trans sw_tup) (stores_no h3) rfl) fun D σ H q => unpack_read rfl (fun p hp => by simp at hp; obtain ⟨_, _, rfl⟩ := hp; rfl) q
      | [], h => unfold chkS at h; cases h
      | t :: _ :: _, h => cases t <;> (unfold chkS at h; cases h)
    | _ => unfold chkS at h; cases h
  | .par is es, s, h => by
    unfold exe
    cases s with
    | Assign ts v pos =>
      match ts, v, h with
      | [.Tuple ts k p], .Tuple vs k2 p2, h =>
        unfold chkS at h
        obtain ⟨h, h4⟩ := and_true h
        obtain ⟨h, h3⟩ := and_true h
        obtain ⟨h1, h2⟩ := and_true h
        exact par_ps ok hk h1 h2 (of_decide_eq_true h3) h4
      | [], v, h => unfold chkS at h; cases h
      | t :: _ :: _, v, h => cases t <;> (unfold chkS at h; cases h)
    | _ => unfold chkS at h; cases h
  | .setIx i k e, s, h => by
    unfold exe
    cases s with
    | Assign ts v pos =>
      match ts, h with
      | [.Subscript o ix p], h =>
        unfold chkS at h
        obtain ⟨h, h5⟩ := and_true h
        obtain ⟨h, h4⟩ := and_true h
        obtain ⟨h, h3⟩ := and_true h
        obtain ⟨h1, h2⟩ := and_true h
        exact PS.imp (ps_asg (sndE e ok h4).1 (sub_pg ok h1 h2 (by simpa using h3)) (sole.trans sw_sub) stores_sub rfl) fun D σ H q => setIx_read q
      | [], h => unfold chkS at h; cases h
      | t :: _ :: _, h => cases t <;> (unfold chkS at h; cases h)
    | _ => unfold chkS at h; cases h
  | .divm i k j a b, s, h => by
    rw [exe_divm]
    cases s with
    | Assign ts v pos =>
      unfold chkS at h
      cases e0 : divT ts with
      | none => rw [e0] at h; cases h
      | some m =>
        obtain ⟨o, ix, t⟩ := m
        rw [e0] at h
        dsimp only at h
        obtain ⟨p1, y, p3, kk, p, rfl, rfl⟩ := divT_eq e0
        obtain ⟨h, h5⟩ := and_true h
        obtain ⟨h, h4⟩ := and_true h
        obtain ⟨h, h3⟩ := and_true h
        obtain ⟨h1, h2⟩ := and_true h
        cases e1 : opArgs C .divmod v with
        | none => rw [e1] at h5; cases h5
        | some args =>
          rw [e1] at h5
          obtain ⟨h5, h7⟩ := and_true h5
          obtain ⟨h5, h6⟩ := and_true h5
          have pd := (op_sound ok e1 (sndOs [a, b] ok h5)).1
          have pg : PG X (.Tuple [.Subscript o ix p1, .Name y p3] kk p) _ := pg_tup (n := 2) ok.xa.calm (pgs_cons (sub_pg ok h1 h2 (by simpa using h3)) (pgs_cons (loc_pg ok h4) pgs_nil rfl) rfl) rfl rfl
          exact PS.imp (ps_asg pd pg (sole.trans sw_tup) (stores_no h6) rfl) fun D σ H q => divm_read rfl q
    | _ => unfold chkS at h; cases h
  | .swap i k1 k2 e1 e2, s, h => by unfold chkS at h; cases h
  | .ext i e, s, h => by unfold chkS at h; cases h
  | .app i e, s, h => by
    unfold exe
    cases s with
    | Expr v spos =>
      match v, h with
      | .Call (.Attribute o name apos) [a] [] pos, h =>
        unfold chkS at h
        obtain ⟨h, h6⟩ := and_true h
        obtain ⟨h, h5⟩ := and_true h
        obtain ⟨h, h4⟩ := and_true h
        obtain ⟨h, h3⟩ := and_true h
        obtain ⟨h1, h2⟩ := and_true h
        have h1 : name = "append" := by simpa using h1
        subst h1
        have h6 : isStar a = false := by simpa using h6
        exact PS.imp (ps_expr (pe_bm PySem.F.plainAttrs_list PySem.F.slot_list_append PySem.F.type_list_append mt_append (var_pe ok h2).1 (pa_cons (sndE e ok h5).1 pa_nil (star_cons h6)) (attr_no h3) (by rw [star_all (fun d hd => by simp at hd; rw [hd]; exact h6)]; rfl) h4 (star_cons h6) rfl) (sw_no rfl)) fun D σ H q => app_read q
    | _ => unfold chkS at h; cases h
  | .ret e, s, h => by
    unfold exe
    cases s with
    | Return v pos =>
      cases v with
      | some v =>
        unfold chkS at h
        obtain ⟨h1, h2⟩ := and_true h
        have h1 : own = false := by simpa using h1
        subst h1
        exact PS.imp (ps_ret (sndE e ok h2).1) fun D σ H q => ret_read q
      | none =>
        cases e with
        | cst d =>
          cases d with
          | none =>
            unfold chkS at h
            have h1 : own = false := by simpa using h
            subst h1
            exact PS.imp ps_retN fun D σ H q => retN_read (by unfold den at q; exact q)
          | _ => unfold chkS at h; cases h
        | _ => unfold chkS at h; cases h
    | _ => unfold chkS at h; cases h
  | .retO e, s, h => by
    unfold exe
    cases s with
    | Return v pos =>
      cases v with
      | some v =>
        unfold chkS at h
        obtain ⟨h1, h2⟩ := and_true h
        have h1 : own = true := h1
        subst h1
        cases hi : isT e with
        | true =>
          cases e <;> first | cases hi | skip
          exact PS.imp (ps_ret (var_pe ok h2).1) fun D σ H q => retV_read q
        | false =>
          have h2 : chkF e C v = true := by cases e <;> first | exact h2 | cases hi
          have eg : giveM e (den P e) = den P e := by cases e <;> first | rfl | cases hi
          rw [eg]
          exact PS.imp (ps_ret (sndF e ok h2)) fun D σ H q => retO_read q
      | none => unfold chkS at h; cases h
    | _ => unfold chkS at h; cases h
  | .ife c a b, s, h => by
    unfold exe
    cases s with
    | If t x y pos =>
      unfold chkS at h
      obtain ⟨h, h3⟩ := and_true h
      obtain ⟨h1, h2⟩ := and_true h
      exact PS.imp (ps_if (sndE c ok h1).2 (sndSs ok hk hp a h2) (sndSs ok hk hp b h3)) fun D σ H q => ife_read q
    | _ => unfold chkS at h; cases h
  | .for_ tg k src body, s, h => by
    unfold exe
    cases s with
    | For t it b els pos =>
      cases els with
      | cons _ _ => unfold chkS at h; cases h
      | nil =>
        unfold chkS at h
        cases e1 : srcArgs C k t it with
        | none => rw [e1] at h; cases h
        | some args =>
          rw [e1] at h
          dsimp only at h
          obtain ⟨h, h4⟩ := and_true h
          obtain ⟨h, h3⟩ := and_true h
          obtain ⟨h1, h2⟩ := and_true h
          obtain ⟨pi, hs⟩ := src_pi ok e1 h1 (sndOs src ok h2)
          rw [← bnd_assoc]
          exact PS.imp (ps_for hp ok.xa.calm pi (sndT tg ok h3) (sndSs ok hk hp body h4) hs) fun D σ H q => for_read rfl q
    | _ => unfold chkS at h; cases h
  | .while_ c body, s, h => by
    unfold exe
    cases s with
    | While t b els pos =>
      cases els with
      | cons _ _ => unfold chkS at h; cases h
      | nil =>
        unfold chkS at h
        obtain ⟨h1, h2⟩ := and_true h
        exact PS.imp (ps_while hp (sndE c ok h1).2 (sndSs ok hk hp body h2)) fun D σ H q => while_read q
    | _ => unfold chkS at h; cases h
  | .expr e, s, h => by
    unfold exe
    cases s with
    | Expr v pos =>
      unfold chkS at h
      obtain ⟨h1, h2⟩ := and_true h
      exact PS.imp (ps_expr (sndE e ok h1).1 (sw_no (by simpa using h2))) fun D σ H q => expr_read q
    | _ => unfold chkS at h; cases h
  | .setF i c x e, s, h => by
    cases s with
    | Assign ts v pos =>
      match ts, h with
      | [.Attribute o y p], h =>
        unfold chkS at h
        obtain ⟨h, h4⟩ := and_true h
        obtain ⟨h, h3⟩ := and_true h
        obtain ⟨h1, h2⟩ := and_true h
        have h2 : y = x := by simpa using h2
        subst h2
        have hc : ∃ Ca, X.mg c = some (.ref Ca) ∧ Cls X.K Ca ∧ NoAttr X.K Ca y := by
          unfold flB at h3
          obtain ⟨q, hq, h5⟩ := List.any_eq_true.mp h3
          obtain ⟨h5, h6⟩ := and_true h5
          have h5 : q.1 = c := by simpa using h5
          obtain ⟨Ca, m1, cl, na, _⟩ := ok.cl q hq
          exact ⟨Ca, by rw [← h5]; exact m1, cl, na y (by simpa using h6)⟩
        exact PS.imp (ps_fld (var_pe ok h1).1 (sndE e ok h4).1 sw_attr) fun D σ H q => setF_read (w := wdX X) hc q
    | _ => unfold chkS at h; cases h
  | .stop, s, h => PS.imp ps_never fun D σ H q => by
    unfold exe at q
    obtain ⟨A, Z, ρ, sr, p⟩ := q
    exact p
  | .pass, s, h => by
    unfold exe
    cases s with
    | Pass pos => exact PS.imp ps_pass fun D σ H q => nil_read q
    | _ => unfold chkS at h; cases h
  | .brk, s, h => by
    unfold exe
    cases s with
    | Break pos => exact PS.imp ps_break fun D σ H q => brk_read q
    | _ => unfold chkS at h; cases h
  | .cont, s, h => by
    unfold exe
    cases s with
    | Continue pos => exact PS.imp ps_continue fun D σ H q => cont_read q
    | _ => unfold chkS at h; cases h
theorem sndSs (ok : CxOk X C P) (hk : X.env.scope.kind = .function) (hp : PassesOwn (model X.prog X.w) X.A X.env X.xe) : ∀ (is : List IS) {ss : List Stmt}, chkSs C own is ss = true → PSs X ss (tS (wdX X) WF own (exes P is))
  | [], ss, h => by
    unfold exes
    cases ss with
    | nil => exact PSs.imp pss_nil fun D σ H q => nil_read q
    | cons _ _ => unfold chkSs at h; cases h
  | i :: is, ss, h => by
    unfold exes
    cases ss with
    | nil => unfold chkSs at h; cases h
    | cons s ss =>
      unfold chkSs at h
      obtain ⟨h1, h2⟩ := and_true h
      exact PSs.imp (pss_cons (sndS ok hk hp i h1) (sndSs ok hk hp is h2)) fun D σ H q => seq_read q
end
end
end M3
set_option Elab.async false
set_option linter.all false
set_option maxRecDepth 100000
set_option maxHeartbeats 4000000
/-! F25: the defs keep what the table says. -/
namespace M3
open PySem PySem.Spec L2
open PyProof.Rows hiding St
section
variable {w : Wd} {W : WX} {A : Act} {Z Z' : Addr → Prop} {H H' : Hp} {ρ : En} {σ : St}
theorem cnt_true {ps : List Bool} {j : Nat} (h : ps[j]? = some true) : 1 ≤ (ps.filter id).length :=
  List.length_pos_of_mem (List.mem_filter.mpr ⟨List.mem_of_getElem? h, rfl⟩)
theorem one_uniq : ∀ {ps : List Bool} {i j : Nat}, (ps.filter id).length ≤ 1 → ps[i]? = some true → ps[j]? = some true → i = j
  | [], i, j, _, h1, _ => by simp at h1
  | b :: ps, 0, 0, _, _, _ => rfl
  | b :: ps, 0, j + 1, h, h1, h2 => by
    have h1 : b = true := by simpa using h1
    subst h1
    have h2 : ps[j]? = some true := by simpa using h2
    have c := cnt_true h2
    have e : ((true :: ps).filter id).length = (ps.filter id).length + 1 := rfl
    omega
  | b :: ps, i + 1, 0, h, h1, h2 => by
    have h2 : b = true := by simpa using h2
    subst h2
    have h1 : ps[i]? = some true := by simpa using h1
    have c := cnt_true h1
    have e : ((true :: ps).filter id).length = (ps.filter id).length + 1 := rfl
    omega
  | b :: ps, i + 1, j + 1, h, h1, h2 => by
    have hle : (ps.filter id).length ≤ 1 := by
      cases b with
      | true =>
        have e : ((true :: ps).filter id).length = (ps.filter id).length + 1 := rfl
        omega
      | false => exact h
    rw [one_uniq hle (show ps[i]? = some true by simpa using h1) (show ps[j]? = some true by simpa using h2)]
theorem fldsOf_map : ∀ fs : List (Str × PyData), fldsOf (fs.map fun p => (PyData.str p.1, p.2)) = some fs
  | [] => rfl
  | (x, d) :: fs => by
    show (fldsOf (fs.map fun p => (PyData.str p.1, p.2))).map ((x, d) :: ·) = _
    rw [fldsOf_map fs]
    rfl
theorem obP_inj {a : Addr} {o o' : Ob} (h : obP o.d = some o') (r : OwnRep w Z H a o) : OwnRep w Z H a o' := by
  cases o with
  | lst l => cases h; exact r
  | ins c fs =>
    have h : (fldsOf (fs.map fun p => (PyData.str p.1, p.2))).map (Ob.ins c) = some o' := h
    rw [fldsOf_map] at h
    cases h
    exact r
  | dic l =>
    cases l with
    | nil => cases h
    | cons q l =>
      have hn : q.1 ≠ .none := by
        rcases r with ⟨_, _, r⟩ | ⟨_, _, r⟩
        · exact r.hd
        · exact r.hd
      obtain ⟨q1, q2⟩ := q
      cases q1 with
      | none => exact absurd rfl hn
      | _ => cases h
theorem start_sl : ∀ {ps : List Bool} {vs : List V} {ds : List PyData} {r0 : En}, ArgRs w Z H ps vs ds → startE ps ds = some r0 → r0.length = vs.length ∧ ∀ (i : Nat) (sl : Sl), r0[i]? = some sl → match sl with
    | .no => True
    | .sh d => ∃ v, vs[i]? = some v ∧ Rep w Z H v d
    | .own b o => b = false ∧ ps[i]? = some true ∧ ∃ a, vs[i]? = some (.ref a) ∧ ¬ Z a ∧ OwnRep w Z H a o ∧ a ∈ ioA ps vs
  | _, _, _, r0, .nil, e => by
    cases e
    exact ⟨rfl, fun i sl h => by simp at h⟩
  | _, _, _, r0, @ArgRs.sh _ _ _ ps v vs d ds r t, e => by
    have e : (startE ps ds).map (.sh d :: ·) = some r0 := e
    obtain ⟨r1, e1, rfl⟩ := map_some e
    obtain ⟨i1, i2⟩ := start_sl t e1
    refine ⟨by rw [List.length_cons, List.length_cons, i1], fun i sl h => ?_⟩
    cases i with
    | zero =>
      have h : Sl.sh d = sl := by simpa using h
      subst h
      exact ⟨v, rfl, r⟩
    | succ i =>
      have := i2 i sl (by simpa using h)
      cases sl with
      | no => trivial
      | sh d' => exact this
      | own b o =>
        obtain ⟨h1, h2, a, h3, h4, h5, h6⟩ := this
        refine ⟨h1, by simpa using h2, a, by simpa using h3, h4, h5, ?_⟩
        have e2 : ioA (false :: ps) (v :: vs) = ioA ps vs := by cases v <;> rfl
        rw [e2]
        exact h6
  | _, _, _, r0, @ArgRs.io _ _ _ ps a vs o ds nz r t, e => by
    have e : (match obP o.d with | some o => (startE ps ds).map (.own false o :: ·) | none => none) = some r0 := e
    cases q : obP o.d with
    | none => rw [q] at e; cases e
    | some o' =>
      rw [q] at e
      obtain ⟨r1, e1, rfl⟩ := map_some (show (startE ps ds).map (.own false o' :: ·) = some r0 from e)
      obtain ⟨i1, i2⟩ := start_sl t e1
      refine ⟨by rw [List.length_cons, List.length_cons, i1], fun i sl h => ?_⟩
      cases i with
      | zero =>
        have h : Sl.own false o' = sl := by simpa using h
        subst h
        exact ⟨rfl, rfl, a, rfl, nz, obP_inj q r, List.mem_cons_self⟩
      | succ i =>
        have := i2 i sl (by simpa using h)
        cases sl with
        | no => trivial
        | sh d' => exact this
        | own b o =>
          obtain ⟨h1, h2, a', h3, h4, h5, h6⟩ := this
          exact ⟨h1, by simpa using h2, a', by simpa using h3, h4, h5, List.mem_cons_of_mem _ h6⟩
theorem app_no {r0 : En} {n i : Nat} {sl : Sl} (h : (r0 ++ List.replicate n Sl.no)[i]? = some sl) : sl = .no ∨ r0[i]? = some sl := by
  by_cases hi : i < r0.length
  · rw [List.getElem?_append_left hi] at h
    exact .inr h
  · rw [List.getElem?_append_right (by omega)] at h
    left
    exact (List.mem_replicate.mp (List.mem_of_getElem? h)).2
theorem start_get {N : List Str} {vs : List V} {i : Nat} {v : V} (h : vs[i]? = some v) : (L2.start N vs)[i]? = some (some v) := by
  unfold L2.start
  have hi : i < vs.length := Classical.byContradiction fun z => by rw [List.getElem?_eq_none (by omega)] at h; cases h
  rw [List.getElem?_append_left (by simpa using hi), List.getElem?_map, h]
  rfl
theorem start_sr {ps : List Bool} {vs : List V} {ds : List PyData} {r0 : En} {N : List Str} (zd : ∀ a, Z a → H a ≠ none) (h : ArgRs w Z H ps vs ds) (e : startE ps ds = some r0) (h1 : (ps.filter id).length ≤ 1) (hl : vs.length ≤ N.length) :
    SR w ⟨H, Z, (· ∈ ioA ps vs)⟩ Z H (r0 ++ List.replicate (N.length - r0.length) .no) (L2.start N vs) := by
  obtain ⟨l0, st⟩ := start_sl h e
  refine ⟨?_, fun i d hi => ?_, fun i b o hi => ?_, fun i j b b' o o' a hi hj _ _ => ?_, fun _ _ h _ => h, fun _ h => .inl h, fun _ h => h, fun _ h => h, zd⟩
  · unfold L2.start
    simp [l0]
  · rcases app_no hi with q | q
    · cases q
    · obtain ⟨v, hv, r⟩ := st i _ q
      exact ⟨v, start_get hv, r⟩
  · rcases app_no hi with q | q
    · cases q
    · obtain ⟨rfl, _, a, hv, nz, r, m⟩ := st i _ q
      exact ⟨a, start_get hv, nz, r, (fun z => nomatch z), fun _ => m⟩
  · rcases app_no hi with q | q
    · cases q
    · rcases app_no hj with q' | q'
      · cases q'
      · exact one_uniq h1 (st i _ q).2.1 (st j _ q').2.1
theorem ioA_len : ∀ {ps : List Bool} {vs : List V} {ds : List PyData}, ArgRs w Z H ps vs ds → (ioA ps vs).length = (ps.filter id).length
  | _, _, _, .nil => rfl
  | _, _, _, @ArgRs.sh _ _ _ ps v vs d ds r t => by
    have e2 : ioA (false :: ps) (v :: vs) = ioA ps vs := by cases v <;> rfl
    rw [e2, ioA_len t]
    rfl
  | _, _, _, @ArgRs.io _ _ _ ps a vs o ds nz r t => by
    show (ioA ps vs).length + 1 = _
    rw [ioA_len t]
    rfl
theorem outs_ok : ∀ {ps : List Bool} {r : En} {outs : List PyData}, outsE ps r = some outs → ((ps.filter id).length = 0 → outs = []) ∧ ((ps.filter id).length = 1 → ∃ (k : Nat) (o : Ob), r[k]? = some (Sl.own false o) ∧ outs = [Ob.d o])
  | [], r, outs, h => by
    have h : some [] = some outs := by cases r <;> exact h
    cases h
    exact ⟨fun _ => rfl, fun z => by cases z⟩
  | true :: ps, r, outs, h => by
    match r, h with
    | .own false o :: r, h =>
      obtain ⟨os, e, rfl⟩ := map_some (show (outsE ps r).map (o.d :: ·) = some outs from h)
      refine ⟨fun z => by simp at z, fun z => ?_⟩
      have z0 : (ps.filter id).length = 0 := by
        have : ((true :: ps).filter id).length = (ps.filter id).length + 1 := rfl
        omega
      have := (outs_ok e).1 z0
      subst this
      exact ⟨0, o, rfl, rfl⟩
  | false :: ps, r, outs, h => by
    match r, h with
    | s :: r, h =>
      have h : outsE ps r = some outs := h
      obtain ⟨i1, i2⟩ := outs_ok h
      refine ⟨fun z => i1 z, fun z => ?_⟩
      obtain ⟨k, o, e1, e2⟩ := i2 z
      exact ⟨k + 1, o, by simpa using e1, e2⟩
    | [], h => cases h
/-- a def's run -/
theorem run_fn {P : Ph} {F : Fn} {N : List Str} {vs : List V} {Q : VK} {E : XK} (h1 : one F.ps = true) (hn : F.n = N.length) (hl : F.ps.length ≤ N.length) (h : spF w F (runFn P F) vs H Q E) :
    tS w WF F.own (exes P F.body) { nx := fun _ H' => Q .non H', rt := Q } (L2.start N vs) H := by
  obtain ⟨Z, ds, zd, ar, k⟩ := h
  have h1 : (F.ps.filter id).length ≤ 1 := of_decide_eq_true h1
  have hlv := ar.len
  unfold runFn at k
  cases e : startE F.ps ds with
  | none => rw [e] at k; exact k.elim
  | some r0 =>
    rw [e] at k
    dsimp only at k
    rw [hn] at k
    have s0 := start_sr (N := N) zd ar e h1 (by omega)
    refine ⟨_, Z, _, s0, ?_⟩
    have fin : ∀ {d : PyData} {r : En} {outs : List PyData} {σ' Z' H' v}, outsE F.ps r = some outs → (∀ Z' H' v, CS (· ∈ ioA F.ps vs) Z H Z' H' → OutR w (ioA F.ps vs) Z' H' outs → RetR F.own w H Z' H' v d → Q v H') →
        SR w ⟨H, Z, (· ∈ ioA F.ps vs)⟩ Z' H' r σ' → RetR F.own w H Z' H' v d → Q v H' := by
      intro d r outs σ' Z' H' v eo k s rr
      refine k Z' H' v ⟨s.z0, s.zf, fun a o e n => s.frame a o e n, s.dom, s.zd⟩ ?_ rr
      have hio := ioA_len ar
      unfold OutR
      cases q : ioA F.ps vs with
      | nil => trivial
      | cons a r1 =>
        cases r1 with
        | cons _ _ => rw [q] at hio; simp at hio; omega
        | nil =>
          rw [q] at hio
          obtain ⟨k0, o, e1, rfl⟩ := (outs_ok eo).2 (by simpa using hio.symm)
          obtain ⟨a', _, nz, ro, _, io⟩ := s.own k0 false o e1
          have io : a' ∈ ioA F.ps vs := io rfl
          rw [q] at io
          have : a' = a := by simpa using io
          subst this
          exact ⟨nz, o, rfl, ro⟩
    cases ex : exes P F.body (r0 ++ List.replicate (N.length - r0.length) .no) with
    | stuck => rw [ex] at k; exact k.elim
    | exc x r =>
      rw [ex] at k
      dsimp only at k
      cases eo : outsE F.ps r with
      | none => rw [eo] at k; exact k.elim
      | some outs => rw [eo] at k; exact k.elim
    | ok f r =>
      rw [ex] at k
      intro σ' Z' H' ks s'
      cases f with
      | rt d =>
        dsimp only at k
        intro v rr
        cases eo : outsE F.ps r with
        | none => rw [eo] at k; exact k.elim
        | some outs =>
          rw [eo] at k
          exact fin eo k s' rr
      | nx =>
        dsimp only at k
        cases ho : F.own with
        | true => rw [ho, if_pos rfl] at k; exact k.elim
        | false =>
          rw [ho, if_neg (by decide)] at k
          cases eo : outsE F.ps r with
          | none => rw [eo] at k; exact k.elim
          | some outs =>
            rw [eo] at k
            dsimp only at k
            exact fin (d := .none) (v := .non) eo (by rw [ho]; exact k) s' (by rw [ho]; exact .non)
      | bk => exact k.elim
      | ct => exact k.elim
end
/-! ### the table -/
structure DefE where
  name : Str
  qual : Str
  params : Arguments
  body : List Stmt
  scope : Scope
  N : List Str
  ps : List Str
  F : Fn
  at_ : At := .fn name
def dropDoc : List Stmt → List Stmt
  | .Expr (.Constant (.str _) _ _) _ :: r => r
  | r => r
def scopeB (N ps : List Str) (sc : Scope) : Bool :=
  (match sc.kind with | .function => true | _ => false) && !sc.isCoroutine && !sc.isGenerator && decide N.Nodup && decide (N.take ps.length = ps) && (ps.all fun x => decide (sc.names.lookup x = some .local) || decide (sc.names.lookup x = some .cell)) &&
    (sc.names.all fun y => match y.2 with | .free => false | _ => true)
theorem scopeB_ok {N ps : List Str} {sc : Scope} (h : scopeB N ps sc = true) : FnScope N ps sc := by
  unfold scopeB at h
  obtain ⟨h, h7⟩ := and_true h
  obtain ⟨h, h6⟩ := and_true h
  obtain ⟨h, h5⟩ := and_true h
  obtain ⟨h, h4⟩ := and_true h
  obtain ⟨h, h3⟩ := and_true h
  obtain ⟨h1, h2⟩ := and_true h
  refine ⟨?_, by simpa using h2, by simpa using h3, of_decide_eq_true h4, of_decide_eq_true h5, fun x hx => ?_, fun y hy z => ?_⟩
  · cases e : sc.kind <;> rw [e] at h1 <;> first | rfl | cases h1
  · have := List.all_eq_true.mp h6 x hx
    rcases Bool.or_eq_true_iff.mp this with q | q
    · exact .inl (of_decide_eq_true q)
    · exact .inr (of_decide_eq_true q)
  · have := List.all_eq_true.mp h7 y hy
    rw [z] at this
    cases this
def fsOf (T : List DefE) : List (At × List Str × Fn) := T.map fun d => (d.at_, d.ps, d.F)
def okDef (fs : List (At × List Str × Fn)) (cs : List (Str × PyData)) (cl : List (Str × List Str)) (d : DefE) : Bool :=
  chkSs ⟨d.N, d.scope, d.scope, fs, cs, cl⟩ d.F.own d.F.body (dropDoc d.body) && decide (d.F.n = d.N.length) && decide (d.F.ps.length = d.ps.length) && one d.F.ps && scopeB d.N d.ps d.scope && (!d.F.star || starB d.F.ps)
/-- what the start of the program laid down -/
structure TabOk (K : PySem.W.Frag) (mg : Str → Option Value) (T : List DefE) (cs : List (Str × PyData)) (cl : List (Str × List Str)) : Prop where
  defs : ∀ d ∈ T, ∃ fa fd, AtOk K mg d.at_ fa ∧ FunD K d.name d.qual d.params d.body d.scope [] [] fa fd ∧ (d.F.star = false → ∀ n, n = d.ps.length ∨ n ∈ d.F.kb → KB K fd d.ps n) ∧ (d.F.star = true → ∃ qs pv, d.ps = qs ++ [pv] ∧ KS1 fd qs pv)
  blt : ∀ x ∈ bltNames, mg x = none
  cs : ∀ p ∈ cs, ∃ u v, mg p.1 = some u ∧ RelV v u ∧ ∀ Z H, Rep ⟨K, mg⟩ Z H v p.2
  cl2 : ∀ p ∈ cl, ∀ q ∈ cl, ClOk2 K mg p.1 q.1
  cl : ∀ p ∈ cl, ClOk K mg p
theorem doc_drop {X : Cx} {ss : List Stmt} {t : TS} (h : PSs X (dropDoc ss) t) : PSs X ss t := by
  unfold dropDoc at h
  split at h
  · exact PSs.imp (pss_cons ps_doc h) fun D σ H q => q
  · exact h
theorem tab_fok {P : Program} {w : World} {K : PySem.W.Frag} {mg : Str → Option Value} {base : Heap} {T : List DefE} {cs : List (Str × PyData)} {cl : List (Str × List Str)} (tk : TabOk K mg T cs cl) (hc : (T.all (okDef (fsOf T) cs cl)) = true) :
    ∀ (k : Nat) (i : Nat) (d : DefE) (fa : Addr) (fd : FuncData), T[i]? = some d → FunD K d.name d.qual d.params d.body d.scope [] [] fa fd → (d.F.star = true → ∃ qs pv, d.ps = qs ++ [pv] ∧ KS1 fd qs pv) →
      (d.F.star = false → FOk P w K mg base CX0 k fa fd d.ps (spF ⟨K, mg⟩ d.F (callF (T.map DefE.F) k i))) ∧ (d.F.star = true → FSt P w K mg base CX0 k fa (spS ⟨K, mg⟩ d.F (callF (T.map DefE.F) k i)))
  | k, i, d, fa, fd, hi, hf, hsb => by
    have hd := List.all_eq_true.mp hc d (List.mem_of_getElem? hi)
    unfold okDef at hd
    obtain ⟨hd, g6⟩ := and_true hd
    obtain ⟨hd, g5⟩ := and_true hd
    obtain ⟨hd, g4⟩ := and_true hd
    obtain ⟨hd, g3⟩ := and_true hd
    obtain ⟨g1, g2⟩ := and_true hd
    have g2 := of_decide_eq_true g2
    have g3 := of_decide_eq_true g3
    have S := scopeB_ok g5
    have len : ∀ {p : List PyData → FR} vs H Q E, spF ⟨K, mg⟩ d.F p vs H Q E → vs.length = d.ps.length := fun vs H Q E h => by
      obtain ⟨Z, ds, _, ar, _⟩ := h
      rw [ar.len, g3]
    have hpl : d.ps.length ≤ d.N.length := by have := congrArg List.length S.pre; rw [List.length_take] at this; omega
    cases k with
    | zero => exact ⟨fun _ => ⟨len, fun A outer s H args us vs Q E _ _ _ _ _ h => by obtain ⟨Z, ds, _, _, h⟩ := h; exact h.elim⟩, fun _ => ⟨fun A outer s H us vs Q E _ _ _ _ h => by obtain ⟨_, _, _, _, _, Z, ds, _, _, _, _, h⟩ := h; exact h.elim⟩⟩
    | succ k =>
      have body : ∀ (cdv : Value) (A : Around) (outer : List Env) (s : Shared) (H : Hp) (vs : List V) (Q : VK) (E : XK), Room (k + 1) A → A.guards = some [] → spF ⟨K, mg⟩ d.F (callF (T.map DefE.F) (k + 1) i) vs H Q E →
          ∃ t, PSs (cxOf CX0 P w K mg base d.N d.qual d.scope fa cdv A outer s H E) d.body t ∧ t { nx := fun _ H' => Q .non H', rt := Q } (L2.start d.N vs) H := by
        intro cdv A outer s H vs Q E hr hgd hsp
        have ok : CxOk (cxOf CX0 P w K mg base d.N d.qual d.scope fa cdv A outer s H E) ⟨d.N, d.scope, d.scope, fsOf T, cs, cl⟩ (callF (T.map DefE.F) k) := by
          refine ⟨⟨rfl, by have := hr.un; show A.units + 3 + 200 < _; omega, hgd⟩, rfl, S.nd, rfl, fun x h => ⟨?_, .inl rfl⟩, tk.blt, fun j x ps F hj => ?_, tk.cl, tk.cl2, tk.cs⟩
          · show L2.Loc d.scope x
            unfold locB at h
            have h : (match d.scope.names.lookup x with | some .local => true | some .cell => true | _ => false) = true := h
            unfold L2.Loc
            cases e : d.scope.names.lookup x with
            | none => rw [e] at h; cases h
            | some kd => rw [e] at h; cases kd <;> first | exact .inl rfl | exact .inr rfl | cases h
          · have hj : (T.map fun d => (d.at_, d.ps, d.F))[j]? = some (x, ps, F) := hj
            rw [List.getElem?_map] at hj
            obtain ⟨d', e1, e2⟩ := map_some hj
            cases e2
            obtain ⟨fa', fd', m', f', kb, ks⟩ := tk.defs d' (List.mem_of_getElem? e1)
            have hd' := List.all_eq_true.mp hc d' (List.mem_of_getElem? e1)
            unfold okDef at hd'
            obtain ⟨t1, t2⟩ := tab_fok tk hc k j d' fa' fd' e1 f' ks
            exact ⟨fa', fd', k, m', fun q => ⟨t1 q, kb q⟩, t2, RoomB.of hr _, (and_true (and_true (and_true hd').1).1).2⟩
        refine ⟨_, doc_drop (sndSs (own := d.F.own) ok S.kind (passes_of rfl) d.F.body g1), ?_⟩
        have e : callF (T.map DefE.F) (k + 1) i = runFn (callF (T.map DefE.F) k) d.F := by
          funext ds
          show (match (T.map DefE.F)[i]? with | some F => runFn (callF (T.map DefE.F) k) F ds | none => .stuck) = _
          rw [List.getElem?_map, hi]
          rfl
        rw [e] at hsp
        exact run_fn g4 g2 (by omega) hsp
      refine ⟨fun _ => FOk.of hf S len body, fun hst => ?_⟩
      obtain ⟨qs, pv, hq, hb⟩ := hsb hst
      rw [hst] at g6
      have g6 : starB d.F.ps = true := by simpa using g6
      have hlq : d.F.ps.length = qs.length + 1 := by rw [g3, hq, List.length_append]; rfl
      have R := FSt.of (P := P) (w := w) (mg := mg) (base := base) (CX := CX0) (sp := spF ⟨K, mg⟩ d.F (callF (T.map DefE.F) (k + 1) i)) hf (by rw [← hq]; exact S) StX.cxUp_none hb body
      refine ⟨fun A outer s H us vs Q E hr gd e0 r h => R.run A outer s H us vs Q E hr gd e0 r ?_⟩
      obtain ⟨ws, rest, e1, e2, e3, e4⟩ := spS_F g6 h
      exact ⟨ws, rest, e1, by omega, e3, e4⟩
/-! ### how the defs bind -/
def KbD (d : DefE) : Prop := (d.F.star = false → ∀ n, n = d.ps.length ∨ n ∈ d.F.kb → ∀ (kV doc pm : Value) (an : Option Addr) (cdv ct : Value) (us ws : List Value), us.length = n → us.length + ws.length = d.ps.length →
  bindArgs (PySem.W.fnOf d.name d.qual d.params d.body d.scope .none kV doc pm an cdv ct) ⟨us, (d.ps.drop n).zip ws⟩ = pure (d.ps.zip (us ++ ws))) ∧
  (d.F.star = true → ∃ qs pv, d.ps = qs ++ [pv] ∧ ∀ (kV doc pm : Value) (an : Option Addr) (cdv ct : Value) (us rest : List Value), us.length = qs.length →
    bindArgs (PySem.W.fnOf d.name d.qual d.params d.body d.scope .none kV doc pm an cdv ct) ⟨us ++ rest, []⟩ = (newTuple rest >>= fun t => pure (qs.zip us ++ [(pv, t)])))
def AllKb : List DefE → Prop
  | [] => True
  | d :: r => KbD d ∧ AllKb r
theorem AllKb.mem : ∀ {T : List DefE}, AllKb T → ∀ d ∈ T, KbD d
  | _ :: _, h, d, hd => (List.mem_cons.mp hd).elim (fun e => e ▸ h.1) (AllKb.mem h.2 d)
theorem kb_of {K : PySem.W.Frag} {d : DefE} {fa : Addr} {fd : FuncData} (F : FunD K d.name d.qual d.params d.body d.scope [] [] fa fd) (h : KbD d) :
    (d.F.star = false → ∀ n, n = d.ps.length ∨ n ∈ d.F.kb → KB K fd d.ps n) ∧ (d.F.star = true → ∃ qs pv, d.ps = qs ++ [pv] ∧ KS1 fd qs pv) := by
  obtain ⟨oc, od, dV, kV, doc, pm, an, cdv, ct, osl, rfl, lk, hcd, hD, hK⟩ := F.ex
  rcases hD with ⟨_, rfl⟩ | ⟨e, _⟩
  · refine ⟨fun hs n hn s us ws KX h1 h2 => .of_eq (h.1 hs n hn kV doc pm an cdv ct us ws h1 h2), fun hs => ?_⟩
    obtain ⟨qs, pv, e, hb⟩ := h.2 hs
    exact ⟨qs, pv, e, fun us rest hl => hb kV doc pm an cdv ct us rest hl⟩
  · exact absurd rfl e
end M3
set_option Elab.async false
set_option linter.all false
set_option maxRecDepth 100000
set_option maxHeartbeats 4000000
/-! F26: a law's end. -/
namespace M3
open PySem PySem.Spec L2
open PyProof.Rows hiding St
/-! ### where the defs stand -/
def recA (K : PySem.W.Frag) (p : Addr) (t : String) : Addr := match PySem.W.recIn K p t with
  | some (.ref g :: _) => g
  | _ => 0
def atA (K : PySem.W.Frag) : At → Addr
  | .fn x => He.ga K x
  | .me c m .meth => He.ma K (He.ga K c) m
  | .me c _ .init => He.ma K (He.ga K c) "__init__"
  | .me c m .prop => recA K (He.ma K (He.ga K c) m) "property"
def proB (K : PySem.W.Frag) (C p : Addr) (m : Str) : Bool := He.eqO (PySem.W.findIn K (.ref C) m) (some (some (.ref p))) && (He.eqO (PySem.W.specialIn K (.ref p) "__get__") (some (some (.builtin "property.__get__"))) &&
  (decide (PySem.W.takesIn K (.ref p) = some true) && (match PySem.W.recIn K p "property" with
    | some (.ref _ :: _) => true
    | _ => false)))
def atB (K : PySem.W.Frag) : At → Bool
  | .fn x => (He.Fa.glo x).ok K
  | .me c m .meth => (He.Fa.glo c).ok K && ((He.Fa.cls c).ok K && (He.Fa.meth c m).ok K)
  | .me c _ .init => (He.Fa.glo c).ok K && ((He.Fa.cls c).ok K && (He.Fa.mkr c).ok K)
  | .me c m .prop => (He.Fa.glo c).ok K && ((He.Fa.cls c).ok K && proB K (He.ga K c) (He.ma K (He.ga K c) m) m)
def clX (K : PySem.W.Frag) (C : Addr) : Bool := He.eqO (PySem.W.findIn K (.ref C) "__class__") (some (some (.builtin "object.__class__"))) && (He.eqO (PySem.W.specialIn K (.builtin "object.__class__") "__get__") (some (some (.builtin "getset_descriptor.__get__"))) &&
  (decide (PySem.W.takesIn K (.builtin "object.__class__") = some true) && (decide (PySem.W.mroIn K C (.type "object") = some true) && (He.eqO (PySem.W.findIn K (.ref C) "__ne__") (some (some (.builtin "object.__ne__"))) && (PySem.W.selfFirst K C && (PySem.W.noSeq K C &&
  tyNames.all fun T => decide (PySem.W.kitOne K (.type T) (.ref C) = some false) && decide (PySem.W.subIn K (.type T) (.ref C) = some false)))))))
theorem clX_ok {K : PySem.W.Frag} {C : Addr} (q : clX K C = true) : ClsX K C := by
  unfold clX at q
  obtain ⟨q1, q⟩ := and_true q
  obtain ⟨q2, q⟩ := and_true q
  obtain ⟨q3, q⟩ := and_true q
  obtain ⟨q4, q⟩ := and_true q
  obtain ⟨q5, q⟩ := and_true q
  obtain ⟨q6, q⟩ := and_true q
  obtain ⟨q7, q8⟩ := and_true q
  refine ⟨He.eqO_ok q1, He.eqO_ok q2, of_decide_eq_true q3, of_decide_eq_true q4, He.eqO_ok q5, q6, q7, fun T hT => ?_⟩
  obtain ⟨a, b⟩ := and_true (List.all_eq_true.mp q8 T hT)
  exact ⟨of_decide_eq_true a, of_decide_eq_true b⟩
def clB (K : PySem.W.Frag) (p : Str × List Str) : Bool := (He.Fa.glo p.1).ok K && ((He.Fa.cls p.1).ok K && ((p.2.all fun x => (He.Fa.noat p.1 x).ok K) && clX K (He.ga K p.1)))
def cl2B (K : PySem.W.Frag) (cl : List (Str × List Str)) : Bool := cl.all fun p => cl.all fun q => decide (PySem.W.kitOne K (.ref (He.ga K p.1)) (.ref (He.ga K q.1)) = some (decide (p.1 = q.1)))
section
variable {K : PySem.W.Frag} {h : Heap} {mg : Str → Option Value}
theorem proB_ok {C p : Addr} {m : Str} (q : proB K C p m = true) : PropOf K C m p (recA K p "property") := by
  unfold proB at q
  obtain ⟨q1, q⟩ := and_true q
  obtain ⟨q2, q⟩ := and_true q
  obtain ⟨q3, q4⟩ := and_true q
  refine ⟨He.eqO_ok q1, He.eqO_ok q2, of_decide_eq_true q3, ?_⟩
  unfold recA
  split at q4
  · rename_i g rest e
    rw [e]
    exact ⟨rest, rfl⟩
  · cases q4
theorem atB_ok (X : K.In h) (G : h.Ns mainGlobals mg) {a : At} (q : atB K a = true) (kp : PySem.W.keepIn K (.ref (atA K a)) = true) : AtOk K mg a (atA K a) := by
  match a, q, kp with
  | .fn x, q, kp => exact ⟨He.glo_ok X G q, kp⟩
  | .me c m .meth, q, _ =>
    obtain ⟨q1, q⟩ := and_true q
    obtain ⟨q2, q3⟩ := and_true q
    exact ⟨_, He.glo_ok X G q1, He.cls_ok q2, He.meth_ok q3⟩
  | .me c m .init, q, _ =>
    obtain ⟨q1, q⟩ := and_true q
    obtain ⟨q2, q3⟩ := and_true q
    exact ⟨_, He.glo_ok X G q1, He.cls_ok q2, He.mkr_ok q3⟩
  | .me c m .prop, q, _ =>
    obtain ⟨q1, q⟩ := and_true q
    obtain ⟨q2, q3⟩ := and_true q
    exact ⟨_, _, He.glo_ok X G q1, He.cls_ok q2, proB_ok q3⟩
theorem clB_ok (X : K.In h) (G : h.Ns mainGlobals mg) {p : Str × List Str} (q : clB K p = true) : ClOk K mg p := by
  obtain ⟨q1, q⟩ := and_true q
  obtain ⟨q2, q⟩ := and_true q
  obtain ⟨q3, q4⟩ := and_true q
  exact ⟨_, He.glo_ok X G q1, He.cls_ok q2, fun x hx => He.noat_ok (List.all_eq_true.mp q3 x hx), clX_ok q4⟩
theorem cl2B_ok (X : K.In h) (G : h.Ns mainGlobals mg) {cl : List (Str × List Str)} (q : cl.all (clB K) = true) (q2 : cl2B K cl = true) : ∀ p ∈ cl, ∀ r ∈ cl, ClOk2 K mg p.1 r.1 := fun p hp r hr => by
  have a := (and_true (show ((He.Fa.glo p.1).ok K && _) = true from List.all_eq_true.mp q p hp)).1
  have b := (and_true (show ((He.Fa.glo r.1).ok K && _) = true from List.all_eq_true.mp q r hr)).1
  exact ⟨_, _, He.glo_ok X G a, He.glo_ok X G b, of_decide_eq_true (List.all_eq_true.mp (List.all_eq_true.mp q2 p hp) r hr)⟩
end
/-! ### what stands there -/
abbrev FV : Type := Scope × FuncBody × Arguments × Str × Str × List (Str × Addr) × Addr × Addr
def obF (fd : FuncData) : FV := (fd.scope, fd.body, fd.params, fd.name, fd.qualname, fd.closure, fd.globals, fd.builtins)
def dataF : Obj → Option FuncData
  | ⟨_, _, .func fd, _⟩ => some fd
  | _ => none
def fnA (K : PySem.W.Frag) (a : Addr) : Option FV := ((K.lookup a).bind dataF).map obF
def vaD (d : DefE) : Option FV := some (d.scope, .stmts d.body, d.params, d.name, d.qual, [], mainGlobals, builtinsNs)
def noneV : Value → Bool
  | .none => true
  | _ => false
def okA (K : PySem.W.Frag) (a : Addr) (q : Str) : Bool := PySem.W.keepIn K (.ref a) && (match (K.lookup a).bind dataF with
  | some fd => PySem.W.codeIn K fd.code q && noneV fd.defaults
  | none => false)
theorem fun_at {K : PySem.W.Frag} {a : Addr} {d : DefE} (e : fnA K a = vaD d) (c : okA K a d.qual = true) : ∃ fd, FunD K d.name d.qual d.params d.body d.scope [] [] a fd := by
  unfold okA at c
  obtain ⟨kp, c⟩ := and_true c
  unfold fnA at e
  cases q : K.lookup a with
  | none => rw [q] at c; cases c
  | some o =>
    rw [q] at c e
    obtain ⟨oc, od, dt, osl⟩ := o
    cases dt with
    | func fd =>
      obtain ⟨n1, n2, n3, n4, n5, n6, n7, n8, n9, n10, n11, n12, n13, n14, n15⟩ := fd
      have e : some (n5, n4, n3, n1, n2, n7, n6, n15) = some (d.scope, FuncBody.stmts d.body, d.params, d.name, d.qual, ([] : List (Str × Addr)), mainGlobals, builtinsNs) := e
      have c : (PySem.W.codeIn K n13 d.qual && noneV n8) = true := c
      obtain ⟨c1, c2⟩ := and_true c
      have e := Option.some.inj e
      obtain ⟨e1, e⟩ := Prod.mk.inj e
      obtain ⟨e2, e⟩ := Prod.mk.inj e
      obtain ⟨e3, e⟩ := Prod.mk.inj e
      obtain ⟨e4, e⟩ := Prod.mk.inj e
      obtain ⟨e5, e⟩ := Prod.mk.inj e
      obtain ⟨e6, e⟩ := Prod.mk.inj e
      obtain ⟨e7, e8⟩ := Prod.mk.inj e
      subst e1 e2 e3 e4 e5 e6 e7 e8
      cases n8 with
      | none => exact ⟨_, ⟨oc, od, .none, n9, n10, n11, n12, n13, n14, osl, rfl, q, c1, .inl ⟨rfl, rfl⟩, .inl rfl⟩, kp⟩
      | _ => cases c2
    | _ => cases c
/-! ### the constants, the builtins -/
def csB (K : PySem.W.Frag) : Str × PyData → Bool
  | (x, .int i) => (He.Fa.int x i).ok K
  | (x, .str z) => (He.Fa.str x z).ok K && sOk z
  | _ => false
def exL (K : PySem.W.Frag) : Bool := K.all fun p => match p.2.cls with
  | .type c => c != "list"
  | _ => true
theorem mem_lk {α β : Type} [BEq α] [LawfulBEq α] : ∀ {l : List (α × β)} {a : α} {b : β}, l.lookup a = some b → (a, b) ∈ l
  | (x, y) :: r, a, b, h => by
    rw [List.lookup_cons] at h
    cases e : a == x with
    | true =>
      rw [e] at h
      cases h
      have : a = x := by simpa using e
      subst this
      exact List.mem_cons_self
    | false => rw [e] at h; exact List.mem_cons_of_mem _ (mem_lk h)
theorem exL_ok {K : PySem.W.Frag} (h : exL K = true) : ∀ a o, K.lookup a = some o → o.cls ≠ .type "list" := fun a o e z => by
  have := List.all_eq_true.mp h (a, o) (mem_lk e)
  rw [z] at this
  simp at this
/-! ### the hook -/
def alB (T : List DefE) (cs : List (Str × PyData)) (cl : List (Str × List Str)) (K : PySem.W.Frag) : Bool :=
  (T.all fun d => atB K d.at_ && okA K (atA K d.at_) d.qual) && ((cs.all (csB K) && (cl.all (clB K) && cl2B K cl)) && ((bltNames.all fun x => (He.Fa.free x).ok K) && exL K))
abbrev AV : Type := Bool × List (Option FV)
def obK (T : List DefE) (cs : List (Str × PyData)) (cl : List (Str × List Str)) (K : PySem.W.Frag) : AV := (alB T cs cl K, T.map fun d => fnA K (atA K d.at_))
def vaT (T : List DefE) : AV := (true, T.map vaD)
def obG (n : Nat) (T : List DefE) (cs : List (Str × PyData)) (cl : List (Str × List Str)) (g : Addr → Option Obj) : AV := obK T cs cl (He.frT g (He.asD g n))
def hkC (n : Nat) (T : List DefE) (cs : List (Str × PyData)) (cl : List (Str × List Str)) : PySem.W.Hook where
  α := AV
  obs := fun s => obG n T cs cl s.heap.get?
  val := fun _ => vaT T
  says := fun _ h => ∃ L : PySem.W.Frag, L.In h ∧ obK T cs cl L = vaT T
  of := fun _ _ e => ⟨_, He.frT_in, e⟩
  keeps := fun _ _ _ ⟨L, hL, q⟩ m => ⟨L, hL.keeps m, q⟩
theorem obG_eq {n : Nat} {T : List DefE} {cs : List (Str × PyData)} {cl : List (Str × List Str)} {g : Addr → Option Obj} {s : Shared} (h : ∀ a, g a = s.heap.get? a) : obG n T cs cl g = (hkC n T cs cl).obs s := by
  have e : g = s.heap.get? := funext h
  subst e
  rfl
theorem map_eq_mem {α β : Type} {f g : α → β} : ∀ {l : List α}, l.map f = l.map g → ∀ a ∈ l, f a = g a
  | b :: l, h, a, ha => by
    rw [List.map_cons, List.map_cons] at h
    obtain ⟨h1, h2⟩ := List.cons.inj h
    rcases List.mem_cons.mp ha with rfl | q
    · exact h1
    · exact map_eq_mem h2 a q
theorem tabOk_of {K : PySem.W.Frag} {h : Heap} {mg : Str → Option Value} {T : List DefE} {cs : List (Str × PyData)} {cl : List (Str × List Str)} (X : K.In h) (G : h.Ns mainGlobals mg) (c : obK T cs cl K = vaT T) (hk : AllKb T) : TabOk K mg T cs cl ∧ exL K = true := by
  have c1 : alB T cs cl K = true := congrArg Prod.fst c
  have c2 : (T.map fun d => fnA K (atA K d.at_)) = T.map vaD := congrArg Prod.snd c
  unfold alB at c1
  obtain ⟨a1, c1⟩ := and_true c1
  obtain ⟨a2, c1⟩ := and_true c1
  obtain ⟨a2, a3⟩ := and_true a2
  obtain ⟨a3, a6⟩ := and_true a3
  obtain ⟨a4, a5⟩ := and_true c1
  refine ⟨⟨fun d hd => ?_, fun x hx => He.free_ok X G (List.all_eq_true.mp a4 x hx), fun p hp => ?_, cl2B_ok X G a3 a6, fun p hp => clB_ok X G (List.all_eq_true.mp a3 p hp)⟩, a5⟩
  · obtain ⟨b1, b2⟩ := and_true (List.all_eq_true.mp a1 d hd)
    obtain ⟨fd, F⟩ := fun_at (map_eq_mem c2 d hd) b2
    exact ⟨_, fd, atB_ok X G b1 F.kp, F, kb_of F (hk.mem d hd)⟩
  · have q := List.all_eq_true.mp a2 p hp
    obtain ⟨x, d⟩ := p
    cases d with
    | int i =>
      obtain ⟨t, e⟩ := He.int_ok X G (x := x) (i := i) q
      exact ⟨_, .int i, e, ⟨t, rfl⟩, fun _ _ => .int i⟩
    | str z =>
      obtain ⟨q1, q2⟩ := and_true q
      obtain ⟨t, e⟩ := He.str_ok X G (x := x) (z := z) q1
      exact ⟨_, .str z, e, ⟨t, rfl⟩, fun _ _ => .str z q2⟩
    | _ => cases q
/-- the law's def at a script -/
theorem law_sp {K : PySem.W.Frag} {mg : Str → Option Value} {F : Fn} {p : List PyData → FR} (hps : F.ps = [false]) (ho : F.own = false) {n : Nat} (h : ∀ ns : List Int, ns.length ≤ n → ∃ outs, p [.list (ns.map .int)] = .ok (.bool true) outs)
    (H : Hp) (a : Addr) (ns : List Int) (hl : ns.length ≤ n) (hO : Only H) (hS : Rd H a (.lst (ns.map V.int))) : spF ⟨K, mg⟩ F p [.ref a] H (fun v _ => v = .bl true) fun _ _ _ => False := by
  obtain ⟨outs, e⟩ := h ns hl
  have hz : ∀ b, b = a → H b ≠ none := fun b e z => by
    subst e
    rcases hS with q | ⟨o, q⟩ <;> (rw [z] at q; cases q)
  refine ⟨fun b => b = a, [.list (ns.map .int)], hz, ?_, ?_⟩
  · rw [hps]
    exact .sh (.lst rfl hS Reps.of_ints) .nil
  · rw [e]
    intro Z' H' v _ _ r
    unfold RetR at r
    rw [ho] at r
    exact Rep.isbl r
theorem law_walk {l : PySem.W.OpenLaw} {q : Program} {loose : List Str} {XP : (Str → Option Value) → Heap → Prop} {n k : Nat} {d : DefRec} {x : Str} {T : List DefE} {cs : List (Str × PyData)} {cl : List (Str × List Str)} {m i : Nat} {dl : DefE}
    (hn : l.most = some n) (hn2 : n ≤ sizeLine) (hdf : d.params.defaults = []) (hr : Room k callerA) (hname : d.name = dl.name) (hat : dl.at_ = .fn dl.name) (hT : T[i]? = some dl) (hx : dl.ps = [x]) (hps : dl.F.ps = [false]) (ho : dl.F.own = false) (hst : dl.F.star = false)
    (hc : T.all (okDef (fsOf T) cs cl) = true) (hkb : AllKb T) (hp : ∀ ns : List Int, ns.length ≤ n → ∃ outs, callF (T.map DefE.F) k i [.list (ns.map .int)] = .ok (.bool true) outs) :
    PySem.W.WalkO q loose XP (hkC m T cs cl).says l.row.toRowW d [] (fun f vs => PySem.call f vs) := by
  refine walk_G (x := x) hn hn2 hdf hr fun w mg fa h Y G hmg => ?_
  obtain ⟨K, KX, c⟩ := Y
  obtain ⟨tk, ex⟩ := tabOk_of KX G c hkb
  obtain ⟨fa', fd, hm, F, kb, ks⟩ := tk.defs dl (List.mem_of_getElem? hT)
  rw [hat] at hm
  rw [hname, hm.1] at hmg
  cases hmg
  refine ⟨K, fd, spF ⟨K, mg⟩ dl.F (callF (T.map DefE.F) k i), KX, exL_ok ex, fun s u => ?_, fun H a ns hl hO hS => law_sp hps ho hp H a ns hl hO hS, fun base _ _ => ?_⟩
  · obtain ⟨oc, od, dV, kV, doc, pm, an, cdv, ct, osl, rfl, lk, hcd, hD, hK⟩ := F.ex
    rcases hD with ⟨_, rfl⟩ | ⟨e, _⟩
    · have b := (hkb.mem dl (List.mem_of_getElem? hT)).1 hst dl.ps.length (.inl rfl) kV doc pm an cdv ct [u] [] (by rw [hx]; rfl) (by rw [hx]; rfl)
      rw [hx] at b
      exact .of_eq b
    · exact absurd rfl e
  · have := (tab_fok (P := l.prog) (w := w) (base := base) tk hc k i dl _ fd hT F ks).1 hst
    rw [hx] at this
    exact this
/-! ### how the tables are printed -/
theorem KbD.m1 {d : DefE} (hk : d.F.kb = []) (h : ∀ (kV doc pm : Value) (an : Option Addr) (cdv ct : Value) (us : List Value), us.length = d.ps.length → bindArgs (PySem.W.fnOf d.name d.qual d.params d.body d.scope .none kV doc pm an cdv ct) ⟨us, []⟩ = pure (d.ps.zip us)) (hs : d.F.star = false := by rfl) : KbD d := by
  refine ⟨fun _ => ?_, fun z => by rw [hs] at z; cases z⟩
  intro n hn kV doc pm an cdv ct us ws h1 h2
  rw [hk] at hn
  have hn : n = d.ps.length := hn.resolve_right (by simp)
  have hw : ws = [] := List.eq_nil_of_length_eq_zero (by omega)
  subst hw
  rw [List.zip_nil_right, List.append_nil]
  exact h kV doc pm an cdv ct us (by omega)
theorem KbD.m2 {d : DefE} {m : Nat} (hk : d.F.kb = [m]) (h : ∀ (kV doc pm : Value) (an : Option Addr) (cdv ct : Value) (us : List Value), us.length = d.ps.length → bindArgs (PySem.W.fnOf d.name d.qual d.params d.body d.scope .none kV doc pm an cdv ct) ⟨us, []⟩ = pure (d.ps.zip us))
    (h2 : ∀ (kV doc pm : Value) (an : Option Addr) (cdv ct : Value) (us ws : List Value), us.length = m → ws.length = d.ps.length - m → bindArgs (PySem.W.fnOf d.name d.qual d.params d.body d.scope .none kV doc pm an cdv ct) ⟨us, (d.ps.drop m).zip ws⟩ = pure (d.ps.zip (us ++ ws))) (hs : d.F.star = false := by rfl) : KbD d := by
  refine ⟨fun _ => ?_, fun z => by rw [hs] at z; cases z⟩
  intro n hn kV doc pm an cdv ct us ws h1 h3
  rw [hk] at hn
  rcases hn with hn | hn
  · have hw : ws = [] := List.eq_nil_of_length_eq_zero (by omega)
    subst hw
    rw [List.zip_nil_right, List.append_nil]
    exact h kV doc pm an cdv ct us (by omega)
  · have : n = m := by simpa using hn
    subst this
    exact h2 kV doc pm an cdv ct us ws h1 (by omega)
theorem KbD.st {d : DefE} {p1 pv : Str} (hp : d.ps = [p1, pv]) (h0 : ∀ (kV doc pm : Value) (an : Option Addr) (cdv ct a : Value), bindArgs (PySem.W.fnOf d.name d.qual d.params d.body d.scope .none kV doc pm an cdv ct) ⟨[a], []⟩ = (newTuple [] >>= fun t => pure [(p1, a), (pv, t)]))
    (h1 : ∀ (kV doc pm : Value) (an : Option Addr) (cdv ct a r : Value) (rs : List Value), bindArgs (PySem.W.fnOf d.name d.qual d.params d.body d.scope .none kV doc pm an cdv ct) ⟨a :: r :: rs, []⟩ = (newTuple (r :: rs) >>= fun t => pure [(p1, a), (pv, t)])) (hs : d.F.star = true := by rfl) : KbD d := by
  refine ⟨fun z => (by rw [hs] at z; cases z), fun _ => ⟨[p1], pv, hp, fun kV doc pm an cdv ct us rest hl => ?_⟩⟩
  exact StX.bind_star1 (B := fun us => bindArgs (PySem.W.fnOf d.name d.qual d.params d.body d.scope .none kV doc pm an cdv ct) ⟨us, []⟩) (h0 kV doc pm an cdv ct) (h1 kV doc pm an cdv ct) us rest hl
def clsB : Stmt → List Stmt
  | .ClassDef _ _ _ b _ _ _ _ _ _ _ => b
  | _ => []
end M3
set_option Elab.async false
set_option linter.all false
set_option maxRecDepth 100000
/-! G1: the evaluator run by simp. -/
namespace M3
open PySem
def R.bind {α β : Type} (x : R α) (f : α → En → R β) : R β := match x with
  | .ok a r => f a r
  | .exc x r => .exc x r
  | .stuck => .stuck
theorem R.bind_ok {α β : Type} (a : α) (r : En) (f : α → En → R β) : (R.ok a r).bind f = f a r := rfl
/-- what comes behind is not looked at before its turn: it lies in an instance -/
class Kn (α β : Type) where
  k : α → En → R β
def R.bindK {α β : Type} (x : R α) [c : Kn α β] : R β := x.bind c.k
@[simp ↓] theorem R.bind_K {α β : Type} (x : R α) (f : α → En → R β) : x.bind f = @R.bindK α β x ⟨f⟩ := rfl
@[simp] theorem R.bindK_ok {α β : Type} (a : α) (r : En) (f : α → En → R β) : @R.bindK α β (R.ok a r) ⟨f⟩ = f a r := rfl
def optR {α β : Type} (x : Option α) (f : α → R β) : R β := match x with
  | some a => f a
  | none => .stuck
theorem optR_some {α β : Type} (a : α) (f : α → R β) : optR (some a) f = f a := rfl
class Ko (α β : Type) where
  k : α → R β
def optK {α β : Type} (x : Option α) [c : Ko α β] : R β := optR x c.k
@[simp ↓] theorem optR_K {α β : Type} (x : Option α) (f : α → R β) : optR x f = @optK α β x ⟨f⟩ := rfl
@[simp] theorem optK_some {α β : Type} (a : α) (f : α → R β) : @optK α β (some a) ⟨f⟩ = f a := rfl
def iteR {β : Type} (c : Bool) (x y : R β) : R β := match c with
  | true => x
  | false => y
theorem iteR_t {β : Type} (x y : R β) : iteR true x y = x := rfl
theorem iteR_f {β : Type} (x y : R β) : iteR false x y = y := rfl
class Ki (β : Type) where
  x : R β
  y : R β
def iteK {β : Type} (c : Bool) [k : Ki β] : R β := iteR c k.x k.y
@[simp ↓] theorem iteR_K {β : Type} (c : Bool) (x y : R β) : iteR c x y = @iteK β c ⟨x, y⟩ := rfl
@[simp] theorem iteK_t {β : Type} (x y : R β) : @iteK β true ⟨x, y⟩ = x := rfl
@[simp] theorem iteK_f {β : Type} (x y : R β) : @iteK β false ⟨x, y⟩ = y := rfl
theorem ite_iteR {β : Type} (c : Prop) [Decidable c] (x y : R β) : (if c then x else y) = iteR (decide c) x y := by
  by_cases h : c <;> simp [h]
theorem ite_iteB {β : Type} (c : Bool) (x y : R β) : (if c = true then x else y) = iteR c x y := by cases c <;> rfl
@[simp] theorem ret_ap {α : Type} (a : α) (r : En) : ret a r = .ok a r := rfl
@[simp] theorem fail_ap {α : Type} (r : En) : (fail : M α) r = .stuck := rfl
@[simp] theorem bnd_ap {α β : Type} (m : M α) (f : α → M β) (r : En) : bnd m f r = (m r).bind f := by
  unfold bnd R.bind; rfl
@[simp] theorem g_lift_some {α : Type} (a : α) (r : En) : lift (some a) r = .ok a r := rfl
@[simp] theorem lift_ap {α : Type} (x : Option α) (r : En) : lift x r = optR x fun a => .ok a r := by cases x <;> rfl
/-- a slot that is read -/
def slD? : Option Sl → Option D
  | some (.sh d) => some d
  | some (.own _ o) => some o.d
  | _ => none
@[simp] theorem slD_sh (d : D) : slD? (some (.sh d)) = some d := rfl
@[simp] theorem slD_own (b : Bool) (l : List D) : slD? (some (.own b (.lst l))) = some (.list l) := rfl
@[simp] theorem rslv_val (r : En) (d : D) : rslv r (.val d) = some d := rfl
@[simp] theorem rslv_slot (r : En) (i : Nat) : rslv r (.slot i) = slD? r[i]? := by
  unfold rslv slD?; rfl
@[simp] theorem rslvs_nil (r : En) : rslvs r [] = some [] := rfl
@[simp] theorem rslvs_cons (r : En) (o : Opd) (os : List Opd) : rslvs r (o :: os) = (rslv r o).bind fun d => (rslvs r os).map (d :: ·) := by
  rw [rslvs]; cases rslv r o <;> rfl
def rdV (i : Nat) (r : En) : Option Sl → R D
  | some (.sh d) => .ok d r
  | some (.own true o) => .ok o.d (r.set i (.sh o.d))
  | _ => .stuck
@[simp] theorem rdV_sh (i : Nat) (r : En) (d : D) : rdV i r (some (.sh d)) = .ok d r := rfl
@[simp] theorem rdV_own (i : Nat) (r : En) (l : List D) : rdV i r (some (.own true (.lst l))) = .ok (.list l) (r.set i (.sh (.list l))) := rfl
@[simp] theorem rdVar_ap (i : Nat) (r : En) : rdVar i r = rdV i r r[i]? := by unfold rdVar rdV; rfl
@[simp] theorem apM_ap (o : Op) (os : List Opd) (r : En) : apM o os r = optR ((rslvs r os).bind (ap o)) fun d => .ok d r := by
  unfold apM optR; cases rslvs r os <;> simp
  rename_i ds; cases ap o ds <;> rfl
@[simp] theorem put_ap (t : Tg) (d : D) (r : En) : put t d r = optR (putE t d r) fun r' => .ok () r' := by
  unfold put optR; cases putE t d r <;> rfl
@[simp] theorem putE_name (i : Nat) (d : D) (r : En) (h : i < r.length) : putE (.name i) d r = some (r.set i (.sh d)) := by
  simp [putE, h]
@[simp] theorem putE_tup (ts : List Tg) (ds : List D) (r : En) : putE (.tup ts) (.tuple ds) r = putsE ts ds r := by simp [putE]
@[simp] theorem putsE_nil (r : En) : putsE [] [] r = some r := by simp [putsE]
@[simp] theorem putsE_cons (t : Tg) (ts : List Tg) (d : D) (ds : List D) (r : En) : putsE (t :: ts) (d :: ds) r = (putE t d r).bind fun r' => putsE ts ds r' := by simp [putsE]
@[simp] theorem src_ap (k : SK) (os : List Opd) (r : En) : src k os r = optR ((rslvs r os).bind (srcItems k)) fun l => .ok l r := by
  unfold src optR; cases rslvs r os <;> simp
  rename_i ds; cases srcItems k ds <;> rfl
@[simp] theorem wipeM_ap (vs : List Nat) (r : En) : wipeM vs r = .ok () (wipeE r vs) := rfl
@[simp] theorem wipeE_nil (r : En) : wipeE r [] = r := rfl
@[simp] theorem wipeE_cons (r : En) (v : Nat) (vs : List Nat) : wipeE r (v :: vs) = (wipeE r vs).set v .no := rfl
@[simp] theorem notOwn_sh (d : D) : notOwn (some (.sh d)) = true := rfl
@[simp] theorem notOwn_no : notOwn (some .no) = true := rfl
@[simp] theorem notOwn_none : notOwn none = true := rfl
def frR {β : Type} (x : FR) (f : D → List D → R β) : R β := match x with
  | .ok d outs => f d outs
  | _ => .stuck
theorem frR_ok {β : Type} (d : D) (outs : List D) (f : D → List D → R β) : frR (.ok d outs) f = f d outs := rfl
class Kf (β : Type) where
  k : D → List D → R β
def frK {β : Type} (x : FR) [c : Kf β] : R β := frR x c.k
@[simp ↓] theorem frR_K {β : Type} (x : FR) (f : D → List D → R β) : frR x f = @frK β x ⟨f⟩ := rfl
@[simp] theorem frK_ok {β : Type} (d : D) (outs : List D) (f : D → List D → R β) : @frK β (.ok d outs) ⟨f⟩ = f d outs := rfl
@[simp] theorem callM_ap (P : Ph) (f : Nat) (os : List Opd) (r : En) : callM P f os r = optR (rslvs r os) fun ds => frR (P f ds) fun d outs => optR (putBack (ioSlots os) outs r) fun r' => .ok d r' := by
  unfold callM optR frR; cases rslvs r os <;> simp
  rename_i ds; cases P f ds <;> simp
  rename_i d outs; cases putBack (ioSlots os) outs r <;> rfl
@[simp] theorem ioSlots_nil : ioSlots [] = [] := rfl
@[simp] theorem ioSlots_slot (i : Nat) (os : List Opd) : ioSlots (.slot i :: os) = i :: ioSlots os := rfl
@[simp] theorem ioSlots_val (d : D) (os : List Opd) : ioSlots (.val d :: os) = ioSlots os := rfl
@[simp] theorem g_putBack_nil (r : En) : putBack [] [] r = some r := rfl
def pbk (i : Nat) (is : List Nat) (l : List D) (ds : List D) (r : En) : Option Sl → Option En
  | some (.own b (.lst _)) => putBack is ds (r.set i (.own b (.lst l)))
  | _ => none
@[simp] theorem putBack_cons (i : Nat) (is : List Nat) (l : List D) (ds : List D) (r : En) : putBack (i :: is) (.list l :: ds) r = pbk i is l ds r r[i]? := by
  rw [putBack]
  rcases r[i]? with _ | (_ | _ | ⟨b, (_ | _ | _)⟩) <;> rfl
@[simp] theorem pbk_own (i : Nat) (is : List Nat) (l l0 : List D) (b : Bool) (ds : List D) (r : En) : pbk i is l ds r (some (.own b (.lst l0))) = putBack is ds (r.set i (.own b (.lst l))) := rfl
@[simp] theorem callFM_ap (P : Ph) (f : Nat) (d : D) (r : En) : callFM P f d r = (match P f [d] with
    | .ok d [_] => .ok d r
    | _ => .stuck) := by
  unfold callFM; rcases P f [d] with ⟨d, _ | ⟨o, _ | _⟩⟩ | _ | _ <;> rfl
def isLx (r : En) : Option Sl → R Unit
  | some (.own _ (.lst _)) => .ok () r
  | _ => .stuck
@[simp] theorem isL_ap (i : Nat) (r : En) : isL i r = isLx r r[i]? := by unfold isL isLx; rfl
@[simp] theorem isLx_own (r : En) (b : Bool) (l : List D) : isLx r (some (.own b (.lst l))) = .ok () r := rfl
@[simp] theorem asInt_int (i : Int) (r : En) : asInt (.int i) r = .ok i r := rfl
def opT (i : Nat) (r : En) : Option Sl → R Opd
  | some (.sh _) => .ok (.slot i) r
  | some (.own _ _) => .ok (.slot i) r
  | _ => .stuck
@[simp] theorem opT_sh (i : Nat) (r : En) (d : D) : opT i r (some (.sh d)) = .ok (.slot i) r := rfl
@[simp] theorem opT_own (i : Nat) (r : En) (b : Bool) (o : Ob) : opT i r (some (.own b o)) = .ok (.slot i) r := rfl
@[simp] theorem opd_tmp (i : Nat) (m : M D) (r : En) : opd (.tmp i) m r = opT i r r[i]? := by unfold opd opT; rfl
theorem opd_ap (e : IE) (h : e.isTmp = none) (m : M D) (r : En) : opd e m r = (m r).bind fun d r1 => .ok (.val d) r1 := by
  unfold opd; cases e <;> first | (cases h) | skip
  all_goals (simp only [bnd_ap]; rfl)
@[simp] theorem opd_var (i : Nat) (m : M D) (r : En) : opd (.var i) m r = (m r).bind fun d r1 => .ok (.val d) r1 := opd_ap _ rfl m r
@[simp] theorem opd_cst (d : D) (m : M D) (r : En) : opd (.cst d) m r = (m r).bind fun d r1 => .ok (.val d) r1 := opd_ap _ rfl m r
@[simp] theorem opd_glb (x : Str) (d : D) (m : M D) (r : En) : opd (.glb x d) m r = (m r).bind fun d r1 => .ok (.val d) r1 := opd_ap _ rfl m r
@[simp] theorem opd_op (o : Op) (es : List IE) (m : M D) (r : En) : opd (.op o es) m r = (m r).bind fun d r1 => .ok (.val d) r1 := opd_ap _ rfl m r
@[simp] theorem opd_tup (es : List IE) (m : M D) (r : En) : opd (.tup es) m r = (m r).bind fun d r1 => .ok (.val d) r1 := opd_ap _ rfl m r
@[simp] theorem opd_lst (es : List IE) (m : M D) (r : En) : opd (.lst es) m r = (m r).bind fun d r1 => .ok (.val d) r1 := opd_ap _ rfl m r
@[simp] theorem opd_slc (b1 b2 : Bool) (a lo hi : IE) (m : M D) (r : En) : opd (.slc b1 b2 a lo hi) m r = (m r).bind fun d r1 => .ok (.val d) r1 := opd_ap _ rfl m r
@[simp] theorem opd_meth (o : Op) (a : IE) (es : List IE) (m : M D) (r : En) : opd (.meth o a es) m r = (m r).bind fun d r1 => .ok (.val d) r1 := opd_ap _ rfl m r
@[simp] theorem opd_and (a b : IE) (m : M D) (r : En) : opd (.and a b) m r = (m r).bind fun d r1 => .ok (.val d) r1 := opd_ap _ rfl m r
@[simp] theorem opd_or (a b : IE) (m : M D) (r : En) : opd (.or a b) m r = (m r).bind fun d r1 => .ok (.val d) r1 := opd_ap _ rfl m r
@[simp] theorem opd_not (a : IE) (m : M D) (r : En) : opd (.not a) m r = (m r).bind fun d r1 => .ok (.val d) r1 := opd_ap _ rfl m r
@[simp] theorem opd_ite (a b c : IE) (m : M D) (r : En) : opd (.ite a b c) m r = (m r).bind fun d r1 => .ok (.val d) r1 := opd_ap _ rfl m r
@[simp] theorem opd_chain (o o' : Op) (a b c : IE) (m : M D) (r : En) : opd (.chain o o' a b c) m r = (m r).bind fun d r1 => .ok (.val d) r1 := opd_ap _ rfl m r
@[simp] theorem opd_call (f : Nat) (es : List IE) (m : M D) (r : En) : opd (.call f es) m r = (m r).bind fun d r1 => .ok (.val d) r1 := opd_ap _ rfl m r
@[simp] theorem opd_callF (f : Nat) (e : IE) (m : M D) (r : En) : opd (.callF f e) m r = (m r).bind fun d r1 => .ok (.val d) r1 := opd_ap _ rfl m r
@[simp] theorem opd_pop (i : Nat) (e : IE) (m : M D) (r : En) : opd (.pop i e) m r = (m r).bind fun d r1 => .ok (.val d) r1 := opd_ap _ rfl m r
@[simp] theorem opd_pop0 (i : Nat) (m : M D) (r : En) : opd (.pop0 i) m r = (m r).bind fun d r1 => .ok (.val d) r1 := opd_ap _ rfl m r
@[simp] theorem opd_lc (vs : List Nat) (tg : Tg) (k : SK) (s ifs : List IE) (e : IE) (m : M D) (r : En) : opd (.lc vs tg k s ifs e) m r = (m r).bind fun d r1 => .ok (.val d) r1 := opd_ap _ rfl m r
@[simp] theorem opd_lc2 (vs vs1 : List Nat) (tg : Tg) (k : SK) (s ifs : List IE) (tg1 : Tg) (k1 : SK) (s1 ifs1 : List IE) (e : IE) (m : M D) (r : En) : opd (.lc2 vs vs1 tg k s ifs tg1 k1 s1 ifs1 e) m r = (m r).bind fun d r1 => .ok (.val d) r1 := opd_ap _ rfl m r
@[simp] theorem opd_new (c : Str) (f : Nat) (es : List IE) (m : M D) (r : En) : opd (.new c f es) m r = (m r).bind fun d r1 => .ok (.val d) r1 := opd_ap _ rfl m r
@[simp] theorem opd_fld (c x : Str) (a : IE) (m : M D) (r : En) : opd (.fld c x a) m r = (m r).bind fun d r1 => .ok (.val d) r1 := opd_ap _ rfl m r
@[simp] theorem opd_prop (c x : Str) (f : Nat) (a : IE) (m : M D) (r : En) : opd (.prop c x f a) m r = (m r).bind fun d r1 => .ok (.val d) r1 := opd_ap _ rfl m r
@[simp] theorem opd_mcall (c x : Str) (f : Nat) (a : IE) (es : List IE) (m : M D) (r : En) : opd (.mcall c x f a es) m r = (m r).bind fun d r1 => .ok (.val d) r1 := opd_ap _ rfl m r
@[simp] theorem opd_mcallS (c x : Str) (f : Nat) (a : IE) (es : List IE) (m : M D) (r : En) : opd (.mcallS c x f a es) m r = (m r).bind fun d r1 => .ok (.val d) r1 := opd_ap _ rfl m r
@[simp] theorem opd_newS (c : Str) (f : Nat) (es : List IE) (m : M D) (r : En) : opd (.newS c f es) m r = (m r).bind fun d r1 => .ok (.val d) r1 := opd_ap _ rfl m r
@[simp] theorem opd_newL (c : Str) (f : Nat) (a : IE) (m : M D) (r : En) : opd (.newL c f a) m r = (m r).bind fun d r1 => .ok (.val d) r1 := opd_ap _ rfl m r
@[simp] theorem opd_isC (c : Str) (cs : List Str) (a : IE) (m : M D) (r : En) : opd (.isC c cs a) m r = (m r).bind fun d r1 => .ok (.val d) r1 := opd_ap _ rfl m r
@[simp] theorem opd_dun (k : DK) (c : Str) (f : Nat) (es : List IE) (m : M D) (r : En) : opd (.dun k c f es) m r = (m r).bind fun d r1 => .ok (.val d) r1 := opd_ap _ rfl m r
@[simp] theorem slM_ap (o : Opd) (lo hi : Option Int) (r : En) : slM o lo hi r = optR ((rslv r o).bind fun d => slD d lo hi) fun x => .ok x r := by
  unfold slM optR; cases rslv r o <;> simp
  rename_i d; cases slD d lo hi <;> rfl
@[simp] theorem part_t (m : M D) (r : En) : part true m r = (m r).bind fun d r1 => (asInt d r1).bind fun i r2 => .ok (some i) r2 := by simp only [part, if_true]; rfl
@[simp] theorem part_f (m : M D) (r : En) : part false m r = .ok none r := by simp [part]
section
variable (P : Ph) (r : En)
@[simp] theorem den_var (i : Nat) : den P (.var i) r = rdVar i r := by simp [den]
@[simp] theorem den_cst (d : D) : den P (.cst d) r = .ok d r := by simp [den]
@[simp] theorem den_glb (x : Str) (d : D) : den P (.glb x d) r = .ok d r := by simp [den]
@[simp] theorem den_op (o : Op) (es : List IE) : den P (.op o es) r = (dens P es r).bind fun os r1 => apM o os r1 := by rw [den]; rfl
@[simp] theorem den_tup (es : List IE) : den P (.tup es) r = (denAll P es r).bind fun ds r1 => iteR (decide (ds.length ≤ 1000000)) (.ok (.tuple ds) r1) .stuck := by
  simp only [den, bnd_ap]; congr 1; funext ds r1; rw [← ite_iteR]; unfold LIM; split <;> rfl
@[simp] theorem den_lst (es : List IE) : den P (.lst es) r = (denAll P es r).bind fun ds r1 => iteR (decide (ds.length ≤ 1000000)) (.ok (.list ds) r1) .stuck := by
  simp only [den, bnd_ap]; congr 1; funext ds r1; rw [← ite_iteR]; unfold LIM; split <;> rfl
@[simp] theorem den_slc (b1 b2 : Bool) (a lo hi : IE) : den P (.slc b1 b2 a lo hi) r = (opd a (den P a) r).bind fun oa r1 => (part b1 (den P lo) r1).bind fun l r2 => (part b2 (den P hi) r2).bind fun h r3 => slM oa l h r3 := by rw [den]; rfl
@[simp] theorem den_meth (o : Op) (a : IE) (es : List IE) : den P (.meth o a es) r = (den P a r).bind fun x r1 => iteR (recv o x) ((dens P es r1).bind fun os r2 => apM o (.val x :: os) r2) .stuck := by
  simp only [den, bnd_ap]; congr 1; funext x r1; rw [← ite_iteB]; split <;> rfl
@[simp] theorem den_and (a b : IE) : den P (.and a b) r = (den P a r).bind fun x r1 => optR (truth x) fun k => iteR k (den P b r1) (.ok x r1) := by
  rw [den]; show R.bind _ _ = _; congr 1; funext x r1; show bnd _ _ _ = _; rw [bnd_ap, lift_ap]; cases truth x with
  | none => rfl
  | some k => cases k <;> rfl
@[simp] theorem den_or (a b : IE) : den P (.or a b) r = (den P a r).bind fun x r1 => optR (truth x) fun k => iteR k (.ok x r1) (den P b r1) := by
  rw [den]; show R.bind _ _ = _; congr 1; funext x r1; show bnd _ _ _ = _; rw [bnd_ap, lift_ap]; cases truth x with
  | none => rfl
  | some k => cases k <;> rfl
@[simp] theorem den_not (a : IE) : den P (.not a) r = (den P a r).bind fun x r1 => optR (truth x) fun k => .ok (.bool (!k)) r1 := by
  rw [den]; show R.bind _ _ = _; congr 1; funext x r1; show bnd _ _ _ = _; rw [bnd_ap, lift_ap]; cases truth x <;> rfl
@[simp] theorem den_ite (c a b : IE) : den P (.ite c a b) r = (den P c r).bind fun x r1 => optR (truth x) fun k => iteR k (den P a r1) (den P b r1) := by
  rw [den]; show R.bind _ _ = _; congr 1; funext x r1; show bnd _ _ _ = _; rw [bnd_ap, lift_ap]; cases truth x with
  | none => rfl
  | some k => cases k <;> rfl
@[simp] theorem den_call (f : Nat) (es : List IE) : den P (.call f es) r = (dens P es r).bind fun os r1 => callM P f os r1 := by rw [den]; rfl
@[simp] theorem den_callF (f : Nat) (e : IE) : den P (.callF f e) r = (den P e r).bind fun d r1 => callFM P f d r1 := by rw [den]; rfl
@[simp] theorem den_pop (i : Nat) (e : IE) : den P (.pop i e) r = (isL i r).bind fun _ r1 => (den P e r1).bind fun d r2 => (asInt d r2).bind fun k r3 => popM i (some k) r3 := by rw [den]; rfl
@[simp] theorem den_pop0 (i : Nat) : den P (.pop0 i) r = (isL i r).bind fun _ r1 => popM i none r1 := by rw [den]; rfl
@[simp] theorem den_lc (vs : List Nat) (tg : Tg) (k : SK) (s ifs : List IE) (e : IE) : den P (.lc vs tg k s ifs e) r = (dens P s r).bind fun os r1 => (src k os r1).bind fun items r2 => (block vs (lcLoop vs tg (tests P ifs) (den P e) items []) r2).bind fun acc r3 => .ok (.list acc) r3 := by
  simp only [den, bnd_ap]; rfl
def newK (r : En) : D → List D → R D
  | .none, [o] => .ok o r
  | _, _ => .stuck
@[simp] theorem newK_ok (r : En) (o : D) : newK r .none [o] = .ok o r := rfl
def mcK (r : En) (d : D) : List D → R D
  | [] => .ok d r
  | _ => .stuck
@[simp] theorem mcK_ok (r : En) (d : D) : mcK r d [] = .ok d r := rfl
@[simp] theorem den_new (c : Str) (f : Nat) (es : List IE) : den P (.new c f es) r = (denAll P es r).bind fun ds r1 => frR (P f (insD c [] :: ds)) fun d outs => newK r1 d outs := by
  rw [den]; show R.bind _ _ = _; congr 1; funext ds r1; show newM P c f ds r1 = _
  unfold newM frR newK
  rcases P f (insD c [] :: ds) with ⟨d, outs⟩ | _ | _
  · rcases d with _ | _ | _ | _ | _ | _ | _ <;> rcases outs with _ | ⟨o, _ | _⟩ <;> rfl
  · rfl
  · rfl
@[simp] theorem den_fld (c x : Str) (a : IE) : den P (.fld c x a) r = (den P a r).bind fun d r1 => optR (rdFld c x d) fun v => .ok v r1 := by
  rw [den]; show R.bind _ _ = _; congr 1; funext d r1; rw [lift_ap]
theorem mcM_ap (f : Nat) (ds : List D) : mcM P f ds r = frR (P f ds) fun d outs => mcK r d outs := by
  unfold mcM frR mcK
  rcases P f ds with ⟨d, _ | _⟩ | _ | _ <;> rfl
@[simp] theorem den_prop (c x : Str) (f : Nat) (a : IE) : den P (.prop c x f a) r = (den P a r).bind fun d r1 => iteR (isIns c d) (frR (P f [d]) fun v outs => mcK r1 v outs) .stuck := by
  simp only [den, bnd_ap]; congr 1; funext d r1; rw [← ite_iteB]
  split
  · exact mcM_ap P r1 f [d]
  · rfl
@[simp] theorem den_mcall (c m : Str) (f : Nat) (a : IE) (es : List IE) : den P (.mcall c m f a es) r = (den P a r).bind fun d r1 => iteR (isIns c d && noFld m d) ((denAll P es r1).bind fun ds r2 => frR (P f (d :: ds)) fun v outs => mcK r2 v outs) .stuck := by
  simp only [den, bnd_ap]; congr 1; funext d r1; rw [← ite_iteB]
  split
  · show R.bind _ _ = _
    congr 1; funext ds r2; exact mcM_ap P r2 f (d :: ds)
  · rfl
@[simp] theorem den_mcallS (c m : Str) (f : Nat) (a : IE) (es : List IE) : den P (.mcallS c m f a es) r = (den P a r).bind fun d r1 => iteR (isIns c d && noFld m d) ((denAll P es r1).bind fun ds r2 => iteR (decide (ds.length ≤ 1000000)) (frR (P f [d, .tuple ds]) fun v outs => mcK r2 v outs) .stuck) .stuck := by
  simp only [den, bnd_ap]; congr 1; funext d r1; rw [← ite_iteB]
  split
  · show R.bind _ _ = _
    congr 1; funext ds r2
    rw [← ite_iteR]; unfold LIM; split
    · exact mcM_ap P r2 f [d, .tuple ds]
    · rfl
  · rfl
theorem newM_ap (c : Str) (f : Nat) (ds : List D) : newM P c f ds r = frR (P f (insD c [] :: ds)) fun d outs => newK r d outs := by
  unfold newM frR newK
  rcases P f (insD c [] :: ds) with ⟨d, outs⟩ | _ | _
  · rcases d with _ | _ | _ | _ | _ | _ | _ <;> rcases outs with _ | ⟨o, _ | _⟩ <;> rfl
  · rfl
  · rfl
@[simp] theorem den_newS (c : Str) (f : Nat) (es : List IE) : den P (.newS c f es) r = (denAll P es r).bind fun ds r1 => iteR (decide (ds.length ≤ 1000000)) (frR (P f [insD c [], .tuple ds]) fun d outs => newK r1 d outs) .stuck := by
  simp only [den, bnd_ap]; congr 1; funext ds r1
  rw [← ite_iteR]; unfold LIM; split
  · exact newM_ap P r1 c f [.tuple ds]
  · rfl
@[simp] theorem den_newL (c : Str) (f : Nat) (a : IE) : den P (.newL c f a) r = (den P a r).bind fun d r1 => optR (seqOf d) fun l => iteR (decide (l.length ≤ 1000000)) (frR (P f [insD c [], .tuple l]) fun d outs => newK r1 d outs) .stuck := by
  simp only [den, bnd_ap]; congr 1; funext d r1
  cases seqOf d with
  | none => rfl
  | some l =>
    show (if l.length ≤ LIM then newM P c f [.tuple l] else fail) r1 = iteR _ _ _
    rw [← ite_iteR]; unfold LIM; split
    · exact newM_ap P r1 c f [.tuple l]
    · rfl
@[simp] theorem den_isC (c : Str) (cs : List Str) (a : IE) : den P (.isC c cs a) r = (den P a r).bind fun d r1 => optR (isiC c cs d) fun v => .ok v r1 := by
  rw [den]; show R.bind _ _ = _; congr 1; funext d r1; rw [lift_ap]
@[simp] theorem den_dun (k : DK) (c : Str) (f : Nat) (es : List IE) : den P (.dun k c f es) r = (denAll P es r).bind fun ds r1 => optR (rcv k ds) fun p => iteR (isIns c p.1 && dkA k c p.2) (frR (P f (p.1 :: p.2)) fun v outs => (mcK r1 v outs).bind fun v r2 => optR (dkR k v) fun x => .ok x r2) .stuck := by
  rw [den]; show R.bind _ _ = _; congr 1; funext ds r1
  show dunM P k c f ds r1 = _
  unfold dunM
  cases rcv k ds with
  | none => rfl
  | some p =>
    obtain ⟨d, as⟩ := p
    show (if (isIns c d && dkA k c as) = true then bnd (mcM P f (d :: as)) fun r => lift (dkR k r) else fail) r1 = iteR _ _ _
    rw [← ite_iteB]
    split
    · rw [bnd_ap, mcM_ap]
      unfold frR
      rcases P f (d :: as) with ⟨v, outs⟩ | _ | _
      · dsimp only
        congr 1
        funext x r2
        rw [lift_ap]
      · rfl
      · rfl
    · rfl
@[simp] theorem rcv_neg (d : D) : rcv .neg [d] = some (d, []) := rfl
@[simp] theorem rcv_len (d : D) : rcv .len [d] = some (d, []) := rfl
@[simp] theorem rcv_str (d : D) : rcv .str [d] = some (d, []) := rfl
@[simp] theorem rcv_repr (d : D) : rcv .repr [d] = some (d, []) := rfl
@[simp] theorem rcv_isin (v d : D) : rcv .isin [v, d] = some (d, [v]) := rfl
@[simp] theorem rcv_notin (v d : D) : rcv .notin [v, d] = some (d, [v]) := rfl
@[simp] theorem rcv_eq (d v : D) : rcv .eq [d, v] = some (d, [v]) := rfl
@[simp] theorem rcv_ne (d v : D) : rcv .ne [d, v] = some (d, [v]) := rfl
@[simp] theorem rcv_ix (d v : D) : rcv .ix [d, v] = some (d, [v]) := rfl
@[simp] theorem rcv_bor (d v : D) : rcv .bor [d, v] = some (d, [v]) := rfl
@[simp] theorem rcv_band (d v : D) : rcv .band [d, v] = some (d, [v]) := rfl
@[simp] theorem dkR_neg (d : D) : dkR .neg d = some d := rfl
@[simp] theorem dkR_str (y : Str) : dkR .str (.str y) = some (.str y) := rfl
@[simp] theorem dkR_repr (y : Str) : dkR .repr (.str y) = some (.str y) := rfl
@[simp] theorem dkR_isin (b : Bool) : dkR .isin (.bool b) = some (.bool b) := rfl
@[simp] theorem dkR_notin (b : Bool) : dkR .notin (.bool b) = some (.bool (!b)) := rfl
@[simp] theorem dkR_eq (b : Bool) : dkR .eq (.bool b) = some (.bool b) := rfl
@[simp] theorem dkR_ne (b : Bool) : dkR .ne (.bool b) = some (.bool (!b)) := rfl
@[simp] theorem dkA_neg (c : Str) (as : List D) : dkA .neg c as = true := rfl
@[simp] theorem dkA_len (c : Str) (as : List D) : dkA .len c as = true := rfl
@[simp] theorem dkA_str (c : Str) (as : List D) : dkA .str c as = true := rfl
@[simp] theorem dkA_repr (c : Str) (as : List D) : dkA .repr c as = true := rfl
@[simp] theorem dkA_isin (c : Str) (as : List D) : dkA .isin c as = true := rfl
@[simp] theorem dkA_notin (c : Str) (as : List D) : dkA .notin c as = true := rfl
@[simp] theorem dkA_ix (c : Str) (as : List D) : dkA .ix c as = true := rfl
def chk2 (o' : Op) (y : D) (m : R D) : D → R D → R D
  | .bool true, _ => m
  | .bool false, x => x
  | _, _ => .stuck
@[simp] theorem den_chain (o o' : Op) (a b c : IE) : den P (.chain o o' a b c) r = (den P a r).bind fun x r1 => (den P b r1).bind fun y r2 => (apM o [.val x, .val y] r2).bind fun z r3 => (match z with
    | .bool true => (den P c r3).bind fun w r4 => apM o' [.val y, .val w] r4
    | .bool false => .ok (.bool false) r3
    | _ => .stuck) := by
  simp only [den, bnd_ap]; congr 1; funext x r1; congr 1; funext y r2; congr 1; funext z r3
  cases z <;> try rfl
  rename_i b; cases b <;> rfl
@[simp] theorem g_dens_nil : dens P [] r = .ok [] r := by simp [dens]
@[simp] theorem g_dens_cons (e : IE) (es : List IE) : dens P (e :: es) r = (opd e (den P e) r).bind fun o r1 => (dens P es r1).bind fun os r2 => .ok (o :: os) r2 := by
  simp only [dens, bnd_ap]; rfl
@[simp] theorem g_denAll_nil : denAll P [] r = .ok [] r := by simp [denAll]
@[simp] theorem denAll_cons (e : IE) (es : List IE) : denAll P (e :: es) r = (den P e r).bind fun d r1 => (denAll P es r1).bind fun ds r2 => .ok (d :: ds) r2 := by
  simp only [denAll, bnd_ap]; rfl
@[simp] theorem g_tests_nil : tests P [] r = .ok true r := by simp [tests]
@[simp] theorem tests_cons (e : IE) (es : List IE) : tests P (e :: es) r = (den P e r).bind fun x r1 => optR (truth x) fun k => iteR k (tests P es r1) (.ok false r1) := by
  rw [tests]; show R.bind _ _ = _; congr 1; funext x r1; show bnd _ _ _ = _; rw [bnd_ap, lift_ap]; cases truth x with
  | none => rfl
  | some k => cases k <;> rfl
end
@[simp] theorem setSl_ap (i : Nat) (s : Sl) (r : En) (h : i < r.length) : setSl i s r = .ok () (r.set i s) := by simp [setSl, h]
@[simp] theorem ownOf_list (l : List D) : ownOf (.list l) = some (.lst l) := rfl
def putIxx (i : Nat) (k : Int) (d : D) (r : En) : Option Sl → R Unit
  | some (.own b (.lst l)) => optR (L2.ixN l.length k) fun j => .ok () (r.set i (.own b (.lst (l.set j d))))
  | _ => .stuck
@[simp] theorem putIx_ap (i : Nat) (k : Int) (d : D) (r : En) : putIx i (.int k) d r = putIxx i k d r r[i]? := by
  unfold putIx putIxx
  rcases r[i]? with _ | (_ | _ | ⟨b, (_ | _ | _)⟩) <;> try rfl
  simp only []; split <;> (rename_i h; rw [h]; rfl)
@[simp] theorem putIxx_own (i : Nat) (k : Int) (d : D) (r : En) (b : Bool) (l : List D) : putIxx i k d r (some (.own b (.lst l))) = optR (L2.ixN l.length k) fun j => .ok () (r.set i (.own b (.lst (l.set j d)))) := rfl
def appx (i : Nat) (ds : List D) (r : En) : Option Sl → R Unit
  | some (.own b (.lst l)) => iteR (decide (l.length + ds.length ≤ 1000000)) (.ok () (r.set i (.own b (.lst (l ++ ds))))) .stuck
  | _ => .stuck
@[simp] theorem appM_ap (i : Nat) (ds : List D) (r : En) : appM i ds r = appx i ds r r[i]? := by
  unfold appM appx
  rcases r[i]? with _ | (_ | _ | ⟨b, (_ | _ | _)⟩) <;> try rfl
  simp only []; rw [← ite_iteR]; rfl
@[simp] theorem appx_own1 (i : Nat) (d : D) (r : En) (b : Bool) (l : List D) (h : l.length ≤ 999999) : appx i [d] r (some (.own b (.lst l))) = .ok () (r.set i (.own b (.lst (l ++ [d])))) := by
  unfold appx; simp only []; rw [decide_eq_true (show l.length + [d].length ≤ 1000000 by simp; omega)]; rfl
@[simp] theorem listOf_list (l : List D) (r : En) : listOf (.list l) r = .ok l r := rfl
@[simp] theorem setPar_nil (r : En) : setPar [] [] r = .ok () r := rfl
@[simp] theorem setPar_f (i : Nat) (is : List (Nat × Bool)) (d : D) (ds : List D) (r : En) : setPar ((i, false) :: is) (d :: ds) r = (setSl i (.sh d) r).bind fun _ r1 => setPar is ds r1 := by simp [setPar]
@[simp] theorem setPar_t (i : Nat) (is : List (Nat × Bool)) (d : D) (ds : List D) (r : En) : setPar ((i, true) :: is) (d :: ds) r = optR (ownOf d) fun o => (setSl i (.own true o) r).bind fun _ r1 => setPar is ds r1 := by
  rw [setPar]; show R.bind _ _ = _; rw [lift_ap]; cases ownOf d <;> rfl
@[simp] theorem elems_list (l : List D) (r : En) : elems (.list l) r = .ok l r := rfl
@[simp] theorem elems_tuple (l : List D) (r : En) : elems (.tuple l) r = .ok l r := rfl
def pop0x (i : Nat) (r : En) : Option Sl → R D
  | some (.own b (.lst l)) => optR l.getLast? fun x => .ok x (r.set i (.own b (.lst l.dropLast)))
  | _ => .stuck
@[simp] theorem popM_none (i : Nat) (r : En) : popM i none r = pop0x i r r[i]? := by
  unfold popM pop0x
  rcases r[i]? with _ | (_ | _ | ⟨b, (_ | _ | _)⟩) <;> try rfl
  simp only []; split <;> (rename_i h; rw [h]; rfl)
@[simp] theorem pop0x_own (i : Nat) (r : En) (b : Bool) (l : List D) : pop0x i r (some (.own b (.lst l))) = optR l.getLast? fun x => .ok x (r.set i (.own b (.lst l.dropLast))) := rfl
def popx (i : Nat) (k : Int) (r : En) : Option Sl → R D
  | some (.own b (.lst l)) => optR (if l.length ≤ 1000000 then L2.ixN l.length k else none) fun j => optR l[j]? fun x => .ok x (r.set i (.own b (.lst (l.eraseIdx j))))
  | _ => .stuck
@[simp] theorem popM_some (i : Nat) (k : Int) (r : En) : popM i (some k) r = popx i k r r[i]? := by
  unfold popM popx
  rcases r[i]? with _ | (_ | _ | ⟨b, (_ | _ | _)⟩) <;> try rfl
  rename_i l
  show (match (if l.length ≤ LIM then L2.ixN l.length k else none) with
      | some j => (match l[j]? with
        | some x => R.ok x (r.set i (.own b (.lst (l.eraseIdx j))))
        | none => .stuck)
      | none => .stuck) = optR (if l.length ≤ LIM then L2.ixN l.length k else none) _
  cases (if l.length ≤ LIM then L2.ixN l.length k else none) with
  | none => rfl
  | some j =>
    show (match l[j]? with
        | some x => R.ok x (r.set i (.own b (.lst (l.eraseIdx j))))
        | none => .stuck) = optR l[j]? _
    cases l[j]? <;> rfl
theorem popx_nat (i k : Nat) (r : En) (b : Bool) (l : List D) (hk : k < l.length) (hl : l.length ≤ 1000000) : popx i (k : Int) r (some (.own b (.lst l))) = .ok l[k] (r.set i (.own b (.lst (l.eraseIdx k)))) := by
  have e : L2.ixN l.length (k : Int) = some k := by
    unfold L2.ixN; rw [if_pos (by omega), if_pos (by omega)]; simp
  unfold popx; simp only []; rw [if_pos hl, e, optR_some, List.getElem?_eq_getElem hk, optR_some]
section
variable (P : Ph) (r : En)
@[simp] theorem exe_set (i : Nat) (e : IE) : exe P (.set i e) r = (den P e r).bind fun d r1 => (setSl i (.sh d) r1).bind fun _ r2 => .ok .nx r2 := by simp only [exe, bnd_ap]; rfl
@[simp] theorem exe_setO (i : Nat) (e : IE) : exe P (.setO i e) r = (den P e r).bind fun d r1 => optR (ownOf d) fun o => (setSl i (.own true o) r1).bind fun _ r2 => .ok .nx r2 := by
  rw [exe]; show R.bind _ _ = _; congr 1; funext d r1; show bnd _ _ _ = _; rw [bnd_ap, lift_ap]; cases ownOf d <;> rfl
@[simp] theorem exe_unpack (is : List Nat) (e : IE) : exe P (.unpack is e) r = (den P e r).bind fun d r1 => (elems d r1).bind fun ds r2 => (setPar (is.map fun i => (i, false)) ds r2).bind fun _ r3 => .ok .nx r3 := by simp only [exe, bnd_ap]; rfl
@[simp] theorem exe_par (is : List (Nat × Bool)) (es : List IE) : exe P (.par is es) r = (denAll P es r).bind fun ds r1 => (setPar is ds r1).bind fun _ r2 => .ok .nx r2 := by simp only [exe, bnd_ap]; rfl
@[simp] theorem exe_setIx (i : Nat) (k e : IE) : exe P (.setIx i k e) r = (den P e r).bind fun d r1 => (isL i r1).bind fun _ r2 => (den P k r2).bind fun kd r3 => (putIx i kd d r3).bind fun _ r4 => .ok .nx r4 := by simp only [exe, bnd_ap]; rfl
@[simp] theorem g_exe_divm (i : Nat) (k : IE) (j : Nat) (a b : IE) : exe P (.divm i k j a b) r = (dens P [a, b] r).bind fun os r1 => (apM .divmod os r1).bind fun t r2 => (match t with
    | .tuple [q, m] => (isL i r2).bind fun _ r3 => (den P k r3).bind fun kd r4 => (putIx i kd q r4).bind fun _ r5 => (setSl j (.sh m) r5).bind fun _ r6 => .ok .nx r6
    | _ => .stuck) := by
  simp only [exe, bnd_ap]; congr 1; funext os r1; congr 1; funext t r2
  rcases t with _ | _ | _ | _ | _ | ⟨_ | ⟨q, _ | ⟨m, _ | _⟩⟩⟩ | _ <;> rfl
@[simp] theorem exe_app (i : Nat) (e : IE) : exe P (.app i e) r = (isL i r).bind fun _ r1 => (den P e r1).bind fun d r2 => (appM i [d] r2).bind fun _ r3 => .ok .nx r3 := by simp only [exe, bnd_ap]; rfl
@[simp] theorem exe_ext (i : Nat) (e : IE) : exe P (.ext i e) r = (isL i r).bind fun _ r1 => (den P e r1).bind fun d r2 => (listOf d r2).bind fun l r3 => (appM i l r3).bind fun _ r4 => .ok .nx r4 := by simp only [exe, bnd_ap]; rfl
@[simp] theorem exe_ret (e : IE) : exe P (.ret e) r = (den P e r).bind fun d r1 => .ok (.rt d) r1 := by simp only [exe, bnd_ap]; rfl
@[simp] theorem exe_retO (e : IE) : exe P (.retO e) r = (giveM e (den P e) r).bind fun d r1 => .ok (.rt d) r1 := by simp only [exe, bnd_ap]; rfl
@[simp] theorem exe_ife (c : IE) (a b : List IS) : exe P (.ife c a b) r = (den P c r).bind fun x r1 => optR (truth x) fun k => iteR k (exes P a r1) (exes P b r1) := by
  simp only [exe, tru, bnd_ap]; rcases den P c r with ⟨d, r1⟩ | _ | _
  · simp only [R.bind_ok, lift_ap]; cases truth d with
    | none => rfl
    | some k => cases k <;> rfl
  · rfl
  · rfl
@[simp] theorem exe_for (tg : Tg) (k : SK) (s : List IE) (body : List IS) : exe P (.for_ tg k s body) r = (dens P s r).bind fun os r1 => (src k os r1).bind fun items r2 => forLoop tg (exes P body) items r2 := by rw [exe]; rfl
@[simp] theorem exe_while (c : IE) (body : List IS) : exe P (.while_ c body) r = whileLoop (tru (den P c)) (exes P body) 1000000 r := by simp only [exe]
@[simp] theorem exe_expr (e : IE) : exe P (.expr e) r = (den P e r).bind fun _ r1 => .ok .nx r1 := by simp only [exe, bnd_ap]; rfl
def setFx (i : Nat) (c x : Str) (d : D) (r : En) : Option Sl → R Unit
  | some (.own b (.ins c' fs)) => iteR (decide (c' = c) && decide (fs.length < 1000)) (.ok () (r.set i (.own b (.ins c' (putD x d fs))))) .stuck
  | _ => .stuck
theorem setFld_ap (i : Nat) (c x : Str) (d : D) : setFld i c x d r = setFx i c x d r r[i]? := by
  unfold setFld setFx
  rcases r[i]? with _ | (_ | _ | ⟨b, (_ | _ | _)⟩) <;> try rfl
  simp only []; rw [← ite_iteB]
@[simp] theorem setFx_own (i : Nat) (c x : Str) (d : D) (b : Bool) (fs : List (Str × D)) (h : fs.length < 1000) : setFx i c x d r (some (.own b (.ins c fs))) = .ok () (r.set i (.own b (.ins c (putD x d fs)))) := by
  simp only [setFx, h, decide_true, Bool.and_self]; rfl
@[simp] theorem exe_setF (i : Nat) (c x : Str) (e : IE) : exe P (.setF i c x e) r = (den P e r).bind fun d r1 => (setFx i c x d r1 r1[i]?).bind fun _ r2 => .ok .nx r2 := by
  simp only [exe, bnd_ap]; congr 1; funext d r1; show bnd _ _ _ = _; rw [bnd_ap, setFld_ap]; rfl
@[simp] theorem exe_stop : exe P .stop r = .stuck := by simp [exe]
@[simp] theorem exe_pass : exe P .pass r = .ok .nx r := by simp [exe]
@[simp] theorem exe_brk : exe P .brk r = .ok .bk r := by simp [exe]
@[simp] theorem exe_cont : exe P .cont r = .ok .ct r := by simp [exe]
@[simp] theorem exes_nil : exes P [] r = .ok .nx r := by simp [exes]
def nxt (m : M Fw) : Fw → M Fw
  | .nx => m
  | f => ret f
@[simp] theorem nxt_nx (m : M Fw) : nxt m .nx r = m r := rfl
@[simp] theorem nxt_rt (m : M Fw) (d : D) : nxt m (.rt d) r = .ok (.rt d) r := rfl
@[simp] theorem nxt_bk (m : M Fw) : nxt m .bk r = .ok .bk r := rfl
@[simp] theorem nxt_ct (m : M Fw) : nxt m .ct r = .ok .ct r := rfl
@[simp] theorem exes_cons (s : IS) (ss : List IS) : exes P (s :: ss) r = (exe P s r).bind fun f r1 => nxt (exes P ss) f r1 := by
  rw [exes]; show R.bind _ _ = _; congr 1
end
def givex (i : Nat) (r : En) : Option Sl → R D
  | some (.own true o) => .ok o.d (r.set i .no)
  | _ => .stuck
@[simp] theorem giveM_own (i : Nat) (m : M D) (r : En) : giveM (.tmp i) m r = givex i r r[i]? := by
  unfold giveM givex; rfl
@[simp] theorem givex_own (i : Nat) (r : En) (l : List D) : givex i r (some (.own true (.lst l))) = .ok (.list l) (r.set i .no) := rfl
@[simp] theorem giveM_lst (es : List IE) (m : M D) (r : En) : giveM (.lst es) m r = m r := rfl
@[simp] theorem giveM_op (o : Op) (es : List IE) (m : M D) (r : En) : giveM (.op o es) m r = m r := rfl
@[simp] theorem giveM_call (o : Nat) (es : List IE) (m : M D) (r : En) : giveM (.call o es) m r = m r := rfl
@[simp] theorem giveM_lc (vs : List Nat) (tg : Tg) (k : SK) (s ifs : List IE) (e : IE) (m : M D) (r : En) : giveM (.lc vs tg k s ifs e) m r = m r := rfl
/-! ### defs -/
@[simp] theorem startE_nil : startE [] [] = some [] := rfl
@[simp] theorem startE_f (ps : List Bool) (d : D) (ds : List D) : startE (false :: ps) (d :: ds) = (startE ps ds).map (.sh d :: ·) := by simp [startE]
@[simp] theorem startE_t (ps : List Bool) (l : List D) (ds : List D) : startE (true :: ps) (.list l :: ds) = (startE ps ds).map (.own false (.lst l) :: ·) := by simp [startE, obP]
@[simp] theorem outsE_nil (r : En) : outsE [] r = some [] := by simp [outsE]
@[simp] theorem outsE_t (ps : List Bool) (l : List D) (r : En) : outsE (true :: ps) (.own false (.lst l) :: r) = (outsE ps r).map (.list l :: ·) := by simp [outsE, Ob.d]
theorem g_flds : ∀ fs : List (Str × D), fldsOf (fs.map fun p => (PyData.str p.1, p.2)) = some fs
  | [] => rfl
  | (x, d) :: fs => by
    show (fldsOf (fs.map fun p => (PyData.str p.1, p.2))).map ((x, d) :: ·) = _
    rw [g_flds fs]; rfl
theorem obP_ins (c : Str) (fs : List (Str × D)) : obP (insD c fs) = some (.ins c fs) := by
  show (fldsOf (fs.map fun p => (PyData.str p.1, p.2))).map (Ob.ins c) = _
  rw [g_flds]; rfl
@[simp] theorem startE_i (ps : List Bool) (c : Str) (fs : List (Str × D)) (ds : List D) : startE (true :: ps) (insD c fs :: ds) = (startE ps ds).map (.own false (.ins c fs) :: ·) := by
  simp only [startE, obP_ins]
@[simp] theorem outsE_i (ps : List Bool) (c : Str) (fs : List (Str × D)) (r : En) : outsE (true :: ps) (.own false (.ins c fs) :: r) = (outsE ps r).map (insD c fs :: ·) := by simp [outsE, Ob.d]
@[simp] theorem outsE_f (ps : List Bool) (s : Sl) (r : En) : outsE (false :: ps) (s :: r) = outsE ps r := by simp [outsE]
def endR (ps : List Bool) (own : Bool) : R Fw → FR
  | .ok (.rt d) r => (match outsE ps r with
    | some outs => .ok d outs
    | none => .stuck)
  | .ok .nx r => if own then .stuck else (match outsE ps r with
    | some outs => .ok .none outs
    | none => .stuck)
  | .exc x r => (match outsE ps r with
    | some outs => .exc x outs
    | none => .stuck)
  | _ => .stuck
def optF (x : Option (List D)) (f : List D → FR) : FR := match x with
  | some a => f a
  | none => .stuck
@[simp] theorem optF_some (a : List D) (f : List D → FR) : optF (some a) f = f a := rfl
@[simp] theorem endR_rt (ps : List Bool) (own : Bool) (d : D) (r : En) : endR ps own (.ok (.rt d) r) = optF (outsE ps r) fun outs => .ok d outs := by
  show (match outsE ps r with | some outs => FR.ok d outs | none => .stuck) = _; cases outsE ps r <;> rfl
@[simp] theorem endR_nx (ps : List Bool) (r : En) : endR ps false (.ok .nx r) = optF (outsE ps r) fun outs => .ok .none outs := by
  show (match outsE ps r with | some outs => FR.ok .none outs | none => .stuck) = _; cases outsE ps r <;> rfl
theorem runFn_ap (P : Ph) (F : Fn) (ds : List D) {r0 : En} (h : startE F.ps ds = some r0) : runFn P F ds = endR F.ps F.own (exes P F.body (r0 ++ List.replicate (F.n - r0.length) .no)) := by
  unfold runFn; rw [h]; simp only []
  rcases exes P F.body (r0 ++ List.replicate (F.n - r0.length) .no) with ⟨f, r⟩ | ⟨x, r⟩ | _
  · cases f <;> rfl
  · rfl
  · rfl
theorem callF_ap {T : List Fn} {i : Nat} {F : Fn} (h : T[i]? = some F) (n : Nat) (ds : List D) : callF T (n + 1) i ds = runFn (callF T n) F ds := by
  simp only [callF, h]
end M3
set_option Elab.async false
set_option linter.all false
set_option maxRecDepth 100000
/-! G2: operations on data, by shape. -/
namespace M3
open PySem
def ts (l : List Str) : D := .tuple (l.map .str)
def tss (ls : List (List Str)) : D := .list (ls.map ts)
def ti (l : List Int) : D := .tuple (l.map .int)
@[simp] theorem truth_none : truth .none = some false := rfl
@[simp] theorem truth_bool (b : Bool) : truth (.bool b) = some b := rfl
@[simp] theorem truth_int (i : Int) : truth (.int i) = some (i != 0) := rfl
@[simp] theorem ap_add (a b : D) : ap .add [a, b] = iadd a b := rfl
@[simp] theorem ap_sub (i j : Int) : ap .sub [.int i, .int j] = some (.int (i - j)) := rfl
@[simp] theorem ap_mul (a b : D) : ap .mul [a, b] = imul a b := rfl
@[simp] theorem ap_fdiv (i j : Int) (h : 0 < j) (h2 : j < 1073741824) : ap .fdiv [.int i, .int j] = some (.int (i / j)) := by simp [ap, h, h2]
@[simp] theorem ap_mod (i j : Int) (h : 0 < j) : ap .mod [.int i, .int j] = some (.int (i % j)) := by simp [ap, h]
theorem ap_pow (i j : Int) (h : (decide (0 ≤ j) && decide (j ≤ 1000) && small64 i) = true) : ap .pow [.int i, .int j] = some (.int (i ^ j.toNat)) := by
  show (if _ then _ else _) = _
  rw [if_pos h]
@[simp] theorem ap_neg (i : Int) : ap .neg [.int i] = some (.int (-i)) := rfl
@[simp] theorem ap_eq (a b : D) : ap .eq [a, b] = (ieq a b).map .bool := rfl
@[simp] theorem ap_ne (a b : D) : ap .ne [a, b] = (ieq a b).map fun k => .bool (!k) := rfl
@[simp] theorem ap_lt (a b : D) : ap .lt [a, b] = (ilt a b).map .bool := rfl
@[simp] theorem ap_gt (a b : D) : ap .gt [a, b] = (ilt b a).map .bool := rfl
@[simp] theorem ap_le (a b : D) : ap .le [a, b] = (ilt b a).map fun k => .bool (!k) := rfl
@[simp] theorem ap_ge (a b : D) : ap .ge [a, b] = (ilt a b).map fun k => .bool (!k) := rfl
@[simp] theorem ap_isin (a b : D) : ap .isin [a, b] = (isinD a b).map .bool := rfl
@[simp] theorem ap_notin (a b : D) : ap .notin [a, b] = (isinD a b).map fun k => .bool (!k) := rfl
@[simp] theorem ap_isN (a : D) : ap .isN [a] = some (.bool (isNone a)) := rfl
@[simp] theorem ap_notN (a : D) : ap .notN [a] = some (.bool (!isNone a)) := rfl
@[simp] theorem ap_ix (a i : D) : ap .ix [a, i] = ixD a i := rfl
@[simp] theorem ap_lenL (l : List D) : ap .len [.list l] = some (.int l.length) := rfl
@[simp] theorem ap_lenT (l : List D) : ap .len [.tuple l] = some (.int l.length) := rfl
@[simp] theorem ap_lenS (x : Str) : ap .len [.str x] = some (.int x.length) := rfl
@[simp] theorem ap_abs (i : Int) : ap .abs [.int i] = some (.int (if i < 0 then -i else i)) := rfl
@[simp] theorem ap_int (i : Int) : ap .int [.int i] = some (.int i) := rfl
@[simp] theorem ap_tupleL (l : List D) : ap .tuple [.list l] = some (.tuple l) := rfl
@[simp] theorem ap_tupleT (l : List D) : ap .tuple [.tuple l] = some (.tuple l) := rfl
@[simp] theorem ap_listL (l : List D) : ap .list [.list l] = some (.list l) := rfl
@[simp] theorem ap_listT (l : List D) : ap .list [.tuple l] = some (.list l) := rfl
@[simp] theorem ap_all (l : List D) : ap .all [.list l] = (boolsD l).map fun bs => .bool (bs.all id) := rfl
@[simp] theorem ap_any (l : List D) : ap .any [.list l] = (boolsD l).map fun bs => .bool (bs.any id) := rfl
@[simp] theorem ap_max2 (i j : Int) : ap .max2 [.int i, .int j] = some (.int (if j > i then j else i)) := rfl
@[simp] theorem ap_min2 (i j : Int) : ap .min2 [.int i, .int j] = some (.int (if j < i then j else i)) := rfl
@[simp] theorem ap_divmod (i j : Int) (h : 0 < j) (h2 : j < 1073741824) : ap .divmod [.int i, .int j] = some (.tuple [.int (i / j), .int (i % j)]) := by simp [ap, h, h2]
@[simp] theorem ap_isi (t : Nat) (a : D) (h : a.hasDict = false) : ap (.isi t) [a] = some (.bool (isiD t a)) := by
  cases a <;> first | rfl | (simp [PyData.hasDict] at h)
@[simp] theorem ap_isi_n (t : Nat) : ap (.isi t) [.none] = some (.bool (isiD t .none)) := rfl
@[simp] theorem ap_isi_b (t : Nat) (x : Bool) : ap (.isi t) [.bool x] = some (.bool (isiD t (.bool x))) := rfl
@[simp] theorem ap_isi_i (t : Nat) (x : Int) : ap (.isi t) [.int x] = some (.bool (isiD t (.int x))) := rfl
@[simp] theorem ap_isi_s (t : Nat) (x : Str) : ap (.isi t) [.str x] = some (.bool (isiD t (.str x))) := rfl
@[simp] theorem ap_isi_l (t : Nat) (x : List D) : ap (.isi t) [.list x] = some (.bool (isiD t (.list x))) := rfl
@[simp] theorem ap_isi_t (t : Nat) (x : List D) : ap (.isi t) [.tuple x] = some (.bool (isiD t (.tuple x))) := rfl
@[simp] theorem hd_none : PyData.none.hasDict = false := rfl
@[simp] theorem hd_bool (x : Bool) : (PyData.bool x).hasDict = false := rfl
@[simp] theorem hd_intc (x : Int) : (PyData.int x).hasDict = false := rfl
@[simp] theorem hd_strc (x : Str) : (PyData.str x).hasDict = false := rfl
@[simp] theorem isi0 (x : Str) : isiD 0 (.str x) = true := rfl
@[simp] theorem isi1 (x : Int) : isiD 1 (.int x) = true := rfl
@[simp] theorem isi2 (x : Int) : isiD 2 (.int x) = false := rfl
@[simp] theorem isi2b (x : Bool) : isiD 2 (.bool x) = true := rfl
@[simp] theorem isi1b (x : Bool) : isiD 1 (.bool x) = true := rfl
@[simp] theorem isi0n : isiD 0 .none = false := rfl
@[simp] theorem isi0b (x : Bool) : isiD 0 (.bool x) = false := rfl
@[simp] theorem isi0i (x : Int) : isiD 0 (.int x) = false := rfl
@[simp] theorem isi0l (x : List D) : isiD 0 (.list x) = false := rfl
@[simp] theorem isi0t (x : List D) : isiD 0 (.tuple x) = false := rfl
@[simp] theorem isi1n : isiD 1 .none = false := rfl
@[simp] theorem isi1s (x : Str) : isiD 1 (.str x) = false := rfl
@[simp] theorem isi1l (x : List D) : isiD 1 (.list x) = false := rfl
@[simp] theorem isi1t (x : List D) : isiD 1 (.tuple x) = false := rfl
@[simp] theorem isi2n : isiD 2 .none = false := rfl
@[simp] theorem isi2s (x : Str) : isiD 2 (.str x) = false := rfl
@[simp] theorem isi2l (x : List D) : isiD 2 (.list x) = false := rfl
@[simp] theorem isi2t (x : List D) : isiD 2 (.tuple x) = false := rfl
@[simp] theorem isi3n : isiD 3 .none = false := rfl
@[simp] theorem isi3b (x : Bool) : isiD 3 (.bool x) = false := rfl
@[simp] theorem isi3i (x : Int) : isiD 3 (.int x) = false := rfl
@[simp] theorem isi3s (x : Str) : isiD 3 (.str x) = false := rfl
@[simp] theorem isi3 (l : List D) : isiD 3 (.tuple l) = true := rfl
@[simp] theorem isi3l (l : List D) : isiD 3 (.list l) = false := rfl
@[simp] theorem ap_rangeL (n : Nat) (h : n ≤ 100000) : ap .rangeL [.int (n : Int)] = some (.list ((List.range n).map fun (k : Nat) => PyData.int (k : Int))) := by
  show (if _ then _ else _) = _
  rw [if_pos (by simp; omega)]; simp
@[simp] theorem iadd_int (i j : Int) : iadd (.int i) (.int j) = some (.int (i + j)) := rfl
@[simp] theorem iadd_str (x y : Str) (h : x.length + y.length ≤ 1000000) : iadd (.str x) (.str y) = some (.str (x ++ y)) := by simp [iadd, LIM, h]
@[simp] theorem iadd_list (x y : List D) (h : x.length + y.length ≤ 1000000) : iadd (.list x) (.list y) = some (.list (x ++ y)) := by simp [iadd, LIM, h]
@[simp] theorem iadd_tuple (x y : List D) (h : x.length + y.length ≤ 1000000) : iadd (.tuple x) (.tuple y) = some (.tuple (x ++ y)) := by simp [iadd, LIM, h]
theorem imul_l (i j : Int) (h : small64 i = true) : imul (.int i) (.int j) = some (.int (i * j)) := by simp [imul, h]
theorem imul_r (i j : Int) (h : small64 j = true) : imul (.int i) (.int j) = some (.int (i * j)) := by simp [imul, h]
@[simp] theorem imul_int (i j : Int) (h : (small64 i || small64 j) = true) : imul (.int i) (.int j) = some (.int (i * j)) := by simp only [imul, h, if_true]
@[simp] theorem isNone_none : isNone .none = true := rfl
@[simp] theorem isNone_str (x : Str) : isNone (.str x) = false := rfl
@[simp] theorem isNone_int (x : Int) : isNone (.int x) = false := rfl
@[simp] theorem isNone_list (x : List D) : isNone (.list x) = false := rfl
@[simp] theorem isNone_tuple (x : List D) : isNone (.tuple x) = false := rfl
@[simp] theorem isNone_bool (x : Bool) : isNone (.bool x) = false := rfl
@[simp] theorem ieq_int (i j : Int) : ieq (.int i) (.int j) = some (decide (i = j)) := by
  have : ieq (.int i) (.int j) = some (i == j) := rfl
  rw [this]; congr 1
@[simp] theorem ieq_str (i j : Str) : ieq (.str i) (.str j) = some (decide (i = j)) := by
  have : ieq (.str i) (.str j) = some (i == j) := rfl
  rw [this]; congr 1
@[simp] theorem ieq_bool (i j : Bool) : ieq (.bool i) (.bool j) = some (i == j) := rfl
@[simp] theorem ilt_int (i j : Int) : ilt (.int i) (.int j) = some (decide (i < j)) := by
  have : cmpOk (.int i) (.int j) = true := by rfl
  simp only [ilt, this, if_true]
  rw [PySem.W.dataLt_int]
/-! lists of one kind -/
@[simp] theorem strsD_map (l : List Str) : strsD (l.map .str) = some l := by
  induction l with
  | nil => rfl
  | cons a l ih => simp [strsD, ih]
@[simp] theorem intsD_map (l : List Int) : intsD (l.map .int) = some l := by
  induction l with
  | nil => rfl
  | cons a l ih => simp [intsD, ih]
@[simp] theorem boolsD_map {α : Type} (l : List α) (f : α → Bool) : boolsD (l.map fun a => .bool (f a)) = some (l.map f) := by
  induction l with
  | nil => rfl
  | cons a l ih => simp [boolsD, ih]
@[simp] theorem hd_str (l : List Str) : PyData.hasDictAll (l.map .str) = false := by
  induction l with
  | nil => rfl
  | cons a l ih => simp [PyData.hasDictAll, PyData.hasDict, ih]
@[simp] theorem hd_int (l : List Int) : PyData.hasDictAll (l.map .int) = false := by
  induction l with
  | nil => rfl
  | cons a l ih => simp [PyData.hasDictAll, PyData.hasDict, ih]
@[simp] theorem dp_str (l : List Str) : PyData.depthAll (l.map .str) = 0 := by
  induction l with
  | nil => rfl
  | cons a l ih => simp [PyData.depthAll, PyData.depth, ih]
@[simp] theorem dp_int (l : List Int) : PyData.depthAll (l.map .int) = 0 := by
  induction l with
  | nil => rfl
  | cons a l ih => simp [PyData.depthAll, PyData.depth, ih]
@[simp] theorem hd_ts (l : List Str) : (ts l).hasDict = false := by simp [ts, PyData.hasDict]
@[simp] theorem hd_ti (l : List Int) : (ti l).hasDict = false := by simp [ti, PyData.hasDict]
@[simp] theorem dp_ts (l : List Str) : (ts l).depth = 1 := by simp [ts, PyData.depth]
@[simp] theorem dp_ti (l : List Int) : (ti l).depth = 1 := by simp [ti, PyData.depth]
theorem hasDictAll_false {l : List D} : PyData.hasDictAll l = false ↔ ∀ d ∈ l, d.hasDict = false := by
  induction l with
  | nil => simp [PyData.hasDictAll]
  | cons a l ih => simp [PyData.hasDictAll, ih]
theorem depthAll_le {l : List D} {n : Nat} : PyData.depthAll l ≤ n ↔ ∀ d ∈ l, d.depth ≤ n := by
  induction l with
  | nil => simp [PyData.depthAll]
  | cons a l ih => simp [PyData.depthAll, ih, Nat.max_le]
@[simp] theorem hd_tss (l : List (List Str)) : PyData.hasDictAll (l.map ts) = false := hasDictAll_false.mpr fun d h => by
  obtain ⟨a, _, rfl⟩ := List.mem_map.mp h; exact hd_ts a
theorem dp_tss (l : List (List Str)) : PyData.depthAll (l.map ts) ≤ 1 := depthAll_le.mpr fun d h => by
  obtain ⟨a, _, rfl⟩ := List.mem_map.mp h; rw [dp_ts]; exact Nat.le_refl _
@[simp] theorem eqv_str (x y : Str) : PyData.eqv (.str x) (.str y) = (x == y) := by simp [PyData.eqv]
@[simp] theorem eqv_int (x y : Int) : PyData.eqv (.int x) (.int y) = (x == y) := by simp [PyData.eqv]
theorem eqvAll_str : ∀ l m : List Str, PyData.eqvAll (l.map .str) (m.map .str) = decide (l = m)
  | [], [] => rfl
  | [], _ :: _ => rfl
  | _ :: _, [] => rfl
  | a :: l, b :: m => by
    simp only [List.map_cons, PyData.eqvAll, eqv_str, eqvAll_str l m, List.cons.injEq]
    by_cases h : a = b <;> simp [h]
@[simp] theorem eqv_ts (l m : List Str) : PyData.eqv (ts l) (ts m) = decide (l = m) := by simp only [ts, PyData.eqv, eqvAll_str]
theorem eqvAll_int : ∀ l m : List Int, PyData.eqvAll (l.map .int) (m.map .int) = decide (l = m)
  | [], [] => rfl
  | [], _ :: _ => rfl
  | _ :: _, [] => rfl
  | a :: l, b :: m => by
    simp only [List.map_cons, PyData.eqvAll, eqv_int, eqvAll_int l m, List.cons.injEq]
    by_cases h : a = b <;> simp [h]
@[simp] theorem ieq_strL (l m : List Str) : ieq (.list (l.map .str)) (.list (m.map .str)) = some (decide (l = m)) := by
  have : eqOk (.list (l.map .str)) (.list (m.map .str)) = true := by simp [eqOk, PyData.hasDict, PyData.depth]
  simp only [ieq, this, if_true, PyData.eqv, eqvAll_str]
@[simp] theorem ieq_strT (l m : List Str) : ieq (.tuple (l.map .str)) (.tuple (m.map .str)) = some (decide (l = m)) := by
  have : eqOk (.tuple (l.map .str)) (.tuple (m.map .str)) = true := by simp [eqOk, PyData.hasDict, PyData.depth]
  simp only [ieq, this, if_true, PyData.eqv, eqvAll_str]
@[simp] theorem ieq_ts (l m : List Str) : ieq (ts l) (ts m) = some (decide (l = m)) := ieq_strT l m
@[simp] theorem ieq_intL (l m : List Int) : ieq (.list (l.map .int)) (.list (m.map .int)) = some (decide (l = m)) := by
  have : eqOk (.list (l.map .int)) (.list (m.map .int)) = true := by simp [eqOk, PyData.hasDict, PyData.depth]
  simp only [ieq, this, if_true, PyData.eqv, eqvAll_int]
theorem any_str (l : List Str) (z : Str) : ((l.map PyData.str).any fun y => PyData.eqv y (.str z)) = decide (z ∈ l) := by
  induction l with
  | nil => rfl
  | cons a l ih =>
    simp only [List.map_cons, List.any_cons, eqv_str, ih, List.mem_cons]
    by_cases h : z = a
    · subst h; simp
    · have : (a == z) = false := by simpa using fun e => h e.symm
      simp [h, this]
theorem any_ts (l : List (List Str)) (z : List Str) : ((l.map ts).any fun y => PyData.eqv y (ts z)) = decide (z ∈ l) := by
  induction l with
  | nil => rfl
  | cons a l ih =>
    simp only [List.map_cons, List.any_cons, eqv_ts, ih, List.mem_cons]
    by_cases h : z = a
    · subst h; simp
    · have : ¬ a = z := fun e => h e.symm
      simp [h, this]
@[simp] theorem isin_strT (z : Str) (l : List Str) : isinD (.str z) (.tuple (l.map .str)) = some (decide (z ∈ l)) := by
  have : eqOkL (l.map .str) (.str z) = true := by simp [eqOkL, PyData.hasDict]
  simp only [isinD, this, if_true, any_str]
@[simp] theorem isin_strL (z : Str) (l : List Str) : isinD (.str z) (.list (l.map .str)) = some (decide (z ∈ l)) := by
  have : eqOkL (l.map .str) (.str z) = true := by simp [eqOkL, PyData.hasDict]
  simp only [isinD, this, if_true, any_str]
@[simp] theorem isin_strts (z : Str) (l : List Str) : isinD (.str z) (ts l) = some (decide (z ∈ l)) := isin_strT z l
@[simp] theorem isin_tss (z : List Str) (l : List (List Str)) : isinD (ts z) (.list (l.map ts)) = some (decide (z ∈ l)) := by
  have : eqOkL (l.map ts) (ts z) = true := by
    have := dp_tss l
    simp [eqOkL]; omega
  simp only [isinD, this, if_true, any_ts]
@[simp] theorem isin_tss' (z : List Str) (l : List (List Str)) : isinD (.tuple (z.map .str)) (.list (l.map ts)) = some (decide (z ∈ l)) := isin_tss z l
/-! texts -/
@[simp] theorem isin_chr (c : Nat) (y : Str) : isinD (.str ⟨#[c]⟩) (.str y) = some (decide (c ∈ y.cps.toList)) := by
  simp [isinD, inStr, Str.length]
/-! places -/
@[simp] theorem ixN_nat (n k : Nat) (h : k < n) : L2.ixN n (k : Int) = some k := by
  unfold L2.ixN; rw [if_pos (by omega), if_pos (by omega)]; simp
theorem atI_nat {α : Type} (l : List α) (k : Nat) (h : k < l.length) : L2.atI l (k : Int) = some l[k] := by
  unfold L2.atI; rw [ixN_nat _ _ h]; simp [h]
theorem atI_zero {α : Type} (l : List α) : L2.atI l 0 = l.head? := by
  cases l with
  | nil => rfl
  | cons a l => have := atI_nat (a :: l) 0 (by simp); simpa using this
@[simp] theorem atI_cons0 {α : Type} (a : α) (l : List α) : L2.atI (a :: l) 0 = some a := by rw [atI_zero]; rfl
theorem atI_int {α : Type} (l : List α) (i : Int) (h0 : 0 ≤ i) (h : i < l.length) : L2.atI l i = some (l[i.toNat]'(by omega)) := by
  have := atI_nat l i.toNat (by omega)
  rwa [Int.toNat_of_nonneg h0] at this
theorem atI_map {α β : Type} (f : α → β) (l : List α) (i : Int) : L2.atI (l.map f) i = (L2.atI l i).map f := by
  unfold L2.atI; rw [List.length_map]; cases L2.ixN l.length i <;> simp
@[simp] theorem ixD_L (l : List D) (k : Int) : ixD (.list l) (.int k) = L2.atI l k := rfl
@[simp] theorem ixD_T (l : List D) (k : Int) : ixD (.tuple l) (.int k) = L2.atI l k := rfl
@[simp] theorem ixD_S (x : Str) (k : Int) : ixD (.str x) (.int k) = (L2.atI x.cps.toList k).map fun c => .str ⟨#[c]⟩ := rfl
@[simp] theorem slD_L (l : List D) (a b : Option Int) : slD (.list l) a b = some (.list (cut l a b)) := rfl
@[simp] theorem slD_T (l : List D) (a b : Option Int) : slD (.tuple l) a b = some (.tuple (cut l a b)) := rfl
@[simp] theorem slD_S (x : Str) (a b : Option Int) : slD (.str x) a b = some (.str ⟨(cut x.cps.toList a b).toArray⟩) := rfl
theorem cut_from {α : Type} (l : List α) (k : Nat) : cut l (some (k : Int)) none = l.drop k := by
  unfold cut; rw [HT.sIx_nat, HT.sIx_none]
  by_cases h : k ≤ l.length
  · rw [Nat.min_eq_left h]; exact List.take_of_length_le (by simp)
  · rw [Nat.min_eq_right (by omega), List.drop_of_length_le (Nat.le_refl _), List.drop_of_length_le (by omega)]; simp
theorem cut_to {α : Type} (l : List α) (k : Nat) : cut l none (some (k : Int)) = l.take k := by
  unfold cut; rw [HT.sIx_nat, HT.sIx_none]
  simp [List.take_eq_take_iff]
theorem cut_from1 {α : Type} (l : List α) (k : Nat) : cut l (some ((k : Int) + 1)) none = l.drop (k + 1) := cut_from l (k + 1)
theorem cut_map {α β : Type} (f : α → β) (l : List α) (a b : Option Int) : cut (l.map f) a b = (cut l a b).map f := by
  unfold cut; rw [List.length_map, ← List.map_drop, ← List.map_take]
/-! sources -/
@[simp] theorem src_L (l : List D) : srcItems .seq [.list l] = some l := rfl
@[simp] theorem src_T (l : List D) : srcItems .seq [.tuple l] = some l := rfl
@[simp] theorem src_S (x : Str) : srcItems .seq [.str x] = some (chars x) := rfl
@[simp] theorem src_rng (n : Nat) (h : n ≤ 100000) : srcItems .rng1 [.int (n : Int)] = some ((List.range n).map fun (k : Nat) => PyData.int (k : Int)) := by
  show (if _ then _ else _) = _
  rw [if_pos (by simp; omega)]; simp
theorem src_rngI (i : Int) (h0 : 0 ≤ i) (h : i ≤ 100000) : srcItems .rng1 [.int i] = some ((List.range i.toNat).map fun (k : Nat) => PyData.int (k : Int)) := by
  obtain ⟨n, rfl⟩ := Int.eq_ofNat_of_zero_le h0
  exact src_rng n (by omega)
@[simp] theorem src_enumT (l : List D) : srcItems .enum [.tuple l] = some (l.zipIdx.map fun p => .tuple [.int p.2, p.1]) := rfl
@[simp] theorem src_enumL (l : List D) : srcItems .enum [.list l] = some (l.zipIdx.map fun p => .tuple [.int p.2, p.1]) := rfl
@[simp] theorem src_zipTL (l m : List D) : srcItems .zip [.tuple l, .list m] = some ((l.zip m).map fun p => .tuple [p.1, p.2]) := rfl
/-! ### comprehensions -/
def lcStep (tg : Tg) (tst : M Bool) (elt : M D) (x : D) (r : En) : R (Option D) := optR (putE tg x r) fun r1 => (tst r1).bind fun b r2 => iteR b ((elt r2).bind fun d r3 => .ok (some d) r3) (.ok none r2)
theorem lcLoop_cons (vs : List Nat) (tg : Tg) (tst : M Bool) (elt : M D) (x : D) (xs acc : List D) (r : En) : lcLoop vs tg tst elt (x :: xs) acc r = (lcStep tg tst elt x (wipeE r vs)).bind fun o r1 => (match o with
    | some d => if acc.length < LIM then lcLoop vs tg tst elt xs (acc ++ [d]) r1 else .stuck
    | none => lcLoop vs tg tst elt xs acc r1) := by
  rw [lcLoop, bnd_ap, wipeM_ap, R.bind_ok, bnd_ap, put_ap, lcStep]
  cases putE tg x (wipeE r vs) with
  | none => rfl
  | some r1 =>
    rw [optR_some, optR_some, R.bind_ok, bnd_ap]
    rcases tst r1 with ⟨b, r2⟩ | _ | _
    · rw [R.bind_ok, R.bind_ok]
      cases b with
      | true =>
        rw [iteR_t, if_pos rfl, bnd_ap]
        rcases elt r2 with ⟨d, r3⟩ | _ | _
        · rw [R.bind_ok, R.bind_ok, R.bind_ok]; simp only []; split <;> rfl
        · rfl
        · rfl
      | false => rfl
    · rfl
    · rfl
theorem set_same {r : En} {v : Nat} {s : Sl} (h : r[v]? = some s) : r.set v s = r := by
  obtain ⟨h1, h2⟩ := List.getElem?_eq_some_iff.mp h
  rw [← h2]; exact List.set_getElem_self h1
theorem wipe_len (r : En) (vs : List Nat) : (wipeE r vs).length = r.length := by
  induction vs with
  | nil => rfl
  | cons v vs ih => simp [ih]
theorem back_wipe : ∀ (vs : List Nat) (r r1 : En), wipeE r1 vs = wipeE r vs → back r r1 vs = r := by
  intro vs r r1 h
  have key : ∀ (vs : List Nat) (r r1 : En), r1.length = r.length → (∀ i, i ∉ vs → r1[i]? = r[i]?) → back r r1 vs = r := by
    intro vs
    induction vs with
    | nil => intro r r1 hl h; exact List.ext_getElem? fun i => h i (by simp)
    | cons v vs ih =>
      intro r r1 hl h
      have hb : ∀ (vs : List Nat) (r1 : En) (i : Nat), r1.length = r.length → ((back r r1 vs)[i]? = if i ∈ vs then r[i]? else r1[i]?) ∧ (back r r1 vs).length = r1.length := by
        intro vs
        induction vs with
        | nil => intro r1 i _; simp [back]
        | cons v vs ih =>
          intro r1 i hl
          unfold back
          cases e : r[v]? with
          | none =>
            simp only []
            obtain ⟨h1, h2⟩ := ih r1 i hl
            refine ⟨?_, h2⟩
            rw [h1]
            by_cases hi : i ∈ vs
            · simp [hi]
            · by_cases hv : i = v
              · subst hv
                have : r1[i]? = none := by
                  have := List.getElem?_eq_none_iff.mp e
                  exact List.getElem?_eq_none_iff.mpr (by omega)
                simp [hi, this, e]
              · simp [hi, hv]
          | some s =>
            simp only []
            obtain ⟨h1, h2⟩ := ih r1 i hl
            refine ⟨?_, by simp [h2]⟩
            have hvl : v < r.length := (List.getElem?_eq_some_iff.mp e).1
            rw [List.getElem?_set]
            by_cases hv : v = i
            · subst hv
              have hlt : v < (back r r1 vs).length := by omega
              simp [hlt, e]
            · have : ¬ i = v := fun q => hv q.symm
              rw [if_neg hv, h1]
              simp [this]
      refine List.ext_getElem? fun i => ?_
      have := (hb (v :: vs) r1 i hl).1
      rw [this]
      split
      · rfl
      · rename_i hn; exact h i hn
  have hw : ∀ (vs : List Nat) (r : En) (i : Nat), i ∉ vs → (wipeE r vs)[i]? = r[i]? := by
    intro vs
    induction vs with
    | nil => intro r i _; rfl
    | cons v vs ih =>
      intro r i hi
      have h1 : v ≠ i := fun e => hi (by simp [e])
      rw [wipeE_cons, List.getElem?_set_ne h1]
      exact ih r i (fun m => hi (by simp [m]))
  refine key vs r r1 ?_ ?_
  · have := congrArg List.length h
    rwa [wipe_len, wipe_len] at this
  · intro i hi
    rw [← hw vs r1 i hi, h, hw vs r i hi]
theorem block_ap {α : Type} (vs : List Nat) (m : M α) (r : En) (hv : (vs.all fun v => notOwn r[v]?) = true) : block vs m r = (match m (wipeE r vs) with
    | .ok a r1 => .ok a (back r r1 vs)
    | .exc _ _ => .stuck
    | .stuck => .stuck) := by
  unfold block; rw [if_pos hv]; first | done | (cases m (wipeE r vs) <;> rfl)
theorem lc_loop {α : Type} {vs : List Nat} {tg : Tg} {tst : M Bool} {elt : M D} {g : α → D} (I : Nat → List D → En → Prop) : ∀ (l : List α) (n : Nat) (acc : List D) (r : En), acc.length + l.length ≤ 1000000 → I n acc r →
    (∀ k (hk : k < l.length) acc r1, I (n + k) acc r1 → ∃ x r2, lcStep tg tst elt (g l[k]) (wipeE r1 vs) = .ok x r2 ∧ I (n + k + 1) (acc ++ x.toList) r2) →
    ∃ acc' r', lcLoop vs tg tst elt (l.map g) acc r = .ok acc' r' ∧ I (n + l.length) acc' r'
  | [], n, acc, r, _, hi, _ => ⟨acc, r, by simp [lcLoop], hi⟩
  | a :: l, n, acc, r, hl, hi, hs => by
    obtain ⟨x, r2, e, hi2⟩ := hs 0 (by simp) acc r hi
    simp only [List.getElem_cons_zero] at e
    rw [List.map_cons, lcLoop_cons, e, R.bind_ok]
    have hl' : acc.length + l.length + 1 ≤ 1000000 := by simpa [Nat.add_assoc] using hl
    have go := fun (acc : List D) (r : En) h1 h2 => lc_loop (vs := vs) (tg := tg) (tst := tst) (elt := elt) (g := g) I l (n + 1) acc r h1 h2 (fun k hk acc r1 h => by
      have := hs (k + 1) (by simp; omega) acc r1 (by rw [← Nat.add_assoc, Nat.add_right_comm]; exact h)
      simp only [List.getElem_cons_succ] at this
      obtain ⟨x, r2, e, h⟩ := this
      refine ⟨x, r2, e, ?_⟩
      rw [show n + 1 + k + 1 = n + (k + 1) + 1 by omega]; exact h)
    have en : n + (a :: l).length = n + 1 + l.length := by simp; omega
    rw [en]
    cases x with
    | none =>
      simp only []
      exact go acc r2 (by omega) (by simpa using hi2)
    | some d =>
      simp only []
      rw [if_pos (by unfold LIM; omega)]
      exact go (acc ++ [d]) r2 (by simp; omega) (by simpa using hi2)
/-- a comprehension that changes something: I k acc r behind k elements -/
theorem lc_inv {α : Type} {vs : List Nat} {tg : Tg} {tst : M Bool} {elt : M D} {g : α → D} {l : List α} {r : En} (I : Nat → List D → En → Prop)
    (hv : (vs.all fun v => notOwn r[v]?) = true) (hl : l.length ≤ 1000000) (h0 : I 0 [] (wipeE r vs))
    (hs : ∀ k (hk : k < l.length) acc r1, I k acc r1 → ∃ x r2, lcStep tg tst elt (g l[k]) (wipeE r1 vs) = .ok x r2 ∧ I (k + 1) (acc ++ x.toList) r2) :
    ∃ acc r1, block vs (lcLoop vs tg tst elt (l.map g) []) r = .ok acc (back r r1 vs) ∧ I l.length acc r1 := by
  obtain ⟨acc, r1, e, h⟩ := lc_loop (vs := vs) (tg := tg) (tst := tst) (elt := elt) (g := g) I l 0 [] (wipeE r vs) (by simpa using hl) h0 (fun k hk acc r1 h => by
    have := hs k hk acc r1 (by simpa using h)
    simpa using this)
  refine ⟨acc, r1, ?_, by simpa using h⟩
  rw [block_ap _ _ _ hv, e]
theorem g_wipe_idem (r : En) (vs : List Nat) : wipeE (wipeE r vs) vs = wipeE r vs := by
  have hw : ∀ (vs : List Nat) (r : En) (i : Nat), (wipeE r vs)[i]? = if i ∈ vs ∧ i < r.length then some .no else r[i]? := by
    intro vs
    induction vs with
    | nil => intro r i; simp
    | cons v vs ih =>
      intro r i
      rw [wipeE_cons, List.getElem?_set, ih, wipe_len]
      by_cases h : v = i
      · subst h
        by_cases h2 : v < r.length
        · simp [h2]
        · have : r[v]? = none := List.getElem?_eq_none_iff.mpr (by omega)
          simp [h2, this]
      · have : ¬ i = v := fun q => h q.symm
        simp [h, this]
  refine List.ext_getElem? fun i => ?_
  rw [hw, hw, wipe_len]
  split <;> simp_all
/-- a comprehension that changes nothing, with tests -/
theorem lc_filter {α : Type} {vs : List Nat} {tg : Tg} {tst : M Bool} {elt : M D} {g : α → D} {l : List α} {r : En} (p : α → Bool) (f : α → D)
    (hv : (vs.all fun v => notOwn r[v]?) = true) (hl : l.length ≤ 1000000)
    (hs : ∀ a ∈ l, ∃ r2, lcStep tg tst elt (g a) (wipeE r vs) = .ok (if p a = true then some (f a) else none) r2 ∧ wipeE r2 vs = wipeE r vs) :
    block vs (lcLoop vs tg tst elt (l.map g) []) r = .ok ((l.filter p).map f) r := by
  obtain ⟨acc, r1, e, h1, h2⟩ := lc_inv (vs := vs) (tg := tg) (tst := tst) (elt := elt) (g := g) (l := l) (r := r) (fun k acc r1 => acc = ((l.take k).filter p).map f ∧ wipeE r1 vs = wipeE r vs) hv hl ⟨by simp, g_wipe_idem r vs⟩
    (fun k hk acc r1 h => by
      obtain ⟨h1, h2⟩ := h
      obtain ⟨r2, e, h3⟩ := hs l[k] (List.getElem_mem hk)
      refine ⟨_, r2, by rw [h2]; exact e, ?_, h3⟩
      rw [h1, List.take_add_one, List.getElem?_eq_getElem hk]
      simp only [Option.toList_some, List.filter_append, List.map_append]
      by_cases hp : p l[k] = true
      · simp [hp]
      · simp [hp])
  rw [e, h1, back_wipe vs r r1 h2]
  simp
theorem lc_map {α : Type} {vs : List Nat} {tg : Tg} {tst : M Bool} {elt : M D} {g : α → D} {l : List α} {r : En} (f : α → D)
    (hv : (vs.all fun v => notOwn r[v]?) = true) (hl : l.length ≤ 1000000)
    (hs : ∀ a ∈ l, ∃ r2, lcStep tg tst elt (g a) (wipeE r vs) = .ok (some (f a)) r2 ∧ wipeE r2 vs = wipeE r vs) :
    block vs (lcLoop vs tg tst elt (l.map g) []) r = .ok (l.map f) r := by
  have := lc_filter (vs := vs) (tg := tg) (tst := tst) (elt := elt) (g := g) (l := l) (r := r) (fun _ => true) f hv hl (by simpa using hs)
  rw [this, List.filter_eq_self.mpr (fun _ _ => rfl)]
/-! ### for -/
theorem forLoop_cons (tg : Tg) (body : M Fw) (x : D) (xs : List D) (r : En) : forLoop tg body (x :: xs) r = optR (putE tg x r) fun r1 => (body r1).bind fun f r2 => (match f with
    | .nx => forLoop tg body xs r2
    | .ct => forLoop tg body xs r2
    | .bk => .ok .nx r2
    | .rt d => .ok (.rt d) r2) := by
  rw [forLoop, bnd_ap, put_ap]
  cases putE tg x r with
  | none => rfl
  | some r1 =>
    rw [optR_some, optR_some, R.bind_ok, bnd_ap]
    rcases body r1 with ⟨f, r2⟩ | _ | _
    · cases f <;> rfl
    · rfl
    · rfl
def fstep (tg : Tg) (body : M Fw) (x : D) (r : En) : R Fw := optR (putE tg x r) fun r1 => body r1
/-- a loop: it goes on, or ends with a return -/
theorem for_ret {α : Type} {tg : Tg} {body : M Fw} {g : α → D} (I : Nat → En → Prop) (Q : D → En → Prop) : ∀ (l : List α) (n : Nat) (r : En), I n r →
    (∀ k (hk : k < l.length) r, I (n + k) r → (∃ f r2, fstep tg body (g l[k]) r = .ok f r2 ∧ (f = .nx ∨ f = .ct) ∧ I (n + k + 1) r2) ∨ (∃ d r2, fstep tg body (g l[k]) r = .ok (.rt d) r2 ∧ Q d r2)) →
    (∃ r', forLoop tg body (l.map g) r = .ok .nx r' ∧ I (n + l.length) r') ∨ (∃ d r', forLoop tg body (l.map g) r = .ok (.rt d) r' ∧ Q d r')
  | [], n, r, hi, _ => .inl ⟨r, by simp [forLoop], hi⟩
  | a :: l, n, r, hi, hs => by
    have go := fun (r : En) h => for_ret (tg := tg) (body := body) (g := g) I Q l (n + 1) r h (fun k hk r1 h => by
      have := hs (k + 1) (by simp; omega) r1 (by rw [← Nat.add_assoc, Nat.add_right_comm]; exact h)
      simp only [List.getElem_cons_succ] at this
      rw [show n + 1 + k + 1 = n + (k + 1) + 1 by omega]; exact this)
    have en : n + (a :: l).length = n + 1 + l.length := by simp; omega
    rw [en, List.map_cons, forLoop_cons]
    have h0 := hs 0 (by simp) r hi
    simp only [List.getElem_cons_zero, fstep] at h0
    rcases h0 with ⟨f, r2, e, hf, hi2⟩ | ⟨d, r2, e, hq⟩
    · cases e1 : putE tg (g a) r with
      | none => rw [e1] at e; cases e
      | some r1 =>
        rw [e1, optR_some] at e
        rw [optR_some, e, R.bind_ok]
        rcases hf with rfl | rfl <;> exact go r2 hi2
    · cases e1 : putE tg (g a) r with
      | none => rw [e1] at e; cases e
      | some r1 =>
        rw [e1, optR_some] at e
        rw [optR_some, e, R.bind_ok]
        exact .inr ⟨d, r2, rfl, hq⟩
theorem for_inv {α : Type} {tg : Tg} {body : M Fw} {g : α → D} {l : List α} {r : En} (I : Nat → En → Prop) (h0 : I 0 r)
    (hs : ∀ k (hk : k < l.length) r, I k r → ∃ f r2, fstep tg body (g l[k]) r = .ok f r2 ∧ (f = .nx ∨ f = .ct) ∧ I (k + 1) r2) :
    ∃ r', forLoop tg body (l.map g) r = .ok .nx r' ∧ I l.length r' := by
  rcases for_ret (tg := tg) (body := body) (g := g) I (fun _ _ => False) l 0 r h0 (fun k hk r h => .inl (by simpa using hs k hk r (by simpa using h))) with ⟨r', e, h⟩ | ⟨d, r', _, h⟩
  · exact ⟨r', e, by simpa using h⟩
  · exact h.elim
end M3
set_option Elab.async false
set_option linter.all false
set_option maxRecDepth 100000
/-! G3: order, sorting, texts. -/
namespace M3
open PySem
open PySem.W (dataLt alike alikeAll keyToks keyToksAll)
/-- the order of texts, of rows -/
def sLt (a b : Str) : Bool := dataLt (.str a) (.str b)
def rLt (a b : List Str) : Bool := dataLt (ts a) (ts b)
theorem dLt_irrefl (a : D) : dataLt a a = false := PyProof.Rows.lex_irrefl _
theorem dLt_trans {a b c : D} (h : dataLt a b = true) (h2 : dataLt b c = true) : dataLt a c = true := PyProof.Rows.lex_trans _ _ _ h h2
theorem leD_trans (a b c : D) (h : leD a b = true) (h2 : leD b c = true) : leD a c = true := by
  unfold leD at *
  cases e : dataLt c a with
  | false => rfl
  | true =>
    rcases PyProof.Rows.lex_negTrans _ (keyToks b) _ e with q | q
    · have : dataLt c b = true := q
      rw [this] at h2; cases h2
    · have : dataLt b a = true := q
      rw [this] at h; cases h
theorem leD_total (a b : D) : (leD a b || leD b a) = true := by
  unfold leD
  cases e : dataLt b a with
  | false => rfl
  | true =>
    cases e2 : dataLt a b with
    | false => rfl
    | true => exact absurd (dLt_trans e e2) (by rw [dLt_irrefl]; exact Bool.false_ne_true)
theorem toks_str : ∀ {l m : List Str}, keyToksAll (l.map .str) = keyToksAll (m.map .str) → l = m
  | [], [], _ => rfl
  | [], _ :: _, h => by simp [keyToksAll] at h
  | _ :: _, [], h => by simp [keyToksAll] at h
  | a :: l, b :: m, h => by
    simp only [List.map_cons, keyToksAll, keyToks, List.cons_append, List.nil_append, List.cons.injEq, true_and] at h
    obtain ⟨h1, h2⟩ := h
    have h1 := Sum.inr.inj h1
    have : a = b := PySem.W.str_of_cps h1
    rw [this, toks_str h2]
theorem dLt_conn {a b : D} (h : dataLt a b = false) (h2 : dataLt b a = false) : keyToks a = keyToks b := PyProof.Rows.lex_total _ _ h h2
theorem sLt_conn {a b : Str} (h : sLt a b = false) (h2 : sLt b a = false) : a = b := by
  have := dLt_conn h h2
  simp only [keyToks] at this
  exact PySem.W.str_of_cps (Sum.inr.inj (List.cons.inj this).1)
theorem rLt_conn {a b : List Str} (h : rLt a b = false) (h2 : rLt b a = false) : a = b := by
  have := dLt_conn h h2
  simp only [ts, keyToks] at this
  exact toks_str this
theorem sLt_irrefl (a : Str) : sLt a a = false := dLt_irrefl _
theorem rLt_irrefl (a : List Str) : rLt a a = false := dLt_irrefl _
theorem sLt_trans {a b c : Str} (h : sLt a b = true) (h2 : sLt b c = true) : sLt a c = true := dLt_trans h h2
theorem rLt_trans {a b c : List Str} (h : rLt a b = true) (h2 : rLt b c = true) : rLt a c = true := dLt_trans h h2
def sLe (a b : Str) : Bool := leD (.str a) (.str b)
def rLe (a b : List Str) : Bool := leD (ts a) (ts b)
def sortS (l : List Str) : List Str := l.mergeSort sLe
def sortR (l : List (List Str)) : List (List Str) := l.mergeSort rLe
theorem sortS_map (l : List Str) : (l.map PyData.str).mergeSort leD = (sortS l).map .str := by
  unfold sortS; rw [List.map_mergeSort (s := leD)]; intro a _ b _; rfl
theorem sortR_map (l : List (List Str)) : (l.map ts).mergeSort leD = (sortR l).map ts := by
  unfold sortR; rw [List.map_mergeSort (s := leD)]; intro a _ b _; rfl
theorem sortS_perm (l : List Str) : (sortS l).Perm l := List.mergeSort_perm _ _
theorem sortR_perm (l : List (List Str)) : (sortR l).Perm l := List.mergeSort_perm _ _
theorem sortS_pw (l : List Str) : (sortS l).Pairwise fun a b => sLe a b = true := List.pairwise_mergeSort (le := sLe) (fun a b c h h2 => leD_trans (.str a) (.str b) (.str c) h h2) (fun a b => leD_total (.str a) (.str b)) l
theorem sortR_pw (l : List (List Str)) : (sortR l).Pairwise fun a b => rLe a b = true := List.pairwise_mergeSort (le := rLe) (fun a b c h h2 => leD_trans (ts a) (ts b) (ts c) h h2) (fun a b => leD_total (ts a) (ts b)) l
theorem sLe_anti {a b : Str} (h : sLe a b = true) (h2 : sLe b a = true) : a = b := by
  simp only [sLe, leD, Bool.not_eq_true'] at h h2
  exact sLt_conn h2 h
theorem rLe_anti {a b : List Str} (h : rLe a b = true) (h2 : rLe b a = true) : a = b := by
  simp only [rLe, leD, Bool.not_eq_true'] at h h2
  exact rLt_conn h2 h
theorem sortS_eq {l m : List Str} : sortS l = sortS m ↔ l.Perm m := by
  constructor
  · intro h; exact (sortS_perm l).symm.trans (h ▸ sortS_perm m)
  · intro h
    exact List.Perm.eq_of_pairwise (le := fun a b => sLe a b = true) (fun a b _ _ => sLe_anti) (sortS_pw l) (sortS_pw m) ((sortS_perm l).trans (h.trans (sortS_perm m).symm))
/-- strictly ascending -/
def Asc (l : List Str) : Prop := l.Pairwise fun a b => sLt a b = true
def AscR (l : List (List Str)) : Prop := l.Pairwise fun a b => rLt a b = true
theorem sLt_of {a b : Str} (h : sLe a b = true) (hne : a ≠ b) : sLt a b = true := by
  cases e : sLt a b with
  | true => rfl
  | false =>
    simp only [sLe, leD, Bool.not_eq_true'] at h
    exact absurd (sLt_conn e h) hne
theorem rLt_of {a b : List Str} (h : rLe a b = true) (hne : a ≠ b) : rLt a b = true := by
  cases e : rLt a b with
  | true => rfl
  | false =>
    simp only [rLe, leD, Bool.not_eq_true'] at h
    exact absurd (rLt_conn e h) hne
theorem sLe_of {a b : Str} (h : sLt a b = true) : sLe a b = true := by
  cases e : sLt b a with
  | true => exact absurd (sLt_trans h e) (by rw [sLt_irrefl]; exact Bool.false_ne_true)
  | false => unfold sLe leD; unfold sLt at e; rw [e]; rfl
theorem sortS_asc {l : List Str} (h : l.Nodup) : Asc (sortS l) :=
  ((sortS_pw l).and ((sortS_perm l).symm.nodup h)).imp fun ⟨a, b⟩ => sLt_of a b
theorem Asc.nodup {l : List Str} (h : Asc l) : l.Nodup := h.imp fun {a b} q e => by
  rw [e, sLt_irrefl] at q; cases q
theorem AscR.nodup {l : List (List Str)} (h : AscR l) : l.Nodup := h.imp fun {a b} q e => by
  rw [e, rLt_irrefl] at q; cases q
theorem sortS_self {l : List Str} (h : Asc l) : sortS l = l := List.mergeSort_of_pairwise (h.imp sLe_of)
/-! sorting by the evaluator -/
theorem cmpOk_str (a b : Str) : cmpOk (.str a) (.str b) = true := rfl
theorem alike_strs : ∀ l m : List Str, alikeAll (l.map .str) (m.map .str) = true
  | [], [] => rfl
  | [], _ :: _ => rfl
  | _ :: _, [] => rfl
  | a :: l, b :: m => by simp [alikeAll, alike, alike_strs l m]
theorem cmpOk_ts (a b : List Str) : cmpOk (ts a) (ts b) = true := by
  unfold cmpOk
  rw [hd_ts, hd_ts, dp_ts, dp_ts]
  simp [ts, alike, alike_strs]
@[simp] theorem ilt_str (a b : Str) : ilt (.str a) (.str b) = some (sLt a b) := rfl
@[simp] theorem ilt_ts (a b : List Str) : ilt (ts a) (ts b) = some (rLt a b) := by
  simp only [ilt, cmpOk_ts, if_true]; rfl
theorem sortOk_str (l : List Str) : sortOk (l.map .str) = true := by
  simp [sortOk, cmpOk_str]
theorem sortOk_ts (l : List (List Str)) (h : ∀ r ∈ l, r ≠ []) : sortOk (l.map ts) = true := by
  unfold sortOk
  rw [Bool.and_eq_true, Bool.or_eq_true]
  refine ⟨?_, .inl ?_⟩
  · simp [cmpOk_ts]
  · rw [List.all_map, List.all_eq_true]
    intro r hr
    have := h r hr
    cases r with
    | nil => exact absurd rfl this
    | cons a r => rfl
@[simp] theorem ap_sortedT (l : List Str) : ap .sorted [.tuple (l.map .str)] = some (.list ((sortS l).map .str)) := by
  simp only [ap, seqOf, Option.bind_some, sortOk_str, if_true, sortS_map]
@[simp] theorem ap_sortedL (l : List Str) : ap .sorted [.list (l.map .str)] = some (.list ((sortS l).map .str)) := by
  simp only [ap, seqOf, Option.bind_some, sortOk_str, if_true, sortS_map]
@[simp] theorem ap_sortedts (l : List Str) : ap .sorted [ts l] = some (.list ((sortS l).map .str)) := ap_sortedT l
theorem ap_sortedR (l : List (List Str)) (h : ∀ r ∈ l, r ≠ []) : ap .sorted [.list (l.map ts)] = some (.list ((sortR l).map ts)) := by
  simp only [ap, seqOf, Option.bind_some, sortOk_ts l h, if_true, sortR_map]
/-! methods -/
@[simp] theorem recv_index (l : List D) : recv .index (.tuple l) = true := rfl
@[simp] theorem recv_split (x : Str) : recv .split (.str x) = true := rfl
@[simp] theorem recv_join (x : Str) : recv .join (.str x) = true := rfl
theorem findIdx_idxOf (l : List Str) (z : Str) (h : z ∈ l) : (l.findIdx? fun y => y == z) = some (l.idxOf z) := by
  rw [List.findIdx?_eq_some_iff_findIdx_eq]
  exact ⟨by have := List.idxOf_lt_length_of_mem h; rwa [List.idxOf] at this, rfl⟩
@[simp] theorem ap_index (l : List Str) (z : Str) (h : z ∈ l) : ap .index [.tuple (l.map .str), .str z] = some (.int (l.idxOf z : Nat)) := by
  simp only [ap, strsD_map, Option.bind_some, findIdx_idxOf l z h, Option.map_some]
/-! how many different -/
theorem g_cntS_le (xs : List Str) : ∀ i, cntS xs i ≤ i
  | 0 => Nat.le_refl _
  | i + 1 => by
    have := g_cntS_le xs i
    unfold cntS
    split <;> omega
theorem cntS_full (xs : List Str) : ∀ i, i ≤ xs.length → (cntS xs i = i ↔ (xs.take i).Nodup)
  | 0, _ => by simp [cntS]
  | i + 1, h => by
    have ih := cntS_full xs i (by omega)
    have hle := g_cntS_le xs i
    have hi : i < xs.length := h
    unfold cntS
    rw [List.take_add_one, List.getElem?_eq_getElem hi, List.getD_eq_getElem?_getD, List.getElem?_eq_getElem hi]
    simp only [Option.getD_some, Option.toList_some, List.nodup_append, ← ih]
    by_cases hm : xs[i] ∈ xs.take i
    · have : ((xs.take i).any (· == xs[i])) = true := by simpa using hm
      rw [if_pos this]
      constructor
      · intro e; omega
      · rintro ⟨_, _, q⟩; exact absurd rfl (q _ hm _ (by simp))
    · have : ¬ ((xs.take i).any (· == xs[i])) = true := by simpa using hm
      rw [if_neg this]
      constructor
      · intro e
        refine ⟨by omega, by simp, fun a ha b hb => ?_⟩
        simp only [List.mem_singleton] at hb
        subst hb
        intro q; rw [q] at ha; exact hm ha
      · rintro ⟨q, _⟩; omega
theorem ap_setlen (l : List Str) (h : l.length ≤ 1000) : ap .setlen [.tuple (l.map .str)] = some (.int (cntS l l.length : Nat)) := by
  simp only [ap, strsD_map, Option.bind_some, h, if_true]
theorem cntS_nodup (l : List Str) : (((cntS l l.length : Nat) : Int) == ((l.length : Nat) : Int)) = decide l.Nodup := by
  have := cntS_full l l.length (Nat.le_refl _)
  rw [List.take_length] at this
  rw [Bool.eq_iff_iff]
  simp only [beq_iff_eq, decide_eq_true_eq, Int.natCast_inj]
  exact this
/-! texts -/
def SP : Str := " "
def SC : Str := "; "
def isLt (c : Nat) : Bool := decide (c ∈ ("abcdefghijklmnopqrstuvwxyz" : Str).cps.toList)
def isSg (c : Nat) : Bool := decide (c ∈ ("abcdefghijklmnopqrstuvwxyz0123456789" : Str).cps.toList)
def nmB (x : Str) : Bool := decide (1 ≤ x.length) && decide (x.length ≤ 8) && isLt (x.cps.toList.headD 0) && x.cps.toList.all isSg
theorem nm_len {x : Str} (h : nmB x = true) : 1 ≤ x.length ∧ x.length ≤ 8 := by simp [nmB] at h; omega
theorem sg_cases {c : Nat} (h : isSg c = true) : (97 ≤ c ∧ c ≤ 122) ∨ (48 ≤ c ∧ c ≤ 57) := by
  have e : ("abcdefghijklmnopqrstuvwxyz0123456789" : Str).cps.toList = [97, 98, 99, 100, 101, 102, 103, 104, 105, 106, 107, 108, 109, 110, 111, 112, 113, 114, 115, 116, 117, 118, 119, 120, 121, 122, 48, 49, 50, 51, 52, 53, 54, 55, 56, 57] := by decide +kernel
  simp only [isSg, e, decide_eq_true_eq, List.mem_cons, List.not_mem_nil, or_false] at h
  omega
theorem nm_sg {x : Str} (h : nmB x = true) : ∀ c ∈ x.cps.toList, (97 ≤ c ∧ c ≤ 122) ∨ (48 ≤ c ∧ c ≤ 57) := fun c hc => by
  simp only [nmB, Bool.and_eq_true, List.all_eq_true] at h
  exact sg_cases (h.2 c hc)
theorem nm_sOk {x : Str} (h : nmB x = true) : sOk x = true := by
  have h1 := nm_len h
  have h2 := nm_sg h
  simp only [sOk, PyData.strOk, Bool.and_eq_true, decide_eq_true_eq, Array.all_eq_true', LIM]
  refine ⟨fun c hc => ?_, decide_eq_true (by show _ ≤ 1000000; omega)⟩
  have := h2 c (by simpa using hc)
  omega
def txtR (row : List Str) : Str := Txt.join SP row
def txtH (rows : List (List Str)) : Str := Txt.join SC (rows.map txtR)
theorem sp_tl : SP.cps.toList = [32] := by decide +kernel
theorem sc_tl : SC.cps.toList = [59, 32] := by decide +kernel
theorem joinMem {y : Str} : ∀ {parts : List Str} {c : Nat}, c ∈ (Txt.join y parts).cps.toList → c ∈ y.cps.toList ∨ ∃ p ∈ parts, c ∈ p.cps.toList := by
  intro parts c h
  rw [TL.join_eq] at h
  induction parts with
  | nil => simp [Str.join, Str.empty] at h
  | cons p parts ih =>
    cases parts with
    | nil => exact .inr ⟨p, by simp, h⟩
    | cons q r =>
      have e : Str.join y (p :: q :: r) = p ++ y ++ Str.join y (q :: r) := rfl
      rw [e] at h
      have : c ∈ TL.tl (p ++ y ++ Str.join y (q :: r)) := h
      rw [TL.tl_append, TL.tl_append] at this
      simp only [List.mem_append] at this
      rcases this with (q1 | q1) | q1
      · exact .inr ⟨p, by simp, q1⟩
      · exact .inl q1
      · rcases ih q1 with q2 | ⟨p2, h2, h3⟩
        · exact .inl q2
        · exact .inr ⟨p2, List.mem_cons_of_mem _ h2, h3⟩
theorem split_row {row : List Str} (hne : row ≠ []) (h : ∀ x ∈ row, nmB x = true) : Txt.split (txtR row) SP = row := by
  refine TL.split_join (s := 32) (S := []) sp_tl (by decide +kernel) hne fun p hp hc => ?_
  have := nm_sg (h p hp) 32 hc
  omega
theorem split_house {rows : List (List Str)} (hne : rows ≠ []) (h : ∀ r ∈ rows, ∀ x ∈ r, nmB x = true) : Txt.split (txtH rows) SC = rows.map txtR := by
  refine TL.split_join (s := 59) (S := [32]) sc_tl (by decide +kernel) (by simpa using hne) fun p hp hc => ?_
  obtain ⟨r, hr, rfl⟩ := List.mem_map.mp hp
  rcases joinMem hc with q | ⟨x, hx, q⟩
  · rw [sp_tl] at q; simp at q
  · have := nm_sg (h r hr x hx) 59 q
    omega
theorem join_len (y : Str) (parts : List Str) : (Txt.join y parts).length ≤ (parts.map fun p => p.length).sum + parts.length * y.length := by
  rw [TL.join_eq]; exact StrLaws.join_length_le y parts
theorem sum_le {l : List Str} {n : Nat} (h : ∀ x ∈ l, x.length ≤ n) : (l.map fun (p : Str) => p.length).sum ≤ l.length * n := by
  induction l with
  | nil => simp
  | cons a l ih =>
    have h1 := h a (by simp)
    have h2 := ih fun x hx => h x (by simp [hx])
    simp only [List.map_cons, List.sum_cons, List.length_cons, Nat.succ_mul]
    omega
theorem txtR_len {row : List Str} (h : ∀ x ∈ row, nmB x = true) : (txtR row).length ≤ row.length * 9 := by
  have h1 := join_len SP row
  have h2 := sum_le (l := row) (n := 8) fun x hx => (nm_len (h x hx)).2
  have h3 : SP.length = 1 := by decide +kernel
  rw [h3] at h1
  unfold txtR; omega
theorem txtR_sOk {row : List Str} (h : ∀ x ∈ row, nmB x = true) (hl : row.length ≤ 1000) : sOk (txtR row) = true := by
  have h1 := txtR_len h
  simp only [sOk, PyData.strOk, Bool.and_eq_true, decide_eq_true_eq, Array.all_eq_true', LIM]
  refine ⟨fun c hc => ?_, decide_eq_true (by show _ ≤ 1000000; omega)⟩
  rcases joinMem (Array.mem_toList_iff.mpr hc) with q | ⟨x, hx, q⟩
  · rw [sp_tl] at q; simp at q; omega
  · have := nm_sg (h x hx) c q; omega
theorem txtH_len {rows : List (List Str)} (h : ∀ r ∈ rows, ∀ x ∈ r, nmB x = true) (hl : ∀ r ∈ rows, r.length ≤ 10) : (txtH rows).length ≤ rows.length * 92 := by
  have h1 := join_len SC (rows.map txtR)
  have h2 := sum_le (l := rows.map txtR) (n := 90) fun x hx => by
    obtain ⟨r, hr, rfl⟩ := List.mem_map.mp hx
    have := txtR_len (h r hr); have := hl r hr; omega
  have h3 : SC.length = 2 := by decide +kernel
  rw [h3] at h1
  rw [List.length_map] at h1 h2
  unfold txtH; omega
theorem txtH_sOk {rows : List (List Str)} (h : ∀ r ∈ rows, ∀ x ∈ r, nmB x = true) (hl : ∀ r ∈ rows, r.length ≤ 10) (hn : rows.length ≤ 1000) : sOk (txtH rows) = true := by
  have h1 := txtH_len h hl
  simp only [sOk, PyData.strOk, Bool.and_eq_true, decide_eq_true_eq, Array.all_eq_true', LIM]
  refine ⟨fun c hc => ?_, decide_eq_true (by show _ ≤ 1000000; omega)⟩
  rcases joinMem (Array.mem_toList_iff.mpr hc) with q | ⟨x, hx, q⟩
  · rw [sc_tl] at q; simp at q; omega
  · obtain ⟨r, hr, rfl⟩ := List.mem_map.mp hx
    rcases joinMem q with q | ⟨x, hx, q⟩
    · rw [sp_tl] at q; simp at q; omega
    · have := nm_sg (h r hr x hx) c q; omega
/-- joining by the evaluator -/
theorem ap_joinR {row : List Str} (h : ∀ x ∈ row, nmB x = true) (hl : row.length ≤ 1000) : ap .join [.str SP, .tuple (row.map .str)] = some (.str (txtR row)) := by
  have h2 := sum_le (l := row) (n := 8) fun x hx => (nm_len (h x hx)).2
  have h3 : SP.length = 1 := by decide +kernel
  simp only [ap, strsD_map, Option.bind_some]
  rw [if_pos]
  · rfl
  · rw [Bool.and_eq_true]; refine ⟨?_, txtR_sOk h hl⟩
    rw [h3]; simp only [decide_eq_true_eq]; show _ ≤ 1000000; omega
theorem ap_joinH {rows : List (List Str)} (h : ∀ r ∈ rows, ∀ x ∈ r, nmB x = true) (hl : ∀ r ∈ rows, r.length ≤ 10) (hn : rows.length ≤ 1000) : ap .join [.str SC, .list (rows.map fun r => .str (txtR r))] = some (.str (txtH rows)) := by
  have h2 := sum_le (l := rows.map txtR) (n := 90) fun x hx => by
    obtain ⟨r, hr, rfl⟩ := List.mem_map.mp hx
    have := txtR_len (h r hr); have := hl r hr; omega
  have h3 : SC.length = 2 := by decide +kernel
  have e : (rows.map fun r => PyData.str (txtR r)) = (rows.map txtR).map .str := by simp
  rw [e]
  simp only [ap, strsD_map, Option.bind_some]
  rw [if_pos]
  · rfl
  · rw [Bool.and_eq_true]; refine ⟨?_, txtH_sOk h hl hn⟩
    rw [h3]; rw [List.length_map] at h2 ⊢; simp only [decide_eq_true_eq]; show _ ≤ 1000000; omega
/-- splitting by the evaluator: any text -/
theorem split_sOk {x y : Str} (hx : sOk x = true) (hy : (y.length == 0) = false) : (Txt.split x y).all sOk = true := by
  rw [List.all_eq_true]
  intro p hp
  simp only [sOk, PyData.strOk, Bool.and_eq_true, decide_eq_true_eq, Array.all_eq_true'] at hx ⊢
  refine ⟨fun c hc => hx.1 c ?_, ?_⟩
  · have e := StrLaws.join_split x y
    rw [← e]
    have : ∀ {parts : List Str}, p ∈ parts → c ∈ (Str.join y parts).cps.toList := by
      intro parts
      induction parts with
      | nil => intro h; cases h
      | cons q r ih =>
        intro h
        cases r with
        | nil => simp only [List.mem_singleton] at h; subst h; simpa [Str.join] using hc
        | cons q2 r =>
          show c ∈ TL.tl (q ++ y ++ Str.join y (q2 :: r))
          rw [TL.tl_append, TL.tl_append]
          simp only [List.mem_append]
          rcases List.mem_cons.mp h with rfl | h
          · exact .inl (.inl (by simpa using hc))
          · exact .inr (ih h)
    have := this hp
    simpa using this
  · have := PyProof.Rows.part_short hp
    omega
theorem ap_split {x y : Str} (hx : sOk x = true) (hy : (y.length == 0) = false) : ap .split [.str x, .str y] = some (.list ((Txt.split x y).map .str)) := by
  simp only [ap]
  rw [if_pos]
  rw [Bool.and_eq_true]; exact ⟨by rw [hy]; rfl, split_sOk hx hy⟩
end M3
set_option Elab.async false
set_option linter.all false
set_option maxRecDepth 100000
/-! C0: the defs that more laws have (printed by gen.py). -/
namespace M3
open PySem
/-- accepts(claim, certificate): 0 claim, 1 certificate, 2 word, 3 looks -/ -- 0 -- k69 k70 k71 k72 k73 k74 k75 k76 k77 k79 k80 k81 k91 k92
def fn_accepts : Fn := { ps := [false, false], n := 4, own := false, kb := [0], body :=
 [.ife (.or (.not (.op (.isi 3) [.tmp 0])) (.or (.op .notin [.op .len [.tmp 0], .tup [.cst (.int 3), .cst (.int 5)]]) (.not (.op (.isi 0) [.op .ix [.tmp 0, .cst (.int 0)]]))))
   [.ret (.cst (.bool false))]
   [],
  .set 2 (.op .ix [.tmp 0, .cst (.int 0)]),
  .ife (.and (.op .eq [.op .len [.tmp 0], .cst (.int 3)]) (.op .isin [.tmp 2, .tup [.cst (.str "within"), .cst (.str "alike"), .cst (.str "apart"), .cst (.str "fewest"), .cst (.str "common"), .cst (.str "foreign")]]))
   [.ret (.call 22 [.var 0, .var 1])]
   [],
  .ife (.op .notin [.tmp 2, .ite (.op .eq [.op .len [.tmp 0], .cst (.int 3)]) (.tup [.cst (.str "fits"), .cst (.str "unfit")]) (.tup [.cst (.str "never"), .cst (.str "surely"), .cst (.str "perhaps")])])
   [.ret (.cst (.bool false))]
   [],
  .set 3 (.call 1 [.op .ix [.tmp 0, .cst (.int 1)], .op .ix [.tmp 0, .cst (.int 2)]]),
  .ife (.op .isN [.tmp 3])
   [.ret (.cst (.bool false))]
   [],
  .ife (.op .eq [.op .len [.tmp 0], .cst (.int 3)])
   [.ret (.call 34 [.var 2, .op .ix [.tmp 0, .cst (.int 1)], .var 3, .var 1])]
   [],
  .ret (.call 8 [.var 0, .var 3, .var 1])] }
/-- looks_in(things, texts): 0 things, 1 texts, 2 looks, 3 text, 4 look -/ -- 1 -- k69 k70 k71 k72 k73 k74 k75 k76 k77 k79 k80 k81 k91 k92
def fn_looks_in : Fn := { ps := [false, false], n := 5, own := false, kb := [], body :=
 [.ife (.or (.not (.call 3 [.var 0])) (.or (.not (.op (.isi 3) [.tmp 1])) (.op .gt [.op .len [.tmp 1], .glb "MOST_LOOKS" (.int 12)])))
   [.ret (.cst (.none))]
   [],
  .set 2 (.lc [3] (.name 3) .seq [.var 1] [] (.call 2 [.var 3])),
  .ife (.op .any [.lc [4] (.name 4) .seq [.var 2] [] (.op .isN [.tmp 4])])
   [.ret (.cst (.none))]
   [],
  .ret (.ite (.op .all [.lc [4] (.name 4) .seq [.var 2] [] (.call 6 [.op .ix [.tmp 4, .cst (.int 0)], .var 0])]) (.var 2) (.cst (.none)))] }
/-- look_in(text): 0 text, 1 marks, 2 menu, 3 taken, 4 passed, 5 word, 6 name, 7 mark -/ -- 2 -- k69 k70 k71 k72 k73 k74 k75 k76 k77 k79 k80 k81 k91 k92
def fn_look_in : Fn := { ps := [false], n := 8, own := false, kb := [], body :=
 [.ife (.not (.op (.isi 0) [.tmp 0]))
   [.ret (.cst (.none))]
   [],
  .set 1 (.lc [5] (.name 5) .seq [.meth .split (.var 0) [.cst (.str " ")]] [] (.tup [.slc false true (.tmp 5) (.cst .none) (.op .neg [.cst (.int 1)]), .slc true false (.tmp 5) (.op .neg [.cst (.int 1)]) (.cst .none)])),
  .set 2 (.op .tuple [.lc [6, 7] (.tup [.name 6, .name 7]) .seq [.var 1] [] (.var 6)]),
  .ife (.or (.not (.call 3 [.var 2])) (.not (.op .all [.lc [6, 7] (.tup [.name 6, .name 7]) .seq [.var 1] [] (.op .isin [.tmp 7, .tup [.cst (.str "+"), .cst (.str "-"), .cst (.str "?")]])])))
   [.ret (.cst (.none))]
   [],
  .set 3 (.op .tuple [.lc [6, 7] (.tup [.name 6, .name 7]) .seq [.var 1] [.op .eq [.tmp 7, .cst (.str "+")]] (.var 6)]),
  .set 4 (.op .tuple [.lc [6, 7] (.tup [.name 6, .name 7]) .seq [.var 1] [.op .eq [.tmp 7, .cst (.str "-")]] (.var 6)]),
  .ret (.ite (.op .lt [.op .len [.tmp 4], .op .len [.tmp 2]]) (.tup [.var 2, .var 3, .var 4]) (.cst (.none)))] }
/-- is_things(value): 0 value, 1 name -/ -- 3 -- k69 k70 k71 k72 k73 k74 k75 k76 k77 k79 k80 k81 k91 k92
def fn_is_things : Fn := { ps := [false], n := 2, own := false, kb := [], body :=
 [.ife (.or (.not (.op (.isi 3) [.tmp 0])) (.not (.chain .le .le (.cst (.int 1)) (.op .len [.tmp 0]) (.glb "MOST_THINGS" (.int 10)))))
   [.ret (.cst (.bool false))]
   [],
  .ret (.and (.op .all [.lc [1] (.name 1) .seq [.var 0] [] (.call 5 [.var 1])]) (.call 4 [.var 0]))] }
/-- is_rising(values): 0 values, 1 k -/ -- 4 -- k69 k70 k71 k72 k73 k74 k75 k76 k77 k79 k80 k81 k91 k92
def fn_is_rising : Fn := { ps := [false], n := 2, own := false, kb := [], body :=
 [.ret (.op .all [.lc [1] (.name 1) .rng1 [.op .sub [.op .len [.tmp 0], .cst (.int 1)]] [] (.op .lt [.op .ix [.tmp 0, .tmp 1], .op .ix [.tmp 0, .op .add [.tmp 1, .cst (.int 1)]]])])] }
/-- is_name(value): 0 value, 1 sign -/ -- 5 -- k69 k70 k71 k72 k73 k74 k75 k76 k77 k79 k80 k81 k91 k92
def fn_is_name : Fn := { ps := [false], n := 2, own := false, kb := [], body :=
 [.ife (.or (.not (.op (.isi 0) [.tmp 0])) (.not (.chain .le .le (.cst (.int 1)) (.op .len [.tmp 0]) (.cst (.int 8)))))
   [.ret (.cst (.bool false))]
   [],
  .ret (.and (.op .isin [.op .ix [.tmp 0, .cst (.int 0)], .glb "LETTERS" (.str "abcdefghijklmnopqrstuvwxyz")]) (.op .all [.lc [1] (.name 1) .seq [.var 0] [] (.op .isin [.tmp 1, .glb "SIGNS" (.str "abcdefghijklmnopqrstuvwxyz0123456789")])]))] }
/-- is_menu(value, things): 0 value, 1 things, 2 thing -/ -- 6 -- k69 k70 k71 k72 k73 k74 k75 k76 k77 k79 k80 k81 k91 k92
def fn_is_menu : Fn := { ps := [false, false], n := 3, own := false, kb := [], body :=
 [.ife (.or (.not (.op (.isi 3) [.tmp 0])) (.op .eq [.op .len [.tmp 0], .cst (.int 0)]))
   [.ret (.cst (.bool false))]
   [],
  .ret (.and (.op .all [.lc [2] (.name 2) .seq [.var 0] [] (.call 7 [.var 2, .var 1])]) (.call 4 [.var 0]))] }
/-- is_among(value, things): 0 value, 1 things -/ -- 7 -- k69 k70 k71 k72 k73 k74 k75 k76 k77 k79 k80 k81 k91 k92
def fn_is_among : Fn := { ps := [false, false], n := 2, own := false, kb := [], body :=
 [.ret (.and (.op (.isi 0) [.tmp 0]) (.op .isin [.tmp 0, .tmp 1]))] }
/-- shows_answer(claim, looks, certificate): 0 claim, 1 looks, 2 certificate, 3 word, 4 things, 5 texts, 6 menu, 7 thing, 8 first, 9 second, 10 people -/ -- 8 -- k69 k70 k71 k72 k73 k74 k75 k76 k77 k79 k80 k81 k91 k92
def fn_shows_answer : Fn := { ps := [false, false, false], n := 11, own := false, kb := [], body :=
 [.unpack [3, 4, 5, 6, 7] (.var 0),
  .ife (.or (.not (.call 6 [.var 6, .var 4])) (.not (.call 7 [.var 7, .var 6])))
   [.ret (.cst (.bool false))]
   [],
  .ife (.op .eq [.tmp 3, .cst (.str "never")])
   [.ret (.call 9 [.var 2, .var 4, .op .add [.call 12 [.var 1], .lst [.tup [.var 6, .call 15 [.var 6, .var 7]]]]])]
   [],
  .ife (.op .eq [.tmp 3, .cst (.str "surely")])
   [.ife (.op .eq [.op .len [.tmp 6], .cst (.int 1)])
     [.ret (.op .isN [.tmp 2])]
     [],
    .ret (.call 10 [.var 2, .var 4, .var 1, .lst [.tup [.var 6, .tup [.var 7]]]])]
   [],
  .ife (.or (.not (.call 13 [.var 2, .cst (.int 2)])) (.not (.op .all [.lc [10] (.name 10) .seq [.var 2] [] (.call 20 [.var 10, .var 4, .var 1])])))
   [.ret (.cst (.bool false))]
   [],
  .unpack [8, 9] (.lc [10] (.name 10) .seq [.var 2] [] (.call 16 [.var 10, .var 4])),
  .ret (.and (.call 18 [.var 8, .var 6, .var 7]) (.not (.call 18 [.var 9, .var 6, .var 7])))] }
/-- is_bar(value, things, pairs): 0 value, 1 things, 2 pairs, 3 rows, 4 menu, 5 passed, 6 thing -/ -- 9 -- k69 k70 k71 k72 k73 k74 k75 k76 k77 k79 k80 k81 k91 k92
def fn_is_bar : Fn := { ps := [false, false, false], n := 7, own := false, kb := [], body :=
 [.ife (.not (.call 6 [.var 0, .var 1]))
   [.ret (.cst (.bool false))]
   [],
  .set 3 (.lc [4, 5] (.tup [.name 4, .name 5]) .seq [.var 2] [.op .all [.lc [6] (.name 6) .seq [.var 4] [] (.op .isin [.tmp 6, .tmp 0])]] (.var 5)),
  .ret (.op .all [.lc [6] (.name 6) .seq [.var 0] [] (.op .any [.lc [5] (.name 5) .seq [.var 3] [] (.op .isin [.tmp 6, .tmp 5])])])] }
/-- is_barred_need(value, things, looks, more): 0 value, 1 things, 2 looks, 3 more, 4 pairs -/ -- 10 -- k69 k70 k71 k72 k73 k74 k75 k76 k77 k79 k80 k81 k91 k92
def fn_is_barred_need : Fn := { ps := [false, false, false, false], n := 5, own := false, kb := [], body :=
 [.ife (.not (.call 13 [.var 0, .cst (.int 2)]))
   [.ret (.cst (.bool false))]
   [],
  .set 4 (.call 11 [.var 2, .op .ix [.tmp 0, .cst (.int 0)]]),
  .ret (.and (.op .notN [.tmp 4]) (.call 9 [.op .ix [.tmp 0, .cst (.int 1)], .var 1, .op .add [.tmp 4, .tmp 3]]))] }
/-- sharpened(looks, need): 0 looks, 1 need, 2 menu, 3 taken, 4 passed -/ -- 11 -- k69 k70 k71 k72 k73 k74 k75 k76 k77 k79 k80 k81 k91 k92
def fn_sharpened : Fn := { ps := [false, false], n := 5, own := false, kb := [], body :=
 [.ife (.op .isN [.tmp 1])
   [.ret (.ite (.op .all [.lc [2, 3, 4] (.tup [.name 2, .name 3, .name 4]) .seq [.var 0] [] (.op .eq [.tmp 3, .tup []])]) (.call 12 [.var 0]) (.cst (.none)))]
   [],
  .ife (.or (.not (.call 13 [.var 1, .cst (.int 2)])) (.or (.not (.call 14 [.op .ix [.tmp 1, .cst (.int 0)]])) (.not (.chain .le .lt (.cst (.int 0)) (.op .ix [.tmp 1, .cst (.int 0)]) (.op .len [.tmp 0])))))
   [.ret (.cst (.none))]
   [],
  .unpack [2, 3, 4] (.op .ix [.tmp 0, .op .ix [.tmp 1, .cst (.int 0)]]),
  .ife (.not (.call 7 [.op .ix [.tmp 1, .cst (.int 1)], .var 3]))
   [.ret (.cst (.none))]
   [],
  .ret (.op .add [.call 12 [.var 0], .lst [.tup [.var 2, .call 15 [.var 2, .op .ix [.tmp 1, .cst (.int 1)]]]]])] }
/-- passing(looks): 0 looks, 1 menu, 2 taken, 3 passed -/ -- 12 -- k69 k70 k71 k72 k73 k74 k75 k76 k77 k79 k80 k81 k91 k92
def fn_passing : Fn := { ps := [false], n := 4, own := false, kb := [], body :=
 [.ret (.lc [1, 2, 3] (.tup [.name 1, .name 2, .name 3]) .seq [.var 0] [] (.tup [.var 1, .var 3]))] }
/-- is_row_of(value, many): 0 value, 1 many -/ -- 13 -- k69 k70 k71 k72 k73 k74 k75 k76 k77 k79 k80 k81 k91 k92
def fn_is_row_of : Fn := { ps := [false, false], n := 2, own := false, kb := [], body :=
 [.ret (.and (.op (.isi 3) [.tmp 0]) (.op .eq [.op .len [.tmp 0], .tmp 1]))] }
/-- is_integer(value): 0 value -/ -- 14 -- k69 k70 k71 k72 k73 k74 k75 k76 k77 k79 k80 k81 k91 k92
def fn_is_integer : Fn := { ps := [false], n := 1, own := false, kb := [], body :=
 [.ret (.and (.op (.isi 1) [.tmp 0]) (.not (.op (.isi 2) [.tmp 0])))] }
/-- others(menu, thing): 0 menu, 1 thing, 2 other -/ -- 15 -- k69 k70 k71 k72 k73 k74 k75 k76 k77 k79 k80 k81 k91 k92
def fn_others : Fn := { ps := [false, false], n := 3, own := false, kb := [], body :=
 [.ret (.op .tuple [.lc [2] (.name 2) .seq [.var 0] [.op .ne [.tmp 2, .tmp 1]] (.var 2)])] }
/-- people_in(value, things): 0 value, 1 things, 2 rows, 3 text, 4 row -/ -- 16 -- k69 k70 k71 k72 k73 k74 k75 k76 k77 k79 k80 k81 k91 k92
def fn_people_in : Fn := { ps := [false, false], n := 5, own := false, kb := [], body :=
 [.ife (.or (.not (.op (.isi 3) [.tmp 0])) (.not (.chain .le .le (.cst (.int 1)) (.op .len [.tmp 0]) (.glb "MOST_TEXTS" (.int 130)))))
   [.ret (.cst (.none))]
   [],
  .set 2 (.lc [3] (.name 3) .seq [.var 0] [] (.call 17 [.var 3])),
  .ife (.op .any [.lc [4] (.name 4) .seq [.var 2] [] (.or (.op .isN [.tmp 4]) (.op .ne [.op .sorted [.tmp 4], .op .list [.tmp 1]]))])
   [.ret (.cst (.none))]
   [],
  .ret (.var 2)] }
/-- row_in(text): 0 text, 1 row, 2 name -/ -- 17 -- k69 k70 k71 k72 k73 k74 k75 k76 k77 k79 k80 k81 k91 k92
def fn_row_in : Fn := { ps := [false], n := 3, own := false, kb := [], body :=
 [.ife (.not (.op (.isi 0) [.tmp 0]))
   [.ret (.cst (.none))]
   [],
  .set 1 (.op .tuple [.meth .split (.var 0) [.cst (.str " ")]]),
  .ife (.or (.op .gt [.op .len [.tmp 1], .glb "MOST_THINGS" (.int 10)]) (.not (.op .all [.lc [2] (.name 2) .seq [.var 1] [] (.call 5 [.var 2])])))
   [.ret (.cst (.none))]
   [],
  .ret (.ite (.op .eq [.op .setlen [.tmp 1], .op .len [.tmp 1]]) (.var 1) (.cst (.none)))] }
/-- takes(rows, menu, thing): 0 rows, 1 menu, 2 thing, 3 row -/ -- 18 -- k69 k70 k71 k72 k73 k74 k75 k76 k77 k79 k80 k81 k91 k92
def fn_takes : Fn := { ps := [false, false, false], n := 4, own := false, kb := [], body :=
 [.ret (.op .isin [.tmp 2, .lc [3] (.name 3) .seq [.var 0] [] (.call 19 [.var 3, .var 1])])] }
/-- best_in(row, menu): 0 row, 1 menu, 2 thing -/ -- 19 -- k69 k70 k71 k72 k73 k74 k75 k76 k77 k79 k80 k81 k91 k92
def fn_best_in : Fn := { ps := [false, false], n := 3, own := false, kb := [], body :=
 [.ret (.op .ix [.lc [2] (.name 2) .seq [.var 0] [.op .isin [.tmp 2, .tmp 1]] (.var 2), .cst (.int 0)])] }
/-- fit(people, things, looks): 0 people, 1 things, 2 looks, 3 rows, 4 look -/ -- 20 -- k69 k70 k71 k72 k73 k74 k75 k76 k77 k79 k80 k81 k91 k92
def fn_fit : Fn := { ps := [false, false, false], n := 5, own := false, kb := [], body :=
 [.set 3 (.call 16 [.var 0, .var 1]),
  .ret (.and (.op .notN [.tmp 3]) (.op .all [.lc [4] (.name 4) .seq [.var 2] [] (.call 21 [.var 3, .var 4])]))] }
/-- has_look(rows, look): 0 rows, 1 look, 2 best, 3 menu, 4 taken, 5 passed, 6 row, 7 thing -/ -- 21 -- k69 k70 k71 k72 k73 k74 k75 k76 k77 k79 k80 k81 k91 k92
def fn_has_look : Fn := { ps := [false, false], n := 8, own := false, kb := [], body :=
 [.unpack [3, 4, 5] (.var 1),
  .set 2 (.lc [6] (.name 6) .seq [.var 0] [] (.call 19 [.var 6, .var 3])),
  .ret (.and (.op .all [.lc [7] (.name 7) .seq [.var 4] [] (.op .isin [.tmp 7, .tmp 2])]) (.not (.op .any [.lc [7] (.name 7) .seq [.var 5] [] (.op .isin [.tmp 7, .tmp 2])])))] }
/-- shows_houses(claim, certificate): 0 claim, 1 certificate, 2 other, 3 word, 4 rows -/ -- 22 -- k69 k70 k71 k72 k73 k74 k75 k76 k77 k79 k80 k81 k91 k92
def fn_shows_houses : Fn := { ps := [false, false], n := 5, own := false, kb := [], body :=
 [.par [(3, false), (4, false)] [.op .ix [.tmp 0, .cst (.int 0)], .call 23 [.op .ix [.tmp 0, .cst (.int 1)]]],
  .ife (.op .isN [.tmp 4])
   [.ret (.cst (.bool false))]
   [],
  .ife (.op .eq [.tmp 3, .cst (.str "fewest")])
   [.ret (.call 25 [.var 4, .op .ix [.tmp 0, .cst (.int 2)], .var 1])]
   [],
  .set 2 (.call 23 [.op .ix [.tmp 0, .cst (.int 2)]]),
  .ife (.or (.op .isN [.tmp 2]) (.op .ne [.op .sorted [.op .ix [.tmp 2, .cst (.int 0)]], .op .sorted [.op .ix [.tmp 4, .cst (.int 0)]]]))
   [.ret (.cst (.bool false))]
   [],
  .ife (.op .eq [.tmp 3, .cst (.str "within")])
   [.ret (.call 29 [.var 1, .var 4, .var 2])]
   [],
  .ife (.op .eq [.tmp 3, .cst (.str "alike")])
   [.ret (.call 28 [.var 1, .var 4, .var 2])]
   [],
  .ife (.op .eq [.tmp 3, .cst (.str "common")])
   [.ret (.call 33 [.var 4, .var 2, .var 1])]
   [],
  .ret (.call 24 [.var 3, .var 4, .var 2, .var 1])] }
/-- rows_in(text): 0 text, 1 rows, 2 piece, 3 row -/ -- 23 -- k69 k70 k71 k72 k73 k74 k75 k76 k77 k79 k80 k81 k91 k92
def fn_rows_in : Fn := { ps := [false], n := 4, own := false, kb := [], body :=
 [.ife (.not (.op (.isi 0) [.tmp 0]))
   [.ret (.cst (.none))]
   [],
  .set 1 (.lc [2] (.name 2) .seq [.meth .split (.var 0) [.cst (.str "; ")]] [] (.call 17 [.var 2])),
  .ife (.or (.op .gt [.op .len [.tmp 1], .glb "MOST_PEOPLE" (.int 24)]) (.op .any [.lc [3] (.name 3) .seq [.var 1] [] (.op .isN [.tmp 3])]))
   [.ret (.cst (.none))]
   [],
  .ife (.or (.not (.call 4 [.var 1])) (.op .any [.lc [3] (.name 3) .seq [.var 1] [] (.op .ne [.op .sorted [.tmp 3], .op .sorted [.op .ix [.tmp 1, .cst (.int 0)]]])]))
   [.ret (.cst (.none))]
   [],
  .ret (.var 1)] }
/-- shows_parted(word, one, other, certificate): 0 word, 1 one, 2 other, 3 certificate, 4 things, 5 menu, 6 thing -/ -- 24 -- k69 k70 k71 k72 k73 k74 k75 k76 k77 k79 k80 k81 k91 k92
def fn_shows_parted : Fn := { ps := [false, false, false, false], n := 7, own := false, kb := [], body :=
 [.set 4 (.op .sorted [.op .ix [.tmp 1, .cst (.int 0)]]),
  .ife (.op .eq [.tmp 0, .cst (.str "foreign")])
   [.ret (.and (.call 6 [.var 3, .var 4]) (.not (.op .any [.lc [6] (.name 6) .seq [.var 3] [] (.and (.call 18 [.var 1, .var 3, .var 6]) (.call 18 [.var 2, .var 3, .var 6]))])))]
   [],
  .ife (.or (.not (.call 13 [.var 3, .cst (.int 2)])) (.not (.call 6 [.op .ix [.tmp 3, .cst (.int 0)], .var 4])))
   [.ret (.cst (.bool false))]
   [],
  .unpack [5, 6] (.var 3),
  .ret (.and (.call 7 [.var 6, .var 5]) (.and (.call 18 [.var 1, .var 5, .var 6]) (.not (.call 18 [.var 2, .var 5, .var 6]))))] }
/-- shows_fewest(rows, number, certificate): 0 rows, 1 number, 2 certificate, 3 fewest, 4 loose, 5 crest -/ -- 25 -- k69 k70 k71 k72 k73 k74 k75 k76 k77 k79 k80 k81 k91 k92
def fn_shows_fewest : Fn := { ps := [false, false, false], n := 6, own := false, kb := [], body :=
 [.ife (.or (.not (.call 14 [.var 1])) (.not (.call 13 [.var 2, .cst (.int 3)])))
   [.ret (.cst (.bool false))]
   [],
  .par [(3, false), (4, false)] [.call 23 [.op .ix [.tmp 2, .cst (.int 0)]], .op .ix [.tmp 2, .cst (.int 2)]],
  .ife (.or (.op .isN [.tmp 3]) (.or (.op .ne [.op .len [.tmp 3], .tmp 1]) (.op .ne [.op .sorted [.op .ix [.tmp 3, .cst (.int 0)]], .op .sorted [.op .ix [.tmp 0, .cst (.int 0)]]])))
   [.ret (.cst (.bool false))]
   [],
  .ife (.or (.not (.call 28 [.op .ix [.tmp 2, .cst (.int 1)], .var 0, .var 3])) (.not (.call 13 [.var 4, .var 1])))
   [.ret (.cst (.bool false))]
   [],
  .ret (.and (.op .all [.lc [5] (.name 5) .seq [.var 4] [] (.call 32 [.var 5, .var 0])]) (.and (.call 4 [.var 4]) (.call 26 [.var 4])))] }
/-- are_loose(crests): 0 crests, 1 pairs, 2 k, 3 one, 4 j, 5 other -/ -- 26 -- k69 k70 k71 k72 k73 k74 k75 k76 k77 k79 k80 k81 k91 k92
def fn_are_loose : Fn := { ps := [false], n := 6, own := false, kb := [], body :=
 [.set 1 (.lc2 [2, 3, 4, 5] [4, 5] (.tup [.name 2, .name 3]) .enum [.var 0] [] (.tup [.name 4, .name 5]) .enum [.var 0] [.op .ne [.tmp 4, .tmp 2]] (.tup [.op .ix [.tmp 3, .cst (.int 1)], .op .ix [.tmp 5, .cst (.int 1)]])),
  .ret (.not (.op .any [.lc [3, 5] (.tup [.name 3, .name 5]) .seq [.var 1] [] (.call 27 [.var 3, .var 5])]))] }
/-- is_part(one, other): 0 one, 1 other, 2 thing -/ -- 27 -- k69 k70 k71 k72 k73 k74 k75 k76 k77 k79 k80 k81 k91 k92
def fn_is_part : Fn := { ps := [false, false], n := 3, own := false, kb := [], body :=
 [.ret (.op .all [.lc [2] (.name 2) .seq [.var 0] [] (.op .isin [.tmp 2, .tmp 1])])] }
/-- covers_both(value, one, other): 0 value, 1 one, 2 other -/ -- 28 -- k69 k70 k71 k72 k73 k74 k75 k76 k77 k79 k80 k81 k91 k92
def fn_covers_both : Fn := { ps := [false, false, false], n := 3, own := false, kb := [], body :=
 [.ret (.and (.call 13 [.var 0, .cst (.int 2)]) (.and (.call 29 [.op .ix [.tmp 0, .cst (.int 0)], .var 1, .var 2]) (.call 29 [.op .ix [.tmp 0, .cst (.int 1)], .var 2, .var 1])))] }
/-- covers_rows(value, rows, others_rows): 0 value, 1 rows, 2 others_rows, 3 one, 4 row -/ -- 29 -- k69 k70 k71 k72 k73 k74 k75 k76 k77 k79 k80 k81 k91 k92
def fn_covers_rows : Fn := { ps := [false, false, false], n := 5, own := false, kb := [], body :=
 [.ife (.not (.call 13 [.var 0, .op .len [.tmp 1]]))
   [.ret (.cst (.bool false))]
   [],
  .ret (.op .all [.lc [3, 4] (.tup [.name 3, .name 4]) .zip [.var 0, .var 1] [] (.call 30 [.var 3, .var 4, .var 2])])] }
/-- covers_row(value, row, rows): 0 value, 1 row, 2 rows, 3 pairs, 4 k, 5 thing, 6 other, 7 more -/ -- 30 -- k69 k70 k71 k72 k73 k74 k75 k76 k77 k79 k80 k81 k91 k92
def fn_covers_row : Fn := { ps := [false, false, false], n := 8, own := false, kb := [], body :=
 [.ife (.or (.not (.call 13 [.var 0, .op .len [.tmp 1]])) (.not (.op .all [.lc [4] (.name 4) .seq [.var 0] [] (.and (.call 14 [.var 4]) (.chain .le .lt (.cst (.int 0)) (.var 4) (.op .len [.tmp 2])))])))
   [.ret (.cst (.bool false))]
   [],
  .set 3 (.lc [4, 5] (.tup [.name 4, .name 5]) .enum [.var 1] [] (.tup [.op .ix [.tmp 2, .op .ix [.tmp 0, .tmp 4]], .var 5, .slc true false (.tmp 1) (.op .add [.tmp 4, .cst (.int 1)]) (.cst .none)])),
  .ret (.op .all [.lc [6, 5, 7] (.tup [.name 6, .name 5, .name 7]) .seq [.var 3] [] (.call 31 [.var 7, .var 6, .var 5])])] }
/-- is_below(things, row, thing): 0 things, 1 row, 2 thing, 3 behind, 4 other -/ -- 31 -- k69 k70 k71 k72 k73 k74 k75 k76 k77 k79 k80 k81 k91 k92
def fn_is_below : Fn := { ps := [false, false, false], n := 5, own := false, kb := [], body :=
 [.set 3 (.slc true false (.tmp 1) (.op .add [.meth .index (.var 1) [.tmp 2], .cst (.int 1)]) (.cst .none)),
  .ret (.op .all [.lc [4] (.name 4) .seq [.var 0] [] (.op .isin [.tmp 4, .tmp 3])])] }
/-- is_crest(value, rows): 0 value, 1 rows, 2 sets, 3 row, 4 one -/ -- 32 -- k69 k70 k71 k72 k73 k74 k75 k76 k77 k79 k80 k81 k91 k92
def fn_is_crest : Fn := { ps := [false, false], n := 5, own := false, kb := [], body :=
 [.ife (.or (.not (.call 13 [.var 0, .cst (.int 2)])) (.not (.call 7 [.op .ix [.tmp 0, .cst (.int 0)], .op .ix [.tmp 1, .cst (.int 0)]])))
   [.ret (.cst (.bool false))]
   [],
  .set 2 (.lc [3] (.name 3) .seq [.var 1] [] (.op .tuple [.op .sorted [.slc true false (.tmp 3) (.op .add [.meth .index (.var 3) [.op .ix [.tmp 0, .cst (.int 0)]], .cst (.int 1)]) (.cst .none)]])),
  .ife (.op .notin [.op .ix [.tmp 0, .cst (.int 1)], .tmp 2])
   [.ret (.cst (.bool false))]
   [],
  .ret (.not (.op .any [.lc [4] (.name 4) .seq [.var 2] [] (.and (.op .ne [.tmp 4, .op .ix [.tmp 0, .cst (.int 1)]]) (.call 27 [.op .ix [.tmp 0, .cst (.int 1)], .var 4]))]))] }
/-- shows_common(one, other, certificate): 0 one, 1 other, 2 certificate, 3 row -/ -- 33 -- k69 k70 k71 k72 k73 k74 k75 k76 k77 k79 k80 k81 k91 k92
def fn_shows_common : Fn := { ps := [false, false, false], n := 4, own := false, kb := [], body :=
 [.ife (.not (.call 13 [.var 2, .cst (.int 3)]))
   [.ret (.cst (.bool false))]
   [],
  .set 3 (.call 17 [.op .ix [.tmp 2, .cst (.int 0)]]),
  .ife (.or (.op .isN [.tmp 3]) (.op .ne [.op .sorted [.tmp 3], .op .sorted [.op .ix [.tmp 0, .cst (.int 0)]]]))
   [.ret (.cst (.bool false))]
   [],
  .ret (.and (.call 30 [.op .ix [.tmp 2, .cst (.int 1)], .var 3, .var 0]) (.call 30 [.op .ix [.tmp 2, .cst (.int 2)], .var 3, .var 1]))] }
/-- shows_looks(word, things, looks, certificate): 0 word, 1 things, 2 looks, 3 certificate -/ -- 34 -- k69 k70 k71 k72 k73 k74 k75 k76 k77 k79 k80 k81 k91 k92
def fn_shows_looks : Fn := { ps := [false, false, false, false], n := 4, own := false, kb := [], body :=
 [.ife (.op .eq [.tmp 0, .cst (.str "fits")])
   [.ret (.call 20 [.var 3, .var 1, .var 2])]
   [],
  .ret (.call 10 [.var 3, .var 1, .var 2, .lst []])] }
/-- _law_names(_law_pot_here, _law_many): 0 _law_pot_here, 1 _law_many, 2 _law_k, 3 _law_signs, 4 _law_found, 5 _law_name, 6 _law_turn, 7 _law_spare, 8 _law_sign -/ -- k69 k70 k71 k72 k73 k74 k75 k76 k77 k79 k80 k81
def fn__law_names (i_draw : Nat) : Fn := { ps := [true, false], n := 9, own := false, kb := [], body :=
 [.par [(3, false), (4, true)] [.cst (.str "abcdefghijklmnopqrstuvwxyz0123456789"), .lst []],
  .for_ (.name 2) .rng1 [.tmp 1]
   [.set 5 (.op .ix [.tmp 3, .call i_draw [.tmp 0, .cst (.int 26)]]),
    .for_ (.name 6) .rng1 [.op .ix [.lst [.cst (.int 0), .cst (.int 0), .cst (.int 1), .cst (.int 2), .cst (.int 7)], .call i_draw [.tmp 0, .cst (.int 5)]]]
     [.set 5 (.op .add [.tmp 5, .op .ix [.tmp 3, .call i_draw [.tmp 0, .cst (.int 36)]]])],
    .set 7 (.lc [8] (.name 8) .seq [.cst (.str "abcdefghijklm")] [.op .notin [.tmp 8, .tmp 4]] (.var 8)),
    .app 4 (.ite (.op .isin [.tmp 5, .tmp 4]) (.op .ix [.tmp 7, .cst (.int 0)]) (.var 5))],
  .ret (.op .tuple [.op .sorted [.tmp 4]])] }
/-- _law_draw(_law_pot_here, _law_many): 0 _law_pot_here, 1 _law_many, 2 _law_state, 3 _law_digit -/ -- k69 k70 k71 k72 k73 k74 k75 k76 k77 k79 k80 k81
def fn__law_draw : Fn := { ps := [true, false], n := 4, own := false, kb := [], body :=
 [.setIx 0 (.cst (.int 2)) (.op .add [.op .ix [.tmp 0, .cst (.int 2)], .cst (.int 1)]),
  .set 2 (.op .add [.op .add [.op .mul [.op .ix [.tmp 0, .cst (.int 1)], .cst (.int 2691343689449507681)], .op .mul [.cst (.int 977), .op .ix [.tmp 0, .cst (.int 2)]]], .cst (.int 3202034522624059)]),
  .setIx 0 (.cst (.int 1)) (.op .mod [.op .int [.tmp 2], .cst (.int 2305843009213693951)]),
  .ife (.op .gt [.op .ix [.tmp 0, .cst (.int 0)], .cst (.int 0)])
   [.divm 0 (.cst (.int 0)) 3 (.op .ix [.tmp 0, .cst (.int 0)]) (.tmp 1),
    .ret (.var 3)]
   [],
  .ret (.op .mod [.op .int [.op .fdiv [.op .mul [.op .fdiv [.op .ix [.tmp 0, .cst (.int 1)], .cst (.int 134217728)], .cst (.int 51749)], .cst (.int 1024)]], .tmp 1])] }
/-- _law_draw(_law_purse_here, _law_many): 0 _law_purse_here, 1 _law_many, 2 _law_digit -/ -- k91 k92
def fn__law_draw_2 : Fn := { ps := [true, false], n := 3, own := false, kb := [], body :=
 [.ife (.op .gt [.op .ix [.tmp 0, .cst (.int 0)], .cst (.int 0)])
   [.divm 0 (.cst (.int 0)) 2 (.op .ix [.tmp 0, .cst (.int 0)]) (.tmp 1),
    .ret (.var 2)]
   [],
  .setIx 0 (.cst (.int 1)) (.op .mod [.op .int [.op .add [.op .mul [.op .ix [.tmp 0, .cst (.int 1)], .cst (.int 69621)], .cst (.int 40503)]], .cst (.int 2147483647)]),
  .ret (.op .mod [.op .int [.op .fdiv [.op .ix [.tmp 0, .cst (.int 1)], .cst (.int 1024)]], .tmp 1])] }
/-- _law_pot(_law_script, _law_k): 0 _law_script, 1 _law_k, 2 _law_cell, 3 _law_digits, 4 _law_other -/ -- k69 k70 k71 k72 k73 k74 k75 k76 k77 k79 k80 k81
def fn__law_pot : Fn := { ps := [false, false], n := 5, own := true, kb := [], body :=
 [.set 2 (.ite (.op .lt [.tmp 1, .op .len [.tmp 0]]) (.op .ix [.tmp 0, .tmp 1]) (.op .add [.op .mul [.cst (.int 1009), .tmp 1], .cst (.int 31)])),
  .ife (.op .ge [.tmp 1, .op .len [.tmp 0]])
   [.for_ (.name 4) .seq [.slc false true (.tmp 0) (.cst .none) (.cst (.int 3))]
     [.set 2 (.op .mod [.op .int [.op .add [.op .mul [.tmp 2, .cst (.int 92821)], .tmp 4]], .cst (.int 2305843009213693951)])]]
   [],
  .set 3 (.ite (.op .ge [.op .abs [.tmp 2], .op .pow [.cst (.int 10), .cst (.int 18)]]) (.op .abs [.tmp 2]) (.cst (.int 0))),
  .retO (.lst [.var 3, .op .mod [.op .int [.op .add [.op .add [.op .mul [.tmp 2, .cst (.int 3935559000370003843)], .op .mul [.cst (.int 691), .tmp 1]], .cst (.int 26)]], .cst (.int 2305843009213693951)], .cst (.int 0)])] }
/-- _law_ascending(_law_rows_here): 0 _law_rows_here, 1 _law_found, 2 _law_row -/ -- k69 k70 k71 k72 k73 k74 k75 k76 k79 k80 k81
def fn__law_ascending : Fn := { ps := [false], n := 3, own := false, kb := [], body :=
 [.setO 1 (.lst []),
  .for_ (.name 2) .seq [.op .sorted [.tmp 0]]
   [.ife (.op .notin [.tmp 2, .tmp 1])
     [.app 1 (.var 2)]
     []],
  .ret (.var 1)] }
/-- _law_shuffled(_law_pot_here, _law_things_here): 0 _law_pot_here, 1 _law_things_here, 2 _law_turn, 3 _law_left, 4 _law_row -/ -- k69 k70 k71 k72 k73 k74 k75 k76 k79 k80 k81
def fn__law_shuffled (i_draw : Nat) : Fn := { ps := [true, false], n := 5, own := false, kb := [], body :=
 [.par [(3, true), (4, true)] [.op .list [.tmp 1], .lst []],
  .for_ (.name 2) .rng1 [.op .len [.tmp 1]]
   [.app 4 (.pop 3 (.call i_draw [.tmp 0, .op .len [.tmp 3]]))],
  .ret (.op .tuple [.tmp 4])] }
/-- _law_taken(_law_rows_here, _law_menu_here): 0 _law_rows_here, 1 _law_menu_here, 2 _law_best, 3 _law_row, 4 _law_thing -/ -- k69 k70 k71 k72 k73 k74 k75 k76 k79 k80 k81
def fn__law_taken : Fn := { ps := [false, false], n := 5, own := false, kb := [], body :=
 [.set 2 (.lc [3] (.name 3) .seq [.var 0] [] (.op .ix [.lc [4] (.name 4) .seq [.var 3] [.op .isin [.tmp 4, .tmp 1]] (.var 4), .cst (.int 0)])),
  .ret (.op .tuple [.lc [4] (.name 4) .seq [.var 1] [.op .isin [.tmp 4, .tmp 2]] (.var 4)])] }
/-- _law_taken(_law_rows, _law_menu): 0 _law_rows, 1 _law_menu, 2 _law_best_here, 3 _law_row, 4 _law_thing -/ -- k91 k92
def fn__law_taken_2 (i_best : Nat) : Fn := { ps := [false, false], n := 5, own := false, kb := [], body :=
 [.set 2 (.lc [3] (.name 3) .seq [.var 0] [] (.call i_best [.var 3, .var 1])),
  .ret (.op .tuple [.lc [4] (.name 4) .seq [.var 1] [.op .isin [.tmp 4, .tmp 2]] (.var 4)])] }
/-- _law_rows(_law_pot_here, _law_things_here, _law_most): 0 _law_pot_here, 1 _law_things_here, 2 _law_most, 3 _law_turn -/ -- k69 k70 k71 k72 k73 k74 k76 k79 k80 k81
def fn__law_rows (i_draw : Nat) (i_shuffled : Nat) (i_ascending : Nat) : Fn := { ps := [true, false, false], n := 4, own := false, kb := [], body :=
 [.ret (.call i_ascending [.lc [3] (.name 3) .rng1 [.op .add [.cst (.int 1), .call i_draw [.tmp 0, .var 2]]] [] (.call i_shuffled [.tmp 0, .var 1])])] }
/-- _law_told(_law_asked, _law_paper, _law_due): 0 _law_asked, 1 _law_paper, 2 _law_due -/ -- k69 k70 k71 k72 k73 k74 k75 k76 k77
def fn__law_told : Fn := { ps := [false, false, false], n := 3, own := false, kb := [], body :=
 [.ret (.op .eq [.op .repr [.lst [.call 0 [.var 0, .var 1], .call 0 [.var 0, .var 1]]], .op .repr [.lst [.var 2, .var 2]]])] }
/-- _law_menu(_law_pot_here, _law_things_here): 0 _law_pot_here, 1 _law_things_here, 2 _law_k, 3 _law_way, 4 _law_at, 5 _law_kept -/ -- k69 k70 k71 k72 k74 k76 k79 k80
def fn__law_menu (i_draw : Nat) : Fn := { ps := [true, false], n := 6, own := false, kb := [], body :=
 [.par [(3, false), (4, false), (5, true)] [.call i_draw [.tmp 0, .cst (.int 4)], .call i_draw [.tmp 0, .op .len [.tmp 1]], .lst []],
  .for_ (.name 2) .rng1 [.op .len [.tmp 1]]
   [.ife (.or (.op .eq [.call i_draw [.tmp 0, .cst (.int 2)], .cst (.int 0)]) (.op .eq [.tmp 2, .tmp 4]))
     [.app 5 (.op .ix [.tmp 1, .tmp 2])]
     []],
  .ret (.op .ix [.lst [.tup [.op .ix [.tmp 1, .tmp 4]], .var 1, .op .tuple [.tmp 5], .op .tuple [.tmp 5]], .tmp 3])] }
/-- _law_things(_law_pot_here): 0 _law_pot_here -/ -- k69 k70 k71 k72 k73 k74 k76
def fn__law_things (i_draw : Nat) (i_names : Nat) : Fn := { ps := [true], n := 1, own := false, kb := [], body :=
 [.ret (.call i_names [.tmp 0, .op .add [.cst (.int 1), .call i_draw [.tmp 0, .op .ix [.lst [.cst (.int 4), .cst (.int 4), .cst (.int 10)], .call i_draw [.tmp 0, .cst (.int 3)]]]]])] }
/-- _law_things(_law_purse_here, _law_many): 0 _law_purse_here, 1 _law_many, 2 _law_pool, 3 _law_found, 4 _law_turn -/ -- k91 k92
def fn__law_things_2 (i_draw : Nat) : Fn := { ps := [true, false], n := 5, own := false, kb := [], body :=
 [.setO 2 (.lst [.cst (.str "a"), .cst (.str "a0"), .cst (.str "aa"), .cst (.str "ab"), .cst (.str "b"), .cst (.str "b9"), .cst (.str "ba"), .cst (.str "c"), .cst (.str "d"), .cst (.str "k1"), .cst (.str "q"), .cst (.str "zz"), .cst (.str "zzzzzzzz")]),
  .setO 3 (.lst []),
  .for_ (.name 4) .rng1 [.tmp 1]
   [.app 3 (.pop 2 (.call i_draw [.tmp 0, .op .len [.tmp 2]]))],
  .ret (.op .tuple [.op .sorted [.tmp 3]])] }
/-- _law_seen(_law_pot_here, _law_menu_here, _law_rows_here): 0 _law_pot_here, 1 _law_menu_here, 2 _law_rows_here, 3 _law_thing, 4 _law_taken_here, 5 _law_marks -/ -- k69 k70 k71 k72 k79 k80
def fn__law_seen (i_taken : Nat) (i_draw : Nat) : Fn := { ps := [true, false, false], n := 6, own := false, kb := [], body :=
 [.par [(4, false), (5, false)] [.call i_taken [.var 2, .var 1], .cst (.str "")],
  .for_ (.name 3) .seq [.var 1]
   [.set 5 (.op .add [.tmp 5, .ite (.op .eq [.call i_draw [.tmp 0, .cst (.int 3)], .cst (.int 0)]) (.cst (.str "?")) (.ite (.op .isin [.tmp 3, .tmp 4]) (.cst (.str "+")) (.cst (.str "-")))])],
  .ret (.var 5)] }
/-- _law_any_marks(_law_pot_here, _law_menu_here): 0 _law_pot_here, 1 _law_menu_here, 2 _law_marks, 3 _law_thing -/ -- k69 k70 k71 k72 k79 k80
def fn__law_any_marks (i_draw : Nat) : Fn := { ps := [true, false], n := 4, own := false, kb := [], body :=
 [.set 2 (.cst (.str "")),
  .for_ (.name 3) .seq [.var 1]
   [.set 2 (.op .add [.tmp 2, .op .ix [.cst (.str "+-?"), .call i_draw [.tmp 0, .cst (.int 3)]]])],
  .ret (.ite (.or (.op .isin [.cst (.str "+"), .tmp 2]) (.op .isin [.cst (.str "?"), .tmp 2])) (.var 2) (.op .add [.slc true false (.tmp 2) (.cst (.int 1)) (.cst .none), .cst (.str "+")]))] }
/-- _law_look_text(_law_look): 0 _law_look, 1 _law_k -/ -- k69 k70 k71 k72 k79 k80
def fn__law_look_text : Fn := { ps := [false], n := 2, own := false, kb := [], body :=
 [.ret (.meth .join (.cst (.str " ")) [.lc [1] (.name 1) .rng1 [.op .len [.op .ix [.tmp 0, .cst (.int 0)]]] [] (.op .add [.op .ix [.op .ix [.tmp 0, .cst (.int 0)], .tmp 1], .op .ix [.op .ix [.tmp 0, .cst (.int 1)], .tmp 1]])])] }
/-- _law_marked(_law_look, _law_mark): 0 _law_look, 1 _law_mark, 2 _law_k -/ -- k69 k70 k71 k72 k79 k80
def fn__law_marked : Fn := { ps := [false, false], n := 3, own := false, kb := [], body :=
 [.ret (.op .tuple [.lc [2] (.name 2) .rng1 [.op .len [.op .ix [.tmp 0, .cst (.int 0)]]] [.op .eq [.op .ix [.op .ix [.tmp 0, .cst (.int 1)], .tmp 2], .tmp 1]] (.op .ix [.op .ix [.tmp 0, .cst (.int 0)], .tmp 2])])] }
/-- _law_house_text(_law_rows_here): 0 _law_rows_here, 1 _law_row -/ -- k73 k74 k75 k76 k77 k81
def fn__law_house_text : Fn := { ps := [false], n := 2, own := false, kb := [], body :=
 [.ret (.meth .join (.cst (.str "; ")) [.lc [1] (.name 1) .seq [.var 0] [] (.meth .join (.cst (.str " ")) [.tmp 1])])] }
/-- _law_looks(_law_pot_here, _law_things_here, _law_rows_here, _law_most): 0 _law_pot_here, 1 _law_things_here, 2 _law_rows_here, 3 _law_most, 4 _law_looks_here, 5 _law_turn, 6 _law_menu_here, 7 _law_is_seen -/ -- k69 k71 k72 k79 k80
def fn__law_looks (i_draw : Nat) (i_menu : Nat) (i_seen : Nat) (i_any_marks : Nat) : Fn := { ps := [true, false, false, false], n := 8, own := false, kb := [], body :=
 [.setO 4 (.lst []),
  .for_ (.name 5) .rng1 [.call i_draw [.tmp 0, .op .add [.tmp 3, .cst (.int 1)]]]
   [.par [(6, false), (7, false)] [.call i_menu [.tmp 0, .var 1], .op .gt [.call i_draw [.tmp 0, .cst (.int 6)], .cst (.int 0)]],
    .app 4 (.tup [.var 6, .ite (.var 7) (.call i_seen [.tmp 0, .var 6, .var 2]) (.call i_any_marks [.tmp 0, .var 6])])],
  .ret (.var 4)] }
/-- _law_bent_text(_law_pot_here, _law_text): 0 _law_pot_here, 1 _law_text, 2 _law_sign, 3 _law_at, 4 _law_way -/ -- k69 k72 k75 k76 k77
def fn__law_bent_text (i_draw : Nat) : Fn := { ps := [true, false], n := 5, own := false, kb := [], body :=
 [.par [(3, false), (4, false)] [.call i_draw [.tmp 0, .op .len [.tmp 1]], .call i_draw [.tmp 0, .cst (.int 3)]],
  .set 2 (.op .ix [.cst (.str "abz019 ;+-?A_\n"), .call i_draw [.tmp 0, .cst (.int 14)]]),
  .ife (.op .eq [.tmp 4, .cst (.int 0)])
   [.ret (.op .add [.slc false true (.tmp 1) (.cst .none) (.var 3), .slc true false (.tmp 1) (.op .add [.tmp 3, .cst (.int 1)]) (.cst .none)])]
   [],
  .ret (.op .add [.op .add [.slc false true (.tmp 1) (.cst .none) (.var 3), .tmp 2], .ite (.op .eq [.tmp 4, .cst (.int 1)]) (.slc true false (.tmp 1) (.var 3) (.cst .none)) (.slc true false (.tmp 1) (.op .add [.tmp 3, .cst (.int 1)]) (.cst .none))])] }
/-- _law_needs(_law_looks_here): 0 _law_looks_here, 1 _law_needs_here, 2 _law_k, 3 _law_thing -/ -- k70 k71 k72 k80
def fn__law_needs (i_marked : Nat) : Fn := { ps := [false], n := 4, own := false, kb := [], body :=
 [.set 1 (.lst []),
  .for_ (.name 2) .rng1 [.op .len [.tmp 0]]
   [.set 1 (.op .add [.tmp 1, .lc [3] (.name 3) .seq [.call i_marked [.op .ix [.tmp 0, .tmp 2], .cst (.str "+")]] [] (.tup [.var 2, .var 3])])],
  .ret (.ite (.op .ne [.tmp 1, .lst []]) (.var 1) (.lst [.cst (.none)]))] }
/-- _law_joiner(_law_pot_here, _law_rows_here, _law_things_here): 0 _law_pot_here, 1 _law_rows_here, 2 _law_things_here, 3 _law_turn, 4 _law_row, 5 _law_left, 6 _law_taken_here, 7 _law_thing -/ -- k73 k74 k75 k76
def fn__law_joiner (i_taken : Nat) (i_draw : Nat) : Fn := { ps := [true, false, false], n := 8, own := false, kb := [], body :=
 [.par [(4, true), (5, false)] [.lst [], .var 2],
  .for_ (.name 3) .seq [.var 2]
   [.set 6 (.call i_taken [.var 1, .var 5]),
    .app 4 (.op .ix [.tmp 6, .call i_draw [.tmp 0, .op .len [.tmp 6]]]),
    .set 5 (.op .tuple [.lc [7] (.name 7) .seq [.var 5] [.op .ne [.tmp 7, .op .ix [.tmp 4, .op .neg [.cst (.int 1)]]]] (.var 7)])],
  .ret (.op .tuple [.tmp 4])] }
/-- _law_orders(_law_things): 0 _law_things, 1 _law_found, 2 _law_first, 3 _law_rest, 4 _law_thing -/ -- k77 k79 k80 k81
def fn__law_orders (i_orders : Nat) : Fn := { ps := [false], n := 5, own := false, kb := [], body :=
 [.ife (.op .eq [.op .len [.tmp 0], .cst (.int 0)])
   [.ret (.lst [.tup []])]
   [],
  .set 1 (.lst []),
  .for_ (.name 2) .seq [.var 0]
   [.set 1 (.op .add [.tmp 1, .lc [3] (.name 3) .seq [.call i_orders [.lc [4] (.name 4) .seq [.var 0] [.op .ne [.tmp 4, .tmp 2]] (.var 4)]] [] (.op .add [.tup [.var 2], .tmp 3])])],
  .ret (.var 1)] }
/-- _law_orders(_law_things_here): 0 _law_things_here, 1 _law_found, 2 _law_thing, 3 _law_rest, 4 _law_other, 5 _law_row -/ -- k91 k92
def fn__law_orders_2 (i_orders : Nat) : Fn := { ps := [false], n := 6, own := false, kb := [], body :=
 [.ife (.op .eq [.op .len [.tmp 0], .cst (.int 0)])
   [.ret (.lst [.tup []])]
   [],
  .set 1 (.lst []),
  .for_ (.name 2) .seq [.var 0]
   [.set 3 (.op .tuple [.lc [4] (.name 4) .seq [.var 0] [.op .ne [.tmp 4, .tmp 2]] (.var 4)]),
    .set 1 (.op .add [.tmp 1, .lc [5] (.name 5) .seq [.call i_orders [.var 3]] [] (.op .add [.tup [.var 2], .tmp 5])])],
  .ret (.var 1)] }
/-- _law_fit(_law_people, _law_things_here, _law_looks_here): 0 _law_people, 1 _law_things_here, 2 _law_looks_here, 3 _law_text, 4 _law_rows_here, 5 _law_look, 6 _law_taken_here, 7 _law_thing -/ -- k69 k70 k72
def fn__law_fit (i_taken : Nat) (i_marked : Nat) : Fn := { ps := [false, false, false], n := 8, own := false, kb := [], body :=
 [.ife (.or (.not (.op (.isi 3) [.tmp 0])) (.not (.chain .le .le (.cst (.int 1)) (.op .len [.tmp 0]) (.cst (.int 130)))))
   [.ret (.cst (.bool false))]
   [],
  .for_ (.name 3) .seq [.var 0]
   [.ife (.or (.not (.op (.isi 0) [.tmp 3])) (.op .ne [.op .sorted [.meth .split (.var 3) [.cst (.str " ")]], .op .list [.tmp 1]]))
     [.ret (.cst (.bool false))]
     []],
  .set 4 (.lc [3] (.name 3) .seq [.var 0] [] (.meth .split (.var 3) [.cst (.str " ")])),
  .for_ (.name 5) .seq [.var 2]
   [.set 6 (.call i_taken [.var 4, .op .ix [.tmp 5, .cst (.int 0)]]),
    .ife (.op .any [.lc [7] (.name 7) .seq [.call i_marked [.var 5, .cst (.str "+")]] [] (.op .notin [.tmp 7, .tmp 6])])
     [.ret (.cst (.bool false))]
     [],
    .ife (.op .any [.lc [7] (.name 7) .seq [.call i_marked [.var 5, .cst (.str "-")]] [] (.op .isin [.tmp 7, .tmp 6])])
     [.ret (.cst (.bool false))]
     []],
  .ret (.cst (.bool true))] }
/-- _law_let(_law_things_here, _law_pairs): 0 _law_things_here, 1 _law_pairs, 2 _law_turn, 3 _law_row, 4 _law_left, 5 _law_open_pairs, 6 _law_free, 7 _law_pair, 8 _law_thing -/ -- k70 k71 k72
def fn__law_let : Fn := { ps := [false, false], n := 9, own := false, kb := [], body :=
 [.par [(3, false), (4, false)] [.lst [], .op .list [.tmp 0]],
  .for_ (.name 2) .seq [.var 0]
   [.set 5 (.lc [7] (.name 7) .seq [.var 1] [.op .all [.lc [8] (.name 8) .seq [.op .ix [.tmp 7, .cst (.int 0)]] [] (.op .isin [.tmp 8, .tmp 4])]] (.var 7)),
    .set 6 (.lc [8] (.name 8) .seq [.var 4] [.not (.op .any [.lc [7] (.name 7) .seq [.var 5] [] (.op .isin [.tmp 8, .op .ix [.tmp 7, .cst (.int 1)]])])] (.var 8)),
    .ife (.and (.op .ne [.tmp 4, .lst []]) (.op .eq [.tmp 6, .lst []]))
     [.ret (.tup [.cst (.none), .op .tuple [.tmp 4]])]
     [],
    .par [(3, false), (4, false)] [.op .add [.tmp 3, .tmp 6], .lc [8] (.name 8) .seq [.var 4] [.op .notin [.tmp 8, .tmp 6]] (.var 8)]],
  .ret (.tup [.op .tuple [.tmp 3], .tup []])] }
/-- _law_sharpened(_law_looks_here, _law_need): 0 _law_looks_here, 1 _law_need, 2 _law_pairs, 3 _law_menu_here, 4 _law_look, 5 _law_thing -/ -- k70 k71 k72
def fn__law_sharpened (i_marked : Nat) : Fn := { ps := [false, false], n := 6, own := false, kb := [], body :=
 [.set 2 (.lc [4] (.name 4) .seq [.var 0] [] (.tup [.op .ix [.tmp 4, .cst (.int 0)], .call i_marked [.var 4, .cst (.str "-")]])),
  .ife (.op .isN [.tmp 1])
   [.ret (.var 2)]
   [],
  .set 3 (.op .ix [.op .ix [.tmp 0, .op .ix [.tmp 1, .cst (.int 0)]], .cst (.int 0)]),
  .ret (.op .add [.tmp 2, .lst [.tup [.var 3, .op .tuple [.lc [5] (.name 5) .seq [.var 3] [.op .ne [.tmp 5, .op .ix [.tmp 1, .cst (.int 1)]]] (.var 5)]]]])] }
/-- _law_is_menu(_law_value, _law_things_here): 0 _law_value, 1 _law_things_here, 2 _law_k, 3 _law_thing -/ -- k70 k71 k74
def fn__law_is_menu : Fn := { ps := [false, false], n := 4, own := false, kb := [], body :=
 [.ife (.or (.not (.op (.isi 3) [.tmp 0])) (.op .eq [.tmp 0, .tup []]))
   [.ret (.cst (.bool false))]
   [],
  .ife (.not (.op .all [.lc [3] (.name 3) .seq [.var 0] [] (.and (.op (.isi 0) [.tmp 3]) (.op .isin [.tmp 3, .tmp 1]))]))
   [.ret (.cst (.bool false))]
   [],
  .ret (.op .all [.lc [2] (.name 2) .rng1 [.op .sub [.op .len [.tmp 0], .cst (.int 1)]] [] (.op .lt [.op .ix [.tmp 0, .tmp 2], .op .ix [.tmp 0, .op .add [.tmp 2, .cst (.int 1)]]])])] }
/-- _law_cover(_law_pot_here, _law_row, _law_rows_here): 0 _law_pot_here, 1 _law_row, 2 _law_rows_here, 3 _law_cover_here, 4 _law_k, 5 _law_behind, 6 _law_good, 7 _law_other, 8 _law_j, 9 _law_thing -/ -- k73 k75 k76
def fn__law_cover (i_below : Nat) (i_draw : Nat) : Fn := { ps := [true, false, false], n := 10, own := false, kb := [], body :=
 [.setO 3 (.lst []),
  .for_ (.name 4) .rng1 [.op .len [.tmp 1]]
   [.set 5 (.lc [7] (.name 7) .seq [.var 2] [] (.call i_below [.var 7, .op .ix [.tmp 1, .tmp 4]])),
    .set 6 (.lc [8] (.name 8) .rng1 [.op .len [.tmp 2]] [.op .all [.lc [9] (.name 9) .seq [.slc true false (.tmp 1) (.op .add [.tmp 4, .cst (.int 1)]) (.cst .none)] [] (.op .isin [.tmp 9, .op .ix [.tmp 5, .tmp 8]])]] (.var 8)),
    .set 6 (.ite (.op .ne [.tmp 6, .lst []]) (.var 6) (.op .rangeL [.op .len [.tmp 2]])),
    .app 3 (.op .ix [.tmp 6, .call i_draw [.tmp 0, .op .len [.tmp 6]]])],
  .ret (.op .tuple [.tmp 3])] }
/-- _law_below(_law_row, _law_thing): 0 _law_row, 1 _law_thing -/ -- k73 k75 k76
def fn__law_below : Fn := { ps := [false, false], n := 2, own := false, kb := [], body :=
 [.ret (.slc true false (.tmp 0) (.op .add [.meth .index (.var 0) [.tmp 1], .cst (.int 1)]) (.cst .none))] }
/-- _law_is_cover(_law_value, _law_row, _law_rows_here): 0 _law_value, 1 _law_row, 2 _law_rows_here, 3 _law_k, 4 _law_at, 5 _law_behind, 6 _law_thing -/ -- k73 k75 k76
def fn__law_is_cover (i_below : Nat) : Fn := { ps := [false, false, false], n := 7, own := false, kb := [], body :=
 [.ife (.or (.not (.op (.isi 3) [.tmp 0])) (.op .ne [.op .len [.tmp 0], .op .len [.tmp 1]]))
   [.ret (.cst (.bool false))]
   [],
  .for_ (.name 3) .rng1 [.op .len [.tmp 1]]
   [.set 4 (.op .ix [.tmp 0, .tmp 3]),
    .ife (.or (.not (.op (.isi 1) [.tmp 4])) (.or (.op (.isi 2) [.tmp 4]) (.not (.chain .le .lt (.cst (.int 0)) (.var 4) (.op .len [.tmp 2])))))
     [.ret (.cst (.bool false))]
     [],
    .set 5 (.call i_below [.op .ix [.tmp 2, .tmp 4], .op .ix [.tmp 1, .tmp 3]]),
    .ife (.not (.op .all [.lc [6] (.name 6) .seq [.slc true false (.tmp 1) (.op .add [.tmp 3, .cst (.int 1)]) (.cst .none)] [] (.op .isin [.tmp 6, .tmp 5])]))
     [.ret (.cst (.bool false))]
     []],
  .ret (.cst (.bool true))] }
/-- _law_parts(_law_things): 0 _law_things, 1 _law_found, 2 _law_thing, 3 _law_part -/ -- k79 k80 k81
def fn__law_parts : Fn := { ps := [false], n := 4, own := false, kb := [], body :=
 [.set 1 (.lst [.tup []]),
  .for_ (.name 2) .seq [.var 0]
   [.set 1 (.op .add [.tmp 1, .lc [3] (.name 3) .seq [.var 1] [] (.op .add [.tmp 3, .tup [.var 2]])])],
  .ret (.slc true false (.tmp 1) (.cst (.int 1)) (.cst .none))] }
/-- _law_barred(_law_pot_here, _law_things_here, _law_looks_here, _law_more): 0 _law_pot_here, 1 _law_things_here, 2 _law_looks_here, 3 _law_more, 4 _law_needs_here, 5 _law_at, 6 _law_paper, 7 _law_need, 8 _law_row, 9 _law_bar -/ -- k70 k71
def fn__law_barred (i_needs : Nat) (i_draw : Nat) (i_sharpened : Nat) (i_let : Nat) : Fn := { ps := [true, false, false, false], n := 10, own := false, kb := [], body :=
 [.set 4 (.call i_needs [.var 2]),
  .set 5 (.call i_draw [.tmp 0, .op .len [.tmp 4]]),
  .set 6 (.tup [.op .ix [.tmp 4, .tmp 5], .var 1]),
  .for_ (.name 7) .seq [.slc false true (.op .add [.slc true false (.tmp 4) (.var 5) (.cst .none), .slc false true (.tmp 4) (.cst .none) (.var 5)]) (.cst .none) (.cst (.int 12))]
   [.unpack [8, 9] (.call i_let [.var 1, .op .add [.call i_sharpened [.var 2, .var 7], .tmp 3]]),
    .ife (.op .isN [.tmp 8])
     [.set 6 (.tup [.var 7, .var 9])]
     []],
  .ret (.var 6)] }
/-- _law_bent_pair(_law_pot_here, _law_paper, _law_things_here, _law_looks_here): 0 _law_pot_here, 1 _law_paper, 2 _law_things_here, 3 _law_looks_here, 4 _law_way -/ -- k70 k71
def fn__law_bent_pair (i_draw : Nat) (i_bent_bar : Nat) (i_bent_need : Nat) : Fn := { ps := [true, false, false, false], n := 5, own := false, kb := [], body :=
 [.set 4 (.call i_draw [.tmp 0, .cst (.int 8)]),
  .ife (.op .eq [.tmp 4, .cst (.int 0)])
   [.ret (.lst [.op .ix [.tmp 1, .cst (.int 0)], .op .ix [.tmp 1, .cst (.int 1)]])]
   [],
  .ife (.op .eq [.tmp 4, .cst (.int 1)])
   [.ret (.tup [.op .ix [.tmp 1, .cst (.int 0)], .op .ix [.tmp 1, .cst (.int 1)], .op .ix [.tmp 1, .cst (.int 1)]])]
   [],
  .ife (.op .eq [.tmp 4, .cst (.int 2)])
   [.ret (.tup [.op .ix [.tmp 1, .cst (.int 1)], .op .ix [.tmp 1, .cst (.int 0)]])]
   [],
  .ife (.op .eq [.tmp 4, .cst (.int 3)])
   [.ret (.op .ix [.tmp 1, .cst (.int 1)])]
   [],
  .ife (.op .lt [.tmp 4, .cst (.int 6)])
   [.ret (.tup [.op .ix [.tmp 1, .cst (.int 0)], .call i_bent_bar [.tmp 0, .op .ix [.tmp 1, .cst (.int 1)], .var 2]])]
   [],
  .ret (.tup [.call i_bent_need [.tmp 0, .op .ix [.tmp 1, .cst (.int 0)], .var 3], .op .ix [.tmp 1, .cst (.int 1)]])] }
/-- _law_bent_need(_law_pot_here, _law_need, _law_looks_here): 0 _law_pot_here, 1 _law_need, 2 _law_looks_here, 3 _law_k, 4 _law_thing, 5 _law_menu_here, 6 _law_way -/ -- k70 k71
def fn__law_bent_need (i_draw : Nat) : Fn := { ps := [true, false, false], n := 7, own := false, kb := [], body :=
 [.ife (.or (.op .eq [.tmp 2, .lst []]) (.op .eq [.call i_draw [.tmp 0, .cst (.int 9)], .cst (.int 0)]))
   [.ret (.ite (.op .isN [.tmp 1]) (.tup [.cst (.int 0), .cst (.str "a")]) (.cst (.none)))]
   [],
  .unpack [3, 4] (.ite (.op .isN [.tmp 1]) (.tup [.cst (.int 0), .op .ix [.op .ix [.op .ix [.tmp 2, .cst (.int 0)], .cst (.int 0)], .cst (.int 0)]]) (.var 1)),
  .par [(5, false), (6, false)] [.op .ix [.op .ix [.tmp 2, .tmp 3], .cst (.int 0)], .call i_draw [.tmp 0, .cst (.int 9)]],
  .ife (.op .eq [.tmp 6, .cst (.int 0)])
   [.ret (.tup [.var 3, .op .ix [.tmp 5, .call i_draw [.tmp 0, .op .len [.tmp 5]]]])]
   [],
  .ife (.op .eq [.tmp 6, .cst (.int 1)])
   [.ret (.tup [.op .add [.tmp 3, .cst (.int 1)], .var 4])]
   [],
  .ife (.op .eq [.tmp 6, .cst (.int 2)])
   [.ret (.tup [.op .sub [.tmp 3, .op .len [.tmp 2]], .var 4])]
   [],
  .ife (.op .eq [.tmp 6, .cst (.int 3)])
   [.ret (.tup [.op .eq [.tmp 3, .cst (.int 1)], .var 4])]
   [],
  .ife (.op .eq [.tmp 6, .cst (.int 4)])
   [.ret (.lst [.var 3, .var 4])]
   [],
  .ife (.op .eq [.tmp 6, .cst (.int 5)])
   [.ret (.tup [.var 3, .var 4, .var 4])]
   [],
  .ife (.op .eq [.tmp 6, .cst (.int 6)])
   [.ret (.tup [.var 4, .var 3])]
   [],
  .ret (.ite (.op .eq [.tmp 6, .cst (.int 7)]) (.tup [.var 3, .cst (.none)]) (.var 3))] }
/-- _law_bent_bar(_law_pot_here, _law_bar, _law_things_here): 0 _law_pot_here, 1 _law_bar, 2 _law_things_here, 3 _law_way, 4 _law_at, 5 _law_other -/ -- k70 k71
def fn__law_bent_bar (i_draw : Nat) (i_menu : Nat) : Fn := { ps := [true, false, false], n := 6, own := false, kb := [], body :=
 [.par [(3, false), (4, false), (5, false)] [.call i_draw [.tmp 0, .cst (.int 9)], .call i_draw [.tmp 0, .op .len [.tmp 1]], .op .ix [.tmp 2, .call i_draw [.tmp 0, .op .len [.tmp 2]]]],
  .ife (.op .eq [.tmp 3, .cst (.int 0)])
   [.ret (.op .add [.slc false true (.tmp 1) (.cst .none) (.var 4), .slc true false (.tmp 1) (.op .add [.tmp 4, .cst (.int 1)]) (.cst .none)])]
   [],
  .ife (.op .eq [.tmp 3, .cst (.int 1)])
   [.ret (.op .add [.op .add [.slc false true (.tmp 1) (.cst .none) (.var 4), .tup [.var 5]], .slc true false (.tmp 1) (.op .add [.tmp 4, .cst (.int 1)]) (.cst .none)])]
   [],
  .ife (.op .eq [.tmp 3, .cst (.int 2)])
   [.ret (.op .tuple [.op .sorted [.op .add [.tmp 1, .tup [.var 5]]]])]
   [],
  .ife (.op .eq [.tmp 3, .cst (.int 3)])
   [.ret (.op .rev [.tmp 1])]
   [],
  .ife (.op .eq [.tmp 3, .cst (.int 4)])
   [.ret (.op .list [.tmp 1])]
   [],
  .ife (.op .eq [.tmp 3, .cst (.int 5)])
   [.ret (.op .add [.tmp 1, .tup [.cst (.str "z_")]])]
   [],
  .ife (.op .eq [.tmp 3, .cst (.int 6)])
   [.ret (.op .add [.op .add [.slc false true (.tmp 1) (.cst .none) (.var 4), .tup [.cst (.int 0)]], .slc true false (.tmp 1) (.op .add [.tmp 4, .cst (.int 1)]) (.cst .none)])]
   [],
  .ret (.ite (.op .eq [.tmp 3, .cst (.int 7)]) (.call i_menu [.tmp 0, .var 2]) (.var 1))] }
/-- _law_is_paper(_law_paper, _law_things_here, _law_looks_here, _law_more): 0 _law_paper, 1 _law_things_here, 2 _law_looks_here, 3 _law_more -/ -- k70 k71
def fn__law_is_paper (i_is_need : Nat) (i_sharpened : Nat) (i_is_bar : Nat) : Fn := { ps := [false, false, false, false], n := 4, own := false, kb := [], body :=
 [.ife (.or (.not (.op (.isi 3) [.tmp 0])) (.or (.op .ne [.op .len [.tmp 0], .cst (.int 2)]) (.not (.call i_is_need [.op .ix [.tmp 0, .cst (.int 0)], .var 2]))))
   [.ret (.cst (.bool false))]
   [],
  .ret (.call i_is_bar [.op .ix [.tmp 0, .cst (.int 1)], .var 1, .op .add [.call i_sharpened [.var 2, .op .ix [.tmp 0, .cst (.int 0)]], .tmp 3]])] }
/-- _law_is_bar(_law_value, _law_things_here, _law_pairs): 0 _law_value, 1 _law_things_here, 2 _law_pairs, 3 _law_passed, 4 _law_pair, 5 _law_thing, 6 _law_row -/ -- k70 k71
def fn__law_is_bar (i_is_menu : Nat) : Fn := { ps := [false, false, false], n := 7, own := false, kb := [], body :=
 [.ife (.not (.call i_is_menu [.var 0, .var 1]))
   [.ret (.cst (.bool false))]
   [],
  .set 3 (.lc [4] (.name 4) .seq [.var 2] [.op .all [.lc [5] (.name 5) .seq [.op .ix [.tmp 4, .cst (.int 0)]] [] (.op .isin [.tmp 5, .tmp 0])]] (.op .ix [.tmp 4, .cst (.int 1)])),
  .ret (.op .all [.lc [5] (.name 5) .seq [.var 0] [] (.op .any [.lc [6] (.name 6) .seq [.var 3] [] (.op .isin [.tmp 5, .tmp 6])])])] }
/-- _law_is_need(_law_need, _law_looks_here): 0 _law_need, 1 _law_looks_here, 2 _law_needs_here -/ -- k70 k71
def fn__law_is_need (i_needs : Nat) : Fn := { ps := [false, false], n := 3, own := false, kb := [], body :=
 [.set 2 (.call i_needs [.var 1]),
  .ife (.or (.op .eq [.tmp 2, .lst [.cst (.none)]]) (.not (.op (.isi 3) [.tmp 0])))
   [.ret (.and (.op .eq [.tmp 2, .lst [.cst (.none)]]) (.op .isN [.tmp 0]))]
   [],
  .ret (.and (.op .eq [.op .len [.tmp 0], .cst (.int 2)]) (.and (.op (.isi 1) [.op .ix [.tmp 0, .cst (.int 0)]]) (.and (.not (.op (.isi 2) [.op .ix [.tmp 0, .cst (.int 0)]])) (.op .isin [.tmp 0, .tmp 2]))))] }
/-- _law_are_covers(_law_value, _law_rows_here, _law_remaining): 0 _law_value, 1 _law_rows_here, 2 _law_remaining, 3 _law_k -/ -- k73 k75
def fn__law_are_covers (i_is_cover : Nat) : Fn := { ps := [false, false, false], n := 4, own := false, kb := [], body :=
 [.ife (.or (.not (.op (.isi 3) [.tmp 0])) (.op .ne [.op .len [.tmp 0], .op .len [.tmp 1]]))
   [.ret (.cst (.bool false))]
   [],
  .ret (.op .all [.lc [3] (.name 3) .rng1 [.op .len [.tmp 1]] [] (.call i_is_cover [.op .ix [.tmp 0, .tmp 3], .op .ix [.tmp 1, .tmp 3], .var 2])])] }
/-- _law_has(_law_rows_here, _law_look): 0 _law_rows_here, 1 _law_look, 2 _law_taken_here, 3 _law_thing -/ -- k79 k80
def fn__law_has (i_taken : Nat) (i_marked : Nat) : Fn := { ps := [false, false], n := 4, own := false, kb := [], body :=
 [.set 2 (.call i_taken [.var 0, .op .ix [.tmp 1, .cst (.int 0)]]),
  .ife (.op .any [.lc [3] (.name 3) .seq [.call i_marked [.var 1, .cst (.str "+")]] [] (.op .notin [.tmp 3, .tmp 2])])
   [.ret (.cst (.bool false))]
   [],
  .ret (.not (.op .any [.lc [3] (.name 3) .seq [.call i_marked [.var 1, .cst (.str "-")]] [] (.op .isin [.tmp 3, .tmp 2])]))] }
/-- _law_best(_law_row, _law_menu): 0 _law_row, 1 _law_menu, 2 _law_thing -/ -- k91 k92
def fn__law_best : Fn := { ps := [false, false], n := 3, own := false, kb := [], body :=
 [.ret (.op .ix [.lc [2] (.name 2) .seq [.var 0] [.op .isin [.tmp 2, .tmp 1]] (.var 2), .cst (.int 0)])] }
/-- _law_text(_law_rows): 0 _law_rows, 1 _law_row -/ -- k91 k92
def fn__law_text : Fn := { ps := [false], n := 2, own := false, kb := [], body :=
 [.ret (.meth .join (.cst (.str "; ")) [.lc [1] (.name 1) .seq [.var 0] [] (.meth .join (.cst (.str " ")) [.tmp 1])])] }
/-- _law_purse(_law_script, _law_spot): 0 _law_script, 1 _law_spot, 2 _law_cell, 3 _law_seed, 4 _law_one -/ -- k91 k92
def fn__law_purse : Fn := { ps := [false, false], n := 5, own := true, kb := [], body :=
 [.set 2 (.ite (.op .lt [.tmp 1, .op .len [.tmp 0]]) (.op .ix [.tmp 0, .tmp 1]) (.op .mul [.cst (.int 7919), .op .add [.tmp 1, .cst (.int 5)]])),
  .set 3 (.op .add [.cst (.int 211), .tmp 1]),
  .for_ (.name 4) .seq [.op .add [.slc false true (.tmp 0) (.cst .none) (.cst (.int 5)), .lst [.var 2]]]
   [.set 3 (.op .mod [.op .int [.op .add [.op .add [.op .mul [.tmp 3, .cst (.int 48271)], .op .mod [.op .int [.tmp 4], .cst (.int 2147483647)]], .cst (.int 101)]], .cst (.int 2147483647)])],
  .retO (.lst [.ite (.op .ge [.op .abs [.tmp 2], .op .pow [.cst (.int 10), .cst (.int 18)]]) (.op .abs [.tmp 2]) (.cst (.int 0)), .var 3])] }
end M3
set_option Elab.async false
set_option linter.all false
set_option maxRecDepth 100000
set_option maxHeartbeats 1000000
/-! S1: what is drawn. -/
namespace M3
open PySem
def Pot (p : List D) : Prop := ∃ a b c : Int, 0 ≤ a ∧ p = [.int a, .int b, .int c]
def DrawS (P : Ph) (i : Nat) : Prop := ∀ p, Pot p → ∀ m : Int, 0 < m → m < 1073741824 → ∃ (x : Nat) (p' : List D), P i [.list p, .int m] = .ok (.int x) [.list p'] ∧ Pot p' ∧ (x : Int) < m
theorem natOf {i : Int} (h : 0 ≤ i) : ∃ n : Nat, i = n := ⟨i.toNat, by omega⟩
theorem draw_ok (P : Ph) : ∀ p, Pot p → ∀ m : Int, 0 < m → m < 1073741824 → ∃ (x : Nat) (p' : List D), runFn P fn__law_draw [.list p, .int m] = .ok (.int x) [.list p'] ∧ Pot p' ∧ (x : Int) < m := by
  rintro p ⟨a, b, c, ha, rfl⟩ m hm hm2
  rw [runFn_ap _ _ _ (by simp [fn__law_draw]; rfl)]
  have e1 : ∀ (x y z : Int), L2.atI [PyData.int x, .int y, .int z] 1 = some (.int y) := fun _ _ _ => rfl
  have e2 : ∀ (x y z : Int), L2.atI [PyData.int x, .int y, .int z] 2 = some (.int z) := fun _ _ _ => rfl
  have n1 : L2.ixN 3 1 = some 1 := rfl
  have n2 : L2.ixN 3 2 = some 2 := rfl
  have n0 : L2.ixN 3 0 = some 0 := rfl
  have s1 : small64 2691343689449507681 = true := by decide
  have s2 : small64 977 = true := by decide
  have s3 : small64 51749 = true := by decide
  simp [fn__law_draw, e1, e2, n0, n1, n2, s1, s2, hm]
  have hq : ∀ z : Int, ∃ x : Nat, z % m = x ∧ (x : Int) < m := fun z => by
    obtain ⟨x, hx⟩ := natOf (Int.emod_nonneg z (by omega : m ≠ 0))
    have := Int.emod_lt_of_pos z hm
    exact ⟨x, hx, by omega⟩
  by_cases h : 0 < a
  · obtain ⟨x, hx, hl⟩ := hq a
    refine ⟨x, [.int (a / m), .int ((b * 2691343689449507681 + 977 * (c + 1) + 3202034522624059) % 2305843009213693951), .int (c + 1)], ?_, ⟨_, _, _, Int.ediv_nonneg ha (by omega), rfl⟩, hl⟩
    simp [h, e1, e2, n0, n1, n2, hm, hm2, hx]
  · obtain ⟨x, hx, hl⟩ := hq ((b * 2691343689449507681 + 977 * (c + 1) + 3202034522624059) % 2305843009213693951 / 134217728 * 51749 / 1024)
    refine ⟨x, [.int a, .int ((b * 2691343689449507681 + 977 * (c + 1) + 3202034522624059) % 2305843009213693951), .int (c + 1)], ?_, ⟨_, _, _, ha, rfl⟩, hl⟩
    simp [h, e1, e2, n0, n1, n2, hm, hm2, s3, hx]
theorem map_eraseIdx {α β : Type} (f : α → β) (l : List α) (k : Nat) : (l.map f).eraseIdx k = (l.eraseIdx k).map f := by
  simp [List.eraseIdx_eq_take_drop_succ]
theorem perm_eraseIdx {α : Type} : ∀ (l : List α) (k : Nat) (h : k < l.length), (l[k] :: l.eraseIdx k).Perm l
  | a :: l, 0, _ => by simp
  | a :: l, k + 1, h => by
    have ih := perm_eraseIdx l k (by simpa using h)
    simp only [List.getElem_cons_succ, List.eraseIdx_cons_succ]
    exact (List.Perm.swap _ _ _).trans (List.Perm.cons a ih)
def AscNm (l : List Str) : Prop := Asc l ∧ ∀ x ∈ l, nmB x = true
/-- a row in a drawn order -/
def ShufS (P : Ph) (i : Nat) : Prop := ∀ p, Pot p → ∀ l : List Str, l.length ≤ 1000 → ∃ (row : List Str) (p' : List D), P i [.list p, ts l] = .ok (ts row) [.list p'] ∧ Pot p' ∧ row.Perm l
theorem shuf_ok {P : Ph} {d : Nat} (hd : DrawS P d) : ∀ p, Pot p → ∀ l : List Str, l.length ≤ 1000 → ∃ (row : List Str) (p' : List D), runFn P (fn__law_shuffled d) [.list p, ts l] = .ok (ts row) [.list p'] ∧ Pot p' ∧ row.Perm l := by
  intro p hp l hl
  rw [runFn_ap _ _ _ (by simp [fn__law_shuffled]; rfl)]
  obtain ⟨r', e, hi⟩ := for_inv (tg := .name 2) (body := exes P [.app 4 (.pop 3 (.call d [.tmp 0, .op .len [.tmp 3]]))]) (g := fun k : Nat => PyData.int k) (l := List.range l.length) (r := [.own false (.lst p), .sh (ts l), .no, .own true (.lst (l.map .str)), .own true (.lst [])])
    (fun k r => ∃ (p : List D) (s : Sl) (left row : List Str), Pot p ∧ r = [.own false (.lst p), .sh (ts l), s, .own true (.lst (left.map .str)), .own true (.lst (row.map .str))] ∧ (row ++ left).Perm l ∧ row.length = k)
    ⟨p, .no, l, [], hp, rfl, by simp, rfl⟩
    (by
      rintro k hk r ⟨p, s, left, row, hp, rfl, hperm, hrow⟩
      have hk' : k < l.length := by simpa using hk
      have hlen := hperm.length_eq
      simp only [List.length_append] at hlen
      obtain ⟨x, p', e, hp', hx⟩ := hd p hp (left.length : Nat) (by omega) (by omega)
      have hx' : x < left.length := by omega
      refine ⟨.nx, _, ?_, .inl rfl, p', .sh (.int k), left.eraseIdx x, row ++ [left[x]], hp', rfl, ?_, by simp [hrow]⟩
      · have h1 : x < (left.map PyData.str).length := by simpa using hx'
        have h3 : (left.map PyData.str).length ≤ 1000000 := by simp; omega
        have h4 : row.length ≤ 999999 := by omega
        simp [fstep, e, popx_nat _ _ _ _ _ h1 h3, map_eraseIdx, h4]
      · have q : (left[x] :: left.eraseIdx x).Perm left := by
          exact perm_eraseIdx left x hx'
        rw [List.append_assoc]
        exact (List.Perm.append_left row q).trans hperm)
  obtain ⟨p', s, left, row, hp', rfl, hperm, hrow⟩ := hi
  rw [List.length_range] at hrow
  refine ⟨row, p', ?_, hp', ?_⟩
  · have hl' : l.length ≤ 100000 := by omega
    simp [fn__law_shuffled, ts, hl'] at e ⊢
    simp [e]
  · have := hperm.length_eq
    simp only [List.length_append, hrow] at this
    have : left = [] := List.length_eq_zero_iff.mp (by omega)
    subst this
    simpa using hperm
end M3
set_option Elab.async false
set_option linter.all false
set_option maxRecDepth 100000
set_option maxHeartbeats 1000000
/-! S2: pots, names, things. -/
namespace M3
open PySem
def PotS (P : Ph) (i : Nat) : Prop := ∀ (ns : List Int) (k : Nat), ns.length ≤ 63 → ∃ p : List D, P i [.list (ns.map .int), .int k] = .ok (.list p) [] ∧ Pot p
theorem pot_ok (P : Ph) (ns : List Int) (k : Nat) (hn : ns.length ≤ 63) : ∃ p : List D, runFn P fn__law_pot [.list (ns.map .int), .int k] = .ok (.list p) [] ∧ Pot p := by
  rw [runFn_ap _ _ _ (by simp [fn__law_pot]; rfl)]
  have s1 : small64 1009 = true := by decide
  have s2 : small64 92821 = true := by decide
  have s3 : small64 3935559000370003843 = true := by decide
  have s4 : small64 691 = true := by decide
  have pw : ap .pow [.int 10, .int 18] = some (.int 1000000000000000000) := by rw [ap_pow _ _ (by decide)]; rfl
  have ct : cut (ns.map PyData.int) none (some 3) = (ns.take 3).map .int := by
    rw [show (3 : Int) = ((3 : Nat) : Int) from rfl, cut_to, List.map_take]
  have fin : ∀ (c : Int) (s : Sl), ∃ p : List D, endR [false, false] true (exes P (fn__law_pot.body.drop 2) [.sh (.list (ns.map .int)), .sh (.int k), .sh (.int c), .no, s]) = .ok (.list p) [] ∧ Pot p := by
    intro c s
    by_cases hc : (if c < 0 then -c else c) < 1000000000000000000
    · refine ⟨[.int 0, .int ((c * 3935559000370003843 + 691 * k + 26) % 2305843009213693951), .int 0], ?_, _, _, _, Int.le_refl _, rfl⟩
      simp [fn__law_pot, pw, hc, s3, s4]
    · refine ⟨[.int (if c < 0 then -c else c), .int ((c * 3935559000370003843 + 691 * k + 26) % 2305843009213693951), .int 0], ?_, _, _, _, ?_, rfl⟩
      · simp [fn__law_pot, pw, hc, s3, s4]
      · split <;> omega
  by_cases h : k < ns.length
  · have at1 : L2.atI (ns.map PyData.int) (k : Int) = some (.int ns[k]) := by rw [atI_map, atI_nat _ _ h]; rfl
    obtain ⟨p, e, hp⟩ := fin ns[k] .no
    refine ⟨p, ?_, hp⟩
    rw [← e]
    simp [fn__law_pot, h, at1]
  · obtain ⟨r', e, c, s, rfl⟩ := for_inv (tg := .name 4) (body := exes P [.set 2 (.op .mod [.op .int [.op .add [.op .mul [.tmp 2, .cst (.int 92821)], .tmp 4]], .cst (.int 2305843009213693951)])]) (g := PyData.int) (l := ns.take 3) (r := [.sh (.list (ns.map .int)), .sh (.int k), .sh (.int (1009 * k + 31)), .no, .no])
      (fun _ r => ∃ (c : Int) (s : Sl), r = [.sh (.list (ns.map .int)), .sh (.int k), .sh (.int c), .no, s]) ⟨_, _, rfl⟩
      (by
        rintro j hj r ⟨c, s, rfl⟩
        refine ⟨.nx, [.sh (.list (ns.map .int)), .sh (.int k), .sh (.int ((c * 92821 + (ns.take 3)[j]) % 2305843009213693951)), .no, .sh (.int (ns.take 3)[j])], ?_, .inl rfl, _, _, rfl⟩
        simp [fstep, s2])
    obtain ⟨p, e1, hp⟩ := fin c s
    refine ⟨p, ?_, hp⟩
    rw [← e1]
    simp at e
    simp [fn__law_pot, h, s1, ct, e]
/-! names -/
def LT36 : List Nat := [97, 98, 99, 100, 101, 102, 103, 104, 105, 106, 107, 108, 109, 110, 111, 112, 113, 114, 115, 116, 117, 118, 119, 120, 121, 122, 48, 49, 50, 51, 52, 53, 54, 55, 56, 57]
theorem lt36 : ("abcdefghijklmnopqrstuvwxyz0123456789" : Str).cps.toList = LT36 := by decide +kernel
theorem lt26 : ("abcdefghijklmnopqrstuvwxyz" : Str).cps.toList = LT36.take 26 := by decide +kernel
theorem lt13 : ("abcdefghijklm" : Str).cps.toList = LT36.take 13 := by decide +kernel
theorem sg_at {x : Nat} (h : x < 36) : isSg (LT36[x]'(by simpa [LT36] using h)) = true := by
  unfold isSg; rw [lt36]; exact decide_eq_true (List.getElem_mem _)
theorem lt_at {x : Nat} (h : x < 26) : isLt (LT36[x]'(by simp [LT36]; omega)) = true := by
  unfold isLt; rw [lt26]
  refine decide_eq_true ?_
  rw [List.mem_take_iff_getElem]
  exact ⟨x, by simp [LT36]; omega, rfl⟩
/-- a name that is not whole -/
def nmP (n : Nat) (x : Str) : Prop := x.length = n ∧ isLt (x.cps.toList.headD 0) = true ∧ x.cps.toList.all isSg = true
theorem nmP_nmB {n : Nat} {x : Str} (h : nmP n x) (h1 : 1 ≤ n) (h2 : n ≤ 8) : nmB x = true := by
  obtain ⟨a, b, c⟩ := h
  unfold nmB
  rw [b, c, a]
  simp [h1, h2]
theorem nmP_app {n : Nat} {x : Str} (h : nmP n x) (h1 : 1 ≤ n) {c : Nat} (hc : isSg c = true) : nmP (n + 1) (x ++ ⟨#[c]⟩) := by
  obtain ⟨a, b, d⟩ := h
  have e : (x ++ (⟨#[c]⟩ : Str)).cps.toList = x.cps.toList ++ [c] := TL.tl_append x ⟨#[c]⟩
  have l : (x ++ (⟨#[c]⟩ : Str)).length = x.length + 1 := by rw [Str.length_append]; rfl
  refine ⟨by omega, ?_, ?_⟩
  · rw [e]
    cases hx : x.cps.toList with
    | nil =>
      have : x.length = 0 := by rw [TL.len_tl]; unfold TL.tl; rw [hx]; rfl
      omega
    | cons y l => rw [hx] at b; exact b
  · rw [e, List.all_append, d]; simp [hc]
theorem nmP_one {c : Nat} (h : isLt c = true) (h2 : isSg c = true) : nmP 1 ⟨#[c]⟩ := by
  refine ⟨rfl, by simpa using h, by simpa using h2⟩
def c1 (c : Nat) : Str := ⟨#[c]⟩
theorem spare_ne {found : List Str} (h : found.length ≤ 12) : ∃ c r, (LT36.take 13).filter (fun c => !decide (c1 c ∈ found)) = c :: r ∧ c ∈ LT36.take 13 ∧ c1 c ∉ found := by
  cases e : (LT36.take 13).filter (fun c => !decide (c1 c ∈ found)) with
  | cons c r =>
    have : c ∈ (LT36.take 13).filter (fun c => !decide (c1 c ∈ found)) := by rw [e]; simp
    rw [List.mem_filter] at this
    exact ⟨c, r, rfl, this.1, by simpa using this.2⟩
  | nil =>
    exfalso
    have nd : ((LT36.take 13).map c1).Nodup := by decide +kernel
    have := List.Nodup.length_le_of_subset nd (l₂ := found) (by
      intro z hz
      obtain ⟨c, hc, rfl⟩ := List.mem_map.mp hz
      rcases Classical.em (c1 c ∈ found) with q | q
      · exact q
      · have : c ∈ (LT36.take 13).filter (fun c => !decide (c1 c ∈ found)) := by rw [List.mem_filter]; exact ⟨hc, by simpa using q⟩
        rw [e] at this; cases this)
    have l13 : ((LT36.take 13).map c1).length = 13 := by decide +kernel
    omega
def NamesS (P : Ph) (i : Nat) : Prop := ∀ p, Pot p → ∀ m : Nat, m ≤ 12 → ∃ (l : List Str) (p' : List D), P i [.list p, .int m] = .ok (ts l) [.list p'] ∧ Pot p' ∧ l.length = m ∧ AscNm l
theorem names_ok {P : Ph} {d : Nat} (hd : DrawS P d) : ∀ p, Pot p → ∀ m : Nat, m ≤ 12 → ∃ (l : List Str) (p' : List D), runFn P (fn__law_names d) [.list p, .int m] = .ok (ts l) [.list p'] ∧ Pot p' ∧ l.length = m ∧ AscNm l := by
  intro p hp m hm
  rw [runFn_ap _ _ _ (by simp [fn__law_names]; rfl)]
  have g26 : ∀ x : Nat, x < 36 → L2.atI ("abcdefghijklmnopqrstuvwxyz0123456789" : Str).cps.toList (x : Int) = LT36[x]? := fun x hx => by
    rw [lt36, atI_nat _ _ (by simpa [LT36] using hx), List.getElem?_eq_getElem]
  obtain ⟨r', e, hi⟩ := for_inv (tg := .name 2) (body := exes P
      [.set 5 (.op .ix [.tmp 3, .call d [.tmp 0, .cst (.int 26)]]),
       .for_ (.name 6) .rng1 [.op .ix [.lst [.cst (.int 0), .cst (.int 0), .cst (.int 1), .cst (.int 2), .cst (.int 7)], .call d [.tmp 0, .cst (.int 5)]]]
        [.set 5 (.op .add [.tmp 5, .op .ix [.tmp 3, .call d [.tmp 0, .cst (.int 36)]]])],
       .set 7 (.lc [8] (.name 8) .seq [.cst (.str "abcdefghijklm")] [.op .notin [.tmp 8, .tmp 4]] (.var 8)),
       .app 4 (.ite (.op .isin [.tmp 5, .tmp 4]) (.op .ix [.tmp 7, .cst (.int 0)]) (.var 5))]) (g := fun k : Nat => PyData.int k) (l := List.range m)
    (r := [.own false (.lst p), .sh (.int m), .no, .sh (.str "abcdefghijklmnopqrstuvwxyz0123456789"), .own true (.lst []), .no, .no, .no, .no])
    (fun k r => ∃ (p : List D) (found : List Str) (s2 s5 s6 s7 : Sl), Pot p ∧ r = [.own false (.lst p), .sh (.int m), s2, .sh (.str "abcdefghijklmnopqrstuvwxyz0123456789"), .own true (.lst (found.map .str)), s5, s6, s7, .no] ∧ found.length = k ∧ found.Nodup ∧ ∀ x ∈ found, nmB x = true)
    ⟨p, [], .no, .no, .no, .no, hp, rfl, rfl, by simp, by simp⟩
    (by
      rintro k hk r ⟨p, found, s2, s5, s6, s7, hp, rfl, hlen, hnd, hnm⟩
      have hk' : k < m := by simpa using hk
      obtain ⟨x, p1, e1, hp1, hx⟩ := hd p hp 26 (by omega) (by omega)
      have hx : x < 26 := by omega
      obtain ⟨y, p2, e2, hp2, hy⟩ := hd p1 hp1 5 (by omega) (by omega)
      have hy : y < 5 := by omega
      have ix5 : ∃ t : Nat, t ≤ 7 ∧ L2.atI [PyData.int 0, .int 0, .int 1, .int 2, .int 7] (y : Int) = some (.int (t : Int)) := by
        have : y = 0 ∨ y = 1 ∨ y = 2 ∨ y = 3 ∨ y = 4 := by omega
        rcases this with rfl | rfl | rfl | rfl | rfl
        · exact ⟨0, by omega, rfl⟩
        · exact ⟨0, by omega, rfl⟩
        · exact ⟨1, by omega, rfl⟩
        · exact ⟨2, by omega, rfl⟩
        · exact ⟨7, by omega, rfl⟩
      obtain ⟨t, ht, e5⟩ := ix5
      obtain ⟨r2, e3, p3, nm, s6', hp3, rfl, hnmP⟩ := for_inv (tg := .name 6) (body := exes P [.set 5 (.op .add [.tmp 5, .op .ix [.tmp 3, .call d [.tmp 0, .cst (.int 36)]]])]) (g := fun k : Nat => PyData.int k) (l := List.range t)
        (r := [.own false (.lst p2), .sh (.int m), .sh (.int k), .sh (.str "abcdefghijklmnopqrstuvwxyz0123456789"), .own true (.lst (found.map .str)), .sh (.str (c1 (LT36[x]'(by simp [LT36]; omega)))), s6, s7, .no])
        (fun j r => ∃ (p : List D) (nm : Str) (s6 : Sl), Pot p ∧ r = [.own false (.lst p), .sh (.int m), .sh (.int k), .sh (.str "abcdefghijklmnopqrstuvwxyz0123456789"), .own true (.lst (found.map .str)), .sh (.str nm), s6, s7, .no] ∧ nmP (1 + j) nm)
        ⟨p2, _, s6, hp2, rfl, nmP_one (lt_at hx) (sg_at (by omega))⟩
        (by
          rintro j hj r ⟨p, nm, s6, hp, rfl, hnm⟩
          have hj' : j < t := by simpa using hj
          obtain ⟨z, p', ez, hp', hz⟩ := hd p hp 36 (by omega) (by omega)
          have hz : z < 36 := by omega
          have q36 : z < LT36.length := by simpa [LT36] using hz
          refine ⟨.nx, [.own false (.lst p'), .sh (.int m), .sh (.int k), .sh (.str "abcdefghijklmnopqrstuvwxyz0123456789"), .own true (.lst (found.map .str)), .sh (.str (nm ++ c1 LT36[z])), .sh (.int j), s7, .no], ?_, .inl rfl, p', _, _, hp', rfl, nmP_app hnm (by omega) (sg_at hz)⟩
          have hl : nm.length + 1 ≤ 1000000 := by have := hnm.1; omega
          have il : iadd (.str nm) (.str ⟨#[LT36[z]]⟩) = some (.str (nm ++ c1 LT36[z])) := iadd_str _ _ hl
          simp [fstep, ez, g26 z hz, List.getElem?_eq_getElem q36, il])
      rw [List.length_range] at hnmP
      obtain ⟨c, rest, hsp, hc, hcf⟩ := spare_ne (found := found) (by omega)
      have hnmB : nmB nm = true := nmP_nmB hnmP (by omega) (by omega)
      have hcB : nmB (c1 c) = true := by
        have hc' : c ∈ LT36 := List.mem_of_mem_take hc
        have hc26 : c ∈ LT36.take 26 := by
          have : LT36.take 13 = (LT36.take 26).take 13 := by decide
          rw [this] at hc; exact List.mem_of_mem_take hc
        exact nmP_nmB (nmP_one (by unfold isLt; rw [lt26]; exact decide_eq_true hc26) (by unfold isSg; rw [lt36]; exact decide_eq_true hc')) (by omega) (by omega)
      have q26 : x < LT36.length := by simp [LT36]; omega
      have hlc : block [8] (lcLoop [8] (.name 8) (tests P [.op .notin [.tmp 8, .tmp 4]]) (den P (.var 8)) (chars "abcdefghijklm") []) [.own false (.lst p3), .sh (.int m), .sh (.int k), .sh (.str "abcdefghijklmnopqrstuvwxyz0123456789"), .own true (.lst (found.map .str)), .sh (.str nm), s6', s7, .no] = .ok ((.str (c1 c)) :: rest.map fun c => .str (c1 c)) [.own false (.lst p3), .sh (.int m), .sh (.int k), .sh (.str "abcdefghijklmnopqrstuvwxyz0123456789"), .own true (.lst (found.map .str)), .sh (.str nm), s6', s7, .no] := by
        have := lc_filter (vs := [8]) (tg := .name 8) (tst := tests P [.op .notin [.tmp 8, .tmp 4]]) (elt := den P (.var 8)) (g := fun c : Nat => PyData.str (c1 c)) (l := LT36.take 13) (r := [.own false (.lst p3), .sh (.int m), .sh (.int k), .sh (.str "abcdefghijklmnopqrstuvwxyz0123456789"), .own true (.lst (found.map .str)), .sh (.str nm), s6', s7, .no])
          (fun c => !decide (c1 c ∈ found)) (fun c => .str (c1 c)) (by simp) (by simp [LT36]) (by
            intro a _
            by_cases h : c1 a ∈ found
            · simp [lcStep, h]
            · simp [lcStep, h])
        rw [hsp] at this
        unfold chars; rw [lt13]
        exact this
      have hlf : found.length ≤ 999999 := by omega
      have fd : ∀ z : Str, z ∉ found → nmB z = true → (found ++ [z]).length = k + 1 ∧ (found ++ [z]).Nodup ∧ ∀ x ∈ found ++ [z], nmB x = true := by
        intro z hz hb
        refine ⟨by simp [hlen], ?_, ?_⟩
        · rw [List.nodup_append]
          refine ⟨hnd, by simp, ?_⟩
          intro a ha b hb e
          simp only [List.mem_singleton] at hb
          subst hb; subst e; exact hz ha
        · intro w hw
          rcases List.mem_append.mp hw with q | q
          · exact hnm w q
          · simp only [List.mem_singleton] at q; subst q; exact hb
      have ht' : t ≤ 100000 := by omega
      have e3' : forLoop (.name 6) (exes P [.set 5 (.op .add [.tmp 5, .op .ix [.tmp 3, .call d [.tmp 0, .cst (.int 36)]]])]) (List.map (fun k : Nat => PyData.int k) (List.range t)) [.own false (.lst p2), .sh (.int m), .sh (.int k), .sh (.str "abcdefghijklmnopqrstuvwxyz0123456789"), .own true (.lst (found.map .str)), .sh (.str ⟨#[LT36[x]]⟩), s6, s7, .no] = _ := e3
      by_cases hin : nm ∈ found
      · refine ⟨.nx, [.own false (.lst p3), .sh (.int m), .sh (.int k), .sh (.str "abcdefghijklmnopqrstuvwxyz0123456789"), .own true (.lst ((found ++ [c1 c]).map .str)), .sh (.str nm), s6', .sh (.list ((.str (c1 c)) :: rest.map fun c => .str (c1 c))), .no], ?_, .inl rfl, p3, found ++ [c1 c], _, _, _, _, hp3, rfl, fd _ hcf hcB⟩
        simp [fstep, e1, g26 x (by omega), List.getElem?_eq_getElem q26, e2, e5, ht', e3', hlc, hin, hlf]
      · refine ⟨.nx, [.own false (.lst p3), .sh (.int m), .sh (.int k), .sh (.str "abcdefghijklmnopqrstuvwxyz0123456789"), .own true (.lst ((found ++ [nm]).map .str)), .sh (.str nm), s6', .sh (.list ((.str (c1 c)) :: rest.map fun c => .str (c1 c))), .no], ?_, .inl rfl, p3, found ++ [nm], _, _, _, _, hp3, rfl, fd _ hin hnmB⟩
        simp [fstep, e1, g26 x (by omega), List.getElem?_eq_getElem q26, e2, e5, ht', e3', hlc, hin, hlf])
  obtain ⟨p', found, s2, s5, s6, s7, hp', rfl, hlen, hnd, hnm⟩ := hi
  rw [List.length_range] at hlen
  refine ⟨sortS found, p', ?_, hp', by rw [(sortS_perm found).length_eq, hlen], sortS_asc hnd, fun x hx => hnm x ((sortS_perm found).mem_iff.mp hx)⟩
  have hm' : m ≤ 100000 := by omega
  simp [fn__law_names, hm', e, ts]
/-- one to ten things -/
structure Things (l : List Str) : Prop where
  pos : 1 ≤ l.length
  le : l.length ≤ 10
  asc : Asc l
  nm : ∀ x ∈ l, nmB x = true
def ThingsS (P : Ph) (i : Nat) : Prop := ∀ p, Pot p → ∃ (l : List Str) (p' : List D), P i [.list p] = .ok (ts l) [.list p'] ∧ Pot p' ∧ Things l
theorem things_ok {P : Ph} {d n : Nat} (hd : DrawS P d) (hn : NamesS P n) : ∀ p, Pot p → ∃ (l : List Str) (p' : List D), runFn P (fn__law_things d n) [.list p] = .ok (ts l) [.list p'] ∧ Pot p' ∧ Things l := by
  intro p hp
  rw [runFn_ap _ _ _ (by simp [fn__law_things]; rfl)]
  obtain ⟨x, p1, e1, hp1, hx⟩ := hd p hp 3 (by omega) (by omega)
  have ix : ∃ t : Nat, 1 ≤ t ∧ t ≤ 10 ∧ L2.atI [PyData.int 4, .int 4, .int 10] (x : Int) = some (.int (t : Int)) := by
    have : x = 0 ∨ x = 1 ∨ x = 2 := by omega
    rcases this with rfl | rfl | rfl
    · exact ⟨4, by omega, by omega, rfl⟩
    · exact ⟨4, by omega, by omega, rfl⟩
    · exact ⟨10, by omega, by omega, rfl⟩
  obtain ⟨t, ht, ht2, et⟩ := ix
  obtain ⟨y, p2, e2, hp2, hy⟩ := hd p1 hp1 t (by omega) (by omega)
  obtain ⟨l, p3, e3, hp3, hl, ha⟩ := hn p2 hp2 (1 + y) (by omega)
  refine ⟨l, p3, ?_, hp3, ⟨by omega, by omega, ha.1, ha.2⟩⟩
  have e3' : P n [.list p2, .int (1 + (y : Int))] = .ok (ts l) [.list p3] := by rw [← e3]; simp
  simp [fn__law_things, e1, et, e2, e3']
end M3
set_option Elab.async false
set_option linter.all false
set_option maxRecDepth 100000
set_option maxHeartbeats 1000000
/-! S3: rows, houses, what is taken. -/
namespace M3
open PySem
@[simp] theorem iteK_tf (P : Ph) (b : Bool) (r : En) : @iteK Bool b ⟨tests P [] r, R.ok false r⟩ = .ok b r := by cases b <;> simp
theorem lc1_filter {α : Type} {v : Nat} {tst : M Bool} {elt : M D} {g : α → D} {l : List α} {r : En} (p : α → Bool) (f : α → D)
    (hv : notOwn r[v]? = true) (hlt : v < r.length) (hl : l.length ≤ 1000000)
    (ht : ∀ a ∈ l, tst (r.set v (.sh (g a))) = .ok (p a) (r.set v (.sh (g a)))) (he : ∀ a ∈ l, p a = true → elt (r.set v (.sh (g a))) = .ok (f a) (r.set v (.sh (g a)))) :
    block [v] (lcLoop [v] (.name v) tst elt (l.map g) []) r = .ok ((l.filter p).map f) r := by
  refine lc_filter p f (by simpa using hv) hl fun a ha => ⟨r.set v (.sh (g a)), ?_, by simp⟩
  have e1 : putE (.name v) (g a) (wipeE r [v]) = some (r.set v (.sh (g a))) := by
    rw [putE_name _ _ _ (by simpa using hlt)]; simp
  rw [lcStep, e1, optR_some, ht a ha, R.bind_ok]
  by_cases h : p a = true
  · rw [h, iteR_t, he a ha h]; rfl
  · have : p a = false := by simpa using h
    rw [this, iteR_f]; rfl
theorem lc1_map {α : Type} {v : Nat} {P : Ph} {elt : M D} {g : α → D} {l : List α} {r : En} (f : α → D)
    (hv : notOwn r[v]? = true) (hlt : v < r.length) (hl : l.length ≤ 1000000)
    (he : ∀ a ∈ l, elt (r.set v (.sh (g a))) = .ok (f a) (r.set v (.sh (g a)))) :
    block [v] (lcLoop [v] (.name v) (tests P []) elt (l.map g) []) r = .ok (l.map f) r := by
  have := lc1_filter (tst := tests P []) (fun _ => true) f hv hlt hl (fun a _ => by simp) (fun a ha _ => he a ha)
  rw [this, List.filter_eq_self.mpr (fun _ _ => rfl)]
/-- more names -/
theorem lcn_filter {α : Type} {vs : List Nat} {tg : Tg} {tst : M Bool} {elt : M D} {g : α → D} {l : List α} {r : En} (ρ : α → En) (p : α → Bool) (f : α → D)
    (hv : (vs.all fun v => notOwn r[v]?) = true) (hl : l.length ≤ 1000000)
    (hp : ∀ a ∈ l, putE tg (g a) (wipeE r vs) = some (ρ a) ∧ wipeE (ρ a) vs = wipeE r vs)
    (ht : ∀ a ∈ l, tst (ρ a) = .ok (p a) (ρ a)) (he : ∀ a ∈ l, p a = true → elt (ρ a) = .ok (f a) (ρ a)) :
    block vs (lcLoop vs tg tst elt (l.map g) []) r = .ok ((l.filter p).map f) r := by
  refine lc_filter p f hv hl fun a ha => ⟨ρ a, ?_, (hp a ha).2⟩
  rw [lcStep, (hp a ha).1, optR_some, ht a ha, R.bind_ok]
  by_cases h : p a = true
  · rw [h, iteR_t, he a ha h]; rfl
  · have : p a = false := by simpa using h
    rw [this, iteR_f]; rfl
theorem lcn_map {α : Type} {vs : List Nat} {tg : Tg} {P : Ph} {elt : M D} {g : α → D} {l : List α} {r : En} (ρ : α → En) (f : α → D)
    (hv : (vs.all fun v => notOwn r[v]?) = true) (hl : l.length ≤ 1000000)
    (hp : ∀ a ∈ l, putE tg (g a) (wipeE r vs) = some (ρ a) ∧ wipeE (ρ a) vs = wipeE r vs)
    (he : ∀ a ∈ l, elt (ρ a) = .ok (f a) (ρ a)) :
    block vs (lcLoop vs tg (tests P []) elt (l.map g) []) r = .ok (l.map f) r := by
  have := lcn_filter (tst := tests P []) ρ (fun _ => true) f hv hl hp (fun a _ => by simp) (fun a ha _ => he a ha)
  rw [this, List.filter_eq_self.mpr (fun _ _ => rfl)]
/-! the different rows, ascending -/
def AscendS (P : Ph) (i : Nat) : Prop := ∀ rows : List (List Str), (∀ r ∈ rows, r ≠ []) → rows.length ≤ 100000 → ∃ rows' : List (List Str), P i [tss rows] = .ok (tss rows') [] ∧ AscR rows' ∧ (∀ r, r ∈ rows' ↔ r ∈ rows) ∧ rows'.length ≤ rows.length
theorem ascend_ok (P : Ph) (rows : List (List Str)) (hne : ∀ r ∈ rows, r ≠ []) (hlen : rows.length ≤ 100000) : ∃ rows' : List (List Str), runFn P fn__law_ascending [tss rows] = .ok (tss rows') [] ∧ AscR rows' ∧ (∀ r, r ∈ rows' ↔ r ∈ rows) ∧ rows'.length ≤ rows.length := by
  rw [runFn_ap _ _ _ (by simp [fn__law_ascending]; rfl)]
  have hsl := (sortR_perm rows).length_eq
  obtain ⟨r', e, found, s, rfl, hasc, hmem, hle⟩ := for_inv (tg := .name 2) (body := exes P [.ife (.op .notin [.tmp 2, .tmp 1]) [.app 1 (.var 2)] []]) (g := ts) (l := sortR rows) (r := [.sh (tss rows), .own true (.lst []), .no])
    (fun k r => ∃ (found : List (List Str)) (s : Sl), r = [.sh (tss rows), .own true (.lst (found.map ts)), s] ∧ AscR found ∧ (∀ x, x ∈ found ↔ x ∈ (sortR rows).take k) ∧ found.length ≤ k)
    ⟨[], .no, rfl, List.Pairwise.nil, by simp, by simp⟩
    (by
      rintro k hk r ⟨found, s, rfl, hasc, hmem, hle⟩
      have tk : (sortR rows).take (k + 1) = (sortR rows).take k ++ [(sortR rows)[k]] := by
        rw [List.take_add_one, List.getElem?_eq_getElem hk]; rfl
      by_cases h : (sortR rows)[k] ∈ found
      · refine ⟨.nx, [.sh (tss rows), .own true (.lst (found.map ts)), .sh (ts (sortR rows)[k])], ?_, .inl rfl, found, _, rfl, hasc, ?_, by omega⟩
        · simp [fstep, h]
        · intro x
          rw [tk, List.mem_append, ← hmem]
          constructor
          · exact .inl
          · rintro (q | q)
            · exact q
            · simp only [List.mem_singleton] at q; rw [q]; exact h
      · have hf : found.length ≤ 999999 := by omega
        refine ⟨.nx, [.sh (tss rows), .own true (.lst ((found ++ [(sortR rows)[k]]).map ts)), .sh (ts (sortR rows)[k])], ?_, .inl rfl, _, _, rfl, ?_, ?_, by simp; omega⟩
        · simp [fstep, h, hf]
        · refine List.pairwise_append.mpr ⟨hasc, List.pairwise_singleton _ _, fun a ha b hb => ?_⟩
          simp only [List.mem_singleton] at hb
          subst hb
          have ha' := (hmem a).mp ha
          rw [List.mem_take_iff_getElem] at ha'
          obtain ⟨j, hj, rfl⟩ := ha'
          have hjk : j < k := by omega
          have hpw := List.pairwise_iff_getElem.mp (sortR_pw rows) j k (by omega) hk hjk
          refine rLt_of hpw fun q => h ?_
          rw [← q]; exact ha
        · intro x
          rw [tk, List.mem_append, List.mem_append, hmem])
  rw [List.take_length] at hmem
  refine ⟨found, ?_, hasc, fun r => (hmem r).trans (sortR_perm rows).mem_iff, by omega⟩
  simp [fn__law_ascending, tss, ap_sortedR rows hne]
  simp [tss] at e
  simp [e]
/-- the rows of a house of these things -/
structure Rows (l : List Str) (rows : List (List Str)) : Prop where
  ne : rows ≠ []
  asc : AscR rows
  perm : ∀ r ∈ rows, r.Perm l
theorem Rows.row_ne {l : List Str} {rows : List (List Str)} (h : Rows l rows) (hl : 1 ≤ l.length) : ∀ r ∈ rows, r ≠ [] := fun r hr e => by
  have := (h.perm r hr).length_eq
  rw [e] at this; simp at this; omega
def RowsS (P : Ph) (i : Nat) : Prop := ∀ p, Pot p → ∀ l : List Str, Things l → ∀ m : Nat, 1 ≤ m → m ≤ 1000 → ∃ (rows : List (List Str)) (p' : List D), P i [.list p, ts l, .int m] = .ok (tss rows) [.list p'] ∧ Pot p' ∧ Rows l rows ∧ rows.length ≤ m
theorem rows_ok {P : Ph} {d s a : Nat} (hd : DrawS P d) (hs : ShufS P s) (ha : AscendS P a) : ∀ p, Pot p → ∀ l : List Str, Things l → ∀ m : Nat, 1 ≤ m → m ≤ 1000 → ∃ (rows : List (List Str)) (p' : List D), runFn P (fn__law_rows d s a) [.list p, ts l, .int m] = .ok (tss rows) [.list p'] ∧ Pot p' ∧ Rows l rows ∧ rows.length ≤ m := by
  intro p hp l hl m hm hm2
  rw [runFn_ap _ _ _ (by simp [fn__law_rows]; rfl)]
  have h10 := hl.le
  have h1 := hl.pos
  obtain ⟨x, p1, e1, hp1, hx⟩ := hd p hp m (by omega) (by omega)
  obtain ⟨acc, r1, e2, p2, rs, hp2, rfl, rfl, hrs, hperm⟩ := lc_inv (vs := [3]) (tg := .name 3) (tst := tests P []) (elt := den P (.call s [.tmp 0, .var 1])) (g := fun k : Nat => PyData.int k) (l := List.range (1 + x)) (r := [.own false (.lst p1), .sh (ts l), .sh (.int m), .no])
    (fun k acc r => ∃ (p : List D) (rs : List (List Str)) , Pot p ∧ acc = rs.map ts ∧ r = [.own false (.lst p), .sh (ts l), .sh (.int m), if k = 0 then .no else .sh (.int (k - 1 : Nat))] ∧ rs.length = k ∧ ∀ r ∈ rs, r.Perm l)
    (by simp) (by simp; omega) ⟨p1, [], hp1, rfl, by simp, rfl, by simp⟩
    (by
      rintro k hk acc r ⟨p, rs, hp, rfl, rfl, hrs, hperm⟩
      obtain ⟨row, p', e, hp', hrow⟩ := hs p hp l (by omega)
      refine ⟨some (ts row), [.own false (.lst p'), .sh (ts l), .sh (.int m), .sh (.int k)], ?_, p', rs ++ [row], hp', by simp, by simp, by simp [hrs], ?_⟩
      · simp [lcStep, e]
      · intro r hr
        rcases List.mem_append.mp hr with q | q
        · exact hperm r q
        · simp only [List.mem_singleton] at q; rw [q]; exact hrow)
  rw [List.length_range] at hrs
  obtain ⟨rows, e3, hasc, hmem, hle⟩ := ha rs (fun r hr e => by
    have := (hperm r hr).length_eq
    rw [e] at this; simp at this; omega) (by omega)
  have hx' : 1 + x ≤ 100000 := by omega
  have src1 : srcItems .rng1 [.int (1 + (x : Int))] = some ((List.range (1 + x)).map fun (k : Nat) => PyData.int (k : Int)) := by
    have := src_rng (1 + x) hx'
    simpa using this
  refine ⟨rows, p2, ?_, hp2, ⟨?_, hasc, fun r hr => hperm r ((hmem r).mp hr)⟩, by omega⟩
  · simp [back] at e2
    simp [tss] at e3
    simp [fn__law_rows, e1, src1, e2, e3, tss]
  · intro e
    subst e
    cases rs with
    | nil => simp at hrs; omega
    | cons q _ => have := (hmem q).mpr (by simp); simp at this
/-! texts of houses -/
theorem ap_joinR' {row : List Str} (h : ∀ x ∈ row, nmB x = true) (hl : row.length ≤ 1000) : ap .join [.str (Str.ofString " "), .tuple (row.map .str)] = some (.str (txtR row)) := ap_joinR h hl
theorem ap_joinH' {rows : List (List Str)} (h : ∀ r ∈ rows, ∀ x ∈ r, nmB x = true) (hl : ∀ r ∈ rows, r.length ≤ 10) (hn : rows.length ≤ 1000) : ap .join [.str (Str.ofString "; "), .list (rows.map fun r => .str (txtR r))] = some (.str (txtH rows)) := ap_joinH h hl hn
def HTextS (P : Ph) (i : Nat) : Prop := ∀ rows : List (List Str), (∀ r ∈ rows, ∀ x ∈ r, nmB x = true) → (∀ r ∈ rows, r.length ≤ 10) → rows.length ≤ 1000 → P i [tss rows] = .ok (.str (txtH rows)) []
theorem htext_ok (P : Ph) (rows : List (List Str)) (h : ∀ r ∈ rows, ∀ x ∈ r, nmB x = true) (hl : ∀ r ∈ rows, r.length ≤ 10) (hn : rows.length ≤ 1000) : runFn P fn__law_house_text [tss rows] = .ok (.str (txtH rows)) [] := by
  rw [runFn_ap _ _ _ (by simp [fn__law_house_text]; rfl)]
  simp [fn__law_house_text, tss]
  rw [lc1_map (fun r => .str (txtR r)) (by simp) (by simp) (by omega) (by
    intro r hr
    have := hl r hr
    simp [ts, ap_joinR' (h r hr) (by omega)])]
  simp [ap_joinH' h hl hn]
/-! what is taken -/
def bestOf (menu row : List Str) : Str := (row.filter fun x => decide (x ∈ menu)).headD Str.empty
def takenOf (rows : List (List Str)) (menu : List Str) : List Str := menu.filter fun x => decide (x ∈ rows.map (bestOf menu))
theorem best_head {menu row : List Str} (h : ∃ x ∈ row, x ∈ menu) : (row.filter fun x => decide (x ∈ menu)).head? = some (bestOf menu row) := by
  obtain ⟨x, h1, h2⟩ := h
  unfold bestOf
  cases e : row.filter fun x => decide (x ∈ menu) with
  | nil =>
    have : x ∈ row.filter fun x => decide (x ∈ menu) := List.mem_filter.mpr ⟨h1, by simpa using h2⟩
    rw [e] at this; cases this
  | cons a l => rfl
theorem best_mem {menu row : List Str} (h : ∃ x ∈ row, x ∈ menu) : bestOf menu row ∈ row ∧ bestOf menu row ∈ menu := by
  have := List.mem_of_mem_head? (best_head h)
  rw [List.mem_filter] at this
  exact ⟨this.1, by simpa using this.2⟩
def TakenS (P : Ph) (i : Nat) : Prop := ∀ (rows : List (List Str)) (menu : List Str), (∀ r ∈ rows, ∃ x ∈ r, x ∈ menu) → (∀ r ∈ rows, r.length ≤ 1000) → rows.length ≤ 1000 → menu.length ≤ 1000 → P i [tss rows, ts menu] = .ok (ts (takenOf rows menu)) []
theorem taken_ok (P : Ph) (rows : List (List Str)) (menu : List Str) (h : ∀ r ∈ rows, ∃ x ∈ r, x ∈ menu) (hr : ∀ r ∈ rows, r.length ≤ 1000) (hn : rows.length ≤ 1000) (hm : menu.length ≤ 1000) : runFn P fn__law_taken [tss rows, ts menu] = .ok (ts (takenOf rows menu)) [] := by
  rw [runFn_ap _ _ _ (by simp [fn__law_taken]; rfl)]
  simp [fn__law_taken, tss]
  rw [lc1_map (fun r => .str (bestOf menu r)) (by simp) (by simp) (by omega) (by
    intro r hrr
    have := hr r hrr
    simp [ts]
    rw [lc1_filter (fun x => decide (x ∈ menu)) PyData.str (by simp) (by simp) (by omega) (by intro x hx; simp) (by intro x hx _; simp)]
    simp [atI_map, atI_zero, best_head (h r hrr)])]
  have e : (rows.map fun r => PyData.str (bestOf menu r)) = (rows.map (bestOf menu)).map .str := by simp
  simp [ts]
  rw [lc1_filter (fun x => decide (x ∈ rows.map (bestOf menu))) PyData.str (by simp) (by simp) (by omega) (by intro x hx; rw [e]; simp [-List.map_map]) (by intro x hx _; simp)]
  simp [takenOf]
theorem taken_ne {rows : List (List Str)} {menu : List Str} (hne : rows ≠ []) (h : ∀ r ∈ rows, ∃ x ∈ r, x ∈ menu) : takenOf rows menu ≠ [] := by
  cases rows with
  | nil => exact absurd rfl hne
  | cons r rs =>
    have := best_mem (h r (by simp))
    intro e
    have q : bestOf menu r ∈ takenOf (r :: rs) menu := List.mem_filter.mpr ⟨this.2, by simp⟩
    rw [e] at q; cases q
theorem taken_sub {rows : List (List Str)} {menu : List Str} : ∀ x ∈ takenOf rows menu, x ∈ menu := fun x hx => (List.mem_filter.mp hx).1
end M3
set_option Elab.async false
set_option linter.all false
set_option maxRecDepth 100000
set_option maxHeartbeats 1000000
/-! S4: covers. -/
namespace M3
open PySem
def belowOf (row : List Str) (z : Str) : List Str := row.drop (row.idxOf z + 1)
def BelowS (P : Ph) (i : Nat) : Prop := ∀ (row : List Str) (z : Str), z ∈ row → P i [ts row, .str z] = .ok (ts (belowOf row z)) []
theorem below_ok (P : Ph) (row : List Str) (z : Str) (h : z ∈ row) : runFn P fn__law_below [ts row, .str z] = .ok (ts (belowOf row z)) [] := by
  rw [runFn_ap _ _ _ (by simp [fn__law_below]; rfl)]
  simp [fn__law_below, ts, h, cut_from1, belowOf]
/-! what is below -/
theorem best_split {menu r : List Str} (h : ∃ x ∈ r, x ∈ menu) : ∃ a b, r = a ++ bestOf menu r :: b ∧ ∀ x ∈ a, x ∉ menu := by
  induction r with
  | nil => obtain ⟨x, hx, _⟩ := h; cases hx
  | cons y r ih =>
    by_cases hy : y ∈ menu
    · refine ⟨[], r, ?_, by simp⟩
      have : bestOf menu (y :: r) = y := by unfold bestOf; simp [hy]
      rw [this]; rfl
    · have h' : ∃ x ∈ r, x ∈ menu := by
        obtain ⟨x, hx, hm⟩ := h
        rcases List.mem_cons.mp hx with rfl | q
        · exact absurd hm hy
        · exact ⟨x, q, hm⟩
      obtain ⟨a, b, e, ha⟩ := ih h'
      have eb : bestOf menu (y :: r) = bestOf menu r := by unfold bestOf; simp [hy]
      refine ⟨y :: a, b, ?_, ?_⟩
      · rw [eb, List.cons_append, ← e]
      · intro x hx
        rcases List.mem_cons.mp hx with rfl | q
        · exact hy
        · exact ha x q
theorem below_app {a b : List Str} {z : Str} (h : z ∉ a) : belowOf (a ++ z :: b) z = b := by
  have : (a ++ z :: b).idxOf z = a.length := by
    rw [List.idxOf_append, if_neg h]; simp
  unfold belowOf
  rw [this, show a.length + 1 = (a ++ [z]).length by simp, show a ++ z :: b = (a ++ [z]) ++ b by simp, List.drop_left]
theorem best_below {menu r : List Str} {x : Str} (hnd : r.Nodup) (hx : x ∈ r) (hm : x ∈ menu) (hne : x ≠ bestOf menu r) : x ∈ belowOf r (bestOf menu r) := by
  obtain ⟨a, b, e, ha⟩ := best_split ⟨x, hx, hm⟩
  generalize bestOf menu r = z at *
  subst e
  rw [below_app (fun q => by
    rw [List.nodup_append] at hnd
    exact hnd.2.2 z q z (by simp) rfl)]
  rcases List.mem_append.mp hx with q | q
  · exact absurd hm (ha x q)
  · rcases List.mem_cons.mp q with q | q
    · exact absurd q hne
    · exact q
/-- each thing of a row has all that is behind it below it in some of the rows -/
def Coverable (row : List Str) (rows : List (List Str)) : Prop := ∀ k (hk : k < row.length), ∃ r ∈ rows, ∀ x ∈ row.drop (k + 1), x ∈ belowOf r row[k]
/-! a ranking that may join -/
def JoinerS (P : Ph) (i : Nat) : Prop := ∀ p, Pot p → ∀ (l : List Str) (rows : List (List Str)), Things l → Rows l rows → rows.length ≤ 1000 → ∃ (row : List Str) (p' : List D), P i [.list p, tss rows, ts l] = .ok (ts row) [.list p'] ∧ Pot p' ∧ row.Perm l ∧ Coverable row rows
theorem atI_last {α : Type} (l : List α) (a : α) : L2.atI (l ++ [a]) (-1) = some a := by
  unfold L2.atI L2.ixN
  rw [if_neg (by omega), if_pos (by simp; omega)]
  have : (-1 + ((l ++ [a]).length : Int)).toNat = l.length := by simp; omega
  rw [this]; simp
theorem joiner_ok {P : Ph} {t d : Nat} (ht : TakenS P t) (hd : DrawS P d) : ∀ p, Pot p → ∀ (l : List Str) (rows : List (List Str)), Things l → Rows l rows → rows.length ≤ 1000 → ∃ (row : List Str) (p' : List D), runFn P (fn__law_joiner t d) [.list p, tss rows, ts l] = .ok (ts row) [.list p'] ∧ Pot p' ∧ row.Perm l ∧ Coverable row rows := by
  intro p hp l rows hl hR hrl
  have h10 := hl.le
  rw [runFn_ap _ _ _ (by simp [fn__law_joiner]; rfl)]
  obtain ⟨r', e, p', row, left, s3, s6, hp', rfl, hperm, hlen, hcov⟩ := for_inv (tg := .name 3) (body := exes P
      [.set 6 (.call t [.var 1, .var 5]),
       .app 4 (.op .ix [.tmp 6, .call d [.tmp 0, .op .len [.tmp 6]]]),
       .set 5 (.op .tuple [.lc [7] (.name 7) .seq [.var 5] [.op .ne [.tmp 7, .op .ix [.tmp 4, .op .neg [.cst (.int 1)]]]] (.var 7)])])
    (g := PyData.str) (l := l) (r := [.own false (.lst p), .sh (tss rows), .sh (ts l), .no, .own true (.lst []), .sh (ts l), .no, .no])
    (fun k r => ∃ (p : List D) (row left : List Str) (s3 s6 : Sl), Pot p ∧ r = [.own false (.lst p), .sh (tss rows), .sh (ts l), s3, .own true (.lst (row.map .str)), .sh (ts left), s6, .no] ∧ (row ++ left).Perm l ∧ row.length = k ∧ ∀ j (hj : j < row.length), ∃ r ∈ rows, ∀ x ∈ l, x ∉ row.take (j + 1) → x ∈ belowOf r row[j])
    ⟨p, [], l, .no, .no, hp, rfl, by simp, rfl, by simp⟩
    (by
      rintro k hk r ⟨p, row, left, s3, s6, hp, rfl, hperm, hlen, hcov⟩
      have hpl := hperm.length_eq
      rw [List.length_append] at hpl
      have hleft : left ≠ [] := by intro e; rw [e] at hpl; simp at hpl; omega
      have hsub : ∀ x ∈ left, x ∈ l := fun x hx => hperm.mem_iff.mp (List.mem_append_right _ hx)
      have hin : ∀ r ∈ rows, ∃ x ∈ r, x ∈ left := fun r hr => by
        cases left with
        | nil => exact absurd rfl hleft
        | cons x xs => exact ⟨x, (hR.perm r hr).mem_iff.mpr (hsub x (by simp)), by simp⟩
      have et := ht rows left hin (fun r hr => by have := (hR.perm r hr).length_eq; omega) hrl (by omega)
      have hne := taken_ne hR.ne hin
      have hpos : 0 < (takenOf rows left).length := List.length_pos_iff.mpr hne
      have htl : (takenOf rows left).length ≤ left.length := List.length_filter_le _ _
      obtain ⟨x, p1, e1, hp1, hx⟩ := hd p hp (takenOf rows left).length (by omega) (by omega)
      have hx' : x < (takenOf rows left).length := by omega
      have at1 : L2.atI ((takenOf rows left).map PyData.str) (x : Int) = some (.str (takenOf rows left)[x]) := by
        rw [atI_map, atI_nat _ _ hx']; rfl
      have hz : (takenOf rows left)[x] ∈ left := taken_sub _ (List.getElem_mem hx')
      have hzt : (takenOf rows left)[x] ∈ rows.map (bestOf left) := by
        have := (List.mem_filter.mp (List.getElem_mem hx')).2
        exact of_decide_eq_true this
      generalize ez : (takenOf rows left)[x] = z at at1 hz hzt
      have hrow : row.length ≤ 999999 := by omega
      have nd : left.Nodup := by
        have := (hperm.nodup_iff).mpr hl.asc.nodup
        exact (List.nodup_append.mp this).2.1
      have hlc : block [7] (lcLoop [7] (.name 7) (tests P [.op .ne [.tmp 7, .op .ix [.tmp 4, .op .neg [.cst (.int 1)]]]]) (den P (.var 7)) (left.map PyData.str) []) [.own false (.lst p1), .sh (tss rows), .sh (ts l), .sh (.str l[k]), .own true (.lst (row.map .str ++ [.str z])), .sh (.tuple (left.map .str)), .sh (.tuple ((takenOf rows left).map .str)), .no] = .ok ((left.filter fun y => !decide (y = z)).map .str) [.own false (.lst p1), .sh (tss rows), .sh (ts l), .sh (.str l[k]), .own true (.lst (row.map .str ++ [.str z])), .sh (.tuple (left.map .str)), .sh (.tuple ((takenOf rows left).map .str)), .no] :=
        lc1_filter (fun y => !decide (y = z)) PyData.str (by simp) (by simp) (by omega) (by intro y hy; simp [atI_last]) (by intro y hy _; simp)
      refine ⟨.nx, [.own false (.lst p1), .sh (tss rows), .sh (ts l), .sh (.str l[k]), .own true (.lst ((row ++ [z]).map .str)), .sh (ts (left.filter fun y => !decide (y = z))), .sh (ts (takenOf rows left)), .no], ?_, .inl rfl, p1, row ++ [z], _, _, _, hp1, rfl, ?_, by simp [hlen], ?_⟩
      · simp [ts] at et
        simp [fstep, ts, et, e1, at1, hrow]
        simp [ts] at hlc
        simp [hlc]
      · have q : (z :: left.filter fun y => !decide (y = z)).Perm left := by
          have h1 : (left.filter fun y => !decide (y = z)) = left.erase z := by
            rw [nd.erase_eq_filter]; congr 1
          rw [h1]; exact (List.perm_cons_erase hz).symm
        rw [List.append_assoc]
        exact (List.Perm.append_left row q).trans hperm
      · intro j hj
        by_cases hjr : j < row.length
        · obtain ⟨r, hr, hb⟩ := hcov j hjr
          refine ⟨r, hr, fun x hx hn => ?_⟩
          rw [List.getElem_append_left hjr]
          refine hb x hx fun q => hn ?_
          rw [List.take_append_of_le_length (by omega)]; exact q
        · have hjk : j = row.length := by simp at hj; omega
          subst hjk
          obtain ⟨r, hr, rfl⟩ := List.mem_map.mp hzt
          refine ⟨r, hr, fun x hx hn => ?_⟩
          have hxr : x ∉ row ++ [bestOf left r] := fun q => hn (by rw [List.take_of_length_le (by simp)]; exact q)
          have hxl : x ∈ left := by
            rcases List.mem_append.mp (hperm.mem_iff.mpr hx) with q | q
            · exact absurd (List.mem_append_left _ q) hxr
            · exact q
          have e : (row ++ [bestOf left r])[row.length]'(by simp) = bestOf left r := by simp
          rw [e]
          exact best_below ((hR.perm r hr).symm.nodup hl.asc.nodup) ((hR.perm r hr).mem_iff.mpr hx) hxl (fun q => hxr (by rw [q]; simp)))
  have hpl := hperm.length_eq
  simp only [List.length_append, hlen] at hpl
  have : left = [] := List.length_eq_zero_iff.mp (by omega)
  subst this
  have hperm' : row.Perm l := by simpa using hperm
  refine ⟨row, p', ?_, hp', hperm', ?_⟩
  · simp [ts] at e
    simp [fn__law_joiner, ts, e]
  · intro k hk
    obtain ⟨r, hr, hb⟩ := hcov k hk
    refine ⟨r, hr, fun x hx => hb x (hperm'.mem_iff.mp (List.mem_of_mem_drop hx)) fun q => ?_⟩
    have nd : row.Nodup := hperm'.symm.nodup hl.asc.nodup
    rw [← List.take_append_drop (k + 1) row, List.nodup_append] at nd
    exact nd.2.2 x q x hx rfl
/-! a drawn cover -/
def CoverS (P : Ph) (i : Nat) : Prop := ∀ p, Pot p → ∀ (l row : List Str) (rows : List (List Str)), row.length ≤ 1000 → row.Perm l → Rows l rows → rows.length ≤ 1000 → ∃ (c : List Int) (p' : List D), P i [.list p, ts row, tss rows] = .ok (ti c) [.list p'] ∧ Pot p' ∧ c.length = row.length ∧ ∀ k (hk : k < c.length) (hk2 : k < row.length), ∃ j, ∃ (hj : j < rows.length), c[k] = (j : Int) ∧ ((∃ r ∈ rows, ∀ x ∈ row.drop (k + 1), x ∈ belowOf r row[k]) → ∀ x ∈ row.drop (k + 1), x ∈ belowOf rows[j] row[k])
theorem cover_ok {P : Ph} {b d : Nat} (hb : BelowS P b) (hd : DrawS P d) : ∀ p, Pot p → ∀ (l row : List Str) (rows : List (List Str)), row.length ≤ 1000 → row.Perm l → Rows l rows → rows.length ≤ 1000 → ∃ (c : List Int) (p' : List D), runFn P (fn__law_cover b d) [.list p, ts row, tss rows] = .ok (ti c) [.list p'] ∧ Pot p' ∧ c.length = row.length ∧ ∀ k (hk : k < c.length) (hk2 : k < row.length), ∃ j, ∃ (hj : j < rows.length), c[k] = (j : Int) ∧ ((∃ r ∈ rows, ∀ x ∈ row.drop (k + 1), x ∈ belowOf r row[k]) → ∀ x ∈ row.drop (k + 1), x ∈ belowOf rows[j] row[k]) := by
  intro p hp l row rows hrow hperm hR hrl
  rw [runFn_ap _ _ _ (by simp [fn__law_cover]; rfl)]
  obtain ⟨r', e, p', c, s4, s5, s6, hp', rfl, hlen, hgood⟩ := for_inv (tg := .name 4) (body := exes P
      [.set 5 (.lc [7] (.name 7) .seq [.var 2] [] (.call b [.var 7, .op .ix [.tmp 1, .tmp 4]])),
       .set 6 (.lc [8] (.name 8) .rng1 [.op .len [.tmp 2]] [.op .all [.lc [9] (.name 9) .seq [.slc true false (.tmp 1) (.op .add [.tmp 4, .cst (.int 1)]) (.cst .none)] [] (.op .isin [.tmp 9, .op .ix [.tmp 5, .tmp 8]])]] (.var 8)),
       .set 6 (.ite (.op .ne [.tmp 6, .lst []]) (.var 6) (.op .rangeL [.op .len [.tmp 2]])),
       .app 3 (.op .ix [.tmp 6, .call d [.tmp 0, .op .len [.tmp 6]]])])
    (g := fun k : Nat => PyData.int k) (l := List.range row.length) (r := [.own false (.lst p), .sh (ts row), .sh (tss rows), .own true (.lst []), .no, .no, .no, .no, .no, .no])
    (fun k r => ∃ (p : List D) (c : List Int) (s4 s5 s6 : Sl), Pot p ∧ r = [.own false (.lst p), .sh (ts row), .sh (tss rows), .own true (.lst (c.map .int)), s4, s5, s6, .no, .no, .no] ∧ c.length = k ∧ ∀ k (hk : k < c.length) (hk2 : k < row.length), ∃ j, ∃ (hj : j < rows.length), c[k] = (j : Int) ∧ ((∃ r ∈ rows, ∀ x ∈ row.drop (k + 1), x ∈ belowOf r row[k]) → ∀ x ∈ row.drop (k + 1), x ∈ belowOf rows[j] row[k]))
    ⟨p, [], .no, .no, .no, hp, rfl, rfl, by simp⟩
    (by
      rintro k hk r ⟨p, c, s4, s5, s6, hp, rfl, hlen, hgood⟩
      have hk' : k < row.length := by simpa using hk
      have at1 : L2.atI (row.map PyData.str) (k : Int) = some (.str row[k]) := by rw [atI_map, atI_nat _ _ hk']; rfl
      have hlc1 : block [7] (lcLoop [7] (.name 7) (tests P []) (den P (.call b [.var 7, .op .ix [.tmp 1, .tmp 4]])) (rows.map ts) []) [.own false (.lst p), .sh (.tuple (row.map .str)), .sh (.list (rows.map ts)), .own true (.lst (c.map .int)), .sh (.int k), s5, s6, .no, .no, .no] = .ok (rows.map fun o => ts (belowOf o row[k])) [.own false (.lst p), .sh (.tuple (row.map .str)), .sh (.list (rows.map ts)), .own true (.lst (c.map .int)), .sh (.int k), s5, s6, .no, .no, .no] :=
        lc1_map _ (by simp) (by simp) (by omega) (by
          intro o ho
          have hz : row[k] ∈ o := (hR.perm o ho).mem_iff.mpr (hperm.mem_iff.mp (List.getElem_mem hk'))
          have := hb o row[k] hz
          simp [at1, this])
      let q : Nat → Bool := fun j => (row.drop (k + 1)).all fun x => decide (x ∈ belowOf (rows.getD j []) row[k])
      have hlc2 : block [8] (lcLoop [8] (.name 8) (tests P [.op .all [.lc [9] (.name 9) .seq [.slc true false (.tmp 1) (.op .add [.tmp 4, .cst (.int 1)]) (.cst .none)] [] (.op .isin [.tmp 9, .op .ix [.tmp 5, .tmp 8]])]]) (den P (.var 8)) ((List.range rows.length).map fun k : Nat => PyData.int k) []) [.own false (.lst p), .sh (.tuple (row.map .str)), .sh (.list (rows.map ts)), .own true (.lst (c.map .int)), .sh (.int k), .sh (.list (rows.map fun o => ts (belowOf o row[k]))), s6, .no, .no, .no] = .ok (((List.range rows.length).filter q).map fun k : Nat => PyData.int k) [.own false (.lst p), .sh (.tuple (row.map .str)), .sh (.list (rows.map ts)), .own true (.lst (c.map .int)), .sh (.int k), .sh (.list (rows.map fun o => ts (belowOf o row[k]))), s6, .no, .no, .no] :=
        lc1_filter q _ (by simp) (by simp) (by simp; omega) (by
          intro j hj
          have hj' : j < rows.length := by simpa using hj
          have at2 : L2.atI (rows.map fun o => ts (belowOf o row[k])) (j : Int) = some (ts (belowOf rows[j] row[k])) := by rw [atI_map, atI_nat _ _ hj']; rfl
          simp [cut_from1, -List.map_drop, ← List.map_drop]
          rw [lc1_map (fun x => .bool (decide (x ∈ belowOf rows[j] row[k]))) (by simp) (by simp) (by simp; omega) (by
            intro x hx
            simp [at2])]
          have : q j = ((row.drop (k + 1)).all fun x => decide (x ∈ belowOf rows[j] row[k])) := by
            show ((row.drop (k + 1)).all fun x => decide (x ∈ belowOf (rows.getD j []) row[k])) = _
            rw [List.getD_eq_getElem?_getD, List.getElem?_eq_getElem hj']; rfl
          rw [this]
          simp [-List.map_drop, Function.comp_def]) (by intro j hj _; simp)
      have hpos : 0 < rows.length := List.length_pos_iff.mpr hR.ne
      have hrl' : rows.length ≤ 100000 := by omega
      have hc : c.length ≤ 999999 := by omega
      let good : List Nat := if (List.range rows.length).filter q = [] then List.range rows.length else (List.range rows.length).filter q
      have hgl : good.length ≤ rows.length ∧ 0 < good.length := by
        show (if (List.range rows.length).filter q = [] then List.range rows.length else (List.range rows.length).filter q).length ≤ rows.length ∧ _ < (if (List.range rows.length).filter q = [] then List.range rows.length else (List.range rows.length).filter q).length
        split
        · simp; omega
        · rename_i hne
          refine ⟨?_, List.length_pos_iff.mpr hne⟩
          have := List.length_filter_le q (List.range rows.length)
          simpa using this
      obtain ⟨x, p1, e1, hp1, hx⟩ := hd p hp good.length (by omega) (by omega)
      have hx' : x < good.length := by omega
      have hgx : good[x] < rows.length ∧ ((∃ r ∈ rows, ∀ y ∈ row.drop (k + 1), y ∈ belowOf r row[k]) → ∀ y ∈ row.drop (k + 1), y ∈ belowOf (rows.getD good[x] []) row[k]) := by
        have hm : good[x] ∈ good := List.getElem_mem hx'
        generalize good[x] = gx at hm
        by_cases hg : (List.range rows.length).filter q = []
        · have eg : good = List.range rows.length := if_pos hg
          rw [eg] at hm
          refine ⟨by simpa using hm, fun ⟨r, hr, hb⟩ => ?_⟩
          exfalso
          obtain ⟨j, hj, rfl⟩ := List.getElem_of_mem hr
          have : j ∈ (List.range rows.length).filter q := by
            rw [List.mem_filter]
            refine ⟨by simpa using hj, ?_⟩
            show ((row.drop (k + 1)).all fun x => decide (x ∈ belowOf (rows.getD j []) row[k])) = true
            rw [List.getD_eq_getElem?_getD, List.getElem?_eq_getElem hj, List.all_eq_true]
            intro y hy
            exact decide_eq_true (hb y hy)
          rw [hg] at this; cases this
        · have eg : good = (List.range rows.length).filter q := if_neg hg
          rw [eg, List.mem_filter] at hm
          refine ⟨by simpa using hm.1, fun _ y hy => ?_⟩
          have := List.all_eq_true.mp hm.2 y hy
          exact of_decide_eq_true this
      have at3 : L2.atI (good.map fun k : Nat => PyData.int k) (x : Int) = some (.int good[x]) := by rw [atI_map, atI_nat _ _ hx']; rfl
      have hne : ap .ne [.list (((List.range rows.length).filter q).map fun k : Nat => PyData.int k), .list []] = some (.bool (!decide ((List.range rows.length).filter q = []))) := by
        have e1 : (((List.range rows.length).filter q).map fun k : Nat => PyData.int k) = (((List.range rows.length).filter q).map fun k : Nat => (k : Int)).map .int := by simp
        have e2 : (PyData.list []) = .list (([] : List Int).map .int) := rfl
        rw [e1, e2, ap_ne, ieq_intL]
        simp only [List.map_eq_nil_iff, Option.map_some]
      refine ⟨.nx, [.own false (.lst p1), .sh (ts row), .sh (tss rows), .own true (.lst ((c ++ [(good[x] : Int)]).map .int)), .sh (.int k), .sh (.list (rows.map fun o => ts (belowOf o row[k]))), .sh (.list (good.map fun k : Nat => PyData.int k)), .no, .no, .no], ?_, .inl rfl, p1, _, _, _, _, hp1, rfl, by simp [hlen], ?_⟩
      rotate_left
      · intro j hj hj2
        by_cases hjc : j < c.length
        · rw [List.getElem_append_left hjc]; exact hgood j hjc hj2
        · have hjk : j = c.length := by simp at hj; omega
          subst hjk
          refine ⟨good[x], hgx.1, by simp, fun h => ?_⟩
          have h2 := hgx.2
          rw [List.getD_eq_getElem?_getD, List.getElem?_eq_getElem hgx.1] at h2
          simp only [hlen] at h ⊢
          exact h2 h
      clear hgood hgx
      simp only [List.length_range, List.getElem_range] at *
      have hrl2 : rows.length ≤ 100000 := hrl'
      simp [fstep, ts, tss]
      simp [ts] at hlc1
      rw [hlc1]
      simp [hrl2]
      simp [ts] at hlc2
      rw [hlc2]
      by_cases hg : (List.range rows.length).filter q = []
      · have eg : good = List.range rows.length := if_pos hg
        rw [eg] at e1
        simp only [eg] at at3 ⊢
        have hne' : ieq (.list []) (.list []) = some true := rfl
        simp at at3 e1
        simp [hg, hrl2, e1, at3, hc, hne']
      · have eg : good = (List.range rows.length).filter q := if_neg hg
        rw [eg] at e1
        simp only [eg] at at3 ⊢
        simp only [hg, decide_false, Bool.not_false] at hne
        rw [ap_ne] at hne
        simp [hne, e1, at3, hc])
  refine ⟨c, p', ?_, hp', by simpa using hlen, hgood⟩
  have hrow' : row.length ≤ 100000 := by omega
  simp [ts] at e
  simp [fn__law_cover, ts, ti, hrow', e]
end M3
set_option Elab.async false
set_option linter.all false
set_option maxRecDepth 100000
set_option maxHeartbeats 1000000
/-! S5: what a cover is; told. -/
namespace M3
open PySem
def isIdx (n : Nat) : D → Bool
  | .int i => decide (0 ≤ i) && decide (i < (n : Int))
  | _ => false
def idxD : D → Nat
  | .int i => i.toNat
  | _ => 0
def covAt (row : List Str) (rows : List (List Str)) (k : Nat) (d : D) : Bool := (row.drop (k + 1)).all fun x => decide (x ∈ belowOf (rows.getD (idxD d) []) (row.getD k Str.empty))
def coverB (d : D) (row : List Str) (rows : List (List Str)) : Bool := match d with
  | .tuple ks => (ks.length == row.length) && (List.range row.length).all fun k => isIdx rows.length (ks.getD k .none) && covAt row rows k (ks.getD k .none)
  | _ => false
def coversB (d : D) (rows others : List (List Str)) : Bool := match d with
  | .tuple vs => (vs.length == rows.length) && (List.range rows.length).all fun k => coverB (vs.getD k .none) (rows.getD k []) others
  | _ => false
theorem isIdx_true {n : Nat} {d : D} (h : isIdx n d = true) : ∃ j : Nat, j < n ∧ d = .int j := by
  cases d with
  | int i =>
    simp only [isIdx, Bool.and_eq_true, decide_eq_true_eq] at h
    exact ⟨i.toNat, by omega, by congr 1; omega⟩
  | _ => cases h
theorem hd_getD {ks : List D} (h : PyData.hasDictAll ks = false) (k : Nat) (hk : k < ks.length) : (ks[k]).hasDict = false := hasDictAll_false.mp h _ (List.getElem_mem hk)
theorem rows_all_false {n : Nat} {f : Nat → Bool} {k : Nat} (h : k < n) (hf : f k = false) : (List.range n).all f = false := by
  rw [List.all_eq_false]
  exact ⟨k, by simpa using h, by simp [hf]⟩
def IsCoverS (P : Ph) (i : Nat) : Prop := ∀ (d : D) (row : List Str) (rows : List (List Str)), d.hasDict = false → row.length ≤ 1000 → (∀ o ∈ rows, ∀ x ∈ row, x ∈ o) → P i [d, ts row, tss rows] = .ok (.bool (coverB d row rows)) []
theorem is_cover_ok {P : Ph} {b : Nat} (hb : BelowS P b) (d : D) (row : List Str) (rows : List (List Str)) (hd : d.hasDict = false) (hrow : row.length ≤ 1000) (hR : ∀ o ∈ rows, ∀ x ∈ row, x ∈ o) : runFn P (fn__law_is_cover b) [d, ts row, tss rows] = .ok (.bool (coverB d row rows)) [] := by
  rw [runFn_ap _ _ _ (by simp [fn__law_is_cover]; rfl)]
  have hrow' : row.length ≤ 100000 := by omega
  cases d with
  | tuple ks =>
    simp only [PyData.hasDict] at hd
    have hdt : (PyData.tuple ks).hasDict = false := by simp only [PyData.hasDict]; exact hd
    by_cases hl : ks.length = row.length
    · have hcb : coverB (.tuple ks) row rows = (List.range row.length).all fun k => isIdx rows.length (ks.getD k .none) && covAt row rows k (ks.getD k .none) := by
        simp [coverB, hl]
      rw [hcb]
      have loop := for_ret (tg := .name 3) (body := exes P
          [.set 4 (.op .ix [.tmp 0, .tmp 3]),
           .ife (.or (.not (.op (.isi 1) [.tmp 4])) (.or (.op (.isi 2) [.tmp 4]) (.not (.chain .le .lt (.cst (.int 0)) (.var 4) (.op .len [.tmp 2])))))
            [.ret (.cst (.bool false))]
            [],
           .set 5 (.call b [.op .ix [.tmp 2, .tmp 4], .op .ix [.tmp 1, .tmp 3]]),
           .ife (.not (.op .all [.lc [6] (.name 6) .seq [.slc true false (.tmp 1) (.op .add [.tmp 3, .cst (.int 1)]) (.cst .none)] [] (.op .isin [.tmp 6, .tmp 5])]))
            [.ret (.cst (.bool false))]
            []]) (g := fun k : Nat => PyData.int k)
        (fun k r => (∃ s3 s4 s5 : Sl, r = [.sh (.tuple ks), .sh (ts row), .sh (tss rows), s3, s4, s5, .no]) ∧ ∀ j < k, (isIdx rows.length (ks.getD j .none) && covAt row rows j (ks.getD j .none)) = true)
        (fun d r => d = .bool false ∧ (∃ s0 s1 s2 sr, r = s0 :: s1 :: s2 :: sr) ∧ ∃ k < row.length, (isIdx rows.length (ks.getD k .none) && covAt row rows k (ks.getD k .none)) = false)
        (List.range row.length) 0 [.sh (.tuple ks), .sh (ts row), .sh (tss rows), .no, .no, .no, .no] ⟨⟨_, _, _, rfl⟩, by simp⟩
        (by
          rintro k hk r ⟨⟨s3, s4, s5, rfl⟩, hall⟩
          have hk' : k < row.length := by simpa using hk
          have hkk : k < ks.length := by omega
          have at1 : L2.atI ks (k : Int) = some ks[k] := atI_nat _ _ hkk
          have gd : ks.getD k .none = ks[k] := by rw [List.getD_eq_getElem?_getD, List.getElem?_eq_getElem hkk]; rfl
          have gr : row.getD k Str.empty = row[k] := by rw [List.getD_eq_getElem?_getD, List.getElem?_eq_getElem hk']; rfl
          have hdk := hd_getD hd k hkk
          have stop : (isIdx rows.length ks[k] = false) → fstep (.name 3) (exes P
          [.set 4 (.op .ix [.tmp 0, .tmp 3]),
           .ife (.or (.not (.op (.isi 1) [.tmp 4])) (.or (.op (.isi 2) [.tmp 4]) (.not (.chain .le .lt (.cst (.int 0)) (.var 4) (.op .len [.tmp 2])))))
            [.ret (.cst (.bool false))]
            [],
           .set 5 (.call b [.op .ix [.tmp 2, .tmp 4], .op .ix [.tmp 1, .tmp 3]]),
           .ife (.not (.op .all [.lc [6] (.name 6) .seq [.slc true false (.tmp 1) (.op .add [.tmp 3, .cst (.int 1)]) (.cst .none)] [] (.op .isin [.tmp 6, .tmp 5])]))
            [.ret (.cst (.bool false))]
            []]) (.int k) [.sh (.tuple ks), .sh (ts row), .sh (tss rows), s3, s4, s5, .no] = .ok (.rt (.bool false)) [.sh (.tuple ks), .sh (ts row), .sh (tss rows), .sh (.int k), .sh ks[k], s5, .no] := by
            intro hix
            generalize ks[k] = z at at1 hdk hix
            cases z with
            | int i =>
              simp only [isIdx, Bool.and_eq_false_iff, decide_eq_false_iff_not] at hix
              by_cases h0 : i < 0
              · simp [fstep, at1, ts, tss, h0, PyData.hasDict]
              · have h1 : ¬ i < (rows.length : Int) := by omega
                simp [fstep, at1, ts, tss, h0, h1, PyData.hasDict]
            | dict kv => simp [PyData.hasDict] at hdk
            | bool bb => simp [fstep, at1, ts, tss, PyData.hasDict]
            | none => simp [fstep, at1, ts, tss, PyData.hasDict, isiD]
            | str x => simp [fstep, at1, ts, tss, PyData.hasDict, isiD]
            | list x => simp [fstep, at1, ts, tss, hdk, isiD]
            | tuple x => simp [fstep, at1, ts, tss, hdk, isiD]
          simp only [Nat.zero_add, List.getElem_range] at hall ⊢
          cases hix : isIdx rows.length ks[k] with
          | false => exact .inr ⟨_, _, stop hix, rfl, ⟨_, _, _, _, rfl⟩, k, hk', by rw [gd, hix]; rfl⟩
          | true =>
            obtain ⟨j, hj, hz⟩ := isIdx_true hix
            have at2 : L2.atI (rows.map ts) (j : Int) = some (ts rows[j]) := by rw [atI_map, atI_nat _ _ hj]; rfl
            have at3 : L2.atI (row.map PyData.str) (k : Int) = some (.str row[k]) := by rw [atI_map, atI_nat _ _ hk']; rfl
            have eb := hb rows[j] row[k] (hR _ (List.getElem_mem hj) _ (List.getElem_mem hk'))
            have cv : covAt row rows k ks[k] = (row.drop (k + 1)).all fun x => decide (x ∈ belowOf rows[j] row[k]) := by
              unfold covAt
              rw [hz, gr]
              show ((row.drop (k + 1)).all fun x => decide (x ∈ belowOf (rows.getD ((j : Int).toNat) []) row[k])) = _
              rw [Int.toNat_natCast, List.getD_eq_getElem?_getD, List.getElem?_eq_getElem hj]; rfl
            have hj0 : (decide ((j : Int) < 0)) = false := by simp
            have st : ∀ bb : Bool, covAt row rows k ks[k] = bb → fstep (.name 3) (exes P
          [.set 4 (.op .ix [.tmp 0, .tmp 3]),
           .ife (.or (.not (.op (.isi 1) [.tmp 4])) (.or (.op (.isi 2) [.tmp 4]) (.not (.chain .le .lt (.cst (.int 0)) (.var 4) (.op .len [.tmp 2])))))
            [.ret (.cst (.bool false))]
            [],
           .set 5 (.call b [.op .ix [.tmp 2, .tmp 4], .op .ix [.tmp 1, .tmp 3]]),
           .ife (.not (.op .all [.lc [6] (.name 6) .seq [.slc true false (.tmp 1) (.op .add [.tmp 3, .cst (.int 1)]) (.cst .none)] [] (.op .isin [.tmp 6, .tmp 5])]))
            [.ret (.cst (.bool false))]
            []]) (.int k) [.sh (.tuple ks), .sh (ts row), .sh (tss rows), s3, s4, s5, .no] = .ok (if bb = true then .nx else .rt (.bool false)) [.sh (.tuple ks), .sh (ts row), .sh (tss rows), .sh (.int k), .sh (.int j), .sh (ts (belowOf rows[j] row[k])), .no] := by
              intro bb hbb
              rw [cv] at hbb
              rw [hz] at at1
              have hj' : (j : Int) < (rows.length : Int) := by omega
              simp [fstep, at1, ts, tss, PyData.hasDict, hj0, hj]
              simp [ts] at eb
              simp [ts] at at2
              simp [at2, at3, eb, cut_from1, -List.map_drop, ← List.map_drop]
              rw [lc1_map (fun x => .bool (decide (x ∈ belowOf rows[j] row[k]))) (by simp) (by simp) (by simp; omega) (by intro x hx; simp)]
              simp [-List.map_drop, Function.comp_def, hbb]
              cases bb <;> simp
            cases hcv : covAt row rows k ks[k] with
            | true =>
              refine .inl ⟨_, _, st true hcv, .inl rfl, ⟨_, _, _, rfl⟩, ?_⟩
              intro j' hj'
              rcases Nat.lt_succ_iff_lt_or_eq.mp hj' with q | q
              · exact hall j' q
              · subst q; rw [gd, hix, hcv]; rfl
            | false =>
              exact .inr ⟨_, _, st false hcv, rfl, ⟨_, _, _, _, rfl⟩, k, hk', by rw [gd, hix, hcv]; rfl⟩)
      rcases loop with ⟨r', e, ⟨s3, s4, s5, rfl⟩, hall⟩ | ⟨dd, r', e, rfl, ⟨_, _, _, _, rfl⟩, k, hk, hf⟩
      · have : ((List.range row.length).all fun k => isIdx rows.length (ks.getD k .none) && covAt row rows k (ks.getD k .none)) = true := by
          rw [List.all_eq_true]
          intro k hk
          exact hall k (by simpa using hk)
        rw [this]
        simp [ts, tss] at e
        simp [fn__law_is_cover, ts, tss, hdt, hl, hrow', e]
      · rw [rows_all_false hk hf]
        simp [ts, tss] at e
        simp [fn__law_is_cover, ts, tss, hdt, hl, hrow', e]
    · have hne : ¬ (ks.length : Int) = (row.length : Int) := by omega
      have hcb : coverB (.tuple ks) row rows = false := by simp [coverB, hl]
      rw [hcb]
      simp [fn__law_is_cover, ts, tss, hdt, hl, hne]
  | dict kv => simp [PyData.hasDict] at hd
  | none => simp [fn__law_is_cover, ts, tss, hd, isiD, coverB]
  | bool x => simp [fn__law_is_cover, ts, tss, hd, isiD, coverB]
  | int x => simp [fn__law_is_cover, ts, tss, hd, isiD, coverB]
  | str x => simp [fn__law_is_cover, ts, tss, hd, isiD, coverB]
  | list x => simp [fn__law_is_cover, ts, tss, hd, isiD, coverB]
def AreCoversS (P : Ph) (i : Nat) : Prop := ∀ (d : D) (rows others : List (List Str)), d.hasDict = false → rows.length ≤ 1000 → (∀ r ∈ rows, r.length ≤ 1000) → (∀ o ∈ others, ∀ r ∈ rows, ∀ x ∈ r, x ∈ o) → P i [d, tss rows, tss others] = .ok (.bool (coversB d rows others)) []
theorem are_covers_ok {P : Ph} {c : Nat} (hc : IsCoverS P c) (d : D) (rows others : List (List Str)) (hd : d.hasDict = false) (hl : rows.length ≤ 1000) (hr : ∀ r ∈ rows, r.length ≤ 1000) (hR : ∀ o ∈ others, ∀ r ∈ rows, ∀ x ∈ r, x ∈ o) : runFn P (fn__law_are_covers c) [d, tss rows, tss others] = .ok (.bool (coversB d rows others)) [] := by
  rw [runFn_ap _ _ _ (by simp [fn__law_are_covers]; rfl)]
  have hl' : rows.length ≤ 100000 := by omega
  cases d with
  | tuple vs =>
    have hdt : (PyData.tuple vs).hasDict = false := hd
    simp only [PyData.hasDict] at hd
    by_cases hlv : vs.length = rows.length
    · simp [fn__law_are_covers, tss, hdt, hlv, hl', coversB]
      rw [lc1_map (fun k => .bool (coverB (vs.getD k .none) (rows.getD k []) others)) (by simp) (by simp) (by simp; omega) (by
        intro k hk
        have hk' : k < rows.length := by simpa using hk
        have hkv : k < vs.length := by omega
        have at1 : L2.atI vs (k : Int) = some vs[k] := atI_nat _ _ hkv
        have at2 : L2.atI (rows.map ts) (k : Int) = some (ts rows[k]) := by rw [atI_map, atI_nat _ _ hk']; rfl
        have ec := hc vs[k] rows[k] others (hd_getD hd k hkv) (hr _ (List.getElem_mem hk')) (fun o ho x hx => hR o ho _ (List.getElem_mem hk') x hx)
        simp [tss] at ec
        simp [at1, at2, ec, hkv, hk'])]
      simp [Function.comp_def]
    · have hne : ¬ (vs.length : Int) = (rows.length : Int) := by omega
      simp [fn__law_are_covers, tss, hdt, hlv, coversB, hne]
  | dict kv => simp [PyData.hasDict] at hd
  | none => simp [fn__law_are_covers, tss, hd, isiD, coversB]
  | bool x => simp [fn__law_are_covers, tss, hd, isiD, coversB]
  | int x => simp [fn__law_are_covers, tss, hd, isiD, coversB]
  | str x => simp [fn__law_are_covers, tss, hd, isiD, coversB]
  | list x => simp [fn__law_are_covers, tss, hd, isiD, coversB]
/-! what is told -/
theorem repr_bb (a b : Bool) : ap .repr [.list [.bool a, .bool b]] = some (.str (PyData.shown (.list [.bool a, .bool b]))) := by
  have : ∀ d : D, (!d.hasDict && d.showable && decide (d.depth ≤ 60) && sOk d.shown) = true → ap .repr [d] = some (.str d.shown) := fun d h => by
    simp only [ap, h, if_true]
  exact this _ (by cases a <;> cases b <;> decide +kernel)
theorem shown_bb (a b : Bool) : decide (PyData.shown (.list [.bool a, .bool a]) = PyData.shown (.list [.bool b, .bool b])) = (a == b) := by
  cases a <;> cases b <;> decide +kernel
def ToldS (P : Ph) (i : Nat) (Q : Ph) : Prop := ∀ (asked paper : D) (a b : Bool), Q 0 [asked, paper] = .ok (.bool a) [] → P i [asked, paper, .bool b] = .ok (.bool (a == b)) []
theorem told_ok {P : Ph} {asked paper : D} {a b : Bool} (h : P 0 [asked, paper] = .ok (.bool a) []) : runFn P fn__law_told [asked, paper, .bool b] = .ok (.bool (a == b)) [] := by
  rw [runFn_ap _ _ _ (by simp [fn__law_told]; rfl)]
  simp [fn__law_told, h, repr_bb, shown_bb]
end M3
set_option Elab.async false
set_option linter.all false
set_option maxRecDepth 100000
set_option maxHeartbeats 1000000
/-! K1: the checker: names, rows, houses, covers. -/
namespace M3
open PySem
def chkL : List Fn := [fn_accepts, fn_looks_in, fn_look_in, fn_is_things, fn_is_rising, fn_is_name, fn_is_menu, fn_is_among, fn_shows_answer, fn_is_bar, fn_is_barred_need, fn_sharpened, fn_passing, fn_is_row_of, fn_is_integer, fn_others, fn_people_in, fn_row_in, fn_takes, fn_best_in, fn_fit, fn_has_look, fn_shows_houses, fn_rows_in, fn_shows_parted, fn_shows_fewest, fn_are_loose, fn_is_part, fn_covers_both, fn_covers_rows, fn_covers_row, fn_is_below, fn_is_crest, fn_shows_common, fn_shows_looks]
def CK (rest : List Fn) (n : Nat) : Ph := callF (chkL ++ rest) n
theorem ck_ap {rest : List Fn} {i : Nat} {F : Fn} (h : chkL[i]? = some F) (n : Nat) (ds : List D) : CK rest (n + 1) i ds = runFn (CK rest n) F ds := by
  refine callF_ap ?_ n ds
  rw [List.getElem?_append_left]
  · exact h
  · exact (List.getElem?_eq_some_iff.mp h).1
section
variable (rest : List Fn) (n : Nat)
def isRow (d : D) (m : Int) : Bool := match d with
  | .tuple l => decide ((l.length : Int) = m)
  | _ => false
def isInt (d : D) : Bool := match d with
  | .int _ => true
  | _ => false
@[simp] theorem isRow_t (l : List D) (m : Int) : isRow (.tuple l) m = decide ((l.length : Int) = m) := rfl
@[simp] theorem isRow_n (m : Int) : isRow .none m = false := rfl
@[simp] theorem isRow_b (x : Bool) (m : Int) : isRow (.bool x) m = false := rfl
@[simp] theorem isRow_i (x : Int) (m : Int) : isRow (.int x) m = false := rfl
@[simp] theorem isRow_s (x : Str) (m : Int) : isRow (.str x) m = false := rfl
@[simp] theorem isRow_l (x : List D) (m : Int) : isRow (.list x) m = false := rfl
@[simp] theorem isInt_i (x : Int) : isInt (.int x) = true := rfl
@[simp] theorem isInt_n : isInt .none = false := rfl
@[simp] theorem isInt_b (x : Bool) : isInt (.bool x) = false := rfl
@[simp] theorem isInt_s (x : Str) : isInt (.str x) = false := rfl
@[simp] theorem isInt_l (x : List D) : isInt (.list x) = false := rfl
@[simp] theorem isInt_t (x : List D) : isInt (.tuple x) = false := rfl
theorem k_is_row_of (d : D) (m : Int) (h : d.hasDict = false) : CK rest (n + 1) 13 [d, .int m] = .ok (.bool (isRow d m)) [] := by
  rw [ck_ap rfl, runFn_ap _ _ _ (by simp [fn_is_row_of]; rfl)]
  cases d with
  | dict kv => simp [PyData.hasDict] at h
  | _ => simp [fn_is_row_of]
theorem k_is_integer (d : D) (h : d.hasDict = false) : CK rest (n + 1) 14 [d] = .ok (.bool (isInt d)) [] := by
  rw [ck_ap rfl, runFn_ap _ _ _ (by simp [fn_is_integer]; rfl)]
  cases d with
  | dict kv => simp [PyData.hasDict] at h
  | _ => simp [fn_is_integer]
def nmD (d : D) : Bool := match d with
  | .str x => nmB x
  | _ => false
theorem len_cps (x : Str) : x.cps.toList.length = x.length := by simp [Str.length]
@[simp high] theorem isin_lt (c : Nat) : isinD (.str ⟨#[c]⟩) (.str (Str.ofString "abcdefghijklmnopqrstuvwxyz")) = some (isLt c) := isin_chr c _
@[simp high] theorem isin_sg (c : Nat) : isinD (.str ⟨#[c]⟩) (.str (Str.ofString "abcdefghijklmnopqrstuvwxyz0123456789")) = some (isSg c) := isin_chr c _
theorem k_is_name (d : D) (h : d.hasDict = false) : CK rest (n + 1) 5 [d] = .ok (.bool (nmD d)) [] := by
  rw [ck_ap rfl, runFn_ap _ _ _ (by simp [fn_is_name]; rfl)]
  cases d with
  | dict kv => simp [PyData.hasDict] at h
  | str x =>
    have hl := len_cps x
    by_cases h1 : 1 ≤ x.length
    · by_cases h8 : x.length ≤ 8
      · have h1' : ¬ (x.length : Int) < 1 := by omega
        have h8' : ¬ (8 : Int) < x.length := by omega
        obtain ⟨c, hh, hc⟩ : ∃ c, x.cps.toList.head? = some c ∧ x.cps.toList.headD 0 = c := by
          cases e : x.cps.toList with
          | nil => rw [e] at hl; simp at hl; omega
          | cons a l => exact ⟨a, rfl, rfl⟩
        have hlc : block [1] (lcLoop [1] (.name 1) (tests (CK rest n) []) (den (CK rest n) (.op .isin [.tmp 1, .glb "SIGNS" (.str "abcdefghijklmnopqrstuvwxyz0123456789")])) (chars x) []) [.sh (.str x), .no] = .ok (x.cps.toList.map fun c => .bool (isSg c)) [.sh (.str x), .no] := by
          have := lc1_map (v := 1) (P := CK rest n) (elt := den (CK rest n) (.op .isin [.tmp 1, .glb "SIGNS" (.str "abcdefghijklmnopqrstuvwxyz0123456789")])) (g := fun c : Nat => PyData.str ⟨#[c]⟩) (l := x.cps.toList) (r := [.sh (.str x), .no]) (fun c => .bool (isSg c)) (by simp) (by simp) (by omega) (by intro c hc; simp)
          exact this
        have hn : nmD (.str x) = (isLt c && x.cps.toList.all isSg) := by
          simp only [nmD, nmB, hc, h1, h8, decide_true, Bool.true_and]
        rw [hn]
        simp [fn_is_name, h1', h8']
        rw [atI_zero, hh]
        cases hL : isLt c with
        | true => simp [hL, hlc, Function.comp_def]
        | false => simp [hL]
      · have h1' : ¬ (x.length : Int) < 1 := by omega
        have h8' : (8 : Int) < x.length := by omega
        simp [fn_is_name, h1', h8', nmD, nmB, h8]
    · have h1' : (x.length : Int) < 1 := by omega
      simp [fn_is_name, h1', nmD, nmB, h1]
  | _ => simp [fn_is_name, nmD]
/-- the row with a text -/
def rowIn (t : Str) : Option (List Str) := if (decide ((Txt.split t SP).length ≤ 10) && (Txt.split t SP).all nmB && decide (Txt.split t SP).Nodup) = true then some (Txt.split t SP) else none
def optRow : Option (List Str) → D
  | some r => ts r
  | none => .none
def optRows : Option (List (List Str)) → D
  | some r => tss r
  | none => .none
theorem k_row_in (t : Str) (ht : sOk t = true) : CK rest (n + 2) 17 [.str t] = .ok (optRow (rowIn t)) [] := by
  rw [ck_ap rfl, runFn_ap _ _ _ (by simp [fn_row_in]; rfl)]
  have es : ap .split [.str t, .str (Str.ofString " ")] = some (.list ((Txt.split t SP).map .str)) := ap_split ht (by decide +kernel)
  unfold rowIn
  generalize Txt.split t SP = ps at es ⊢
  by_cases hl : ps.length ≤ 10
  · have hl' : ¬ (10 : Int) < ps.length := by omega
    have hlc : block [2] (lcLoop [2] (.name 2) (tests (CK rest (n + 1)) []) (den (CK rest (n + 1)) (.call 5 [.var 2])) (ps.map .str) []) [.sh (.str t), .sh (.tuple (ps.map .str)), .no] = .ok (ps.map fun x => .bool (nmB x)) [.sh (.str t), .sh (.tuple (ps.map .str)), .no] :=
      lc1_map _ (by simp) (by simp) (by omega) (by intro x hx; have := k_is_name rest n (.str x) rfl; simp [this, nmD])
    have e3 := ap_setlen ps (by omega)
    have e4 := cntS_nodup ps
    cases hn : ps.all nmB with
    | true =>
      by_cases hnd : ps.Nodup
      · have e5 : decide (((cntS ps ps.length : Nat) : Int) = ((ps.length : Nat) : Int)) = true := by
          have := e4; simp [hnd] at this; simpa using this
        simp [fn_row_in, es, hl', hlc, Function.comp_def, hn, e3, hl, hnd, optRow, ts]
        have e6 : ((cntS ps ps.length : Nat) : Int) = ((ps.length : Nat) : Int) := by simpa using e5
        simp [e6]
      · have e6 : ¬ ((cntS ps ps.length : Nat) : Int) = ((ps.length : Nat) : Int) := by
          have := e4; simp [hnd] at this; simpa using this
        simp [fn_row_in, es, hl', hlc, Function.comp_def, hn, e3, hl, hnd, optRow, ts, e6]
    | false =>
      simp [fn_row_in, es, hl', hlc, Function.comp_def, hn, optRow]
  · have hl' : (10 : Int) < ps.length := by omega
    simp [fn_row_in, es, hl', hl, optRow]
theorem k_row_in_bad (d : D) (h : d.hasDict = false) (hs : ∀ x, d ≠ .str x) : CK rest (n + 1) 17 [d] = .ok .none [] := by
  rw [ck_ap rfl, runFn_ap _ _ _ (by simp [fn_row_in]; rfl)]
  cases d with
  | dict kv => simp [PyData.hasDict] at h
  | str x => exact absurd rfl (hs x)
  | _ => simp [fn_row_in]
theorem rowIn_text {row : List Str} (hne : row ≠ []) (h : ∀ x ∈ row, nmB x = true) (hl : row.length ≤ 10) (hnd : row.Nodup) : rowIn (txtR row) = some row := by
  unfold rowIn
  rw [split_row hne h, if_pos]
  simp only [Bool.and_eq_true, decide_eq_true_eq, List.all_eq_true]
  exact ⟨⟨hl, h⟩, hnd⟩
/-! is_rising -/
def riseAt {α : Type} (lt : α → α → Bool) (l : List α) (k : Nat) : Bool := match l[k]?, l[k + 1]? with
  | some a, some b => lt a b
  | _, _ => true
def rise {α : Type} (lt : α → α → Bool) (l : List α) : Bool := (List.range (l.length - 1)).all fun k => riseAt lt l k
theorem riseAt_eq {α : Type} (lt : α → α → Bool) (l : List α) (k : Nat) (h : k + 1 < l.length) : riseAt lt l k = lt l[k] l[k + 1] := by
  unfold riseAt; rw [List.getElem?_eq_getElem (by omega : k < l.length), List.getElem?_eq_getElem h]
theorem rise_iff {α : Type} {lt : α → α → Bool} (tr : ∀ a b c, lt a b = true → lt b c = true → lt a c = true) (l : List α) : rise lt l = true ↔ l.Pairwise fun a b => lt a b = true := by
  rw [rise, List.all_eq_true]
  constructor
  · intro h
    rw [List.pairwise_iff_getElem]
    intro i j hi hj hij
    have step : ∀ k (h1 : k + 1 < l.length), lt l[k] l[k + 1] = true := fun k h1 => by
      have := h k (by simp; omega)
      rwa [riseAt_eq lt l k h1] at this
    have go : ∀ d i (h : i + d + 1 < l.length), lt l[i] l[i + d + 1] = true := by
      intro d
      induction d with
      | zero => intro i h; exact step i (by omega)
      | succ d ih => intro i h; exact tr _ _ _ (ih i (by omega)) (step (i + d + 1) (by omega))
    have := go (j - i - 1) i (by omega)
    have e : i + (j - i - 1) + 1 = j := by omega
    simp only [e] at this
    exact this
  · intro h k hk
    have hk' : k < l.length - 1 := by simpa using hk
    rw [riseAt_eq lt l k (by omega)]
    exact List.pairwise_iff_getElem.mp h k (k + 1) (by omega) (by omega) (by omega)
theorem rise_src (l : List D) (h : l.length ≤ 100000) : srcItems .rng1 [.int ((l.length : Int) - 1)] = some ((List.range (l.length - 1)).map fun (k : Nat) => PyData.int (k : Int)) := by
  show (if _ then _ else _) = _
  rw [if_pos (by simp; omega)]
  have : ((l.length : Int) - 1).toNat = l.length - 1 := by omega
  rw [this]
theorem k_is_rising {α : Type} (g : α → D) (lt : α → α → Bool) (l : List α) (d : D) (hd : d = .tuple (l.map g) ∨ d = .list (l.map g)) (hl : l.length ≤ 100000) (hg : ∀ a ∈ l, ∀ b ∈ l, ilt (g a) (g b) = some (lt a b)) : CK rest (n + 1) 4 [d] = .ok (.bool (rise lt l)) [] := by
  rw [ck_ap rfl, runFn_ap _ _ _ (by simp [fn_is_rising]; rfl)]
  have hs := rise_src (l.map g) (by simpa using hl)
  rw [List.length_map] at hs
  have hlc : block [1] (lcLoop [1] (.name 1) (tests (CK rest n) []) (den (CK rest n) (.op .lt [.op .ix [.tmp 0, .tmp 1], .op .ix [.tmp 0, .op .add [.tmp 1, .cst (.int 1)]]])) ((List.range (l.length - 1)).map fun (k : Nat) => PyData.int (k : Int)) []) [.sh d, .no] = .ok ((List.range (l.length - 1)).map fun k => .bool (riseAt lt l k)) [.sh d, .no] :=
    lc1_map _ (by simp) (by simp) (by simp; omega) (by
      intro k hk
      have hk' : k < l.length - 1 := by simpa using hk
      have h1 : k < l.length := by omega
      have h2 : k + 1 < l.length := by omega
      have at1 : L2.atI (l.map g) (k : Int) = some (g l[k]) := by rw [atI_map, atI_nat _ _ h1]; rfl
      have at2 : L2.atI (l.map g) ((k : Int) + 1) = some (g l[k + 1]) := by
        have := atI_nat (l.map g) (k + 1) (by simpa using h2)
        simpa using this
      have hc := hg l[k] (List.getElem_mem h1) l[k + 1] (List.getElem_mem h2)
      rw [riseAt_eq lt l k h2]
      rcases hd with rfl | rfl <;> simp [at1, at2, hc])
  rcases hd with rfl | rfl <;> simp [fn_is_rising, hs, hlc, rise, Function.comp_def]
theorem k_rising_ts (rows : List (List Str)) (hl : rows.length ≤ 100000) : CK rest (n + 1) 4 [.list (rows.map ts)] = .ok (.bool (rise rLt rows)) [] :=
  k_is_rising rest n ts rLt rows _ (.inr rfl) hl fun a _ b _ => ilt_ts a b
theorem k_rising_s (l : List Str) (hl : l.length ≤ 100000) : CK rest (n + 1) 4 [.tuple (l.map .str)] = .ok (.bool (rise sLt l)) [] :=
  k_is_rising rest n PyData.str sLt l _ (.inl rfl) hl fun a _ b _ => ilt_str a b
/-- the rows of the house with a text -/
def rowsIn (t : Str) : Option (List (List Str)) :=
  if (decide ((Txt.split t SC).length ≤ 24) && (Txt.split t SC).all (fun p => (rowIn p).isSome)) = true then
    (if (rise rLt ((Txt.split t SC).filterMap rowIn) && ((Txt.split t SC).filterMap rowIn).all fun r => decide (r.Perm (((Txt.split t SC).filterMap rowIn).headD []))) = true then some ((Txt.split t SC).filterMap rowIn) else none)
  else none
theorem split_short {x y : Str} (h : sOk x = true) (hy : (y.length == 0) = false) : ∀ p ∈ Txt.split x y, sOk p = true := fun p hp => List.all_eq_true.mp (split_sOk h hy) p hp
theorem filterMap_some {ps : List Str} (h : ps.all (fun p => (rowIn p).isSome) = true) : ps.map (fun p => optRow (rowIn p)) = (ps.filterMap rowIn).map ts := by
  induction ps with
  | nil => rfl
  | cons p ps ih =>
    simp only [List.all_cons, Bool.and_eq_true] at h
    obtain ⟨r, hr⟩ := Option.isSome_iff_exists.mp h.1
    rw [List.map_cons, List.filterMap_cons, hr, ih h.2]; rfl
theorem k_rows_in (t : Str) (ht : sOk t = true) (htl : t.length ≤ 100000) : CK rest (n + 3) 23 [.str t] = .ok (optRows (rowsIn t)) [] := by
  rw [ck_ap rfl, runFn_ap _ _ _ (by simp [fn_rows_in]; rfl)]
  have es : ap .split [.str t, .str (Str.ofString "; ")] = some (.list ((Txt.split t SC).map .str)) := ap_split ht (by decide +kernel)
  have hok := split_short (y := SC) ht (by decide +kernel)
  have hle : (Txt.split t SC).length ≤ 100002 := by have := PyProof.Rows.split_le t SC; omega
  have hpos : 1 ≤ (Txt.split t SC).length := PyProof.Rows.split_pos t SC
  unfold rowsIn
  generalize Txt.split t SC = ps at es hok hle hpos ⊢
  have hlc : block [2] (lcLoop [2] (.name 2) (tests (CK rest (n + 2)) []) (den (CK rest (n + 2)) (.call 17 [.var 2])) (ps.map .str) []) [.sh (.str t), .no, .no, .no] = .ok (ps.map fun p => optRow (rowIn p)) [.sh (.str t), .no, .no, .no] :=
    lc1_map _ (by simp) (by simp) (by omega) (by intro x hx; simp [k_row_in rest n x (hok x hx)])
  have hnone : ∀ o : Option (List Str), isNone (optRow o) = !o.isSome := fun o => by cases o <;> rfl
  have hlc2 : block [3] (lcLoop [3] (.name 3) (tests (CK rest (n + 2)) []) (den (CK rest (n + 2)) (.op .isN [.tmp 3])) (ps.map fun p => optRow (rowIn p)) []) [.sh (.str t), .sh (.list (ps.map fun p => optRow (rowIn p))), .no, .no] = .ok (ps.map fun p => .bool (!(rowIn p).isSome)) [.sh (.str t), .sh (.list (ps.map fun p => optRow (rowIn p))), .no, .no] :=
    lc1_map _ (by simp) (by simp) (by omega) (by intro x hx; simp [hnone])
  by_cases hl : ps.length ≤ 24
  · cases hs : ps.all (fun p => (rowIn p).isSome) with
    | true =>
      have hany : (ps.any fun p => (rowIn p).isNone) = false := by
        rw [List.any_eq_false]; intro p hp
        have := List.all_eq_true.mp hs p hp
        simp [Option.isSome_iff_ne_none] at this ⊢; exact this
      rw [filterMap_some hs] at hlc hlc2
      have hrl : (ps.filterMap rowIn).length = ps.length := by
        have := congrArg List.length (filterMap_some hs)
        simpa using this.symm
      generalize ps.filterMap rowIn = rows at hlc hlc2 hrl ⊢
      have hl'' : ¬ (24 : Int) < rows.length := by omega
      have hr := k_rising_ts rest (n + 1) rows (by omega)
      have at0 : L2.atI (rows.map ts) 0 = some (ts (rows.headD [])) := by
        cases rows with
        | nil => simp at hrl; omega
        | cons r0 rs => simp
      have hlc3 : block [3] (lcLoop [3] (.name 3) (tests (CK rest (n + 2)) []) (den (CK rest (n + 2)) (.op .ne [.op .sorted [.tmp 3], .op .sorted [.op .ix [.tmp 1, .cst (.int 0)]]])) (rows.map ts) []) [.sh (.str t), .sh (.list (rows.map ts)), .no, .no] = .ok (rows.map fun r => .bool (!decide (r.Perm (rows.headD [])))) [.sh (.str t), .sh (.list (rows.map ts)), .no, .no] :=
        lc1_map _ (by simp) (by simp) (by omega) (by intro x hx; simp [sortS_eq, at0])
      generalize rows.headD [] = r0 at hlc3 at0 ⊢
      cases hri : rise rLt rows with
      | true =>
        rw [hri] at hr
        have hany2 : (rows.any fun r => !decide (r.Perm r0)) = !(rows.all fun r => decide (r.Perm r0)) := by rw [List.not_all_eq_any_not]
        cases hp : rows.all (fun r => decide (r.Perm r0)) with
        | true =>
          rw [hp] at hany2
          simp [fn_rows_in, es, hlc, hlc2, hl'', hany, hr, hlc3, Function.comp_def, hany2, hl, optRows, tss]
        | false =>
          rw [hp] at hany2
          simp [fn_rows_in, es, hlc, hlc2, hl'', hany, hr, hlc3, Function.comp_def, hany2, hl, optRows]
      | false =>
        rw [hri] at hr
        simp [fn_rows_in, es, hlc, hlc2, hl'', hany, hr, hl, optRows]
    | false =>
      have hl' : ¬ (24 : Int) < ps.length := by omega
      have hany : (ps.any fun p => (rowIn p).isNone) = true := by
        obtain ⟨p, hp, hq⟩ := List.all_eq_false.mp hs
        rw [List.any_eq_true]; exact ⟨p, hp, by simpa using hq⟩
      simp [fn_rows_in, es, hlc, hlc2, hl', hany, optRows]
  · have hl' : (24 : Int) < ps.length := by omega
    simp [fn_rows_in, es, hlc, hl', hl, optRows]
/-- a house -/
structure Hs (l : List Str) (rows : List (List Str)) : Prop where
  th : Things l
  le : rows.length ≤ 24
  rows : Rows l rows
theorem Hs.nm {l : List Str} {rows : List (List Str)} (h : Hs l rows) : ∀ r ∈ rows, ∀ x ∈ r, nmB x = true := fun r hr x hx => h.th.nm x ((h.rows.perm r hr).mem_iff.mp hx)
theorem Hs.len {l : List Str} {rows : List (List Str)} (h : Hs l rows) : ∀ r ∈ rows, r.length = l.length := fun r hr => (h.rows.perm r hr).length_eq
theorem Hs.len10 {l : List Str} {rows : List (List Str)} (h : Hs l rows) : ∀ r ∈ rows, r.length ≤ 10 := fun r hr => by rw [h.len r hr]; exact h.th.le
theorem Hs.rne {l : List Str} {rows : List (List Str)} (h : Hs l rows) : ∀ r ∈ rows, r ≠ [] := h.rows.row_ne h.th.pos
theorem rowsIn_text {l : List Str} {rows : List (List Str)} (h : Hs l rows) : rowsIn (txtH rows) = some rows := by
  have es := split_house h.rows.ne h.nm
  have hri : ∀ r ∈ rows, rowIn (txtR r) = some r := fun r hr => rowIn_text (h.rne r hr) (h.nm r hr) (h.len10 r hr) ((h.rows.perm r hr).symm.nodup h.th.asc.nodup)
  have efm : (rows.map txtR).filterMap rowIn = rows := by
    rw [List.filterMap_map]
    have : ∀ rs : List (List Str), (∀ r ∈ rs, rowIn (txtR r) = some r) → rs.filterMap (rowIn ∘ txtR) = rs := by
      intro rs
      induction rs with
      | nil => intro _; rfl
      | cons r rs ih =>
        intro q
        rw [List.filterMap_cons]
        simp only [Function.comp_apply, q r (by simp)]
        rw [ih fun r hr => q r (by simp [hr])]
    exact this rows hri
  unfold rowsIn
  rw [es, efm]
  rw [if_pos, if_pos]
  · rw [Bool.and_eq_true]
    refine ⟨(rise_iff (lt := rLt) (fun a b c h1 h2 => rLt_trans h1 h2) rows).mpr h.rows.asc, ?_⟩
    rw [List.all_eq_true]
    intro r hr
    cases hrr : rows with
    | nil => exact absurd hrr h.rows.ne
    | cons r0 rs =>
      exact decide_eq_true ((h.rows.perm r hr).trans (h.rows.perm r0 (by rw [hrr]; simp)).symm)
  · rw [Bool.and_eq_true]
    refine ⟨by simpa using h.le, ?_⟩
    rw [List.all_eq_true]
    intro p hp
    obtain ⟨r, hr, rfl⟩ := List.mem_map.mp hp
    rw [hri r hr]; rfl
theorem k_rows_text {l : List Str} {rows : List (List Str)} (h : Hs l rows) : CK rest (n + 3) 23 [.str (txtH rows)] = .ok (tss rows) [] := by
  have hle := h.le
  have := txtH_len h.nm h.len10
  rw [k_rows_in rest n _ (txtH_sOk h.nm h.len10 (by omega)) (by omega), rowsIn_text h]; rfl
end
end M3
set_option Elab.async false
set_option linter.all false
set_option maxRecDepth 100000
set_option maxHeartbeats 1000000
/-! K2: the checker: covers; within, alike. -/
namespace M3
open PySem
section
variable (rest : List Fn) (n : Nat)
theorem k_is_below (xs row : List Str) (z : Str) (hz : z ∈ row) (hx : xs.length ≤ 1000) : CK rest (n + 1) 31 [ts xs, ts row, .str z] = .ok (.bool (xs.all fun x => decide (x ∈ belowOf row z))) [] := by
  rw [ck_ap rfl, runFn_ap _ _ _ (by simp [fn_is_below]; rfl)]
  have hlc : block [4] (lcLoop [4] (.name 4) (tests (CK rest n) []) (den (CK rest n) (.op .isin [.tmp 4, .tmp 3])) (xs.map .str) []) [.sh (.tuple (xs.map .str)), .sh (.tuple (row.map .str)), .sh (.str z), .sh (.tuple ((belowOf row z).map .str)), .no] = .ok (xs.map fun x => .bool (decide (x ∈ belowOf row z))) [.sh (.tuple (xs.map .str)), .sh (.tuple (row.map .str)), .sh (.str z), .sh (.tuple ((belowOf row z).map .str)), .no] :=
    lc1_map _ (by simp) (by simp) (by omega) (by intro x hx; simp)
  have ct : cut (row.map PyData.str) (some ((row.idxOf z : Int) + 1)) none = (belowOf row z).map .str := by
    rw [cut_from1, ← List.map_drop]; rfl
  simp [fn_is_below, ts, hz, ct, hlc, Function.comp_def]
theorem k_covers_row (d : D) (row : List Str) (rows : List (List Str)) (hd : d.hasDict = false) (hrow : row.length ≤ 1000) (hR : ∀ o ∈ rows, ∀ x ∈ row, x ∈ o) : CK rest (n + 2) 30 [d, ts row, tss rows] = .ok (.bool (coverB d row rows)) [] := by
  rw [ck_ap rfl, runFn_ap _ _ _ (by simp [fn_covers_row]; rfl)]
  have e1 := k_is_row_of rest n d row.length hd
  cases d with
  | tuple ks =>
    by_cases hl : ks.length = row.length
    · have hr : isRow (.tuple ks) row.length = true := by simp [hl]
      rw [hr] at e1
      simp only [PyData.hasDict] at hd
      have hlc : block [4] (lcLoop [4] (.name 4) (tests (CK rest (n + 1)) []) (den (CK rest (n + 1)) (.and (.call 14 [.var 4]) (.chain .le .lt (.cst (.int 0)) (.var 4) (.op .len [.tmp 2])))) (ks.map id) []) [.sh (.tuple ks), .sh (ts row), .sh (tss rows), .no, .no, .no, .no, .no] = .ok (ks.map fun x => .bool (isIdx rows.length x)) [.sh (.tuple ks), .sh (ts row), .sh (tss rows), .no, .no, .no, .no, .no] :=
        lc1_map _ (by simp) (by simp) (by omega) (by
          intro x hx
          have hx' := hasDictAll_false.mp hd x hx
          have := k_is_integer rest n x hx'
          cases x with
          | int i =>
            by_cases h0 : i < 0
            · have h0' : ¬ 0 ≤ i := by omega
              simp [this, h0, tss, isIdx, h0']
            · have h0' : 0 ≤ i := by omega
              simp [this, h0, tss, isIdx, h0']
          | dict kv => simp [PyData.hasDict] at hx'
          | _ => simp [this, isIdx])
      rw [List.map_id] at hlc
      have hlk : (ks.all fun x => isIdx rows.length x) = (List.range row.length).all fun k => isIdx rows.length (ks.getD k .none) := by
        rw [← hl, Bool.eq_iff_iff, List.all_eq_true, List.all_eq_true]
        constructor
        · intro h k hk
          have hk' : k < ks.length := by simpa using hk
          rw [List.getD_eq_getElem?_getD, List.getElem?_eq_getElem hk']
          exact h _ (List.getElem_mem hk')
        · intro h x hx
          obtain ⟨k, hk, rfl⟩ := List.getElem_of_mem hx
          have := h k (by simpa using hk)
          rwa [List.getD_eq_getElem?_getD, List.getElem?_eq_getElem hk] at this
      have hsplit : coverB (.tuple ks) row rows = ((List.range row.length).all (fun k => isIdx rows.length (ks.getD k .none)) && (List.range row.length).all fun k => covAt row rows k (ks.getD k .none)) := by
        simp only [coverB, hl, beq_self_eq_true, Bool.true_and]
        rw [Bool.eq_iff_iff]
        simp only [List.all_eq_true, Bool.and_eq_true]
        constructor
        · intro h; exact ⟨fun k hk => (h k hk).1, fun k hk => (h k hk).2⟩
        · intro h k hk; exact ⟨h.1 k hk, h.2 k hk⟩
      rw [hsplit, ← hlk]
      cases hall : ks.all fun x => isIdx rows.length x with
      | false =>
        simp [ts, tss] at e1 hlc
        simp [fn_covers_row, ts, tss, e1, hlc, Function.comp_def, hall]
      | true =>
        rw [hlk] at hall
        let E : Nat → D := fun k => .tuple [ts (rows.getD (idxD (ks.getD k .none)) []), .str (row.getD k Str.empty), ts (row.drop (k + 1))]
        have hlc2 : block [4, 5] (lcLoop [4, 5] (.tup [.name 4, .name 5]) (tests (CK rest (n + 1)) []) (den (CK rest (n + 1)) (.tup [.op .ix [.tmp 2, .op .ix [.tmp 0, .tmp 4]], .var 5, .slc true false (.tmp 1) (.op .add [.tmp 4, .cst (.int 1)]) (.cst .none)])) ((List.range row.length).map fun k => .tuple [.int (k : Nat), .str (row.getD k Str.empty)]) []) [.sh (.tuple ks), .sh (ts row), .sh (tss rows), .no, .no, .no, .no, .no] = .ok ((List.range row.length).map E) [.sh (.tuple ks), .sh (ts row), .sh (tss rows), .no, .no, .no, .no, .no] :=
          lcn_map (fun k => [.sh (.tuple ks), .sh (ts row), .sh (tss rows), .no, .sh (.int (k : Nat)), .sh (.str (row.getD k Str.empty)), .no, .no]) E (by simp) (by simp; omega) (by intro k hk; simp) (by
            intro k hk
            have hk' : k < row.length := by simpa using hk
            have hkk : k < ks.length := by omega
            have hix := List.all_eq_true.mp hall k hk
            have gd : ks.getD k .none = ks[k] := by rw [List.getD_eq_getElem?_getD, List.getElem?_eq_getElem hkk]; rfl
            rw [gd] at hix
            obtain ⟨j, hj, hz⟩ := isIdx_true hix
            have at1 : L2.atI ks (k : Int) = some (.int j) := by rw [atI_nat _ _ hkk, hz]
            have at2 : L2.atI (rows.map ts) (j : Int) = some (ts rows[j]) := by rw [atI_map, atI_nat _ _ hj]; rfl
            have gr : rows.getD (idxD (ks.getD k .none)) [] = rows[j] := by
              rw [gd, hz]
              show rows.getD ((j : Int).toNat) [] = _
              rw [Int.toNat_natCast, List.getD_eq_getElem?_getD, List.getElem?_eq_getElem hj]; rfl
            have eE : E k = PyData.tuple [ts (rows.getD (idxD (ks.getD k .none)) []), .str (row.getD k Str.empty), ts (row.drop (k + 1))] := rfl
            rw [eE, gr]
            simp [ts, tss] at at2
            simp [ts, tss, at1, at2, cut_from1])
        have esrc : ((row.map PyData.str).zipIdx.map fun p => PyData.tuple [.int p.2, p.1]) = (List.range row.length).map fun k => .tuple [.int (k : Nat), .str (row.getD k Str.empty)] := by
          apply List.ext_getElem
          · simp
          · intro k h1 h2
            have hk : k < row.length := by simpa using h2
            simp [hk]
        have hlc3 : block [6, 5, 7] (lcLoop [6, 5, 7] (.tup [.name 6, .name 5, .name 7]) (tests (CK rest (n + 1)) []) (den (CK rest (n + 1)) (.call 31 [.var 7, .var 6, .var 5])) ((List.range row.length).map E) []) [.sh (.tuple ks), .sh (ts row), .sh (tss rows), .sh (.list ((List.range row.length).map E)), .no, .no, .no, .no] = .ok ((List.range row.length).map fun k => .bool (covAt row rows k (ks.getD k .none))) [.sh (.tuple ks), .sh (ts row), .sh (tss rows), .sh (.list ((List.range row.length).map E)), .no, .no, .no, .no] :=
          lcn_map (fun k => [.sh (.tuple ks), .sh (ts row), .sh (tss rows), .sh (.list ((List.range row.length).map E)), .no, .sh (.str (row.getD k Str.empty)), .sh (ts (rows.getD (idxD (ks.getD k .none)) [])), .sh (ts (row.drop (k + 1)))]) _ (by simp) (by simp; omega) (by intro k hk; simp [E]) (by
            intro k hk
            have hk' : k < row.length := by simpa using hk
            have hkk : k < ks.length := by omega
            have hix := List.all_eq_true.mp hall k hk
            have gd : ks.getD k .none = ks[k] := by rw [List.getD_eq_getElem?_getD, List.getElem?_eq_getElem hkk]; rfl
            rw [gd] at hix
            obtain ⟨j, hj, hz⟩ := isIdx_true hix
            have gr : rows.getD (idxD (ks.getD k .none)) [] = rows[j] := by
              rw [gd, hz]
              show rows.getD ((j : Int).toNat) [] = _
              rw [Int.toNat_natCast, List.getD_eq_getElem?_getD, List.getElem?_eq_getElem hj]; rfl
            have gk : row.getD k Str.empty = row[k] := by rw [List.getD_eq_getElem?_getD, List.getElem?_eq_getElem hk']; rfl
            have eb := k_is_below rest n (row.drop (k + 1)) rows[j] row[k] (hR _ (List.getElem_mem hj) _ (List.getElem_mem hk')) (by simp; omega)
            have cv : covAt row rows k (ks.getD k .none) = (row.drop (k + 1)).all fun x => decide (x ∈ belowOf rows[j] row[k]) := by
              unfold covAt; rw [gr, gk]
            rw [cv, gr, gk]
            simp only [den_call, g_dens_cons, g_dens_nil, opd_var, den_var, rdVar_ap, List.getElem?_cons_succ, List.getElem?_cons_zero, rdV_sh, R.bind_ok, callM_ap, rslvs_cons, rslvs_nil, rslv_val, Option.map_some, Option.bind_some, optR_some, eb, frR_ok, ioSlots_val, ioSlots_nil, g_putBack_nil])
        have hallx := hlk.trans hall
        simp [ts, tss] at e1 hlc hlc2 hlc3
        simp [fn_covers_row, ts, tss, e1, hlc, Function.comp_def, hallx]
        rw [esrc]
        simp [hlc2, hlc3, Function.comp_def]
    · have hr : isRow (.tuple ks) row.length = false := by simp; omega
      rw [hr] at e1
      simp [fn_covers_row, ts, tss, e1, coverB, hl]
  | dict kv => simp [PyData.hasDict] at hd
  | none => simp [fn_covers_row, ts, tss, e1, coverB]
  | bool x => simp [fn_covers_row, ts, tss, e1, coverB]
  | int x => simp [fn_covers_row, ts, tss, e1, coverB]
  | str x => simp [fn_covers_row, ts, tss, e1, coverB]
  | list x => simp [fn_covers_row, ts, tss, e1, coverB]
theorem k_covers_rows (d : D) (rows others : List (List Str)) (hd : d.hasDict = false) (hl : rows.length ≤ 1000) (hr : ∀ r ∈ rows, r.length ≤ 1000) (hR : ∀ o ∈ others, ∀ r ∈ rows, ∀ x ∈ r, x ∈ o) : CK rest (n + 3) 29 [d, tss rows, tss others] = .ok (.bool (coversB d rows others)) [] := by
  rw [ck_ap rfl, runFn_ap _ _ _ (by simp [fn_covers_rows]; rfl)]
  have e1 := k_is_row_of rest (n + 1) d rows.length hd
  cases d with
  | tuple vs =>
    by_cases hlv : vs.length = rows.length
    · have hrr : isRow (.tuple vs) rows.length = true := by simp [hlv]
      rw [hrr] at e1
      simp only [PyData.hasDict] at hd
      have esrc : ((vs.zip (rows.map ts)).map fun p => PyData.tuple [p.1, p.2]) = (List.range rows.length).map fun k => .tuple [vs.getD k .none, ts (rows.getD k [])] := by
        apply List.ext_getElem
        · simp [hlv]
        · intro k h1 h2
          have hk : k < rows.length := by simpa using h2
          simp [hk, hlv]
      have hlc : block [3, 4] (lcLoop [3, 4] (.tup [.name 3, .name 4]) (tests (CK rest (n + 2)) []) (den (CK rest (n + 2)) (.call 30 [.var 3, .var 4, .var 2])) ((List.range rows.length).map fun k => .tuple [vs.getD k .none, ts (rows.getD k [])]) []) [.sh (.tuple vs), .sh (tss rows), .sh (tss others), .no, .no] = .ok ((List.range rows.length).map fun k => .bool (coverB (vs.getD k .none) (rows.getD k []) others)) [.sh (.tuple vs), .sh (tss rows), .sh (tss others), .no, .no] :=
        lcn_map (fun k => [.sh (.tuple vs), .sh (tss rows), .sh (tss others), .sh (vs.getD k .none), .sh (ts (rows.getD k []))]) _ (by simp) (by simp; omega) (by intro k hk; simp) (by
          intro k hk
          have hk' : k < rows.length := by simpa using hk
          have hkv : k < vs.length := by omega
          have gd : vs.getD k .none = vs[k] := by rw [List.getD_eq_getElem?_getD, List.getElem?_eq_getElem hkv]; rfl
          have gr : rows.getD k [] = rows[k] := by rw [List.getD_eq_getElem?_getD, List.getElem?_eq_getElem hk']; rfl
          have ec := k_covers_row rest n vs[k] rows[k] others (hd_getD hd k hkv) (hr _ (List.getElem_mem hk')) (fun o ho x hx => hR o ho _ (List.getElem_mem hk') x hx)
          rw [gd, gr]
          simp [ec])
      simp [tss] at e1 hlc
      simp [fn_covers_rows, tss, e1, coversB, hlv]
      rw [esrc]
      simp [hlc, Function.comp_def]
    · have hrr : isRow (.tuple vs) rows.length = false := by simp; omega
      rw [hrr] at e1
      simp [fn_covers_rows, tss, e1, coversB, hlv]
  | dict kv => simp [PyData.hasDict] at hd
  | none => simp [fn_covers_rows, tss, e1, coversB]
  | bool x => simp [fn_covers_rows, tss, e1, coversB]
  | int x => simp [fn_covers_rows, tss, e1, coversB]
  | str x => simp [fn_covers_rows, tss, e1, coversB]
  | list x => simp [fn_covers_rows, tss, e1, coversB]
def pairB (d : D) (rows others : List (List Str)) : Bool := match d with
  | .tuple [a, b] => coversB a rows others && coversB b others rows
  | _ => false
theorem k_covers_both (d : D) (rows others : List (List Str)) (hd : d.hasDict = false) (hl : rows.length ≤ 1000) (hr : ∀ r ∈ rows, r.length ≤ 1000) (hR : ∀ o ∈ others, ∀ r ∈ rows, ∀ x ∈ r, x ∈ o)
    (hl2 : others.length ≤ 1000) (hr2 : ∀ r ∈ others, r.length ≤ 1000) (hR2 : ∀ o ∈ rows, ∀ r ∈ others, ∀ x ∈ r, x ∈ o) : CK rest (n + 4) 28 [d, tss rows, tss others] = .ok (.bool (pairB d rows others)) [] := by
  rw [ck_ap rfl, runFn_ap _ _ _ (by simp [fn_covers_both]; rfl)]
  have e1 := k_is_row_of rest (n + 2) d 2 hd
  cases d with
  | tuple vs =>
    simp only [PyData.hasDict] at hd
    have hd' := hasDictAll_false.mp hd
    match vs, e1, hd' with
    | [], e1, _ => simp at e1; simp [fn_covers_both, e1, pairB]
    | [a], e1, _ => simp at e1; simp [fn_covers_both, e1, pairB]
    | [a, b], e1, hd' =>
      simp at e1
      have ea := k_covers_rows rest n a rows others (hd' a (by simp)) hl hr hR
      have eb := k_covers_rows rest n b others rows (hd' b (by simp)) hl2 hr2 hR2
      have at1 : L2.atI [a, b] 1 = some b := rfl
      cases ha : coversB a rows others with
      | true => rw [ha] at ea; simp [fn_covers_both, e1, pairB, ea, eb, at1, ha]
      | false => rw [ha] at ea; simp [fn_covers_both, e1, pairB, ea, at1, ha]
    | a :: b :: c :: l, e1, _ =>
      have : isRow (.tuple (a :: b :: c :: l)) 2 = false := by simp; omega
      rw [this] at e1; simp [fn_covers_both, e1, pairB]
  | dict kv => simp [PyData.hasDict] at hd
  | _ => simp at e1; simp [fn_covers_both, e1, pairB]
theorem perm_head {l : List Str} {rows others : List (List Str)} (h : Hs l rows) (h2 : Hs l others) : ∃ r0 o0, L2.atI (rows.map ts) 0 = some (ts r0) ∧ L2.atI (others.map ts) 0 = some (ts o0) ∧ sortS o0 = sortS r0 := by
  cases hr : rows with
  | nil => exact absurd hr h.rows.ne
  | cons r0 rs =>
    cases ho : others with
    | nil => exact absurd ho h2.rows.ne
    | cons o0 os =>
      refine ⟨r0, o0, by simp, by simp, ?_⟩
      rw [sortS_eq]
      exact (h2.rows.perm o0 (by rw [ho]; simp)).trans (h.rows.perm r0 (by rw [hr]; simp)).symm
theorem k_shows_within {l : List Str} {rows others : List (List Str)} (h : Hs l rows) (h2 : Hs l others) (d : D) (hd : d.hasDict = false) : CK rest (n + 4) 22 [.tuple [.str "within", .str (txtH rows), .str (txtH others)], d] = .ok (.bool (coversB d rows others)) [] := by
  rw [ck_ap rfl, runFn_ap _ _ _ (by simp [fn_shows_houses]; rfl)]
  have e1 := k_rows_text rest n h
  have e2 := k_rows_text rest n h2
  obtain ⟨r0, o0, a1, a2, hs⟩ := perm_head h h2
  have e3 := k_covers_rows rest n d rows others hd (by have := h.le; omega) (fun r hr => by have := h.len10 r hr; omega) (fun o ho r hr x hx => (h2.rows.perm o ho).mem_iff.mpr ((h.rows.perm r hr).mem_iff.mp hx))
  have at1 : ∀ a b c : D, L2.atI [a, b, c] 1 = some b := fun _ _ _ => rfl
  have at2 : ∀ a b c : D, L2.atI [a, b, c] 2 = some c := fun _ _ _ => rfl
  have w1 : decide ((Str.ofString "within") = Str.ofString "fewest") = false := by decide +kernel
  simp only [decide_eq_false_iff_not] at w1
  simp [tss] at e1 e2 e3
  simp [fn_shows_houses, e1, e2, e3, at1, at2, a1, a2, hs, w1, tss]
theorem k_shows_alike {l : List Str} {rows others : List (List Str)} (h : Hs l rows) (h2 : Hs l others) (d : D) (hd : d.hasDict = false) : CK rest (n + 5) 22 [.tuple [.str "alike", .str (txtH rows), .str (txtH others)], d] = .ok (.bool (pairB d rows others)) [] := by
  rw [ck_ap rfl, runFn_ap _ _ _ (by simp [fn_shows_houses]; rfl)]
  have e1 := k_rows_text rest (n + 1) h
  have e2 := k_rows_text rest (n + 1) h2
  obtain ⟨r0, o0, a1, a2, hs⟩ := perm_head h h2
  have e3 := k_covers_both rest n d rows others hd (by have := h.le; omega) (fun r hr => by have := h.len10 r hr; omega) (fun o ho r hr x hx => (h2.rows.perm o ho).mem_iff.mpr ((h.rows.perm r hr).mem_iff.mp hx))
    (by have := h2.le; omega) (fun r hr => by have := h2.len10 r hr; omega) (fun o ho r hr x hx => (h.rows.perm o ho).mem_iff.mpr ((h2.rows.perm r hr).mem_iff.mp hx))
  have at1 : ∀ a b c : D, L2.atI [a, b, c] 1 = some b := fun _ _ _ => rfl
  have at2 : ∀ a b c : D, L2.atI [a, b, c] 2 = some c := fun _ _ _ => rfl
  have w1 : decide ((Str.ofString "alike") = Str.ofString "fewest") = false := by decide +kernel
  have w2 : decide ((Str.ofString "alike") = Str.ofString "within") = false := by decide +kernel
  simp only [decide_eq_false_iff_not] at w1 w2
  simp [tss] at e1 e2 e3
  simp [fn_shows_houses, e1, e2, e3, at1, at2, a1, a2, hs, w1, w2, tss]
/-- a claim about houses goes to shows_houses -/
theorem k_accepts_houses (w a b : D) (x : Str) (d : D) (hw : w = .str x) (hx : isinD (.str x) (.tuple [.str "within", .str "alike", .str "apart", .str "fewest", .str "common", .str "foreign"]) = some true) {k : FR} (hk : CK rest n 22 [.tuple [w, a, b], d] = k) (hok : ∃ v, k = .ok v []) : CK rest (n + 1) 0 [.tuple [w, a, b], d] = k := by
  subst hw
  obtain ⟨v, rfl⟩ := hok
  rw [ck_ap rfl, runFn_ap _ _ _ (by simp [fn_accepts]; rfl)]
  have i1 : isinD (.int 3) (.tuple [.int 3, .int 5]) = some true := by decide +kernel
  simp [fn_accepts, i1, hx, hk]
theorem k_within {l : List Str} {rows others : List (List Str)} (h : Hs l rows) (h2 : Hs l others) (d : D) (hd : d.hasDict = false) : CK rest (n + 5) 0 [.tuple [.str "within", .str (txtH rows), .str (txtH others)], d] = .ok (.bool (coversB d rows others)) [] :=
  k_accepts_houses rest (n + 4) _ _ _ _ d rfl (by decide +kernel) (k_shows_within rest n h h2 d hd) ⟨_, rfl⟩
theorem k_alike {l : List Str} {rows others : List (List Str)} (h : Hs l rows) (h2 : Hs l others) (d : D) (hd : d.hasDict = false) : CK rest (n + 6) 0 [.tuple [.str "alike", .str (txtH rows), .str (txtH others)], d] = .ok (.bool (pairB d rows others)) [] :=
  k_accepts_houses rest (n + 5) _ _ _ _ d rfl (by decide +kernel) (k_shows_alike rest n h h2 d hd) ⟨_, rfl⟩
end
end M3
set_option Elab.async false
set_option linter.all false
set_option maxRecDepth 100000
set_option maxHeartbeats 1000000
/-! S6: menus. -/
namespace M3
open PySem
/-! data of a let size -/
mutual
def szOk : D → Bool
  | .list xs => decide (xs.length ≤ 1000) && szOkAll xs
  | .tuple xs => decide (xs.length ≤ 1000) && szOkAll xs
  | .dict _ => false
  | .str x => sOk x && decide (x.length ≤ 100000)
  | .none => true
  | .bool _ => true
  | .int _ => true
def szOkAll : List D → Bool
  | [] => true
  | x :: xs => szOk x && szOkAll xs
end
theorem szOkAll_iff {l : List D} : szOkAll l = true ↔ ∀ d ∈ l, szOk d = true := by
  induction l with
  | nil => simp [szOkAll]
  | cons a l ih => simp [szOkAll, ih]
mutual
theorem sz_hd : ∀ d : D, szOk d = true → d.hasDict = false
  | .list xs, h => by simp only [szOk, Bool.and_eq_true] at h; simp only [PyData.hasDict]; exact sz_hdAll xs h.2
  | .tuple xs, h => by simp only [szOk, Bool.and_eq_true] at h; simp only [PyData.hasDict]; exact sz_hdAll xs h.2
  | .dict _, h => by simp [szOk] at h
  | .str _, _ => rfl
  | .none, _ => rfl
  | .bool _, _ => rfl
  | .int _, _ => rfl
theorem sz_hdAll : ∀ l : List D, szOkAll l = true → PyData.hasDictAll l = false
  | [], _ => rfl
  | x :: xs, h => by
    simp only [szOkAll, Bool.and_eq_true] at h
    simp only [PyData.hasDictAll, sz_hd x h.1, sz_hdAll xs h.2, Bool.or_self]
end
theorem sz_tuple {vs : List D} : szOk (.tuple vs) = true ↔ vs.length ≤ 1000 ∧ ∀ d ∈ vs, szOk d = true := by
  simp only [szOk, Bool.and_eq_true, decide_eq_true_eq, szOkAll_iff]
theorem sz_list {vs : List D} : szOk (.list vs) = true ↔ vs.length ≤ 1000 ∧ ∀ d ∈ vs, szOk d = true := by
  simp only [szOk, Bool.and_eq_true, decide_eq_true_eq, szOkAll_iff]
theorem sz_int (i : Int) : szOk (.int i) = true := rfl
theorem sz_none : szOk .none = true := rfl
theorem sz_bool (b : Bool) : szOk (.bool b) = true := rfl
theorem sz_str {x : Str} : szOk (.str x) = true ↔ sOk x = true ∧ x.length ≤ 100000 := by simp [szOk]
theorem sz_nm {x : Str} (h : nmB x = true) : szOk (.str x) = true := sz_str.mpr ⟨nm_sOk h, by have := nm_len h; omega⟩
theorem sz_ts {l : List Str} (h : ∀ x ∈ l, nmB x = true) (hl : l.length ≤ 1000) : szOk (ts l) = true := sz_tuple.mpr ⟨by simpa using hl, fun d hd => by
  obtain ⟨x, hx, rfl⟩ := List.mem_map.mp hd; exact sz_nm (h x hx)⟩
theorem strsD_some : ∀ {vs : List D} {xs : List Str}, strsD vs = some xs → vs = xs.map .str
  | [], xs, h => by cases h; rfl
  | .str x :: vs, xs, h => by
    simp only [strsD, Option.map_eq_some_iff] at h
    obtain ⟨ys, h1, rfl⟩ := h
    rw [strsD_some h1]; rfl
  | .none :: _, _, h => by cases h
  | .bool _ :: _, _, h => by cases h
  | .int _ :: _, _, h => by cases h
  | .list _ :: _, _, h => by cases h
  | .tuple _ :: _, _, h => by cases h
  | .dict _ :: _, _, h => by cases h
def amongB (d : D) (l : List Str) : Bool := match d with
  | .str x => decide (x ∈ l)
  | _ => false
@[simp] theorem among_s (x : Str) (l : List Str) : amongB (.str x) l = decide (x ∈ l) := rfl
@[simp] theorem among_n (l : List Str) : amongB .none l = false := rfl
@[simp] theorem among_b (b : Bool) (l : List Str) : amongB (.bool b) l = false := rfl
@[simp] theorem among_i (i : Int) (l : List Str) : amongB (.int i) l = false := rfl
@[simp] theorem among_l (x : List D) (l : List Str) : amongB (.list x) l = false := rfl
@[simp] theorem among_t (x : List D) (l : List Str) : amongB (.tuple x) l = false := rfl
theorem any_eqv (l : List Str) (d : D) (h : ∀ x, d ≠ .str x) : ((l.map PyData.str).any fun y => PyData.eqv y d) = false := by
  rw [List.any_eq_false]
  intro y hy
  obtain ⟨x, _, rfl⟩ := List.mem_map.mp hy
  cases d <;> first | (simp [PyData.eqv]; done) | exact absurd rfl (h _)
theorem isin_anyT (d : D) (l : List Str) (h : d.hasDict = false) : isinD d (.tuple (l.map .str)) = some (amongB d l) := by
  have hok : eqOkL (l.map .str) d = true := by simp [eqOkL, h]
  cases d with
  | str x => exact isin_strT x l
  | dict kv => simp [PyData.hasDict] at h
  | _ => simp only [isinD, hok, if_true]; rw [any_eqv _ _ (by intro x e; cases e)]; rfl
theorem isin_anyL (d : D) (l : List Str) (h : d.hasDict = false) : isinD d (.list (l.map .str)) = some (amongB d l) := by
  have hok : eqOkL (l.map .str) d = true := by simp [eqOkL, h]
  cases d with
  | str x => exact isin_strL x l
  | dict kv => simp [PyData.hasDict] at h
  | _ => simp only [isinD, hok, if_true]; rw [any_eqv _ _ (by intro x e; cases e)]; rfl
theorem riseS (m : List Str) : rise sLt m = true ↔ Asc m := rise_iff (lt := sLt) (fun a b c h1 h2 => sLt_trans h1 h2) m
/-- what is a menu of some things -/
def menuOf (d : D) (l : List Str) : Option (List Str) := match d with
  | .tuple vs => (match strsD vs with
    | some xs => if (!xs.isEmpty && xs.all (fun x => decide (x ∈ l)) && rise sLt xs) = true then some xs else none
    | none => none)
  | _ => none
structure Menu (m l : List Str) : Prop where
  ne : m ≠ []
  sub : ∀ x ∈ m, x ∈ l
  asc : Asc m
theorem menuOf_some {d : D} {l m : List Str} (h : menuOf d l = some m) : d = ts m ∧ Menu m l := by
  unfold menuOf at h
  split at h
  · rename_i vs
    split at h
    · rename_i xs hx
      by_cases c : (!xs.isEmpty && xs.all (fun x => decide (x ∈ l)) && rise sLt xs) = true
      · rw [if_pos c] at h
        cases h
        simp only [Bool.and_eq_true, List.all_eq_true, decide_eq_true_eq] at c
        refine ⟨by rw [strsD_some hx]; rfl, ?_, c.1.2, (riseS m).mp c.2⟩
        intro e; rw [e] at c; simp at c
      · rw [if_neg c] at h; cases h
    · cases h
  · cases h
theorem menuOf_ts {l m : List Str} (h : Menu m l) : menuOf (ts m) l = some m := by
  unfold menuOf ts
  simp only [strsD_map]
  rw [if_pos]
  simp only [Bool.and_eq_true, List.all_eq_true, decide_eq_true_eq]
  refine ⟨⟨?_, h.sub⟩, (riseS m).mpr h.asc⟩
  have := h.ne
  cases m with
  | nil => exact absurd rfl this
  | cons _ _ => rfl
/-- all of some data are among things: they are texts -/
theorem all_among {vs : List D} {l : List Str} (h : vs.all (fun d => amongB d l) = true) : ∃ xs : List Str, vs = xs.map .str ∧ ∀ x ∈ xs, x ∈ l := by
  induction vs with
  | nil => exact ⟨[], rfl, by simp⟩
  | cons d vs ih =>
    simp only [List.all_cons, Bool.and_eq_true] at h
    obtain ⟨xs, rfl, hx⟩ := ih h.2
    cases d with
    | str x => exact ⟨x :: xs, rfl, by simpa using ⟨by simpa using h.1, hx⟩⟩
    | _ => cases h.1
theorem menuOf_tuple (vs : List D) (l : List Str) : (menuOf (.tuple vs) l).isSome = (!vs.isEmpty && vs.all (fun d => amongB d l) && (match strsD vs with | some xs => rise sLt xs | none => false)) := by
  cases e : strsD vs with
  | none =>
    have : menuOf (.tuple vs) l = none := by unfold menuOf; simp only [e]
    rw [this]; simp
  | some xs =>
    have := strsD_some e
    subst this
    have ha : (xs.map PyData.str).all (fun d => amongB d l) = xs.all fun x => decide (x ∈ l) := by rw [List.all_map]; rfl
    have hi : (xs.map PyData.str).isEmpty = xs.isEmpty := by cases xs <;> rfl
    have hm : menuOf (.tuple (xs.map .str)) l = if (!xs.isEmpty && xs.all (fun x => decide (x ∈ l)) && rise sLt xs) = true then some xs else none := by unfold menuOf; simp only [strsD_map]
    rw [ha, hi, hm]
    show _ = (!xs.isEmpty && xs.all (fun x => decide (x ∈ l)) && rise sLt xs)
    cases (!xs.isEmpty && xs.all (fun x => decide (x ∈ l)) && rise sLt xs) <;> rfl
def LMenuS (P : Ph) (i : Nat) : Prop := ∀ (d : D) (l : List Str), szOk d = true → P i [d, ts l] = .ok (.bool (menuOf d l).isSome) []
theorem ieq_emptyT (vs : List D) (h : PyData.hasDictAll vs = false) : ieq (.tuple vs) (.tuple []) = some vs.isEmpty := by
  have : eqOk (.tuple vs) (.tuple []) = true := by
    simp only [eqOk, PyData.hasDict, h, PyData.hasDictAll, PyData.depth, PyData.depthAll]
    have : min (PyData.depthAll vs + 1) (0 + 1) ≤ 60 := by omega
    simp [this]
  simp only [ieq, this, if_true, PyData.eqv]
  cases vs <;> rfl
theorem lmenu_ok (P : Ph) (d : D) (l : List Str) (hd : szOk d = true) : runFn P fn__law_is_menu [d, ts l] = .ok (.bool (menuOf d l).isSome) [] := by
  rw [runFn_ap _ _ _ (by simp [fn__law_is_menu]; rfl)]
  cases d with
  | tuple vs =>
    obtain ⟨hl, hs⟩ := sz_tuple.mp hd
    have hh := sz_hd _ hd
    simp only [PyData.hasDict] at hh
    have e0 := ieq_emptyT vs hh
    rw [menuOf_tuple]
    cases hE : vs.isEmpty with
    | true => rw [hE] at e0; simp [fn__law_is_menu, ts, e0]
    | false =>
      rw [hE] at e0
      have hlc : block [3] (lcLoop [3] (.name 3) (tests P []) (den P (.and (.op (.isi 0) [.tmp 3]) (.op .isin [.tmp 3, .tmp 1]))) (vs.map id) []) [.sh (.tuple vs), .sh (.tuple (l.map .str)), .no, .no] = .ok (vs.map fun d => .bool (amongB d l)) [.sh (.tuple vs), .sh (.tuple (l.map .str)), .no, .no] :=
        lc1_map _ (by simp) (by simp) (by omega) (by
          intro d hdm
          have h1 := sz_hd d (hs d hdm)
          have h2 := isin_anyT d l h1
          cases d with
          | dict kv => simp [PyData.hasDict] at h1
          | str x => simp
          | _ => simp)
      rw [List.map_id] at hlc
      cases hA : vs.all fun d => amongB d l with
      | false => simp [fn__law_is_menu, ts, e0, hlc, Function.comp_def, hA]
      | true =>
        obtain ⟨xs, rfl, hx⟩ := all_among hA
        have hlx : xs.length ≤ 1000 := by simpa using hl
        have hAx : (xs.all fun x => decide (x ∈ l)) = true := by rw [List.all_eq_true]; intro x hx'; simpa using hx x hx'
        have hs2 := rise_src (xs.map PyData.str) (by simp; omega)
        rw [List.length_map] at hs2
        have hlc2 : block [2] (lcLoop [2] (.name 2) (tests P []) (den P (.op .lt [.op .ix [.tmp 0, .tmp 2], .op .ix [.tmp 0, .op .add [.tmp 2, .cst (.int 1)]]])) ((List.range (xs.length - 1)).map fun (k : Nat) => PyData.int (k : Int)) []) [.sh (.tuple (xs.map .str)), .sh (.tuple (l.map .str)), .no, .no] = .ok ((List.range (xs.length - 1)).map fun k => .bool (riseAt sLt xs k)) [.sh (.tuple (xs.map .str)), .sh (.tuple (l.map .str)), .no, .no] :=
          lc1_map _ (by simp) (by simp) (by simp; omega) (by
            intro k hk
            have hk' : k < xs.length - 1 := by simpa using hk
            have h1 : k < xs.length := by omega
            have h2 : k + 1 < xs.length := by omega
            have at1 : L2.atI (xs.map PyData.str) (k : Int) = some (.str xs[k]) := by rw [atI_map, atI_nat _ _ h1]; rfl
            have at2 : L2.atI (xs.map PyData.str) ((k : Int) + 1) = some (.str xs[k + 1]) := by
              have := atI_nat (xs.map PyData.str) (k + 1) (by simpa using h2)
              simpa using this
            rw [riseAt_eq sLt xs k h2]
            simp [at1, at2])
        simp [fn__law_is_menu, ts, e0, hlc, Function.comp_def, hAx, hs2, hlc2, rise]
  | dict kv => simp [szOk] at hd
  | _ => simp [fn__law_is_menu, ts, menuOf]
/-! a drawn menu -/
def DMenuS (P : Ph) (i : Nat) : Prop := ∀ p, Pot p → ∀ l : List Str, Things l → ∃ (m : List Str) (p' : List D), P i [.list p, ts l] = .ok (ts m) [.list p'] ∧ Pot p' ∧ Menu m l
theorem dmenu_ok {P : Ph} {d : Nat} (hd : DrawS P d) : ∀ p, Pot p → ∀ l : List Str, Things l → ∃ (m : List Str) (p' : List D), runFn P (fn__law_menu d) [.list p, ts l] = .ok (ts m) [.list p'] ∧ Pot p' ∧ Menu m l := by
  intro p hp l hl
  have h10 := hl.le
  have h1 := hl.pos
  rw [runFn_ap _ _ _ (by simp [fn__law_menu]; rfl)]
  obtain ⟨way, p1, e1, hp1, hw⟩ := hd p hp 4 (by omega) (by omega)
  obtain ⟨at_, p2, e2, hp2, ha⟩ := hd p1 hp1 l.length (by omega) (by omega)
  have ha' : at_ < l.length := by omega
  obtain ⟨r', e3, p3, kept, s2, hp3, rfl, hsub, hmem⟩ := for_inv (tg := .name 2) (body := exes P
      [.ife (.or (.op .eq [.call d [.tmp 0, .cst (.int 2)], .cst (.int 0)]) (.op .eq [.tmp 2, .tmp 4]))
        [.app 5 (.op .ix [.tmp 1, .tmp 2])]
        []])
    (g := fun k : Nat => PyData.int k) (l := List.range l.length) (r := [.own false (.lst p2), .sh (ts l), .no, .sh (.int way), .sh (.int at_), .own true (.lst [])])
    (fun k r => ∃ (p : List D) (kept : List Str) (s : Sl), Pot p ∧ r = [.own false (.lst p), .sh (ts l), s, .sh (.int way), .sh (.int at_), .own true (.lst (kept.map .str))] ∧ kept.Sublist (l.take k) ∧ (at_ < k → l[at_] ∈ kept))
    ⟨p2, [], .no, hp2, rfl, by simp, by simp⟩
    (by
      rintro k hk r ⟨p, kept, s, hp, rfl, hsub, hmem⟩
      have hk' : k < l.length := by simpa using hk
      obtain ⟨x, p', e, hp', hx⟩ := hd p hp 2 (by omega) (by omega)
      have at1 : L2.atI (l.map PyData.str) (k : Int) = some (.str l[k]) := by rw [atI_map, atI_nat _ _ hk']; rfl
      have hkl : kept.length ≤ 999999 := by have := hsub.length_le; simp at this; omega
      have tk : l.take (k + 1) = l.take k ++ [l[k]] := by rw [List.take_add_one, List.getElem?_eq_getElem hk']; rfl
      by_cases c : x = 0 ∨ k = at_
      · refine ⟨.nx, [.own false (.lst p'), .sh (ts l), .sh (.int k), .sh (.int way), .sh (.int at_), .own true (.lst ((kept ++ [l[k]]).map .str))], ?_, .inl rfl, p', kept ++ [l[k]], _, hp', rfl, ?_, ?_⟩
        · by_cases c0 : x = 0
          · subst c0; simp [fstep, e, ts, at1, hkl]
          · have c1 : k = at_ := c.resolve_left c0
            have c0' : ¬ (x : Int) = 0 := by omega
            subst c1; simp [fstep, e, ts, at1, hkl, c0]
        · rw [tk]; exact hsub.append (List.Sublist.refl _)
        · intro h
          rcases Nat.lt_succ_iff_lt_or_eq.mp h with q | q
          · exact List.mem_append_left _ (hmem q)
          · subst q; simp
      · have c0 : ¬ x = 0 := fun q => c (.inl q)
        have c1 : ¬ (k : Int) = at_ := fun q => c (.inr (by omega))
        refine ⟨.nx, [.own false (.lst p'), .sh (ts l), .sh (.int k), .sh (.int way), .sh (.int at_), .own true (.lst (kept.map .str))], ?_, .inl rfl, p', kept, _, hp', rfl, ?_, ?_⟩
        · simp [fstep, e, ts, c0, c1]
        · rw [tk]; exact hsub.trans (List.sublist_append_left _ _)
        · intro h
          rcases Nat.lt_succ_iff_lt_or_eq.mp h with q | q
          · exact hmem q
          · exact absurd (.inr q.symm) c)
  simp only [List.length_range, List.take_length] at hsub hmem
  have hkm := hmem ha'
  have at1 : L2.atI (l.map PyData.str) (at_ : Int) = some (.str l[at_]) := by rw [atI_map, atI_nat _ _ ha']; rfl
  have hl' : l.length ≤ 100000 := by omega
  have sub_menu : ∀ m : List Str, m.Sublist l → m ≠ [] → Menu m l := fun m h h2 => ⟨h2, fun x hx => h.subset hx, hl.asc.sublist h⟩
  have run : ∀ m : List Str, L2.atI [PyData.tuple [.str l[at_]], .tuple (l.map .str), .tuple (kept.map .str), .tuple (kept.map .str)] (way : Int) = some (ts m) → endR [true, false] false (exes P (fn__law_menu d).body [.own false (.lst p), .sh (ts l), .no, .no, .no, .no]) = .ok (ts m) [.list p3] := by
    intro m hm
    simp only [ts] at hm e3
    simp [fn__law_menu, e1, e2, ts, hl', e3, at1, hm]
  have : way = 0 ∨ way = 1 ∨ way = 2 ∨ way = 3 := by omega
  rcases this with rfl | rfl | rfl | rfl
  · exact ⟨[l[at_]], p3, run _ rfl, hp3, sub_menu _ (List.singleton_sublist.mpr (List.getElem_mem ha')) (by simp)⟩
  · exact ⟨l, p3, run _ rfl, hp3, sub_menu _ (List.Sublist.refl _) (by intro e; rw [e] at h1; simp at h1)⟩
  · exact ⟨kept, p3, run _ rfl, hp3, sub_menu _ hsub (by intro e; rw [e] at hkm; cases hkm)⟩
  · exact ⟨kept, p3, run _ rfl, hp3, sub_menu _ hsub (by intro e; rw [e] at hkm; cases hkm)⟩
end M3
set_option Elab.async false
set_option linter.all false
set_option maxRecDepth 100000
set_option maxHeartbeats 1000000
/-! K3: the checker: menus; apart, foreign. -/
namespace M3
open PySem
section
variable (rest : List Fn) (n : Nat)
theorem k_is_among (d c : D) (l : List Str) (hc : c = .tuple (l.map .str) ∨ c = .list (l.map .str)) (hd : d.hasDict = false) : CK rest (n + 1) 7 [d, c] = .ok (.bool (amongB d l)) [] := by
  rw [ck_ap rfl, runFn_ap _ _ _ (by simp [fn_is_among]; rfl)]
  cases d with
  | dict kv => simp [PyData.hasDict] at hd
  | str x => rcases hc with rfl | rfl <;> simp [fn_is_among]
  | _ => simp [fn_is_among]
theorem k_is_menu (d c : D) (l : List Str) (hc : c = .tuple (l.map .str) ∨ c = .list (l.map .str)) (hd : szOk d = true) : CK rest (n + 2) 6 [d, c] = .ok (.bool (menuOf d l).isSome) [] := by
  rw [ck_ap rfl, runFn_ap _ _ _ (by simp [fn_is_menu]; rfl)]
  cases d with
  | tuple vs =>
    obtain ⟨hl, hs⟩ := sz_tuple.mp hd
    rw [menuOf_tuple]
    by_cases h0 : vs.length = 0
    · have : vs = [] := List.length_eq_zero_iff.mp h0
      subst this
      simp [fn_is_menu]
    · have h0' : ¬ (vs.length : Int) = 0 := by omega
      have hvs : ¬ vs = [] := fun q => h0 (by rw [q]; rfl)
      have hE : vs.isEmpty = false := by
        cases vs with
        | nil => exact absurd rfl h0
        | cons _ _ => rfl
      have hlc : block [2] (lcLoop [2] (.name 2) (tests (CK rest (n + 1)) []) (den (CK rest (n + 1)) (.call 7 [.var 2, .var 1])) (vs.map id) []) [.sh (.tuple vs), .sh c, .no] = .ok (vs.map fun d => .bool (amongB d l)) [.sh (.tuple vs), .sh c, .no] :=
        lc1_map _ (by simp) (by simp) (by omega) (by
          intro d hdm
          have := k_is_among rest n d c l hc (sz_hd d (hs d hdm))
          simp [this])
      rw [List.map_id] at hlc
      cases hA : vs.all fun d => amongB d l with
      | false => simp [fn_is_menu, hvs, hlc, Function.comp_def, hA]
      | true =>
        obtain ⟨xs, rfl, hx⟩ := all_among hA
        have hlx : xs.length ≤ 1000 := by simpa using hl
        have hAx : (xs.all fun x => decide (x ∈ l)) = true := by rw [List.all_eq_true]; intro x hx'; simpa using hx x hx'
        have hr := k_rising_s rest n xs (by omega)
        have hxs : ¬ xs = [] := fun q => hvs (by rw [q]; rfl)
        simp only [strsD_map, hE]
        simp [fn_is_menu, hxs, hlc, Function.comp_def, hAx, hr]
  | dict kv => simp [szOk] at hd
  | _ => simp [fn_is_menu, menuOf]
theorem k_best_in (row menu : List Str) (h : ∃ x ∈ row, x ∈ menu) (hr : row.length ≤ 1000) : CK rest (n + 1) 19 [ts row, ts menu] = .ok (.str (bestOf menu row)) [] := by
  rw [ck_ap rfl, runFn_ap _ _ _ (by simp [fn_best_in]; rfl)]
  simp [fn_best_in, ts]
  rw [lc1_filter (fun x => decide (x ∈ menu)) PyData.str (by simp) (by simp) (by omega) (by intro x hx; simp) (by intro x hx _; simp)]
  simp [atI_map, atI_zero, best_head h]
def takesB (rows : List (List Str)) (menu : List Str) (x : Str) : Bool := decide (x ∈ rows.map (bestOf menu))
theorem k_takes (rows : List (List Str)) (menu : List Str) (x : Str) (h : ∀ r ∈ rows, ∃ x ∈ r, x ∈ menu) (hr : ∀ r ∈ rows, r.length ≤ 1000) (hn : rows.length ≤ 1000) : CK rest (n + 2) 18 [tss rows, ts menu, .str x] = .ok (.bool (takesB rows menu x)) [] := by
  rw [ck_ap rfl, runFn_ap _ _ _ (by simp [fn_takes]; rfl)]
  have hlc : block [3] (lcLoop [3] (.name 3) (tests (CK rest (n + 1)) []) (den (CK rest (n + 1)) (.call 19 [.var 3, .var 1])) (rows.map ts) []) [.sh (.list (rows.map ts)), .sh (ts menu), .sh (.str x), .no] = .ok ((rows.map (bestOf menu)).map .str) [.sh (.list (rows.map ts)), .sh (ts menu), .sh (.str x), .no] := by
    have := lc1_map (v := 3) (P := CK rest (n + 1)) (elt := den (CK rest (n + 1)) (.call 19 [.var 3, .var 1])) (g := ts) (l := rows) (r := [.sh (.list (rows.map ts)), .sh (ts menu), .sh (.str x), .no]) (fun r => .str (bestOf menu r)) (by simp) (by simp) (by omega) (by
      intro r hrr
      have := k_best_in rest n r menu (h r hrr) (hr r hrr)
      simp [this])
    rw [this]; simp
  generalize hb : rows.map (bestOf menu) = bs at hlc
  simp [fn_takes, tss, hlc, takesB, hb]
theorem house_menu {l m : List Str} {rows : List (List Str)} (h : Hs l rows) (hm : Menu m l) : ∀ r ∈ rows, ∃ x ∈ r, x ∈ m := fun r hr => by
  cases m with
  | nil => exact absurd rfl hm.ne
  | cons x m => exact ⟨x, (h.rows.perm r hr).mem_iff.mpr (hm.sub x (by simp)), by simp⟩
theorem k_takes_h {l m : List Str} {rows : List (List Str)} (h : Hs l rows) (hm : Menu m l) (x : Str) : CK rest (n + 2) 18 [tss rows, ts m, .str x] = .ok (.bool (takesB rows m x)) [] :=
  k_takes rest n rows m x (house_menu h hm) (fun r hr => by have := h.len10 r hr; omega) (by have := h.le; omega)
def partsB (d : D) (rows others : List (List Str)) (l : List Str) : Bool := match d with
  | .tuple [a, b] => (match menuOf a l with
    | some m => (match b with
      | .str x => decide (x ∈ m) && takesB rows m x && !takesB others m x
      | _ => false)
    | none => false)
  | _ => false
def foreignB (d : D) (rows others : List (List Str)) (l : List Str) : Bool := match menuOf d l with
  | some m => !(m.any fun x => takesB rows m x && takesB others m x)
  | none => false
theorem menu_len {m l : List Str} (h : Menu m l) (hl : Things l) : m.length ≤ 10 := by
  have := List.Nodup.length_le_of_subset h.asc.nodup (l₂ := l) (fun x hx => h.sub x hx)
  have := hl.le
  omega
theorem head_sorted {l : List Str} {rows : List (List Str)} (h : Hs l rows) : ∃ r0, L2.atI (rows.map ts) 0 = some (ts r0) ∧ sortS r0 = l := by
  cases hr : rows with
  | nil => exact absurd hr h.rows.ne
  | cons r0 rs =>
    refine ⟨r0, by simp, ?_⟩
    rw [← sortS_self h.th.asc, sortS_eq]
    exact h.rows.perm r0 (by rw [hr]; simp)
theorem k_shows_foreign {l : List Str} {rows others : List (List Str)} (h : Hs l rows) (h2 : Hs l others) (d : D) (hd : szOk d = true) : CK rest (n + 3) 24 [.str "foreign", tss rows, tss others, d] = .ok (.bool (foreignB d rows others l)) [] := by
  rw [ck_ap rfl, runFn_ap _ _ _ (by simp [fn_shows_parted]; rfl)]
  obtain ⟨r0, a1, hs⟩ := head_sorted h
  have e1 := k_is_menu rest n d (.list (l.map .str)) l (.inr rfl) hd
  unfold foreignB
  cases hm : menuOf d l with
  | none =>
    rw [hm] at e1
    simp [fn_shows_parted, tss, a1, hs, e1]
  | some m =>
    rw [hm] at e1
    obtain ⟨rfl, hM⟩ := menuOf_some hm
    have hml := menu_len hM h.th
    have hlc : block [6] (lcLoop [6] (.name 6) (tests (CK rest (n + 2)) []) (den (CK rest (n + 2)) (.and (.call 18 [.var 1, .var 3, .var 6]) (.call 18 [.var 2, .var 3, .var 6]))) (m.map .str) []) [.sh (.str "foreign"), .sh (tss rows), .sh (tss others), .sh (ts m), .sh (.list (l.map .str)), .no, .no] = .ok (m.map fun x => .bool (takesB rows m x && takesB others m x)) [.sh (.str "foreign"), .sh (tss rows), .sh (tss others), .sh (ts m), .sh (.list (l.map .str)), .no, .no] :=
      lc1_map _ (by simp) (by simp) (by omega) (by
        intro x hx
        have q1 := k_takes_h rest n h hM x
        have q2 := k_takes_h rest n h2 hM x
        cases ht : takesB rows m x with
        | true => rw [ht] at q1; simp [q1, q2]
        | false => rw [ht] at q1; simp [q1])
    simp only [ts, tss] at e1 hlc a1
    simp [fn_shows_parted, ts, tss, a1, hs, e1, hlc, Function.comp_def]
theorem k_shows_apart {l : List Str} {rows others : List (List Str)} (h : Hs l rows) (h2 : Hs l others) (d : D) (hd : szOk d = true) : CK rest (n + 3) 24 [.str "apart", tss rows, tss others, d] = .ok (.bool (partsB d rows others l)) [] := by
  rw [ck_ap rfl, runFn_ap _ _ _ (by simp [fn_shows_parted]; rfl)]
  obtain ⟨r0, a1, hs⟩ := head_sorted h
  have w1 : ¬ Str.ofString "apart" = Str.ofString "foreign" := by decide +kernel
  have e0 := k_is_row_of rest (n + 1) d 2 (sz_hd d hd)
  cases d with
  | tuple vs =>
    obtain ⟨hl, hsz⟩ := sz_tuple.mp hd
    match vs, e0, hsz with
    | [], e0, _ => simp at e0; simp [fn_shows_parted, tss, a1, hs, e0, partsB, w1]
    | [a], e0, _ => simp at e0; simp [fn_shows_parted, tss, a1, hs, e0, partsB, w1]
    | [a, b], e0, hsz =>
      simp at e0
      have e1 := k_is_menu rest n a (.list (l.map .str)) l (.inr rfl) (hsz a (by simp))
      cases hm : menuOf a l with
      | none =>
        rw [hm] at e1
        simp [fn_shows_parted, tss, a1, hs, e0, partsB, e1, hm, w1]
      | some m =>
        rw [hm] at e1
        obtain ⟨rfl, hM⟩ := menuOf_some hm
        have e2 := k_is_among rest (n + 1) b (ts m) m (.inl rfl) (sz_hd b (hsz b (by simp)))
        cases b with
        | str x =>
          have q1 := k_takes_h rest n h hM x
          have q2 := k_takes_h rest n h2 hM x
          by_cases hx : x ∈ m
          · simp only [among_s, hx, decide_true] at e2
            cases ht : takesB rows m x with
            | true =>
              rw [ht] at q1
              simp only [tss] at q1 q2
              simp [fn_shows_parted, tss, a1, hs, e0, partsB, e1, e2, hm, w1, q1, q2, ht, hx]
            | false =>
              rw [ht] at q1
              simp only [tss] at q1 q2
              simp [fn_shows_parted, tss, a1, hs, e0, partsB, e1, e2, hm, w1, q1, ht, hx]
          · simp only [among_s, hx, decide_false] at e2
            simp [fn_shows_parted, tss, a1, hs, e0, partsB, e1, e2, hm, w1, hx]
        | dict kv => have := hsz (.dict kv) (by simp); simp [szOk] at this
        | _ => simp at e2; simp [fn_shows_parted, tss, a1, hs, e0, partsB, e1, e2, hm, w1]
    | a :: b :: c :: vs, e0, _ =>
      have : isRow (.tuple (a :: b :: c :: vs)) 2 = false := by simp; omega
      rw [this] at e0
      simp [fn_shows_parted, tss, a1, hs, e0, partsB, w1]
  | dict kv => simp [szOk] at hd
  | _ => simp at e0; simp [fn_shows_parted, tss, a1, hs, e0, partsB, w1]
theorem k_shows_h24 {l : List Str} {rows others : List (List Str)} (h : Hs l rows) (h2 : Hs l others) (d : D) (w : Str) (hw : w = "apart" ∨ w = "foreign") {b : Bool} (hk : CK rest (n + 3) 24 [.str w, tss rows, tss others, d] = .ok (.bool b) []) :
    CK rest (n + 4) 22 [.tuple [.str w, .str (txtH rows), .str (txtH others)], d] = .ok (.bool b) [] := by
  rw [ck_ap rfl, runFn_ap _ _ _ (by simp [fn_shows_houses]; rfl)]
  have e1 := k_rows_text rest n h
  have e2 := k_rows_text rest n h2
  obtain ⟨r0, o0, a1, a2, hs⟩ := perm_head h h2
  have at1 : ∀ a b c : D, L2.atI [a, b, c] 1 = some b := fun _ _ _ => rfl
  have at2 : ∀ a b c : D, L2.atI [a, b, c] 2 = some c := fun _ _ _ => rfl
  have w1 : ¬ w = Str.ofString "fewest" := by rcases hw with rfl | rfl <;> decide +kernel
  have w2 : ¬ w = Str.ofString "within" := by rcases hw with rfl | rfl <;> decide +kernel
  have w3 : ¬ w = Str.ofString "alike" := by rcases hw with rfl | rfl <;> decide +kernel
  have w4 : ¬ w = Str.ofString "common" := by rcases hw with rfl | rfl <;> decide +kernel
  simp only [tss] at e1 e2 hk
  simp [fn_shows_houses, e1, e2, hk, at1, at2, a1, a2, hs, w1, w2, w3, w4, tss]
theorem k_apart {l : List Str} {rows others : List (List Str)} (h : Hs l rows) (h2 : Hs l others) (d : D) (hd : szOk d = true) : CK rest (n + 5) 0 [.tuple [.str "apart", .str (txtH rows), .str (txtH others)], d] = .ok (.bool (partsB d rows others l)) [] :=
  k_accepts_houses rest (n + 4) _ _ _ _ d rfl (by decide +kernel) (k_shows_h24 rest n h h2 d _ (.inl rfl) (k_shows_apart rest n h h2 d hd)) ⟨_, rfl⟩
theorem k_foreign {l : List Str} {rows others : List (List Str)} (h : Hs l rows) (h2 : Hs l others) (d : D) (hd : szOk d = true) : CK rest (n + 5) 0 [.tuple [.str "foreign", .str (txtH rows), .str (txtH others)], d] = .ok (.bool (foreignB d rows others l)) [] :=
  k_accepts_houses rest (n + 4) _ _ _ _ d rfl (by decide +kernel) (k_shows_h24 rest n h h2 d _ (.inr rfl) (k_shows_foreign rest n h h2 d hd)) ⟨_, rfl⟩
end
end M3
set_option Elab.async false
set_option linter.all false
set_option maxRecDepth 100000
set_option maxHeartbeats 1000000
/-! S7: common ends. -/
namespace M3
open PySem
theorem getD_at {α : Type} {l : List α} {k : Nat} (h : k < l.length) (d : α) : l.getD k d = l[k] := by rw [List.getD_eq_getElem?_getD, List.getElem?_eq_getElem h]; rfl
theorem lc_pots {α : Type} {P : Ph} {v : Nat} {elt : M D} {g : α → D} {l : List α} (Q : D → Prop) (ρ : List D → En) (hv : ∀ p, (ρ p)[v]? = some .no) (hl : l.length ≤ 1000000)
    (hs : ∀ a ∈ l, ∀ p, Pot p → ∃ d p' r, lcStep (.name v) (tests P []) elt (g a) (ρ p) = .ok (some d) r ∧ Pot p' ∧ Q d ∧ r.set v .no = ρ p') {p : List D} (hp : Pot p) :
    ∃ ds p', block [v] (lcLoop [v] (.name v) (tests P []) elt (l.map g) []) (ρ p) = .ok ds (ρ p') ∧ Pot p' ∧ ds.length = l.length ∧ ∀ d ∈ ds, Q d := by
  have hw : ∀ p, wipeE (ρ p) [v] = ρ p := fun p => by rw [wipeE_cons, wipeE_nil]; exact set_same (hv p)
  obtain ⟨acc, r1, e, p', hp', hr, hlen, hQ⟩ := lc_inv (vs := [v]) (tg := .name v) (tst := tests P []) (elt := elt) (g := g) (l := l) (r := ρ p)
    (fun k acc r => ∃ p', Pot p' ∧ r.set v .no = ρ p' ∧ acc.length = k ∧ ∀ d ∈ acc, Q d) (by simp [hv p]) hl ⟨p, hp, by rw [hw, set_same (hv p)], rfl, by simp⟩
    (by
      rintro k hk acc r ⟨p1, hp1, hr, hlen, hQ⟩
      obtain ⟨d, p2, r2, e, hp2, hd, hr2⟩ := hs l[k] (List.getElem_mem hk) p1 hp1
      refine ⟨some d, r2, by rw [wipeE_cons, wipeE_nil, hr]; exact e, p2, hp2, hr2, by simp [hlen], ?_⟩
      intro x hx
      rcases List.mem_append.mp hx with q | q
      · exact hQ x q
      · simp at q; rw [q]; exact hd)
  refine ⟨acc, p', ?_, hp', hlen, hQ⟩
  rw [e]
  congr 1
  unfold back
  rw [hv p]
  simp only [back]
  exact hr
theorem max_min (c : Nat) (hc : 2 ≤ c) (n : Nat) : ∃ N : Nat, N ≤ c ∧ ap .max2 [.int 2, .int (if (c : Int) < (n : Int) then (c : Int) else (n : Int))] = some (.int N) := by
  rw [ap_max2]
  by_cases h4 : (c : Int) < n
  · rw [if_pos h4]
    by_cases h2 : (c : Int) > 2
    · exact ⟨c, Nat.le_refl _, by rw [if_pos h2]⟩
    · exact ⟨2, hc, by rw [if_neg h2]; rfl⟩
  · rw [if_neg h4]
    by_cases h2 : (n : Int) > 2
    · exact ⟨n, by omega, by rw [if_pos h2]⟩
    · exact ⟨2, hc, by rw [if_neg h2]; rfl⟩
def RightS (P : Ph) (i : Nat) : Prop := ∀ p, Pot p → ∃ p' : List D, P i [.list p] = .ok (.bool true) [.list p']
theorem tail_lc {P : Ph} {ir ip v : Nat} (hp : PotS P ip) (hr : RightS P ir) {ns : List Int} (h : ns.length ≤ 63) {r : En} (h0 : r[0]? = some (.sh (.list (ns.map .int)))) (hv : notOwn r[v]? = true) (hlt : v < r.length) (hv0 : v ≠ 0) (N : Nat) (hN : N ≤ 1000) :
    block [v] (lcLoop [v] (.name v) (tests P []) (den P (.callF ir (.call ip [.var 0, .var v]))) ((List.range N).map fun k : Nat => PyData.int k) []) r = .ok ((List.range N).map fun _ => .bool true) r := by
  refine lc1_map _ hv hlt (by simp; omega) ?_
  intro k hk
  obtain ⟨p, ep, hp⟩ := hp ns k h
  obtain ⟨p', er⟩ := hr p hp
  have e0 : (r.set v (.sh (.int (k : Nat))))[0]? = some (.sh (.list (ns.map .int))) := by rw [List.getElem?_set_ne hv0]; exact h0
  have ev : (r.set v (.sh (.int (k : Nat))))[v]? = some (.sh (.int (k : Nat))) := List.getElem?_set_self hlt
  simp [e0, ev, ep, er]
theorem ex_map {α β : Type} {g : α → β} {R : α → Prop} : ∀ {ds : List β}, (∀ d ∈ ds, ∃ a, d = g a ∧ R a) → ∃ as : List α, ds = as.map g ∧ ∀ a ∈ as, R a
  | [], _ => ⟨[], rfl, by simp⟩
  | d :: ds, h => by
    obtain ⟨a, rfl, ha⟩ := h d (by simp)
    obtain ⟨as, rfl, has⟩ := ex_map (g := g) (R := R) (ds := ds) fun d hd => h d (List.mem_cons_of_mem _ hd)
    exact ⟨a :: as, rfl, by simpa using ⟨ha, has⟩⟩
theorem src_1p (x : Nat) (h : x ≤ 1000) : srcItems .rng1 [.int (1 + (x : Int))] = some ((List.range (1 + x)).map fun (k : Nat) => PyData.int (k : Int)) := by
  have := src_rng (1 + x) (by omega)
  simpa using this
theorem sortR_asc {l : List (List Str)} (h : l.Nodup) : AscR (sortR l) :=
  ((sortR_pw l).and ((sortR_perm l).symm.nodup h)).imp fun ⟨a, b⟩ => rLt_of a b
theorem mem_taken {rows : List (List Str)} {m : List Str} {x : Str} : (x ∈ takenOf rows m) = (x ∈ m ∧ takesB rows m x = true) := by
  simp only [takenOf, takesB, List.mem_filter]
theorem szt_app {a b : List D} (ha : ∀ d ∈ a, szOk d = true) (hb : ∀ d ∈ b, szOk d = true) (hl : a.length + b.length ≤ 1000) : szOk (.tuple (a ++ b)) = true :=
  sz_tuple.mpr ⟨by simpa using hl, fun d hd => (List.mem_append.mp hd).elim (ha d) (hb d)⟩
theorem sz_strs {l : List Str} (h : ∀ x ∈ l, nmB x = true) : ∀ d ∈ l.map PyData.str, szOk d = true := fun d hd => by
  obtain ⟨x, hx, rfl⟩ := List.mem_map.mp hd; exact sz_nm (h x hx)
@[simp] theorem ap_revT (l : List D) : ap .rev [.tuple l] = some (.tuple l.reverse) := rfl
@[simp] theorem ap_revL (l : List D) : ap .rev [.list l] = some (.list l.reverse) := rfl
end M3
set_option Elab.async false
set_option linter.all false
set_option maxRecDepth 100000
set_option maxHeartbeats 1000000
/-! S8: covers that are right; bent texts. -/
namespace M3
open PySem
theorem coverB_good {c : List Int} {row : List Str} {rows : List (List Str)} (hlen : c.length = row.length)
    (hg : ∀ k (hk : k < c.length) (hk2 : k < row.length), ∃ j, ∃ (hj : j < rows.length), c[k] = (j : Int) ∧ ((∃ r ∈ rows, ∀ x ∈ row.drop (k + 1), x ∈ belowOf r row[k]) → ∀ x ∈ row.drop (k + 1), x ∈ belowOf rows[j] row[k]))
    (hcov : Coverable row rows) : coverB (ti c) row rows = true := by
  unfold coverB ti
  simp only [List.length_map, hlen, beq_self_eq_true, Bool.true_and]
  rw [List.all_eq_true]
  intro k hk
  have hk' : k < row.length := by simpa using hk
  obtain ⟨j, hj, e, hb⟩ := hg k (by omega) hk'
  have gd : (c.map PyData.int).getD k .none = .int j := by
    rw [getD_at (by simp; omega)]; simp [e]
  rw [gd, Bool.and_eq_true]
  refine ⟨by simp [isIdx, hj], ?_⟩
  unfold covAt
  rw [List.all_eq_true]
  intro x hx
  have := hb (hcov k hk') x hx
  show decide (x ∈ belowOf (rows.getD ((j : Int).toNat) []) (row.getD k Str.empty)) = true
  rw [Int.toNat_natCast, getD_at hj, getD_at hk']
  exact decide_eq_true this
/-- a covered ranking: the best of a menu in it is taken -/
theorem cov_taken {row m : List Str} {rows : List (List Str)} {l : List Str} (hnd : l.Nodup) (hrow : row.Perm l) (hrows : ∀ r ∈ rows, r.Perm l) (hcov : Coverable row rows) (hm : ∃ x ∈ row, x ∈ m) : takesB rows m (bestOf m row) = true := by
  have rnd : row.Nodup := hrow.symm.nodup hnd
  obtain ⟨a, b, e, ha⟩ := best_split hm
  have hbm := (best_mem hm).2
  generalize hz : bestOf m row = z at *
  have hk : a.length < row.length := by rw [e]; simp
  obtain ⟨r, hr, hb⟩ := hcov a.length hk
  have ez : row[a.length] = z := by simp [e]
  have ed : row.drop (a.length + 1) = b := by
    rw [e, show a.length + 1 = (a ++ [z]).length by simp, show a ++ z :: b = (a ++ [z]) ++ b by simp, List.drop_left]
  rw [ez, ed] at hb
  have rn : r.Nodup := (hrows r hr).symm.nodup hnd
  have hzr : z ∈ r := (hrows r hr).mem_iff.mpr (hrow.mem_iff.mp (by rw [e]; simp))
  have : bestOf m r = z := by
    have hmr : ∃ x ∈ r, x ∈ m := ⟨z, hzr, hbm⟩
    obtain ⟨a2, b2, e2, ha2⟩ := best_split hmr
    have hb2 := best_mem hmr
    generalize bestOf m r = y at *
    rcases Classical.em (y = z) with q | q
    · exact q
    · exfalso
      have hyrow : y ∈ row := hrow.mem_iff.mpr ((hrows r hr).mem_iff.mp hb2.1)
      have hyb : y ∈ b := by
        rw [e] at hyrow
        rcases List.mem_append.mp hyrow with w | w
        · exact absurd hb2.2 (ha y w)
        · rcases List.mem_cons.mp w with w | w
          · exact absurd w q
          · exact w
      have hyz := hb y hyb
      have hz2 : z ∈ belowOf r y := by
        rw [e2] at rn hzr ⊢
        rw [below_app (fun w => by
          rw [List.nodup_append] at rn
          exact rn.2.2 y w y (by simp) rfl)]
        rcases List.mem_append.mp hzr with w | w
        · exact absurd hbm (ha2 z w)
        · rcases List.mem_cons.mp w with w | w
          · exact absurd w.symm q
          · exact w
      have pos : ∀ {u v : Str}, u ∈ belowOf r v → v ∈ r → r.idxOf v < r.idxOf u := by
        intro u v hu hv
        unfold belowOf at hu
        obtain ⟨i, hi, rfl⟩ := List.getElem_of_mem hu
        have hi' : r.idxOf v + 1 + i < r.length := by simp at hi; omega
        rw [List.getElem_drop]
        have := rn.idxOf_getElem (r.idxOf v + 1 + i) hi'
        rw [this]; omega
      have p1 := pos hyz hzr
      have p2 := pos hz2 hb2.1
      omega
  unfold takesB
  exact decide_eq_true (List.mem_map.mpr ⟨r, hr, this⟩)
/-! a text with a sign changed -/
def BTextS (P : Ph) (i : Nat) : Prop := ∀ p, Pot p → ∀ t : Str, 1 ≤ t.length → t.length ≤ 10000 → sOk t = true → ∃ (t' : Str) (p' : List D), P i [.list p, .str t] = .ok (.str t') [.list p'] ∧ Pot p' ∧ sOk t' = true ∧ t'.length ≤ t.length + 1
theorem sOk_iff {t : Str} : sOk t = true ↔ (∀ c ∈ t.cps.toList, c < 0x110000) ∧ t.length ≤ 1000000 := by
  simp only [sOk, PyData.strOk, Bool.and_eq_true, Array.all_eq_true', decide_eq_true_eq]
  constructor
  · rintro ⟨h1, h2⟩; exact ⟨fun c hc => by have := h1 c (by simpa using hc); simpa using this, h2⟩
  · rintro ⟨h1, h2⟩; exact ⟨fun c hc => by have := h1 c (by simpa using hc); simpa using this, h2⟩
theorem sOk_mk {l : List Nat} (h : ∀ c ∈ l, c < 0x110000) (hl : l.length ≤ 1000000) : sOk ⟨l.toArray⟩ = true := sOk_iff.mpr ⟨by simpa using h, by simpa [Str.length] using hl⟩
theorem mk_app (a b : List Nat) : (⟨a.toArray⟩ : Str) ++ ⟨b.toArray⟩ = ⟨(a ++ b).toArray⟩ := TL.ext_tl (by rw [TL.tl_append])
theorem len_mk (a : List Nat) : (⟨a.toArray⟩ : Str).length = a.length := by simp [Str.length]
def SG14 : List Nat := [97, 98, 122, 48, 49, 57, 32, 59, 43, 45, 63, 65, 95, 10]
theorem sg14 : (Str.ofString "abz019 ;+-?A_\n").cps.toList = SG14 := by decide +kernel
theorem btext_ok {P : Ph} {d : Nat} (hd : DrawS P d) : ∀ p, Pot p → ∀ t : Str, 1 ≤ t.length → t.length ≤ 10000 → sOk t = true → ∃ (t' : Str) (p' : List D), runFn P (fn__law_bent_text d) [.list p, .str t] = .ok (.str t') [.list p'] ∧ Pot p' ∧ sOk t' = true ∧ t'.length ≤ t.length + 1 := by
  intro p hp t h1 h2 hs
  rw [runFn_ap _ _ _ (by simp [fn__law_bent_text]; rfl)]
  obtain ⟨hc, _⟩ := sOk_iff.mp hs
  have hl := len_cps t
  obtain ⟨at_, p1, e1, hp1, ha⟩ := hd p hp t.length (by omega) (by omega)
  obtain ⟨way, p2, e2, hp2, hw⟩ := hd p1 hp1 3 (by omega) (by omega)
  obtain ⟨y, p3, e3, hp3, hy⟩ := hd p2 hp2 14 (by omega) (by omega)
  have hy' : y < SG14.length := by simp [SG14]; omega
  have a1 : L2.atI (Str.ofString "abz019 ;+-?A_\n").cps.toList (y : Int) = some SG14[y] := by rw [sg14, atI_nat _ _ hy']
  have hsg : SG14[y] < 0x110000 := by
    have : ∀ c ∈ SG14, c < 0x110000 := by decide
    exact this _ (List.getElem_mem hy')
  generalize SG14[y] = c at a1 hsg
  obtain ⟨A, hA, hsA, eA⟩ : ∃ A : List Nat, A.length ≤ t.length ∧ (∀ c ∈ A, c < 0x110000) ∧ cut t.cps.toList none (some (at_ : Int)) = A := ⟨_, by simp [← hl]; omega, fun c hc' => hc c (List.mem_of_mem_take hc'), cut_to _ _⟩
  obtain ⟨B, hB, hsB, eB, hAB⟩ : ∃ B : List Nat, B.length ≤ t.length ∧ (∀ c ∈ B, c < 0x110000) ∧ cut t.cps.toList (some ((at_ : Int) + 1)) none = B ∧ A.length + B.length ≤ t.length := ⟨_, by simp [← hl], fun c hc' => hc c (List.mem_of_mem_drop hc'), cut_from1 _ _, by rw [← eA, cut_to]; simp [← hl]; omega⟩
  obtain ⟨C, hC, hsC, eC, hAC⟩ : ∃ B : List Nat, B.length ≤ t.length ∧ (∀ c ∈ B, c < 0x110000) ∧ cut t.cps.toList (some (at_ : Int)) none = B ∧ A.length + B.length ≤ t.length := ⟨_, by simp [← hl], fun c hc' => hc c (List.mem_of_mem_drop hc'), cut_from _ _, by rw [← eA, cut_to]; simp [← hl]; omega⟩
  have f1 : iadd (.str ⟨A.toArray⟩) (.str ⟨B.toArray⟩) = some (.str ⟨(A ++ B).toArray⟩) := by rw [iadd_str _ _ (by rw [len_mk, len_mk]; omega), mk_app]
  have f2 : iadd (.str ⟨A.toArray⟩) (.str ⟨#[c]⟩) = some (.str ⟨(A ++ [c]).toArray⟩) := by
    have : (⟨#[c]⟩ : Str) = ⟨[c].toArray⟩ := rfl
    rw [this, iadd_str _ _ (by rw [len_mk, len_mk]; simp; omega), mk_app]
  have f3 : ∀ E : List Nat, E.length ≤ t.length → iadd (.str ⟨(A ++ [c]).toArray⟩) (.str ⟨E.toArray⟩) = some (.str ⟨(A ++ [c] ++ E).toArray⟩) := fun E hE => by rw [iadd_str _ _ (by rw [len_mk, len_mk]; simp; omega), mk_app]
  have ok : ∀ E : List Nat, (∀ c ∈ E, c < 0x110000) → A.length + E.length ≤ t.length → sOk ⟨(A ++ [c] ++ E).toArray⟩ = true ∧ (⟨(A ++ [c] ++ E).toArray⟩ : Str).length ≤ t.length + 1 := fun E hE hl2 => by
    refine ⟨sOk_mk (fun z hz => ?_) (by simp; omega), by rw [len_mk]; simp; omega⟩
    rcases List.mem_append.mp hz with q | q
    · rcases List.mem_append.mp q with q | q
      · exact hsA z q
      · simp at q; rw [q]; exact hsg
    · exact hE z q
  have w : way = 0 ∨ way = 1 ∨ way = 2 := by omega
  rcases w with rfl | rfl | rfl
  · refine ⟨⟨(A ++ B).toArray⟩, p3, by simp [fn__law_bent_text, e1, e2, e3, a1, eA, eB, f1], hp3, sOk_mk (fun z hz => (List.mem_append.mp hz).elim (hsA z) (hsB z)) (by simp; omega), by rw [len_mk]; simp; omega⟩
  · exact ⟨_, p3, by simp [fn__law_bent_text, e1, e2, e3, a1, eA, eC, f2, f3 C hC], hp3, ok C hsC hAC⟩
  · exact ⟨_, p3, by simp [fn__law_bent_text, e1, e2, e3, a1, eA, eB, f2, f3 B hB], hp3, ok B hsB hAB⟩
end M3
set_option Elab.async false
set_option linter.all false
set_option maxRecDepth 100000
set_option maxHeartbeats 1000000
/-! S18: repr of plain data. -/
namespace M3
open PySem
theorem chr_lt (c : Char) : c.toNat < 0x110000 := by
  have h := c.valid
  unfold UInt32.isValidChar Nat.isValidChar at h
  show c.val.toNat < _
  omega
theorem reprChar_ok {q c : Nat} (hc : c < 0x110000) : ∀ d ∈ Builtin.Str.reprChar q c, d < 0x110000 := by
  intro d hd
  have hx : ∀ w : Nat, ∀ d ∈ (List.replicate (w - ((Nat.toDigits 16 c).map Char.toNat).length) 48 ++ (Nat.toDigits 16 c).map Char.toNat), d < 0x110000 := by
    intro w d hd
    rcases List.mem_append.mp hd with h | h
    · rw [(List.mem_replicate.mp h).2]; omega
    · obtain ⟨k, _, rfl⟩ := List.mem_map.mp h; exact chr_lt k
  unfold Builtin.Str.reprChar at hd
  dsimp only at hd
  repeat' split at hd
  all_goals first
    | (simp only [List.mem_cons, List.not_mem_nil, or_false] at hd; rcases hd with rfl | rfl <;> omega)
    | (simp only [List.mem_cons, List.not_mem_nil, or_false] at hd; rw [hd]; exact hc)
    | (rcases List.mem_append.mp hd with h | h
       · simp only [List.mem_cons, List.not_mem_nil, or_false] at h; rcases h with rfl | rfl <;> omega
       · exact hx _ d h)
theorem fold_repr (q : Nat) : ∀ (l : List Nat) (acc : Array Nat), (l.foldl (fun out c => out ++ (Builtin.Str.reprChar q c).toArray) acc).toList = acc.toList ++ l.flatMap (Builtin.Str.reprChar q)
  | [], acc => by simp
  | c :: r, acc => by
    rw [List.foldl_cons, fold_repr q r]
    simp
theorem quote_lt (x : Str) : reprQuote x < 0x110000 := by
  unfold reprQuote
  split <;> omega
theorem reprText_ok {x : Str} (h : ∀ c ∈ x.cps.toList, c < 0x110000) : ∀ c ∈ (reprText x).cps.toList, c < 0x110000 := by
  intro c hc
  unfold reprText at hc
  rw [Array.toList_push, ← Array.foldl_toList, fold_repr] at hc
  rcases List.mem_append.mp hc with h1 | h1
  · rcases List.mem_append.mp h1 with h2 | h2
    · simp at h2; rw [h2]; exact quote_lt x
    · obtain ⟨k, hk, h3⟩ := List.mem_flatMap.mp h2
      exact reprChar_ok (h k hk) c h3
  · simp at h1; rw [h1]; exact quote_lt x
mutual
def niceR : D → Bool
  | .none => true
  | .bool _ => true
  | .int i => decide (0 ≤ i) && decide (i ≤ 2000)
  | .str x => sOk x
  | .list xs => niceAll xs
  | .tuple xs => niceAll xs
  | .dict _ => false
def niceAll : List D → Bool
  | [] => true
  | x :: xs => niceR x && niceAll xs
end
mutual
def wt : D → Nat
  | .none => 4
  | .bool _ => 5
  | .int _ => 10
  | .str x => 10 * x.length + 2
  | .list xs => wtAll xs + 3
  | .tuple xs => wtAll xs + 3
  | .dict _ => 0
def wtAll : List D → Nat
  | [] => 0
  | x :: xs => wt x + 2 + wtAll xs
end
def okS (x : Str) (n : Nat) : Prop := (∀ c ∈ x.cps.toList, c < 0x110000) ∧ x.length ≤ n
theorem int2000 : ∀ n : Fin 2001, (sOk (toString ((n.val : Nat) : Int)) && decide ((Str.ofString (toString ((n.val : Nat) : Int))).length ≤ 10) && decide (((n.val : Nat) : Int).natAbs.log2 < 1000)) = true := by decide +kernel
theorem okS_app {x y : Str} {n m : Nat} (h1 : okS x n) (h2 : okS y m) : okS (x ++ y) (n + m) := by
  refine ⟨fun c hc => ?_, by rw [Str.length_append]; have := h1.2; have := h2.2; omega⟩
  have : c ∈ x.cps.toList ++ y.cps.toList := by
    have e : (x ++ y).cps.toList = x.cps.toList ++ y.cps.toList := TL.tl_append x y
    rwa [e] at hc
  rcases List.mem_append.mp this with q | q
  · exact h1.1 c q
  · exact h2.1 c q
theorem okS_lit {s : Str} {n : Nat} (h : (s.cps.toList.all fun c => decide (c < 0x110000)) = true) (hl : s.length ≤ n) : okS s n := ⟨fun c hc => by simpa using List.all_eq_true.mp h c hc, hl⟩
theorem okS_mono {x : Str} {n m : Nat} (h : okS x n) (hm : n ≤ m) : okS x m := ⟨h.1, by have := h.2; omega⟩
def sumN : List Nat → Nat
  | [] => 0
  | n :: r => n + 2 + sumN r
theorem okS_from : ∀ (ts : List Str) (ns : List Nat) (k : Nat) (acc : Str) (n : Nat), okS acc n → ts.length = ns.length → (∀ i (h1 : i < ts.length) (h2 : i < ns.length), okS ts[i] ns[i]) → okS (textFrom k acc ts) (n + sumN ns)
  | [], [], k, acc, n, h, _, _ => by simpa [textFrom, sumN] using h
  | [], _ :: _, _, _, _, _, hl, _ => by cases hl
  | _ :: _, [], _, _, _, _, hl, _ => by cases hl
  | t :: ts, m :: ns, k, acc, n, h, hl, hi => by
    have h0 := hi 0 (by simp) (by simp)
    simp only [List.getElem_cons_zero] at h0
    have hs : okS (if k > 0 then ", " else "" : String) 2 := by split <;> exact okS_lit (by decide +kernel) (by decide +kernel)
    have h2 := okS_from ts ns (k + 1) (acc ++ ((if k > 0 then ", " else "" : String) : Str) ++ t) (n + 2 + m) (okS_app (okS_app h hs) h0) (by simpa using hl) (fun i h1 h2 => by
      have := hi (i + 1) (by simpa using h1) (by simpa using h2)
      simpa using this)
    refine okS_mono (show okS (textFrom k acc (t :: ts)) _ from h2) (by simp only [sumN]; omega)
theorem okS_join : ∀ (ts : List Str) (ns : List Nat), ts.length = ns.length → (∀ i (h1 : i < ts.length) (h2 : i < ns.length), okS ts[i] ns[i]) → okS (Str.join ", " ts) (sumN ns)
  | [], [], _, _ => okS_lit (by decide +kernel) (by decide +kernel)
  | [], _ :: _, hl, _ => by cases hl
  | _ :: _, [], hl, _ => by cases hl
  | [t], [m], _, hi => by
    have h0 := hi 0 (by simp) (by simp)
    exact okS_mono (show okS t m from h0) (by simp only [sumN]; omega)
  | [t], _ :: _ :: _, hl, _ => by simp at hl
  | _ :: _ :: _, [_], hl, _ => by simp at hl
  | t :: t2 :: ts, m :: m2 :: ns, hl, hi => by
    have h0 := hi 0 (by simp) (by simp)
    simp only [List.getElem_cons_zero] at h0
    have h2 := okS_join (t2 :: ts) (m2 :: ns) (by simpa using hl) (fun i h1 h2 => by
      have := hi (i + 1) (by simpa using h1) (by simpa using h2)
      simpa using this)
    have e : Str.join ", " (t :: t2 :: ts) = t ++ ", " ++ Str.join ", " (t2 :: ts) := rfl
    rw [e]
    exact okS_mono (okS_app (okS_app h0 (okS_lit (s := ", ") (n := 2) (by decide +kernel) (by decide +kernel))) h2) (by simp only [sumN]; omega)
theorem sum_wt : ∀ xs : List D, sumN (xs.map wt) = wtAll xs
  | [] => rfl
  | x :: xs => by simp only [List.map_cons, sumN, wtAll, sum_wt xs]
theorem shownAll_len : ∀ xs : List D, (PyData.shownAll xs).length = xs.length
  | [] => rfl
  | x :: xs => by simp [PyData.shownAll, shownAll_len xs]
mutual
theorem okS_shown : ∀ d : D, niceR d = true → okS d.shown (wt d)
  | .none, _ => okS_lit (by decide +kernel) (by decide +kernel)
  | .bool true, _ => okS_lit (by decide +kernel) (by decide +kernel)
  | .bool false, _ => okS_lit (by decide +kernel) (by decide +kernel)
  | .int i, h => by
    simp only [niceR, Bool.and_eq_true, decide_eq_true_eq] at h
    obtain ⟨n, rfl⟩ := Int.eq_ofNat_of_zero_le h.1
    have := int2000 ⟨n, by omega⟩
    simp only [Bool.and_eq_true, decide_eq_true_eq] at this
    exact ⟨(sOk_iff.mp this.1.1).1, this.1.2⟩
  | .str x, h => by
    have hs := sOk_iff.mp h
    exact ⟨reprText_ok hs.1, PySem.StrLaws.reprText_len x fun c hc => by have := hs.1 c hc; omega⟩
  | .list xs, h => by
    have ha := okS_all xs h
    have h1 := okS_from (PyData.shownAll xs) (xs.map wt) 0 "[" 1 (okS_lit (by decide +kernel) (by decide +kernel)) (by rw [shownAll_len, List.length_map]) ha
    have := okS_app h1 (okS_lit (s := "]") (n := 1) (by decide +kernel) (by decide +kernel))
    rw [sum_wt] at this
    exact okS_mono (show okS (PyData.shown (.list xs)) _ from this) (by simp only [wt]; omega)
  | .tuple xs, h => by
    have ha := okS_all xs h
    have h1 := okS_join (PyData.shownAll xs) (xs.map wt) (by rw [shownAll_len, List.length_map]) ha
    have h2 := okS_app (okS_lit (s := "(") (n := 1) (by decide +kernel) (by decide +kernel)) h1
    have h3 : okS (if (PyData.shownAll xs).length == 1 then ",)" else ")" : String) 2 := by split <;> exact okS_lit (by decide +kernel) (by decide +kernel)
    have := okS_app h2 h3
    rw [sum_wt] at this
    exact okS_mono (show okS (PyData.shown (.tuple xs)) _ from this) (by simp only [wt]; omega)
  | .dict _, h => by cases h
theorem okS_all : ∀ xs : List D, niceAll xs = true → ∀ i (h1 : i < (PyData.shownAll xs).length) (h2 : i < (xs.map wt).length), okS (PyData.shownAll xs)[i] (xs.map wt)[i]
  | [], _, i, h1, _ => by simp [PyData.shownAll] at h1
  | x :: xs, h, 0, h1, h2 => by
    simp only [niceAll, Bool.and_eq_true] at h
    simpa [PyData.shownAll] using okS_shown x h.1
  | x :: xs, h, i + 1, h1, h2 => by
    simp only [niceAll, Bool.and_eq_true] at h
    have := okS_all xs h.2 i (by simpa [PyData.shownAll] using h1) (by simpa using h2)
    simpa [PyData.shownAll] using this
end
mutual
theorem nice_sh : ∀ d : D, niceR d = true → d.hasDict = false ∧ d.showable = true
  | .none, _ => ⟨rfl, rfl⟩
  | .bool _, _ => ⟨rfl, rfl⟩
  | .str _, _ => ⟨rfl, rfl⟩
  | .int i, h => by
    simp only [niceR, Bool.and_eq_true, decide_eq_true_eq] at h
    obtain ⟨n, rfl⟩ := Int.eq_ofNat_of_zero_le h.1
    have := int2000 ⟨n, by omega⟩
    simp only [Bool.and_eq_true, decide_eq_true_eq] at this
    exact ⟨rfl, by simp only [PyData.showable, decide_eq_true_eq]; have := this.2; omega⟩
  | .list xs, h => nice_shAll xs h
  | .tuple xs, h => nice_shAll xs h
  | .dict _, h => by cases h
theorem nice_shAll : ∀ xs : List D, niceAll xs = true → PyData.hasDictAll xs = false ∧ PyData.showableAll xs = true
  | [], _ => ⟨rfl, rfl⟩
  | x :: xs, h => by
    simp only [niceAll, Bool.and_eq_true] at h
    obtain ⟨a, b⟩ := nice_sh x h.1
    obtain ⟨c, d⟩ := nice_shAll xs h.2
    exact ⟨by simp only [PyData.hasDictAll, a, c, Bool.or_self], by simp only [PyData.showableAll, b, d, Bool.and_self]⟩
end
theorem repr_ok {d : D} (h : niceR d = true) (hw : wt d ≤ 1000000) (hd : d.depth ≤ 60) : ap .repr [d] = some (.str d.shown) := by
  obtain ⟨h1, h2⟩ := nice_sh d h
  have h3 := okS_shown d h
  have h4 : sOk d.shown = true := sOk_iff.mpr ⟨h3.1, by have := h3.2; omega⟩
  show (if _ then _ else _) = _
  rw [if_pos]
  simp only [h1, h2, h4, Bool.not_false, Bool.true_and, Bool.and_true, decide_eq_true_eq]
  exact hd
theorem nice_strs {l : List Str} (h : ∀ x ∈ l, sOk x = true) : niceAll (l.map .str) = true := by
  induction l with
  | nil => rfl
  | cons a l ih =>
    simp only [List.map_cons, niceAll, niceR, h a (by simp), ih fun x hx => h x (List.mem_cons_of_mem _ hx), Bool.and_self]
theorem wt_strs {l : List Str} {n : Nat} (h : ∀ x ∈ l, x.length ≤ n) : wtAll (l.map .str) ≤ l.length * (10 * n + 4) := by
  induction l with
  | nil => simp [wtAll]
  | cons a l ih =>
    have := ih fun x hx => h x (List.mem_cons_of_mem _ hx)
    have ha := h a (by simp)
    simp only [List.map_cons, wtAll, wt, List.length_cons]
    rw [Nat.add_mul, Nat.one_mul]
    generalize l.length * (10 * n + 4) = X at this ⊢
    omega
end M3
set_option Elab.async false
set_option linter.all false
set_option maxRecDepth 100000
/-! C1: the defs that more laws have (printed by gen2.py). -/
namespace M4
open PySem M3
/-- _law_order(_law_purse_here, _law_things_here): 0 _law_purse_here, 1 _law_things_here, 2 _law_turn, 3 _law_left, 4 _law_found -/ -- k05
def fn_order (i_draw : Nat) : Fn := { ps := [true, false], n := 5, own := false, kb := [], body :=
 [.par [(3, true), (4, true)] [.op .list [.tmp 1], .lst []],
  .for_ (.name 2) .rng1 [.op .len [.tmp 1]]
   [.app 4 (.pop 3 (.call i_draw [.tmp 0, .op .len [.tmp 3]]))],
  .ret (.op .tuple [.tmp 4])] }
/-- _law_draw(_law_purse_here, _law_many): 0 _law_purse_here, 1 _law_many, 2 _law_digit -/ -- k05
def fn_draw : Fn := { ps := [true, false], n := 3, own := false, kb := [], body :=
 [.ife (.op .gt [.op .ix [.tmp 0, .cst (.int 0)], .cst (.int 0)])
   [.divm 0 (.cst (.int 0)) 2 (.op .ix [.tmp 0, .cst (.int 0)]) (.tmp 1),
    .ret (.var 2)]
   [],
  .setIx 0 (.cst (.int 1)) (.op .mod [.op .int [.op .add [.op .mul [.op .ix [.tmp 0, .cst (.int 1)], .cst (.int 69621)], .cst (.int 40503)]], .cst (.int 2147483647)]),
  .ret (.op .mod [.op .int [.op .fdiv [.op .ix [.tmp 0, .cst (.int 1)], .cst (.int 1024)]], .tmp 1])] }
/-- _law_things(_law_purse_here, _law_many): 0 _law_purse_here, 1 _law_many, 2 _law_pool, 3 _law_found, 4 _law_turn -/ -- k05
def fn_things (i_draw : Nat) : Fn := { ps := [true, false], n := 5, own := false, kb := [], body :=
 [.setO 2 (.lst [.cst (.str "a"), .cst (.str "a0"), .cst (.str "aa"), .cst (.str "ab"), .cst (.str "b"), .cst (.str "b9"), .cst (.str "ba"), .cst (.str "c"), .cst (.str "d"), .cst (.str "k1"), .cst (.str "q"), .cst (.str "zz"), .cst (.str "zzzzzzzz")]),
  .setO 3 (.lst []),
  .for_ (.name 4) .rng1 [.tmp 1]
   [.app 3 (.pop 2 (.call i_draw [.tmp 0, .op .len [.tmp 2]]))],
  .ret (.op .tuple [.op .sorted [.tmp 3]])] }
/-- Ranking.__init__(self, row): 0 self, 1 row, 2 wrong -/ -- k05
def fn_Ranking_init (i_wrong_name : Nat) : Fn := { ps := [true, false], n := 3, own := false, kb := [], body :=
 [.set 2 (.call i_wrong_name [.var 1]),
  .ife (.op .ne [.tmp 2, .op .neg [.cst (.int 1)]])
   [.stop]
   [],
  .setF 0 "Ranking" "names" (.var 1)] }
/-- wrong_name(row): 0 row, 1 k, 2 name -/ -- k05
def fn_wrong_name (i_is_name : Nat) : Fn := { ps := [false], n := 3, own := false, kb := [], body :=
 [.ife (.or (.not (.op (.isi 3) [.tmp 0])) (.op .eq [.op .len [.tmp 0], .cst (.int 0)]))
   [.ret (.cst (.none))]
   [],
  .for_ (.tup [.name 1, .name 2]) .enum [.var 0]
   [.ife (.or (.not (.call i_is_name [.var 2])) (.or (.op .eq [.tmp 1, .glb "MOST_THINGS" (.int 10)]) (.op .isin [.tmp 2, .slc false true (.tmp 0) (.cst .none) (.var 1)])))
     [.ret (.var 1)]
     []],
  .ret (.op .neg [.cst (.int 1)])] }
/-- is_name(value): 0 value, 1 sign -/ -- k05
def fn_is_name : Fn := { ps := [false], n := 2, own := false, kb := [], body :=
 [.ife (.or (.not (.op (.isi 0) [.tmp 0])) (.not (.chain .le .le (.cst (.int 1)) (.op .len [.tmp 0]) (.cst (.int 8)))))
   [.ret (.cst (.bool false))]
   [],
  .ret (.and (.op .isin [.op .ix [.tmp 0, .cst (.int 0)], .glb "LETTERS" (.str "abcdefghijklmnopqrstuvwxyz")]) (.op .all [.lc [1] (.name 1) .seq [.var 0] [] (.op .isin [.tmp 1, .glb "SIGNS" (.str "abcdefghijklmnopqrstuvwxyz0123456789")])]))] }
/-- _law_menus(_law_things_here): 0 _law_things_here, 1 _law_found, 2 _law_item, 3 _law_card -/ -- k05
def fn_menus : Fn := { ps := [false], n := 4, own := false, kb := [], body :=
 [.set 1 (.lst [.tup []]),
  .for_ (.name 2) .seq [.var 0]
   [.set 1 (.op .add [.tmp 1, .lc [3] (.name 3) .seq [.var 1] [] (.op .add [.tmp 3, .tup [.var 2]])])],
  .ret (.slc true false (.tmp 1) (.cst (.int 1)) (.cst .none))] }
/-- _law_best(_law_row, _law_card): 0 _law_row, 1 _law_card, 2 _law_item -/ -- k05
def fn_best : Fn := { ps := [false, false], n := 3, own := false, kb := [], body :=
 [.ret (.op .ix [.lc [2] (.name 2) .seq [.var 0] [.op .isin [.tmp 2, .tmp 1]] (.var 2), .cst (.int 0)])] }
/-- Ranking.best(self, menu): 0 self, 1 menu -/ -- k05
def fn_Ranking_best (i_Ranking_things : Nat) (i_check_menu : Nat) (i_best_of : Nat) : Fn := { ps := [false, false], n := 2, own := false, kb := [1], body :=
 [.expr (.call i_check_menu [.var 1, .prop "Ranking" "things" i_Ranking_things (.var 0)]),
  .ret (.call i_best_of [.fld "Ranking" "names" (.var 0), .var 1])] }
/-- check_menu(menu, things): 0 menu, 1 things, 2 wrong -/ -- k05
def fn_check_menu (i_wrong_place : Nat) : Fn := { ps := [false, false], n := 3, own := false, kb := [], body :=
 [.set 2 (.call i_wrong_place [.var 0, .var 1]),
  .ife (.op .ne [.tmp 2, .op .neg [.cst (.int 1)]])
   [.stop]
   []] }
/-- wrong_place(value, things): 0 value, 1 things, 2 k, 3 thing -/ -- k05
def fn_wrong_place : Fn := { ps := [false, false], n := 4, own := false, kb := [], body :=
 [.ife (.or (.not (.op (.isi 3) [.tmp 0])) (.op .eq [.op .len [.tmp 0], .cst (.int 0)]))
   [.ret (.cst (.none))]
   [],
  .for_ (.tup [.name 2, .name 3]) .enum [.var 0]
   [.ife (.or (.not (.op (.isi 0) [.tmp 3])) (.or (.op .notin [.tmp 3, .tmp 1]) (.and (.op .gt [.tmp 2, .cst (.int 0)]) (.op .le [.tmp 3, .op .ix [.tmp 0, .op .sub [.tmp 2, .cst (.int 1)]]]))))
     [.ret (.var 2)]
     []],
  .ret (.op .neg [.cst (.int 1)])] }
/-- Ranking.things(self): 0 self, 1 name -/ -- k05
def fn_Ranking_things : Fn := { ps := [false], n := 2, own := false, kb := [], body :=
 [.ret (.op .tuple [.op .sorted [.lc [1] (.name 1) .seq [.fld "Ranking" "names" (.var 0)] [] (.var 1)]])] }
/-- best_of(row, menu): 0 row, 1 menu, 2 thing -/ -- k05
def fn_best_of : Fn := { ps := [false, false], n := 3, own := false, kb := [], body :=
 [.for_ (.name 2) .seq [.var 0]
   [.ife (.op .isin [.tmp 2, .tmp 1])
     [.ret (.var 2)]
     []],
  .ret (.cst (.none))] }
/-- Ranking.below(self, thing): 0 self, 1 thing -/ -- k05
def fn_Ranking_below (i_check_thing : Nat) (i_below_of : Nat) : Fn := { ps := [false, false], n := 2, own := false, kb := [1], body :=
 [.expr (.call i_check_thing [.var 1, .fld "Ranking" "names" (.var 0)]),
  .ret (.call i_below_of [.fld "Ranking" "names" (.var 0), .var 1])] }
/-- check_thing(thing, things): 0 thing, 1 things -/ -- k05
def fn_check_thing (i_is_thing : Nat) : Fn := { ps := [false, false], n := 2, own := false, kb := [], body :=
 [.ife (.not (.call i_is_thing [.var 0, .var 1]))
   [.stop]
   []] }
/-- is_thing(value, things): 0 value, 1 things -/ -- k05
def fn_is_thing : Fn := { ps := [false, false], n := 2, own := false, kb := [], body :=
 [.ret (.and (.op (.isi 0) [.tmp 0]) (.op .isin [.tmp 0, .tmp 1]))] }
/-- below_of(row, thing): 0 row, 1 thing, 2 other -/ -- k05
def fn_below_of : Fn := { ps := [false, false], n := 3, own := false, kb := [], body :=
 [.ret (.op .tuple [.op .sorted [.lc [2] (.name 2) .seq [.slc true false (.tmp 0) (.op .add [.meth .index (.var 0) [.tmp 1], .cst (.int 1)]) (.cst .none)] [] (.var 2)]])] }
/-- Ranking.place(self, thing): 0 self, 1 thing -/ -- k05
def fn_Ranking_place (i_check_thing : Nat) : Fn := { ps := [false, false], n := 2, own := false, kb := [1], body :=
 [.expr (.call i_check_thing [.var 1, .fld "Ranking" "names" (.var 0)]),
  .ret (.meth .index (.fld "Ranking" "names" (.var 0)) [.tmp 1])] }
/-- Ranking.row(self): 0 self -/ -- k05
def fn_Ranking_row : Fn := { ps := [false], n := 1, own := false, kb := [], body :=
 [.ret (.fld "Ranking" "names" (.var 0))] }
/-- _law_purse(_law_script, _law_spot): 0 _law_script, 1 _law_spot, 2 _law_cell, 3 _law_seed, 4 _law_one -/ -- k05
def fn_purse : Fn := { ps := [false, false], n := 5, own := true, kb := [], body :=
 [.set 2 (.ite (.op .lt [.tmp 1, .op .len [.tmp 0]]) (.op .ix [.tmp 0, .tmp 1]) (.op .mul [.cst (.int 7919), .op .add [.tmp 1, .cst (.int 5)]])),
  .set 3 (.op .add [.cst (.int 211), .tmp 1]),
  .for_ (.name 4) .seq [.op .add [.slc false true (.tmp 0) (.cst .none) (.cst (.int 5)), .lst [.var 2]]]
   [.set 3 (.op .mod [.op .int [.op .add [.op .add [.op .mul [.tmp 3, .cst (.int 48271)], .op .mod [.op .int [.tmp 4], .cst (.int 2147483647)]], .cst (.int 101)]], .cst (.int 2147483647)])],
  .retO (.lst [.ite (.op .ge [.op .abs [.tmp 2], .op .pow [.cst (.int 10), .cst (.int 18)]]) (.op .abs [.tmp 2]) (.cst (.int 0)), .var 3])] }
end M4
set_option Elab.async false
set_option linter.all false
set_option maxRecDepth 100000
set_option maxHeartbeats 1000000
/-! T1: the purse: draws, things, orders, menus. -/
namespace M4
open PySem M3
def Purse (p : List D) : Prop := ∃ a b : Int, 0 ≤ a ∧ p = [.int a, .int b]
def DrawS (P : Ph) (i : Nat) : Prop := ∀ p, Purse p → ∀ m : Int, 0 < m → m < 1073741824 → ∃ (x : Nat) (p' : List D), P i [.list p, .int m] = .ok (.int x) [.list p'] ∧ Purse p' ∧ (x : Int) < m
theorem draw_ok (P : Ph) : ∀ p, Purse p → ∀ m : Int, 0 < m → m < 1073741824 → ∃ (x : Nat) (p' : List D), runFn P fn_draw [.list p, .int m] = .ok (.int x) [.list p'] ∧ Purse p' ∧ (x : Int) < m := by
  rintro p ⟨a, b, ha, rfl⟩ m hm hm2
  rw [runFn_ap _ _ _ (by simp [fn_draw]; rfl)]
  have e1 : ∀ (x y : Int), L2.atI [PyData.int x, .int y] 1 = some (.int y) := fun _ _ => rfl
  have n1 : L2.ixN 2 1 = some 1 := rfl
  have n0 : L2.ixN 2 0 = some 0 := rfl
  have s1 : small64 69621 = true := by decide
  have hq : ∀ z : Int, ∃ x : Nat, z % m = x ∧ (x : Int) < m := fun z => by
    obtain ⟨x, hx⟩ := natOf (Int.emod_nonneg z (by omega : m ≠ 0))
    have := Int.emod_lt_of_pos z hm
    exact ⟨x, hx, by omega⟩
  by_cases h : 0 < a
  · obtain ⟨x, hx, hl⟩ := hq a
    refine ⟨x, [.int (a / m), .int b], ?_, ⟨_, _, Int.ediv_nonneg ha (by omega), rfl⟩, hl⟩
    simp [fn_draw, h, e1, n0, n1, hm, hm2, hx]
  · obtain ⟨x, hx, hl⟩ := hq ((b * 69621 + 40503) % 2147483647 / 1024)
    refine ⟨x, [.int a, .int ((b * 69621 + 40503) % 2147483647)], ?_, ⟨_, _, ha, rfl⟩, hl⟩
    simp [fn_draw, h, e1, n0, n1, hm, hm2, s1, hx]
def PurseS (P : Ph) (i : Nat) : Prop := ∀ (ns : List Int) (k : Nat), ns.length ≤ 63 → ∃ p : List D, P i [.list (ns.map .int), .int k] = .ok (.list p) [] ∧ Purse p
theorem purse_ok (P : Ph) (ns : List Int) (k : Nat) (hn : ns.length ≤ 63) : ∃ p : List D, runFn P fn_purse [.list (ns.map .int), .int k] = .ok (.list p) [] ∧ Purse p := by
  rw [runFn_ap _ _ _ (by simp [fn_purse]; rfl)]
  have s1 : small64 7919 = true := by decide
  have s2 : small64 48271 = true := by decide
  have pw : ap .pow [.int 10, .int 18] = some (.int 1000000000000000000) := by rw [ap_pow _ _ (by decide)]; rfl
  have ct : cut (ns.map PyData.int) none (some 5) = (ns.take 5).map .int := by
    rw [show (5 : Int) = ((5 : Nat) : Int) from rfl, cut_to, List.map_take]
  have fin : ∀ c : Int, ∃ p : List D, endR [false, false] true (exes P (fn_purse.body.drop 1) [.sh (.list (ns.map .int)), .sh (.int k), .sh (.int c), .no, .no]) = .ok (.list p) [] ∧ Purse p := by
    intro c
    have ia : iadd (.list ((ns.take 5).map .int)) (.list [.int c]) = some (.list ((ns.take 5 ++ [c]).map .int)) := by
      rw [iadd_list _ _ (by simp; omega), List.map_append]; rfl
    generalize ns.take 5 ++ [c] = L at ia
    obtain ⟨r', e, z, s, rfl⟩ := for_inv (tg := .name 4) (body := exes P [.set 3 (.op .mod [.op .int [.op .add [.op .add [.op .mul [.tmp 3, .cst (.int 48271)], .op .mod [.op .int [.tmp 4], .cst (.int 2147483647)]], .cst (.int 101)]], .cst (.int 2147483647)])]) (g := PyData.int) (l := L) (r := [.sh (.list (ns.map .int)), .sh (.int k), .sh (.int c), .sh (.int (211 + k)), .no])
      (fun _ r => ∃ (z : Int) (s : Sl), r = [.sh (.list (ns.map .int)), .sh (.int k), .sh (.int c), .sh (.int z), s]) ⟨_, _, rfl⟩
      (by
        rintro j hj r ⟨z, s, rfl⟩
        refine ⟨.nx, [.sh (.list (ns.map .int)), .sh (.int k), .sh (.int c), .sh (.int ((z * 48271 + L[j] % 2147483647 + 101) % 2147483647)), .sh (.int L[j])], ?_, .inl rfl, _, _, rfl⟩
        simp [fstep, s2])
    by_cases hc : (if c < 0 then -c else c) < 1000000000000000000
    · exact ⟨[.int 0, .int z], by simp [fn_purse, pw, hc, ct, ia, e, -List.map_take], _, _, Int.le_refl _, rfl⟩
    · exact ⟨[.int (if c < 0 then -c else c), .int z], by simp [fn_purse, pw, hc, ct, ia, e, -List.map_take], _, _, by split <;> omega, rfl⟩
  by_cases h : k < ns.length
  · have at1 : L2.atI (ns.map PyData.int) (k : Int) = some (.int ns[k]) := by rw [atI_map, atI_nat _ _ h]; rfl
    obtain ⟨p, e, hp⟩ := fin ns[k]
    refine ⟨p, ?_, hp⟩
    rw [← e]
    simp [fn_purse, h, at1]
  · obtain ⟨p, e1, hp⟩ := fin (7919 * (k + 5))
    refine ⟨p, ?_, hp⟩
    rw [← e1]
    simp [fn_purse, h, s1]
/-- a row in a drawn order -/
def OrderS (P : Ph) (i : Nat) : Prop := ∀ p, Purse p → ∀ l : List Str, l.length ≤ 1000 → ∃ (row : List Str) (p' : List D), P i [.list p, ts l] = .ok (ts row) [.list p'] ∧ Purse p' ∧ row.Perm l
theorem pops {P : Ph} {d a b c : Nat} (hd : DrawS P d) (g : Str → D) (E : List D → Sl → List Str → List Str → En) (m : Nat) (l : List Str) (hm : m ≤ l.length) (hl : l.length ≤ 1000) {p : List D} (hp : Purse p)
    (step : ∀ (p : List D) (s : Sl) (left row : List Str) (x : Nat) (p' : List D) (k : Nat), Purse p → x < left.length → left.length ≤ 1000 → row.length ≤ 1000 → P d [.list p, .int (left.length : Int)] = .ok (.int x) [.list p'] → fstep (.name c) (exes P [.app b (.pop a (.call d [.tmp 0, .op .len [.tmp a]]))]) (.int k) (E p s left row) = .ok .nx (E p' (.sh (.int k)) (left.eraseIdx x) (row ++ [left.getD x Str.empty]))) :
    ∃ (row left : List Str) (p' : List D) (s : Sl), forLoop (.name c) (exes P [.app b (.pop a (.call d [.tmp 0, .op .len [.tmp a]]))]) ((List.range m).map fun k : Nat => PyData.int k) (E p .no l []) = .ok .nx (E p' s left row) ∧ Purse p' ∧ (row ++ left).Perm l ∧ row.length = m := by
  obtain ⟨r', e, p', s, left, row, hp', rfl, hperm, hrow⟩ := for_inv (tg := .name c) (body := exes P [.app b (.pop a (.call d [.tmp 0, .op .len [.tmp a]]))]) (g := fun k : Nat => PyData.int k) (l := List.range m) (r := E p .no l [])
    (fun k r => ∃ (p : List D) (s : Sl) (left row : List Str), Purse p ∧ r = E p s left row ∧ (row ++ left).Perm l ∧ row.length = k)
    ⟨p, .no, l, [], hp, rfl, by simp, rfl⟩
    (by
      rintro k hk r ⟨p, s, left, row, hp, rfl, hperm, hrow⟩
      have hk' : k < m := by simpa using hk
      have hlen := hperm.length_eq
      simp only [List.length_append] at hlen
      obtain ⟨x, p', e, hp', hx⟩ := hd p hp (left.length : Nat) (by omega) (by omega)
      have hx' : x < left.length := by omega
      have hkr : (List.range m)[k] = k := by simp
      refine ⟨.nx, _, ?_, .inl rfl, p', .sh (.int k), left.eraseIdx x, row ++ [left.getD x Str.empty], hp', rfl, ?_, by simp [hrow]⟩
      · rw [hkr]; exact step p s left row x p' k hp hx' (by omega) (by omega) e
      · have q : (left[x] :: left.eraseIdx x).Perm left := perm_eraseIdx left x hx'
        rw [M3.getD_at hx', List.append_assoc]
        exact (List.Perm.append_left row q).trans hperm)
  rw [List.length_range] at hrow
  exact ⟨row, left, p', s, e, hp', hperm, hrow⟩
theorem order_ok {P : Ph} {d : Nat} (hd : DrawS P d) : ∀ p, Purse p → ∀ l : List Str, l.length ≤ 1000 → ∃ (row : List Str) (p' : List D), runFn P (fn_order d) [.list p, ts l] = .ok (ts row) [.list p'] ∧ Purse p' ∧ row.Perm l := by
  intro p hp l hl
  rw [runFn_ap _ _ _ (by simp [fn_order]; rfl)]
  obtain ⟨row, left, p', s, e, hp', hperm, hrow⟩ := pops (a := 3) (b := 4) (c := 2) hd PyData.str (fun p s left row => [.own false (.lst p), .sh (ts l), s, .own true (.lst (left.map .str)), .own true (.lst (row.map .str))]) l.length l (Nat.le_refl _) hl hp
    (by
      intro p s left row x p' k hp hx h1 h2 e
      have h3 : x < (left.map PyData.str).length := by simpa using hx
      have h4 : (left.map PyData.str).length ≤ 1000000 := by simp; omega
      have h5 : row.length ≤ 999999 := by omega
      rw [M3.getD_at hx]
      simp [fstep, e, popx_nat _ _ _ _ _ h3 h4, map_eraseIdx, h5])
  refine ⟨row, p', ?_, hp', ?_⟩
  · have hl' : l.length ≤ 100000 := by omega
    simp [fn_order, ts, hl'] at e ⊢
    simp [e]
  · have := hperm.length_eq
    simp only [List.length_append, hrow] at this
    have : left = [] := List.length_eq_zero_iff.mp (by omega)
    subst this
    simpa using hperm
def POOL : List Str := ["a", "a0", "aa", "ab", "b", "b9", "ba", "c", "d", "k1", "q", "zz", "zzzzzzzz"]
theorem pool_nd : POOL.Nodup := by decide +kernel
theorem pool_nm : ∀ x ∈ POOL, nmB x = true := by decide +kernel
def ThingsS (P : Ph) (i : Nat) : Prop := ∀ p, Purse p → ∀ m : Nat, m ≤ 13 → ∃ (l : List Str) (p' : List D), P i [.list p, .int m] = .ok (ts l) [.list p'] ∧ Purse p' ∧ l.length = m ∧ AscNm l
theorem things_ok {P : Ph} {d : Nat} (hd : DrawS P d) : ∀ p, Purse p → ∀ m : Nat, m ≤ 13 → ∃ (l : List Str) (p' : List D), runFn P (fn_things d) [.list p, .int m] = .ok (ts l) [.list p'] ∧ Purse p' ∧ l.length = m ∧ AscNm l := by
  intro p hp m hm
  rw [runFn_ap _ _ _ (by simp [fn_things]; rfl)]
  have hpl : POOL.length = 13 := rfl
  obtain ⟨row, left, p', s, e, hp', hperm, hrow⟩ := pops (a := 2) (b := 3) (c := 4) hd PyData.str (fun p s left row => [.own false (.lst p), .sh (.int (m : Int)), .own true (.lst (left.map .str)), .own true (.lst (row.map .str)), s]) m POOL (by omega) (by omega) hp
    (by
      intro p s left row x p' k hp hx h1 h2 e
      have h3 : x < (left.map PyData.str).length := by simpa using hx
      have h4 : (left.map PyData.str).length ≤ 1000000 := by simp; omega
      have h5 : row.length ≤ 999999 := by omega
      rw [M3.getD_at hx]
      simp [fstep, e, popx_nat _ _ _ _ _ h3 h4, map_eraseIdx, h5])
  have nd : row.Nodup := by
    have := hperm.symm.nodup pool_nd
    exact (List.nodup_append.mp this).1
  have nm : ∀ x ∈ row, nmB x = true := fun x hx => pool_nm x (hperm.mem_iff.mp (List.mem_append_left _ hx))
  refine ⟨sortS row, p', ?_, hp', by rw [(sortS_perm row).length_eq, hrow], sortS_asc nd, fun x hx => nm x ((sortS_perm row).mem_iff.mp hx)⟩
  have hl' : m ≤ 100000 := by omega
  simp only [POOL, List.map_cons, List.map_nil] at e
  simp [fn_things, hl', e, ts]
/-- all menus -/
def MenusS (P : Ph) (i : Nat) : Prop := ∀ l : List Str, Asc l → l.length ≤ 10 → ∃ ms : List (List Str), P i [ts l] = .ok (tss ms) [] ∧ (∀ m ∈ ms, Menu m l) ∧ ms.length ≤ 1024
theorem menus_ok (P : Ph) (l : List Str) (ha : Asc l) (hl : l.length ≤ 10) : ∃ ms : List (List Str), runFn P fn_menus [ts l] = .ok (tss ms) [] ∧ (∀ m ∈ ms, Menu m l) ∧ ms.length ≤ 1024 := by
  rw [runFn_ap _ _ _ (by simp [fn_menus]; rfl)]
  obtain ⟨r', e, ms, s2, rfl, hlen, hms⟩ := for_inv (tg := .name 2) (body := exes P [.set 1 (.op .add [.tmp 1, .lc [3] (.name 3) .seq [.var 1] [] (.op .add [.tmp 3, .tup [.var 2]])])]) (g := PyData.str) (l := l) (r := [.sh (.tuple (l.map .str)), .sh (.list [.tuple []]), .no, .no])
    (fun k r => ∃ (ms : List (List Str)) (s2 : Sl), r = [.sh (.tuple (l.map .str)), .sh (.list (([] :: ms).map ts)), s2, .no] ∧ ms.length + 1 = 2 ^ k ∧ ∀ m ∈ ms, m ≠ [] ∧ m.Sublist (l.take k))
    ⟨[], .no, rfl, rfl, by simp⟩
    (by
      rintro k hk r ⟨ms, s2, rfl, hlen, hms⟩
      have hp2 : 2 ^ k ≤ 2 ^ 9 := Nat.pow_le_pow_right (by omega) (by omega)
      have tk : l.take (k + 1) = l.take k ++ [l[k]] := by rw [List.take_add_one, List.getElem?_eq_getElem hk]; rfl
      have hml : ∀ m ∈ ([] :: ms), m.length ≤ 1000 := by
        intro m hm
        rcases List.mem_cons.mp hm with rfl | q
        · simp
        · have := (hms m q).2.length_le
          simp at this; omega
      have lc1 : block [3] (lcLoop [3] (.name 3) (tests P []) (den P (.op .add [.tmp 3, .tup [.var 2]])) (([] :: ms).map ts) []) [.sh (.tuple (l.map .str)), .sh (.list (([] :: ms).map ts)), .sh (.str l[k]), .no] = .ok (([] :: ms).map fun m => ts (m ++ [l[k]])) [.sh (.tuple (l.map .str)), .sh (.list (([] :: ms).map ts)), .sh (.str l[k]), .no] :=
        lc1_map _ (by simp) (by simp) (by simp; omega) (by
          intro m hm
          have h1 := hml m hm
          have ia : iadd (.tuple (m.map .str)) (.tuple [.str l[k]]) = some (ts (m ++ [l[k]])) := by
            rw [iadd_tuple _ _ (by simp; omega), ts, List.map_append]; rfl
          simp [ts] at ia ⊢
          simp [ia])
      have ia : iadd (.list (([] :: ms).map ts)) (.list (([] :: ms).map fun m => ts (m ++ [l[k]]))) = some (.list (([] :: (ms ++ ([] :: ms).map fun m => m ++ [l[k]])).map ts)) := by
        rw [iadd_list _ _ (by simp; omega)]
        simp [List.map_map, Function.comp_def]
      refine ⟨.nx, [.sh (.tuple (l.map .str)), .sh (.list (([] :: (ms ++ ([] :: ms).map fun m => m ++ [l[k]])).map ts)), .sh (.str l[k]), .no], ?_, .inl rfl, _, _, rfl, ?_, ?_⟩
      · generalize hA : ([] :: ms).map ts = AA at lc1 ia
        generalize hB : (([] :: ms).map fun m => ts (m ++ [l[k]])) = BB at lc1 ia
        generalize hC : ([] :: (ms ++ ([] :: ms).map fun m => m ++ [l[k]])).map ts = CC at ia
        simp [fstep, lc1, ia]
      · simp only [List.length_append, List.length_map, List.length_cons]; rw [Nat.pow_succ]; omega
      · intro m hm
        rw [tk]
        rcases List.mem_append.mp hm with q | q
        · exact ⟨(hms m q).1, (hms m q).2.trans (List.sublist_append_left _ _)⟩
        · obtain ⟨m0, hm0, rfl⟩ := List.mem_map.mp q
          refine ⟨by simp, List.Sublist.append ?_ (List.Sublist.refl _)⟩
          rcases List.mem_cons.mp hm0 with rfl | q
          · simp
          · exact (hms m0 q).2)
  have hp2 : 2 ^ l.length ≤ 2 ^ 10 := Nat.pow_le_pow_right (by omega) hl
  refine ⟨ms, ?_, fun m hm => ?_, by omega⟩
  · have ct : cut (([] :: ms).map ts) (some 1) none = ms.map ts := by
      have := cut_from (([] :: ms).map ts) 1
      simpa using this
    simp only [List.map_cons] at e ct
    have e0 : ts [] = .tuple [] := rfl
    rw [e0] at e ct
    simp [fn_menus, ts, e, ct, tss]
  · obtain ⟨h1, h2⟩ := hms m hm
    rw [List.take_length] at h2
    exact ⟨h1, fun x hx => h2.subset hx, ha.sublist h2⟩
end M4
set_option Elab.async false
set_option linter.all false
set_option maxRecDepth 100000
set_option maxHeartbeats 1000000
/-! T2: rankings: made, read, asked. -/
namespace M4
open PySem M3
theorem rdFld_ins (c x : Str) (fs : List (Str × D)) : rdFld c x (insD c fs) = fs.lookup x := by
  have : insF (insD c fs) = some (c, fs.map fun p => (.str p.1, p.2)) := rfl
  unfold rdFld
  rw [this]
  simp only [if_true, g_flds]
theorem isIns_ins (c : Str) (fs : List (Str × D)) : isIns c (insD c fs) = true := by
  have : insF (insD c fs) = some (c, fs.map fun p => (.str p.1, p.2)) := rfl
  unfold isIns
  rw [this]
  simp
theorem noFld_ins (m c : Str) (fs : List (Str × D)) : noFld m (insD c fs) = (fs.lookup m).isNone := by
  have : insF (insD c fs) = some (c, fs.map fun p => (.str p.1, p.2)) := rfl
  unfold noFld
  rw [this]
  simp only [g_flds]
@[simp] theorem putD_nil (x : Str) (d : D) : putD x d [] = [(x, d)] := rfl
def rkD (row : List Str) : D := insD "Ranking" [("names", ts row)]
@[simp] theorem rk_is (row : List Str) : isIns (Str.ofString "Ranking") (rkD row) = true := isIns_ins _ _
@[simp] theorem rk_names (row : List Str) : rdFld (Str.ofString "Ranking") (Str.ofString "names") (rkD row) = some (ts row) := by
  rw [rkD, rdFld_ins]
  simp [List.lookup]
theorem rk_no {m : Str} (h : (m == Str.ofString "names") = false) (row : List Str) : noFld m (rkD row) = true := by
  rw [rkD, noFld_ins]
  simp [List.lookup, h]
@[simp] theorem rk_best (row : List Str) : noFld (Str.ofString "best") (rkD row) = true := rk_no (by decide +kernel) row
@[simp] theorem rk_below (row : List Str) : noFld (Str.ofString "below") (rkD row) = true := rk_no (by decide +kernel) row
@[simp] theorem rk_place (row : List Str) : noFld (Str.ofString "place") (rkD row) = true := rk_no (by decide +kernel) row
@[simp] theorem rk_without (row : List Str) : noFld (Str.ofString "without") (rkD row) = true := rk_no (by decide +kernel) row
/-- a row of a ranking -/
structure Rk (row : List Str) : Prop where
  pos : 1 ≤ row.length
  le : row.length ≤ 10
  nm : ∀ x ∈ row, nmB x = true
  nd : row.Nodup
def NameS (P : Ph) (i : Nat) : Prop := ∀ d : D, d.hasDict = false → P i [d] = .ok (.bool (nmD d)) []
theorem name_ok (P : Ph) (d : D) (h : d.hasDict = false) : runFn P fn_is_name [d] = .ok (.bool (nmD d)) [] := by
  rw [runFn_ap _ _ _ (by simp [fn_is_name]; rfl)]
  cases d with
  | dict kv => simp [PyData.hasDict] at h
  | str x =>
    have hl := len_cps x
    by_cases h1 : 1 ≤ x.length
    · by_cases h8 : x.length ≤ 8
      · have h1' : ¬ (x.length : Int) < 1 := by omega
        have h8' : ¬ (8 : Int) < x.length := by omega
        obtain ⟨c, hh, hc⟩ : ∃ c, x.cps.toList.head? = some c ∧ x.cps.toList.headD 0 = c := by
          cases e : x.cps.toList with
          | nil => rw [e] at hl; simp at hl; omega
          | cons a l => exact ⟨a, rfl, rfl⟩
        have hlc : block [1] (lcLoop [1] (.name 1) (tests P []) (den P (.op .isin [.tmp 1, .glb "SIGNS" (.str "abcdefghijklmnopqrstuvwxyz0123456789")])) (chars x) []) [.sh (.str x), .no] = .ok (x.cps.toList.map fun c => .bool (isSg c)) [.sh (.str x), .no] := by
          have := lc1_map (v := 1) (P := P) (elt := den P (.op .isin [.tmp 1, .glb "SIGNS" (.str "abcdefghijklmnopqrstuvwxyz0123456789")])) (g := fun c : Nat => PyData.str ⟨#[c]⟩) (l := x.cps.toList) (r := [.sh (.str x), .no]) (fun c => .bool (isSg c)) (by simp) (by simp) (by omega) (by intro c hc; simp)
          exact this
        have hn : nmD (.str x) = (isLt c && x.cps.toList.all isSg) := by
          simp only [nmD, nmB, hc, h1, h8, decide_true, Bool.true_and]
        rw [hn]
        simp [fn_is_name, h1', h8']
        rw [atI_zero, hh]
        cases hL : isLt c with
        | true => simp [hL, hlc, Function.comp_def]
        | false => simp [hL]
      · have h1' : ¬ (x.length : Int) < 1 := by omega
        have h8' : (8 : Int) < x.length := by omega
        simp [fn_is_name, h1', h8', nmD, nmB, h8]
    · have h1' : (x.length : Int) < 1 := by omega
      simp [fn_is_name, h1', nmD, nmB, h1]
  | _ => simp [fn_is_name, nmD]
theorem enum_strs (l : List Str) : ((l.map PyData.str).zipIdx.map fun p => PyData.tuple [.int (p.2 : Int), p.1]) = l.zipIdx.map fun p => PyData.tuple [.int (p.2 : Int), .str p.1] := by
  rw [List.zipIdx_map, List.map_map]; rfl
theorem zipIdx_at (l : List Str) (k : Nat) (hk : k < l.zipIdx.length) : l.zipIdx[k] = (l[k]'(by simpa using hk), k) := by simp
/-- a good row is told as such -/
def WNameS (P : Ph) (i : Nat) : Prop := ∀ row : List Str, Rk row → P i [ts row] = .ok (.int (-1)) []
theorem wname_ok {P : Ph} {ia : Nat} (hn : NameS P ia) (row : List Str) (hr : Rk row) : runFn P (fn_wrong_name ia) [ts row] = .ok (.int (-1)) [] := by
  rw [runFn_ap _ _ _ (by simp [fn_wrong_name]; rfl)]
  have h10 := hr.le
  have h1 := hr.pos
  obtain ⟨r', e, s1, s2, rfl⟩ := for_inv (tg := .tup [.name 1, .name 2]) (body := exes P [.ife (.or (.not (.call ia [.var 2])) (.or (.op .eq [.tmp 1, .glb "MOST_THINGS" (.int 10)]) (.op .isin [.tmp 2, .slc false true (.tmp 0) (.cst .none) (.var 1)])))
     [.ret (.var 1)]
     []]) (g := fun p : Str × Nat => PyData.tuple [.int (p.2 : Int), .str p.1]) (l := row.zipIdx) (r := [.sh (.tuple (row.map .str)), .no, .no])
    (fun k r => ∃ s1 s2 : Sl, r = [.sh (.tuple (row.map .str)), s1, s2]) ⟨_, _, rfl⟩
    (by
      rintro k hk r ⟨s1, s2, rfl⟩
      have hk' : k < row.length := by simpa using hk
      rw [zipIdx_at row k hk]
      have w := hn (.str row[k]) rfl
      have hm : nmD (.str row[k]) = true := hr.nm _ (List.getElem_mem hk')
      rw [hm] at w
      have hk10 : ¬ (k : Int) = 10 := by omega
      have hk10' : ¬ k = 10 := by omega
      have ct : cut (row.map PyData.str) none (some (k : Int)) = (row.take k).map .str := by rw [cut_to, List.map_take]
      have hni : row[k] ∉ row.take k := by
        intro q
        obtain ⟨j, hj, ej⟩ := List.getElem_of_mem q
        have hj' : j < k := by simp at hj; omega
        rw [List.getElem_take] at ej
        have nd := hr.nd
        unfold List.Nodup at nd
        rw [List.pairwise_iff_getElem] at nd
        exact nd j k (by omega) hk' hj' ej
      have idk : decide ((k : Int) = 10) = false := decide_eq_false hk10
      refine ⟨.nx, [.sh (.tuple (row.map .str)), .sh (.int (k : Int)), .sh (.str row[k])], ?_, .inl rfl, _, _, rfl⟩
      generalize row[k] = x at *
      simp [fstep, w, idk, ct, hni, -List.map_take])
  have hne : ¬ row.length = 0 := by omega
  have hne' : row ≠ [] := fun q => by rw [q] at hne; simp at hne
  have es := enum_strs row
  simp [fn_wrong_name, ts, hne', es, e]
def RInitS (P : Ph) (i : Nat) : Prop := ∀ row : List Str, Rk row → P i [insD "Ranking" [], ts row] = .ok .none [rkD row]
theorem rinit_ok {P : Ph} {iw : Nat} (hw : WNameS P iw) (row : List Str) (hr : Rk row) : runFn P (fn_Ranking_init iw) [insD "Ranking" [], ts row] = .ok .none [rkD row] := by
  rw [runFn_ap _ _ _ (by simp [fn_Ranking_init]; rfl)]
  have w := hw row hr
  simp [fn_Ranking_init, w, rkD]
def RRowS (P : Ph) (i : Nat) : Prop := ∀ row : List Str, P i [rkD row] = .ok (ts row) []
theorem rrow_ok (P : Ph) (row : List Str) : runFn P fn_Ranking_row [rkD row] = .ok (ts row) [] := by
  rw [runFn_ap _ _ _ (by simp [fn_Ranking_row]; rfl)]
  simp [fn_Ranking_row]
def RThingsS (P : Ph) (i : Nat) : Prop := ∀ row : List Str, row.length ≤ 1000 → P i [rkD row] = .ok (ts (sortS row)) []
theorem rthings_ok (P : Ph) (row : List Str) (hl : row.length ≤ 1000) : runFn P fn_Ranking_things [rkD row] = .ok (ts (sortS row)) [] := by
  rw [runFn_ap _ _ _ (by simp [fn_Ranking_things]; rfl)]
  have lc1 : block [1] (lcLoop [1] (.name 1) (tests P []) (den P (.var 1)) (row.map .str) []) [.sh (rkD row), .no] = .ok (row.map .str) [.sh (rkD row), .no] :=
    lc1_map _ (by simp) (by simp) (by omega) (by intro x hx; simp)
  simp [fn_Ranking_things, ts, lc1]
/-- a menu of some things is told as such -/
def WPlaceS (P : Ph) (i : Nat) : Prop := ∀ m l : List Str, Menu m l → m.length ≤ 1000 → P i [ts m, ts l] = .ok (.int (-1)) []
theorem wplace_ok (P : Ph) (m l : List Str) (hm : Menu m l) (hl : m.length ≤ 1000) : runFn P fn_wrong_place [ts m, ts l] = .ok (.int (-1)) [] := by
  rw [runFn_ap _ _ _ (by simp [fn_wrong_place]; rfl)]
  obtain ⟨r', e, s1, s2, rfl⟩ := for_inv (tg := .tup [.name 2, .name 3]) (body := exes P [.ife (.or (.not (.op (.isi 0) [.tmp 3])) (.or (.op .notin [.tmp 3, .tmp 1]) (.and (.op .gt [.tmp 2, .cst (.int 0)]) (.op .le [.tmp 3, .op .ix [.tmp 0, .op .sub [.tmp 2, .cst (.int 1)]]]))))
     [.ret (.var 2)]
     []]) (g := fun p : Str × Nat => PyData.tuple [.int (p.2 : Int), .str p.1]) (l := m.zipIdx) (r := [.sh (.tuple (m.map .str)), .sh (.tuple (l.map .str)), .no, .no])
    (fun k r => ∃ s1 s2 : Sl, r = [.sh (.tuple (m.map .str)), .sh (.tuple (l.map .str)), s1, s2]) ⟨_, _, rfl⟩
    (by
      rintro k hk r ⟨s1, s2, rfl⟩
      have hk' : k < m.length := by simpa using hk
      rw [zipIdx_at m k hk]
      have hin : m[k] ∈ l := hm.sub _ (List.getElem_mem hk')
      refine ⟨.nx, [.sh (.tuple (m.map .str)), .sh (.tuple (l.map .str)), .sh (.int (k : Int)), .sh (.str m[k])], ?_, .inl rfl, _, _, rfl⟩
      by_cases h0 : k = 0
      · subst h0
        generalize m[0] = x at *
        simp [fstep, hin]
      · have hp : 0 < k := by omega
        have hk1 : k - 1 < m.length := by omega
        have at1 : L2.atI (m.map PyData.str) ((k : Int) - 1) = some (.str m[k - 1]) := by
          have e1 : ((k : Int) - 1) = ((k - 1 : Nat) : Int) := by omega
          rw [e1, atI_map, atI_nat _ _ hk1]; rfl
        have hlt : sLt m[k - 1] m[k] = true := by
          have pw := hm.asc
          unfold Asc at pw
          rw [List.pairwise_iff_getElem] at pw
          exact pw (k - 1) k hk1 hk' (by omega)
        generalize m[k] = x at *
        generalize m[k - 1] = y at *
        simp [fstep, hin, hp, at1, hlt])
  have hne : ¬ m.length = 0 := fun q => hm.ne (List.length_eq_zero_iff.mp q)
  have es := enum_strs m
  have hne' := hm.ne
  simp [fn_wrong_place, ts, hne', es, e]
def CMenuS (P : Ph) (i : Nat) : Prop := ∀ m l : List Str, Menu m l → m.length ≤ 1000 → P i [ts m, ts l] = .ok .none []
theorem cmenu_ok {P : Ph} {iw : Nat} (hw : WPlaceS P iw) (m l : List Str) (hm : Menu m l) (hl : m.length ≤ 1000) : runFn P (fn_check_menu iw) [ts m, ts l] = .ok .none [] := by
  rw [runFn_ap _ _ _ (by simp [fn_check_menu]; rfl)]
  have w := hw m l hm hl
  simp [fn_check_menu, w]
theorem best_at {menu row : List Str} {k : Nat} (hk : k < row.length) (hp : ∀ x ∈ row.take k, x ∉ menu) (hm : row[k] ∈ menu) : bestOf menu row = row[k] := by
  unfold bestOf
  have e : row = row.take k ++ row[k] :: row.drop (k + 1) := by
    conv => lhs; rw [← List.take_append_drop k row, List.drop_eq_getElem_cons hk]
  have f : (row.take k).filter (fun x => decide (x ∈ menu)) = [] := by
    rw [List.filter_eq_nil_iff]
    intro x hx; simpa using hp x hx
  have e2 : row.filter (fun x => decide (x ∈ menu)) = row[k] :: (row.drop (k + 1)).filter fun x => decide (x ∈ menu) := by
    have := congrArg (List.filter fun x => decide (x ∈ menu)) e
    rw [this, List.filter_append, f, List.nil_append, List.filter_cons_of_pos (by simpa using hm)]
  rw [e2]; rfl
def BestOfS (P : Ph) (i : Nat) : Prop := ∀ row menu : List Str, (∃ x ∈ row, x ∈ menu) → row.length ≤ 1000 → P i [ts row, ts menu] = .ok (.str (bestOf menu row)) []
theorem bestOf_ok (P : Ph) (row menu : List Str) (h : ∃ x ∈ row, x ∈ menu) (hl : row.length ≤ 1000) : runFn P fn_best_of [ts row, ts menu] = .ok (.str (bestOf menu row)) [] := by
  rw [runFn_ap _ _ _ (by simp [fn_best_of]; rfl)]
  rcases for_ret (tg := .name 2) (body := exes P [.ife (.op .isin [.tmp 2, .tmp 1]) [.ret (.var 2)] []]) (g := PyData.str) (fun k r => ∃ s : Sl, r = [.sh (.tuple (row.map .str)), .sh (.tuple (menu.map .str)), s] ∧ ∀ x ∈ row.take k, x ∉ menu) (fun d r => d = .str (bestOf menu row) ∧ ∃ s : Sl, r = [.sh (.tuple (row.map .str)), .sh (.tuple (menu.map .str)), s]) row 0 [.sh (.tuple (row.map .str)), .sh (.tuple (menu.map .str)), .no]
    ⟨.no, rfl, by simp⟩
    (by
      rintro k hk r ⟨s, rfl, hp⟩
      simp only [Nat.zero_add] at hp ⊢
      by_cases hm : row[k] ∈ menu
      · have hb := best_at hk hp hm
        refine .inr ⟨.str row[k], [.sh (.tuple (row.map .str)), .sh (.tuple (menu.map .str)), .sh (.str row[k])], ?_, by rw [hb], _, rfl⟩
        generalize row[k] = x at *
        simp [fstep, hm]
      · refine .inl ⟨.nx, [.sh (.tuple (row.map .str)), .sh (.tuple (menu.map .str)), .sh (.str row[k])], ?_, .inl rfl, _, rfl, ?_⟩
        · generalize row[k] = x at *
          simp [fstep, hm]
        · intro x hx
          rw [List.take_add_one, List.getElem?_eq_getElem hk] at hx
          rcases List.mem_append.mp hx with q | q
          · exact hp x q
          · simp at q; rw [q]; exact hm) with ⟨r', e, s, rfl, hp⟩ | ⟨d, r', e, rfl, s, rfl⟩
  · exfalso
    obtain ⟨x, hx, hm⟩ := h
    simp only [Nat.zero_add, List.take_length] at hp
    exact hp x hx hm
  · simp [fn_best_of, ts, e]
def RBestS (P : Ph) (i : Nat) : Prop := ∀ row m : List Str, row.length ≤ 1000 → Menu m (sortS row) → m.length ≤ 1000 → P i [rkD row, ts m] = .ok (.str (bestOf m row)) []
theorem menu_meets {row m : List Str} (hm : Menu m (sortS row)) : ∃ x ∈ row, x ∈ m := by
  cases m with
  | nil => exact absurd rfl hm.ne
  | cons x m => exact ⟨x, (sortS_perm row).mem_iff.mp (hm.sub x (by simp)), by simp⟩
theorem rbest_ok {P : Ph} {it ic ib : Nat} (ht : RThingsS P it) (hc : CMenuS P ic) (hb : BestOfS P ib) (row m : List Str) (hl : row.length ≤ 1000) (hm : Menu m (sortS row)) (hml : m.length ≤ 1000) : runFn P (fn_Ranking_best it ic ib) [rkD row, ts m] = .ok (.str (bestOf m row)) [] := by
  rw [runFn_ap _ _ _ (by simp [fn_Ranking_best]; rfl)]
  have w1 := ht row hl
  have w2 := hc m (sortS row) hm hml
  have w3 := hb row m (menu_meets hm) hl
  simp [fn_Ranking_best, w1, w2, w3]
def IsThingS (P : Ph) (i : Nat) : Prop := ∀ (d : D) (l : List Str), d.hasDict = false → P i [d, ts l] = .ok (.bool (amongB d l)) []
theorem isThing_ok (P : Ph) (d : D) (l : List Str) (h : d.hasDict = false) : runFn P fn_is_thing [d, ts l] = .ok (.bool (amongB d l)) [] := by
  rw [runFn_ap _ _ _ (by simp [fn_is_thing]; rfl)]
  cases d with
  | dict kv => simp [PyData.hasDict] at h
  | str x => simp [fn_is_thing]
  | _ => simp [fn_is_thing]
def CThingS (P : Ph) (i : Nat) : Prop := ∀ (x : Str) (l : List Str), x ∈ l → P i [.str x, ts l] = .ok .none []
theorem cthing_ok {P : Ph} {ii : Nat} (hi : IsThingS P ii) (x : Str) (l : List Str) (h : x ∈ l) : runFn P (fn_check_thing ii) [.str x, ts l] = .ok .none [] := by
  rw [runFn_ap _ _ _ (by simp [fn_check_thing]; rfl)]
  have w := hi (.str x) l rfl
  simp only [among_s, h, decide_true] at w
  simp [fn_check_thing, w]
def BelowOfS (P : Ph) (i : Nat) : Prop := ∀ (row : List Str) (z : Str), z ∈ row → row.length ≤ 1000 → P i [ts row, .str z] = .ok (ts (sortS (belowOf row z))) []
theorem belowOf_ok (P : Ph) (row : List Str) (z : Str) (h : z ∈ row) (hl : row.length ≤ 1000) : runFn P fn_below_of [ts row, .str z] = .ok (ts (sortS (belowOf row z))) [] := by
  rw [runFn_ap _ _ _ (by simp [fn_below_of]; rfl)]
  have c1 : cut (row.map PyData.str) (some ((row.idxOf z : Int) + 1)) none = (belowOf row z).map .str := by rw [cut_from1, ← List.map_drop]; rfl
  have hbl : (belowOf row z).length ≤ row.length := by simp [belowOf]
  have lc1 : block [2] (lcLoop [2] (.name 2) (tests P []) (den P (.var 2)) ((belowOf row z).map .str) []) [.sh (.tuple (row.map .str)), .sh (.str z), .no] = .ok ((belowOf row z).map .str) [.sh (.tuple (row.map .str)), .sh (.str z), .no] :=
    lc1_map _ (by simp) (by simp) (by omega) (by intro x hx; simp)
  generalize belowOf row z = B at *
  simp [fn_below_of, ts, h, c1, lc1]
def RBelowS (P : Ph) (i : Nat) : Prop := ∀ (row : List Str) (z : Str), z ∈ row → row.length ≤ 1000 → P i [rkD row, .str z] = .ok (ts (sortS (belowOf row z))) []
theorem rbelow_ok {P : Ph} {ic ib : Nat} (hc : CThingS P ic) (hb : BelowOfS P ib) (row : List Str) (z : Str) (h : z ∈ row) (hl : row.length ≤ 1000) : runFn P (fn_Ranking_below ic ib) [rkD row, .str z] = .ok (ts (sortS (belowOf row z))) [] := by
  rw [runFn_ap _ _ _ (by simp [fn_Ranking_below]; rfl)]
  have w1 := hc z row h
  have w2 := hb row z h hl
  simp [fn_Ranking_below, w1, w2]
def RPlaceS (P : Ph) (i : Nat) : Prop := ∀ (row : List Str) (z : Str), z ∈ row → P i [rkD row, .str z] = .ok (.int (row.idxOf z : Nat)) []
theorem rplace_ok {P : Ph} {ic : Nat} (hc : CThingS P ic) (row : List Str) (z : Str) (h : z ∈ row) : runFn P (fn_Ranking_place ic) [rkD row, .str z] = .ok (.int (row.idxOf z : Nat)) [] := by
  rw [runFn_ap _ _ _ (by simp [fn_Ranking_place]; rfl)]
  have w1 := hc z row h
  have i1 := ap_index row z h
  simp only [ts] at w1
  simp [fn_Ranking_place, w1, ts, i1]
def BestS (P : Ph) (i : Nat) : Prop := ∀ row m : List Str, (∃ x ∈ row, x ∈ m) → row.length ≤ 1000 → P i [ts row, ts m] = .ok (.str (bestOf m row)) []
theorem best_ok (P : Ph) (row m : List Str) (h : ∃ x ∈ row, x ∈ m) (hl : row.length ≤ 1000) : runFn P fn_best [ts row, ts m] = .ok (.str (bestOf m row)) [] := by
  rw [runFn_ap _ _ _ (by simp [fn_best]; rfl)]
  have lc1 : block [2] (lcLoop [2] (.name 2) (tests P [.op .isin [.tmp 2, .tmp 1]]) (den P (.var 2)) (row.map .str) []) [.sh (.tuple (row.map .str)), .sh (.tuple (m.map .str)), .no] = .ok ((row.filter fun x => decide (x ∈ m)).map .str) [.sh (.tuple (row.map .str)), .sh (.tuple (m.map .str)), .no] :=
    lc1_filter (fun x => decide (x ∈ m)) PyData.str (by simp) (by simp) (by omega) (by intro x hx; simp) (by intro x hx _; simp)
  have hh := best_head h
  generalize (row.filter fun x => decide (x ∈ m)) = L at *
  have a0 : L2.atI (L.map PyData.str) 0 = some (.str (bestOf m row)) := by rw [atI_zero, List.head?_map, hh]; rfl
  simp [fn_best, ts, lc1, a0]
end M4
set_option Elab.async false
set_option linter.all false
set_option maxRecDepth 100000
set_option maxHeartbeats 2000000
/-! Q07: the plain statement of k07. -/
namespace L07
open PySem M3 M4
/-- law(_law_script): 0 _law_script, 1 _law_spot -/
def fn_law (i_right : Nat) (i_purse : Nat) : Fn := { ps := [false], n := 2, own := false, kb := [], body :=
 [.ret (.op .all [.lc [1] (.name 1) .rng1 [.op .max2 [.cst (.int 2), .op .min2 [.op .len [.tmp 0], .cst (.int 4)]]] [] (.callF i_right (.call i_purse [.var 0, .var 1]))])] }
/-- _law_right(_law_purse_here): 0 _law_purse_here, 1 _law_row, 2 _law_ranking, 3 _law_turn, 4 _law_back, 5 _law_names, 6 _law_rest, 7 _law_told, 8 _law_k, 9 _law_thing -/
def fn_right (i_draw : Nat) (i_things : Nat) (i_order : Nat) (i_Ranking_init : Nat) (i_without : Nat) (i_Ranking_row : Nat) (i_Ranking___eq__ : Nat) (i_Ranking___str__ : Nat) (i_Ranking_best : Nat) (i_Ranking___neg__ : Nat) (i_Ranking_things : Nat) : Fn := { ps := [true], n := 10, own := false, kb := [], body :=
 [.set 1 (.call i_order [.tmp 0, .call i_things [.tmp 0, .op .add [.cst (.int 1), .call i_draw [.tmp 0, .cst (.int 10)]]]]),
  .set 2 (.new "Ranking" i_Ranking_init [.var 1]),
  .for_ (.name 3) .rng1 [.cst (.int 4)]
   [.set 5 (.lc [8] (.name 8) .rng1 [.call i_draw [.tmp 0, .cst (.int 4)]] [] (.op .ix [.tmp 1, .call i_draw [.tmp 0, .op .len [.tmp 1]]])),
    .set 6 (.op .tuple [.lc [9] (.name 9) .seq [.var 1] [.op .notin [.tmp 9, .tmp 5]] (.var 9)]),
    .ife (.op .ne [.tmp 6, .tup []])
     [.set 7 (.call i_without [.var 2, .var 5]),
      .ife (.or (.op .ne [.prop "Ranking" "row" i_Ranking_row (.var 7), .tmp 6]) (.or (.dun .ne "Ranking" i_Ranking___eq__ [.var 7, .new "Ranking" i_Ranking_init [.var 6]]) (.op .ne [.dun .str "Ranking" i_Ranking___str__ [.var 7], .meth .join (.cst (.str " ")) [.tmp 6]])))
       [.ret (.cst (.bool false))]
       [],
      .ife (.op .ne [.mcall "Ranking" "best" i_Ranking_best (.var 7) [.op .tuple [.op .sorted [.tmp 6]]], .mcall "Ranking" "best" i_Ranking_best (.var 2) [.op .tuple [.op .sorted [.tmp 6]]]])
       [.ret (.cst (.bool false))]
       []]
     []],
  .set 4 (.dun .neg "Ranking" i_Ranking___neg__ [.var 2]),
  .ife (.or (.op .ne [.prop "Ranking" "row" i_Ranking_row (.var 4), .op .rev [.tmp 1]]) (.or (.dun .ne "Ranking" i_Ranking___eq__ [.dun .neg "Ranking" i_Ranking___neg__ [.var 4], .var 2]) (.op .ne [.prop "Ranking" "things" i_Ranking_things (.var 4), .prop "Ranking" "things" i_Ranking_things (.var 2)])))
   [.ret (.cst (.bool false))]
   [],
  .ret (.and (.op .eq [.prop "Ranking" "row" i_Ranking_row (.var 2), .tmp 1]) (.op .eq [.dun .eq "Ranking" i_Ranking___eq__ [.var 4, .var 2], .op .eq [.op .len [.tmp 1], .cst (.int 1)]]))] }
/-- _law_without(_law_ranking, _law_names): 0 _law_ranking, 1 _law_names -/
def fn_without (i_Ranking_without : Nat) : Fn := { ps := [false, false], n := 2, own := false, kb := [], body :=
 [.ife (.op .lt [.op .len [.tmp 1], .cst (.int 2)])
   [.ret (.ite (.op .eq [.tmp 1, .lst []]) (.mcallS "Ranking" "without" i_Ranking_without (.var 0) []) (.mcallS "Ranking" "without" i_Ranking_without (.var 0) [.op .ix [.tmp 1, .cst (.int 0)]]))]
   [],
  .ret (.ite (.op .eq [.op .len [.tmp 1], .cst (.int 2)]) (.mcallS "Ranking" "without" i_Ranking_without (.var 0) [.op .ix [.tmp 1, .cst (.int 0)], .op .ix [.tmp 1, .cst (.int 1)]]) (.mcallS "Ranking" "without" i_Ranking_without (.var 0) [.op .ix [.tmp 1, .cst (.int 0)], .op .ix [.tmp 1, .cst (.int 1)], .op .ix [.tmp 1, .cst (.int 2)]]))] }
/-- Ranking.without(self, names): 0 self, 1 names, 2 name -/
def fn_Ranking_without (i_check_thing : Nat) (i_Ranking_init : Nat) : Fn := { ps := [false, false], n := 3, own := false, kb := [], star := true, body :=
 [.for_ (.name 2) .seq [.var 1]
   [.expr (.call i_check_thing [.var 2, .fld "Ranking" "names" (.var 0)])],
  .ret (.new "Ranking" i_Ranking_init [.op .tuple [.lc [2] (.name 2) .seq [.fld "Ranking" "names" (.var 0)] [.op .notin [.tmp 2, .tmp 1]] (.var 2)]])] }
/-- Ranking.__eq__(self, other): 0 self, 1 other -/
def fn_Ranking___eq__ : Fn := { ps := [false, false], n := 2, own := false, kb := [], body :=
 [.ret (.and (.isC "Ranking" ["Ranking"] (.var 1)) (.op .eq [.fld "Ranking" "names" (.var 0), .fld "Ranking" "names" (.var 1)]))] }
/-- Ranking.__str__(self): 0 self -/
def fn_Ranking___str__ : Fn := { ps := [false], n := 1, own := false, kb := [], body :=
 [.ret (.meth .join (.cst (.str " ")) [.fld "Ranking" "names" (.var 0)])] }
/-- Ranking.best(self, menu): 0 self, 1 menu -/
def fn_Ranking_best (i_Ranking_things : Nat) (i_check_menu : Nat) (i_best_of : Nat) : Fn := { ps := [false, false], n := 2, own := false, kb := [], body :=
 [.expr (.call i_check_menu [.var 1, .prop "Ranking" "things" i_Ranking_things (.var 0)]),
  .ret (.call i_best_of [.fld "Ranking" "names" (.var 0), .var 1])] }
/-- Ranking.__neg__(self): 0 self -/
def fn_Ranking___neg__ (i_Ranking_init : Nat) : Fn := { ps := [false], n := 1, own := false, kb := [], body :=
 [.ret (.new "Ranking" i_Ranking_init [.op .rev [.fld "Ranking" "names" (.var 0)]])] }
def restL : List Fn := [fn_law 1 21, fn_right 3 4 2 5 8 12 13 14 15 20 18, M4.fn_order 3, M4.fn_draw, M4.fn_things 3, M4.fn_Ranking_init 6, M4.fn_wrong_name 7, M4.fn_is_name, fn_without 9, fn_Ranking_without 10 5, M4.fn_check_thing 11, M4.fn_is_thing, M4.fn_Ranking_row, fn_Ranking___eq__, fn_Ranking___str__, fn_Ranking_best 18 16 19, M4.fn_check_menu 17, M4.fn_wrong_place, M4.fn_Ranking_things, M4.fn_best_of, fn_Ranking___neg__ 5, M4.fn_purse]
-- 0 law
-- 1 _law_right
-- 2 _law_order
-- 3 _law_draw
-- 4 _law_things
-- 5 Ranking.__init__
-- 6 wrong_name
-- 7 is_name
-- 8 _law_without
-- 9 Ranking.without
-- 10 check_thing
-- 11 is_thing
-- 12 Ranking.row
-- 13 Ranking.__eq__
-- 14 Ranking.__str__
-- 15 Ranking.best
-- 16 check_menu
-- 17 wrong_place
-- 18 Ranking.things
-- 19 best_of
-- 20 Ranking.__neg__
-- 21 _law_purse

theorem insF_rk (row : List Str) : insF (rkD row) = some ((Str.ofString "Ranking"), [(.str (Str.ofString "names"), ts row)]) := rfl
theorem rk_isi (row : List Str) : isiC (Str.ofString "Ranking") [Str.ofString "Ranking"] (rkD row) = some (.bool true) := by
  unfold isiC
  rw [insF_rk]
  simp
def RWoutS (P : Ph) (i : Nat) : Prop := ∀ row names : List Str, Rk row → (∀ x ∈ names, x ∈ row) → names.length ≤ 1000 → (row.filter fun x => decide (x ∉ names)) ≠ [] → P i [rkD row, ts names] = .ok (rkD (row.filter fun x => decide (x ∉ names))) []
theorem rk_filter {row : List Str} (hr : Rk row) (f : Str → Bool) (h : row.filter f ≠ []) : Rk (row.filter f) :=
  ⟨List.length_pos_iff.mpr h, Nat.le_trans (List.length_filter_le _ _) hr.le, fun x hx => hr.nm x (List.mem_filter.mp hx).1, hr.nd.sublist List.filter_sublist⟩
theorem rwout_ok {P : Ph} {ic ii : Nat} (hc : CThingS P ic) (hi : RInitS P ii) (row names : List Str) (hr : Rk row) (hs : ∀ x ∈ names, x ∈ row) (hl : names.length ≤ 1000) (hne : (row.filter fun x => decide (x ∉ names)) ≠ []) :
    runFn P (fn_Ranking_without ic ii) [rkD row, ts names] = .ok (rkD (row.filter fun x => decide (x ∉ names))) [] := by
  rw [runFn_ap _ _ _ (by simp [fn_Ranking_without]; rfl)]
  have h10 := hr.le
  obtain ⟨r1, e1, s, rfl, hs2⟩ := for_inv (tg := .name 2) (body := exes P [.expr (.call ic [.var 2, .fld "Ranking" "names" (.var 0)])]) (g := PyData.str) (l := names) (r := [.sh (rkD row), .sh (.tuple (names.map .str)), .no])
    (fun k r => ∃ s : Sl, r = [.sh (rkD row), .sh (.tuple (names.map .str)), s] ∧ notOwn (some s) = true) ⟨_, rfl, rfl⟩
    (by
      rintro k hk r ⟨s, rfl, _⟩
      have w := hc names[k] row (hs _ (List.getElem_mem hk))
      generalize names[k] = x at *
      exact ⟨.nx, [.sh (rkD row), .sh (.tuple (names.map .str)), .sh (.str x)], by simp [fstep, w], .inl rfl, _, rfl, rfl⟩)
  have lc1 : block [2] (lcLoop [2] (.name 2) (tests P [.op .notin [.tmp 2, .tmp 1]]) (den P (.var 2)) (row.map .str) []) [.sh (rkD row), .sh (.tuple (names.map .str)), s] = .ok ((row.filter fun x => decide (x ∉ names)).map .str) [.sh (rkD row), .sh (.tuple (names.map .str)), s] :=
    lc1_filter (fun x => decide (x ∉ names)) PyData.str (by simpa using hs2) (by simp) (by omega) (by intro x hx; simp) (by intro x hx _; simp)
  have w2 := hi _ (rk_filter hr _ hne)
  generalize (row.filter fun x => decide (x ∉ names)) = L at *
  simp only [ts] at *
  simp [fn_Ranking_without, ts, e1, lc1, w2]
def RNegS (P : Ph) (i : Nat) : Prop := ∀ row : List Str, Rk row → P i [rkD row] = .ok (rkD row.reverse) []
theorem rk_rev {row : List Str} (hr : Rk row) : Rk row.reverse := ⟨by simpa using hr.pos, by simpa using hr.le, fun x hx => hr.nm x (by simpa using hx), (List.reverse_perm row).symm.nodup hr.nd⟩
theorem rneg_ok {P : Ph} {ii : Nat} (hi : RInitS P ii) (row : List Str) (hr : Rk row) : runFn P (fn_Ranking___neg__ ii) [rkD row] = .ok (rkD row.reverse) [] := by
  rw [runFn_ap _ _ _ (by simp [fn_Ranking___neg__]; rfl)]
  have w := hi _ (rk_rev hr)
  simp only [ts] at w
  rw [List.map_reverse] at w
  simp [fn_Ranking___neg__, ts, w]
def REqS (P : Ph) (i : Nat) : Prop := ∀ a b : List Str, P i [rkD a, rkD b] = .ok (.bool (decide (a = b))) []
theorem req_ok (P : Ph) (a b : List Str) : runFn P fn_Ranking___eq__ [rkD a, rkD b] = .ok (.bool (decide (a = b))) [] := by
  rw [runFn_ap _ _ _ (by simp [fn_Ranking___eq__]; rfl)]
  simp [fn_Ranking___eq__, rk_isi]
def RStrS (P : Ph) (i : Nat) : Prop := ∀ row : List Str, Rk row → P i [rkD row] = .ok (.str (txtR row)) []
theorem rstr_ok (P : Ph) (row : List Str) (hr : Rk row) : runFn P fn_Ranking___str__ [rkD row] = .ok (.str (txtR row)) [] := by
  rw [runFn_ap _ _ _ (by simp [fn_Ranking___str__]; rfl)]
  have w := ap_joinR' hr.nm (by have := hr.le; omega)
  simp [fn_Ranking___str__, ts, w]
@[simp] theorem dkA_eq1 (c : Str) (d : D) : dkA .eq c [d] = (isIns c d || noDic d) := by simp [dkA]
@[simp] theorem dkA_ne1 (c : Str) (d : D) : dkA .ne c [d] = (isIns c d || noDic d) := by simp [dkA]
def WoutS (P : Ph) (i : Nat) : Prop := ∀ row names : List Str, Rk row → (∀ x ∈ names, x ∈ row) → names.length ≤ 3 → (row.filter fun x => decide (x ∉ names)) ≠ [] → P i [rkD row, .list (names.map .str)] = .ok (rkD (row.filter fun x => decide (x ∉ names))) []
theorem wout_ok {P : Ph} {iw : Nat} (hw : RWoutS P iw) (row names : List Str) (hr : Rk row) (hs : ∀ x ∈ names, x ∈ row) (hl : names.length ≤ 3) (hne : (row.filter fun x => decide (x ∉ names)) ≠ []) :
    runFn P (fn_without iw) [rkD row, .list (names.map .str)] = .ok (rkD (row.filter fun x => decide (x ∉ names))) [] := by
  rw [runFn_ap _ _ _ (by simp [fn_without]; rfl)]
  have w := hw row names hr hs (by omega) hne
  generalize (row.filter fun x => decide (x ∉ names)) = L at *
  simp only [ts] at w
  match names, hl, w with
  | [], _, w =>
    simp only [List.map_nil] at w
    have q : M3.ieq (.list []) (.list []) = some true := rfl
    simp [fn_without, w, q]
  | [a], _, w =>
    simp only [List.map_cons, List.map_nil] at w
    have q : M3.ieq (.list [.str a]) (.list []) = some false := rfl
    have i0 : L2.ixN 1 0 = some 0 := rfl
    simp [fn_without, w, L2.atI, q, i0]
  | [a, b], _, w =>
    simp only [List.map_cons, List.map_nil] at w
    have i0 : L2.ixN 2 0 = some 0 := rfl
    have i1 : L2.ixN 2 1 = some 1 := rfl
    simp [fn_without, w, L2.atI, i0, i1]
  | [a, b, c], _, w =>
    simp only [List.map_cons, List.map_nil] at w
    have i0 : L2.ixN 3 0 = some 0 := rfl
    have i1 : L2.ixN 3 1 = some 1 := rfl
    have i2 : L2.ixN 3 2 = some 2 := rfl
    simp [fn_without, w, L2.atI, i0, i1, i2]
  | _ :: _ :: _ :: _ :: _, hl, _ => simp at hl
theorem best_rest {row : List Str} (f : Str → Bool) : bestOf (sortS (row.filter f)) (row.filter f) = bestOf (sortS (row.filter f)) row := by
  unfold bestOf
  have e : (row.filter f).filter (fun x => decide (x ∈ sortS (row.filter f))) = row.filter (fun x => decide (x ∈ sortS (row.filter f))) := by
    rw [List.filter_filter]
    apply List.filter_congr
    intro x hx
    have : x ∈ sortS (row.filter f) ↔ x ∈ row.filter f := (sortS_perm _).mem_iff
    rw [Bool.eq_iff_iff]
    simp [this, List.mem_filter]
  rw [e]
theorem rev_eq {row : List Str} (hr : Rk row) : decide (row.reverse = row) = decide (row.length = 1) := by
  rw [Bool.eq_iff_iff]
  simp only [decide_eq_true_eq]
  have h1 := hr.pos
  constructor
  · intro e
    refine Classical.byContradiction fun hn => ?_
    have h2 : 0 < row.length := by omega
    have a : row.reverse[0]'(by simpa using h2) = row[0] := by simp only [e]
    rw [List.getElem_reverse] at a
    have nd := hr.nd
    unfold List.Nodup at nd
    rw [List.pairwise_iff_getElem] at nd
    exact nd 0 (row.length - 1 - 0) h2 (by omega) (by omega) a.symm
  · intro e
    match row, e with
    | [a], _ => rfl
theorem rbest7_ok {P : Ph} {it ic ib : Nat} (ht : RThingsS P it) (hc : CMenuS P ic) (hb : BestOfS P ib) (row m : List Str) (hl : row.length ≤ 1000) (hm : Menu m (sortS row)) (hml : m.length ≤ 1000) : runFn P (fn_Ranking_best it ic ib) [rkD row, ts m] = .ok (.str (bestOf m row)) [] := rbest_ok ht hc hb row m hl hm hml
theorem asc_sort {row : List Str} (h : row.Nodup) : Asc (sortS row) := by
  have := sortS_perm row
  exact sortS_asc h
theorem right_ok {P : Ph} {id it io ii iw irr ieq ist irb ing irt : Nat} (hd : M4.DrawS P id) (ht : M4.ThingsS P it) (ho : OrderS P io) (hi : RInitS P ii) (hw : WoutS P iw) (hrr : RRowS P irr) (heq : REqS P ieq) (hst : RStrS P ist) (hrb : RBestS P irb) (hng : RNegS P ing) (hrt : RThingsS P irt) :
    ∀ p, Purse p → ∃ p' : List D, runFn P (fn_right id it io ii iw irr ieq ist irb ing irt) [.list p] = .ok (.bool true) [.list p'] := by
  intro p hp
  rw [runFn_ap _ _ _ (by simp [fn_right]; rfl)]
  obtain ⟨x, p1, e1, hp1, hx⟩ := hd p hp 10 (by omega) (by omega)
  obtain ⟨c, hc0⟩ : ∃ c : Nat, c = x + 1 := ⟨_, rfl⟩
  have hc1 : (1 : Int) + (x : Int) = (c : Int) := by omega
  obtain ⟨l, p2, e2, hp2, hl, hl2⟩ := ht p1 hp1 c (by omega)
  obtain ⟨row, p3, e3, hp3, hperm⟩ := ho p2 hp2 l (by omega)
  have hrl0 := hperm.length_eq
  have hnd : row.Nodup := hperm.symm.nodup hl2.1.nodup
  have hR : Rk row := ⟨by omega, by omega, fun x hx => hl2.2 x (hperm.mem_iff.mp hx), hnd⟩
  have e4 := hi row hR
  let E : List D → Sl → Sl → Sl → Sl → En := fun p s3 s5 s6 s7 => [.own false (.lst p), .sh (ts row), .sh (rkD row), s3, .no, s5, s6, s7, .no, .no]
  obtain ⟨r1, e6, p4, s3, s5, s6, s7, hp4, rfl⟩ := for_inv (tg := .name 3) (body := exes P [.set 5 (.lc [8] (.name 8) .rng1 [.call id [.tmp 0, .cst (.int 4)]] [] (.op .ix [.tmp 1, .call id [.tmp 0, .op .len [.tmp 1]]])),
    .set 6 (.op .tuple [.lc [9] (.name 9) .seq [.var 1] [.op .notin [.tmp 9, .tmp 5]] (.var 9)]),
    .ife (.op .ne [.tmp 6, .tup []])
     [.set 7 (.call iw [.var 2, .var 5]),
      .ife (.or (.op .ne [.prop "Ranking" "row" irr (.var 7), .tmp 6]) (.or (.dun .ne "Ranking" ieq [.var 7, .new "Ranking" ii [.var 6]]) (.op .ne [.dun .str "Ranking" ist [.var 7], .meth .join (.cst (.str " ")) [.tmp 6]])))
       [.ret (.cst (.bool false))]
       [],
      .ife (.op .ne [.mcall "Ranking" "best" irb (.var 7) [.op .tuple [.op .sorted [.tmp 6]]], .mcall "Ranking" "best" irb (.var 2) [.op .tuple [.op .sorted [.tmp 6]]]])
       [.ret (.cst (.bool false))]
       []]
     []]) (g := fun k : Nat => PyData.int k) (l := List.range 4) (r := E p3 .no .no .no .no)
    (fun k r => ∃ (p : List D) (s3 s5 s6 s7 : Sl), Purse p ∧ r = E p s3 s5 s6 s7) ⟨p3, .no, .no, .no, .no, hp3, rfl⟩
    (by
      rintro k hk r ⟨p, s3, s5, s6, s7, hp, rfl⟩
      obtain ⟨z, q1, f1, hq1, hz⟩ := hd p hp 4 (by omega) (by omega)
      obtain ⟨acc, r2, f2, q2, names, s8, hq2, rfl, rfl, hnl, hin⟩ := lc_inv (vs := [8]) (tg := .name 8) (tst := tests P []) (elt := den P (.op .ix [.tmp 1, .call id [.tmp 0, .op .len [.tmp 1]]])) (g := fun k : Nat => PyData.int k) (l := List.range z)
        (r := [.own false (.lst q1), .sh (ts row), .sh (rkD row), .sh (.int (k : Nat)), .no, s5, s6, s7, .no, .no])
        (fun j acc r => ∃ (q : List D) (names : List Str) (s8 : Sl), Purse q ∧ acc = names.map .str ∧ r = [.own false (.lst q), .sh (ts row), .sh (rkD row), .sh (.int (k : Nat)), .no, s5, s6, s7, s8, .no] ∧ names.length = j ∧ ∀ x ∈ names, x ∈ row)
        (by simp) (by simp; omega) ⟨q1, [], .no, hq1, rfl, by simp, rfl, by simp⟩
        (by
          rintro j hj acc r ⟨q, names, s8, hq, rfl, rfl, hnl, hin⟩
          obtain ⟨y, q', g1, hq', hy⟩ := hd q hq (row.length : Nat) (by omega) (by omega)
          have hy' : y < row.length := by omega
          have at1 : L2.atI (row.map PyData.str) (y : Int) = some (.str row[y]) := by rw [atI_map, atI_nat _ _ hy']; rfl
          refine ⟨some (.str row[y]), [.own false (.lst q'), .sh (ts row), .sh (rkD row), .sh (.int (k : Nat)), .no, s5, s6, s7, .sh (.int (j : Nat)), .no], ?_, q', names ++ [row[y]], _, hq', by simp, rfl, by simp [hnl], ?_⟩
          · generalize row[y] = w at *
            simp [lcStep, ts, g1, at1]
          · intro x hx
            rcases List.mem_append.mp hx with h | h
            · exact hin x h
            · simp only [List.mem_singleton] at h; rw [h]; exact List.getElem_mem hy')
      rw [List.length_range] at hnl
      have src1 : srcItems .rng1 [.int (z : Int)] = some ((List.range z).map fun (k : Nat) => PyData.int (k : Int)) := src_rng z (by omega)
      have lc1 : block [9] (lcLoop [9] (.name 9) (tests P [.op .notin [.tmp 9, .tmp 5]]) (den P (.var 9)) (row.map .str) []) [.own false (.lst q2), .sh (ts row), .sh (rkD row), .sh (.int (k : Nat)), .no, .sh (.list (names.map .str)), s6, s7, .no, .no] = .ok ((row.filter fun x => decide (x ∉ names)).map .str) [.own false (.lst q2), .sh (ts row), .sh (rkD row), .sh (.int (k : Nat)), .no, .sh (.list (names.map .str)), s6, s7, .no, .no] :=
        lc1_filter (fun x => decide (x ∉ names)) PyData.str (by simp) (by simp) (by omega) (by intro x hx; simp) (by intro x hx _; simp)
      have hkr : (List.range 4)[k] = k := by simp
      rw [hkr]
      by_cases hne : (row.filter fun x => decide (x ∉ names)) = []
      · refine ⟨.nx, E q2 (.sh (.int (k : Nat))) (.sh (.list (names.map .str))) (.sh (.tuple [])) s7, ?_, .inl rfl, _, _, _, _, _, hq2, rfl⟩
        simp only [back, ts] at f2 lc1
        rw [hne] at lc1
        simp at f2
        have q0 : M3.ieq (.tuple []) (.tuple []) = some true := rfl
        simp [fstep, E, f1, src1, ts, f2, lc1, q0]
      · have w1 := hw row names hR hin (by omega) hne
        have hRf := rk_filter hR _ hne
        have w2 := hrr (row.filter fun x => decide (x ∉ names))
        have w3 := hi _ hRf
        have w4 := heq (row.filter fun x => decide (x ∉ names)) (row.filter fun x => decide (x ∉ names))
        have w5 := hst _ hRf
        have w6 := ap_joinR' hRf.nm (by have := hRf.le; omega)
        have hle : (row.filter fun x => decide (x ∉ names)).length ≤ 10 := hRf.le
        have hml : (sortS (row.filter fun x => decide (x ∉ names))).length ≤ 1000 := by rw [(sortS_perm _).length_eq]; omega
        have hsn : sortS (row.filter fun x => decide (x ∉ names)) ≠ [] := fun q => hne (by have := (sortS_perm (row.filter fun x => decide (x ∉ names))); rw [q] at this; exact this.symm.eq_nil)
        have M1 : Menu (sortS (row.filter fun x => decide (x ∉ names))) (sortS (row.filter fun x => decide (x ∉ names))) := ⟨hsn, fun x hx => hx, asc_sort hRf.nd⟩
        have M2 : Menu (sortS (row.filter fun x => decide (x ∉ names))) (sortS row) := ⟨hsn, fun x hx => (sortS_perm row).mem_iff.mpr (List.mem_filter.mp ((sortS_perm _).mem_iff.mp hx)).1, asc_sort hRf.nd⟩
        have w7 := hrb _ _ (by omega) M1 hml
        have w8 := hrb _ _ (by omega) M2 hml
        rw [best_rest] at w7
        refine ⟨.nx, E q2 (.sh (.int (k : Nat))) (.sh (.list (names.map .str))) (.sh (ts (row.filter fun x => decide (x ∉ names)))) (.sh (rkD (row.filter fun x => decide (x ∉ names)))), ?_, .inl rfl, _, _, _, _, _, hq2, rfl⟩
        generalize bestOf (sortS (row.filter fun x => decide (x ∉ names))) row = B at *
        generalize (row.filter fun x => decide (x ∉ names)) = L at *
        simp only [back, ts] at *
        simp at f2
        have q0 : M3.ieq (.tuple (L.map .str)) (.tuple []) = some false := by
          have h := ieq_strT L []
          rw [List.map_nil, decide_eq_false hne] at h
          exact h
        simp [fstep, E, f1, src1, ts, f2, lc1, q0, w1, w2, w3, w4, w5, w6, w7, w8])
  have src4 : srcItems .rng1 [.int 4] = some ((List.range 4).map fun (k : Nat) => PyData.int (k : Int)) := src_rng 4 (by omega)
  have n1 := hng row hR
  have n2 := hng row.reverse (rk_rev hR)
  rw [List.reverse_reverse] at n2
  have n3 := hrr row.reverse
  have n4 := heq row row
  have n5 := hrt row.reverse (by simp; omega)
  have n6 := hrt row (by omega)
  have hsr : sortS row.reverse = sortS row := sortS_eq.mpr (List.reverse_perm row)
  rw [hsr] at n5
  have n7 := hrr row
  have n8 := heq row.reverse row
  rw [rev_eq hR] at n8
  refine ⟨p4, ?_⟩
  have hone : decide ((row.length : Int) = 1) = decide (row.length = 1) := by rw [Bool.eq_iff_iff]; simp only [decide_eq_true_eq]; omega
  simp only [E, ts] at *
  rw [List.map_reverse] at n3
  have q1 : M3.ieq (.tuple (row.map PyData.str).reverse) (.tuple (row.map PyData.str).reverse) = some true := by rw [← List.map_reverse, ieq_strT]; simp
  simp [fn_right, q1, e1, hc1, e2, e3, e4, src4, e6, n1, n2, n3, n4, n5, n6, n7, n8, hone]
def RightS (P : Ph) (i : Nat) : Prop := ∀ p, Purse p → ∃ p' : List D, P i [.list p] = .ok (.bool true) [.list p']
theorem lk {i : Nat} {F : Fn} (h : restL[i]? = some F) (n : Nat) (ds : List D) : callF restL (n + 1) i ds = runFn (callF restL n) F ds := callF_ap h n ds
theorem s_draw (n : Nat) : M4.DrawS (callF restL (n + 1)) 3 := fun p hp m h1 h2 => by rw [lk rfl]; exact M4.draw_ok _ p hp m h1 h2
theorem s_things (n : Nat) : M4.ThingsS (callF restL (n + 2)) 4 := fun p hp m h => by rw [lk rfl]; exact M4.things_ok (s_draw n) p hp m h
theorem s_order (n : Nat) : OrderS (callF restL (n + 2)) 2 := fun p hp l h => by rw [lk rfl]; exact order_ok (s_draw n) p hp l h
theorem s_name (n : Nat) : NameS (callF restL (n + 1)) 7 := fun d h => by rw [lk rfl]; exact name_ok _ d h
theorem s_wname (n : Nat) : WNameS (callF restL (n + 2)) 6 := fun row h => by rw [lk rfl]; exact wname_ok (s_name n) row h
theorem s_rinit (n : Nat) : RInitS (callF restL (n + 3)) 5 := fun row h => by rw [lk rfl]; exact rinit_ok (s_wname n) row h
theorem s_wplace (n : Nat) : WPlaceS (callF restL (n + 1)) 17 := fun m l h1 h2 => by rw [lk rfl]; exact wplace_ok _ m l h1 h2
theorem s_cmenu (n : Nat) : CMenuS (callF restL (n + 2)) 16 := fun m l h1 h2 => by rw [lk rfl]; exact cmenu_ok (s_wplace n) m l h1 h2
theorem s_rthings (n : Nat) : RThingsS (callF restL (n + 1)) 18 := fun row h => by rw [lk rfl]; exact rthings_ok _ row h
theorem s_bestOf (n : Nat) : BestOfS (callF restL (n + 1)) 19 := fun row m h1 h2 => by rw [lk rfl]; exact bestOf_ok _ row m h1 h2
theorem s_rbest (n : Nat) : RBestS (callF restL (n + 3)) 15 := fun row m h1 h2 h3 => by rw [lk rfl]; exact rbest7_ok (s_rthings (n + 1)) (s_cmenu n) (s_bestOf (n + 1)) row m h1 h2 h3
theorem s_isThing (n : Nat) : IsThingS (callF restL (n + 1)) 11 := fun d l h => by rw [lk rfl]; exact isThing_ok _ d l h
theorem s_cthing (n : Nat) : CThingS (callF restL (n + 2)) 10 := fun x l h => by rw [lk rfl]; exact cthing_ok (s_isThing n) x l h
theorem s_rrow (n : Nat) : RRowS (callF restL (n + 1)) 12 := fun row => by rw [lk rfl]; exact rrow_ok _ row
theorem s_rwout (n : Nat) : RWoutS (callF restL (n + 4)) 9 := fun row names h1 h2 h3 h4 => by rw [lk rfl]; exact rwout_ok (s_cthing (n + 1)) (s_rinit n) row names h1 h2 h3 h4
theorem s_wout (n : Nat) : WoutS (callF restL (n + 5)) 8 := fun row names h1 h2 h3 h4 => by rw [lk rfl]; exact wout_ok (s_rwout n) row names h1 h2 h3 h4
theorem s_req (n : Nat) : REqS (callF restL (n + 1)) 13 := fun a b => by rw [lk rfl]; exact req_ok _ a b
theorem s_rstr (n : Nat) : RStrS (callF restL (n + 1)) 14 := fun row h => by rw [lk rfl]; exact rstr_ok _ row h
theorem s_rneg (n : Nat) : RNegS (callF restL (n + 4)) 20 := fun row h => by rw [lk rfl]; exact rneg_ok (s_rinit n) row h
theorem s_purse (n : Nat) : PurseS (callF restL (n + 1)) 21 := fun ns k h => by rw [lk rfl]; exact purse_ok _ ns k h
theorem s_right (n : Nat) : RightS (callF restL (n + 6)) 1 := fun p hp => by
  rw [lk rfl]
  exact right_ok (s_draw (n + 4)) (s_things (n + 3)) (s_order (n + 3)) (s_rinit (n + 2)) (s_wout n) (s_rrow (n + 4)) (s_req (n + 4)) (s_rstr (n + 4)) (s_rbest (n + 2)) (s_rneg (n + 1)) (s_rthings (n + 4)) p hp
theorem tail_lc {P : Ph} {ir ip v : Nat} (hp : PurseS P ip) (hr : RightS P ir) {ns : List Int} (h : ns.length ≤ 63) {r : En} (h0 : r[0]? = some (.sh (.list (ns.map .int)))) (hv : notOwn r[v]? = true) (hlt : v < r.length) (hv0 : v ≠ 0) (N : Nat) (hN : N ≤ 1000) :
    block [v] (lcLoop [v] (.name v) (tests P []) (den P (.callF ir (.call ip [.var 0, .var v]))) ((List.range N).map fun k : Nat => PyData.int k) []) r = .ok ((List.range N).map fun _ => .bool true) r := by
  refine lc1_map _ hv hlt (by simp; omega) ?_
  intro k hk
  obtain ⟨p, ep, hp⟩ := hp ns k h
  obtain ⟨p', er⟩ := hr p hp
  have e0 : (r.set v (.sh (.int (k : Nat))))[0]? = some (.sh (.list (ns.map .int))) := by rw [List.getElem?_set_ne hv0]; exact h0
  have ev : (r.set v (.sh (.int (k : Nat))))[v]? = some (.sh (.int (k : Nat))) := List.getElem?_set_self hlt
  simp [e0, ev, ep, er]
theorem law_ok (n : Nat) (ns : List Int) (h : ns.length ≤ 63) : callF restL (n + 7) 0 [.list (ns.map .int)] = .ok (.bool true) [] := by
  rw [lk rfl, runFn_ap _ _ _ (by simp [fn_law]; rfl)]
  obtain ⟨N, hN4, eN⟩ := max_min 4 (by omega) ns.length
  have e2 := tail_lc (v := 1) (s_purse (n + 5)) (s_right n) h (r := [.sh (.list (ns.map .int)), .no]) (by simp) (by simp) (by simp) (by omega) N (by omega)
  have hN5 : N ≤ 100000 := by omega
  have eM : ap .min2 [.int (ns.length : Int), .int 4] = some (.int (if (4 : Int) < (ns.length : Int) then (4 : Int) else (ns.length : Int))) := rfl
  have eN' : ap .max2 [.int 2, .int (if (4 : Int) < (ns.length : Int) then (4 : Int) else (ns.length : Int))] = some (.int N) := eN
  simp [fn_law, -ap_max2, -ap_min2, eM, eN', hN5, e2]
theorem pure_law (ns : List Int) (h : ns.length ≤ 63) : ∃ outs, callF restL 40 0 [.list (ns.map .int)] = .ok (.bool true) outs := ⟨[], law_ok 33 ns h⟩
end L07
set_option Elab.async false
set_option linter.all false
set_option maxRecDepth 100000
set_option maxHeartbeats 0
namespace L07
open PySem L2 M3 M4
def top (i : Nat) : Stmt := PySem.Challenge.pw_menuhouses_k07_rankings_without_things_a.main.body.getD i (.Pass ⟨0, 0, 0, 0⟩)
def dE (i : Nat) (name : Str) (N ps : List Str) (F : Fn) : DefE := ⟨name, name, defArgs (top i), defBody (top i), defScope (top i), N, ps, F, .fn name⟩
def inC (i j : Nat) : Stmt := (clsB (top i)).getD j (.Pass ⟨0, 0, 0, 0⟩)
def dM (i j : Nat) (name qual : Str) (N ps : List Str) (F : Fn) (a : At) : DefE := ⟨name, qual, defArgs (inC i j), defBody (inC i j), defScope (inC i j), N, ps, F, a⟩
-- 0 law
def d_law : DefE := dE 33 "law" ["_law_script", "_law_spot"] ["_law_script"] (fn_law 1 21)
theorem kb_law : KbD d_law := .m1 rfl (fun _ _ _ _ _ _ us hl => match us, hl with | [_], _ => rfl)
-- 1 _law_right
def d_right : DefE := dE 32 "_law_right" ["_law_purse_here", "_law_row", "_law_ranking", "_law_turn", "_law_back", "_law_names", "_law_rest", "_law_told", "_law_k", "_law_thing"] ["_law_purse_here"] (fn_right 3 4 2 5 8 12 13 14 15 20 18)
theorem kb_right : KbD d_right := .m1 rfl (fun _ _ _ _ _ _ us hl => match us, hl with | [_], _ => rfl)
-- 2 _law_order
def d_order : DefE := dE 30 "_law_order" ["_law_purse_here", "_law_things_here", "_law_turn", "_law_left", "_law_found"] ["_law_purse_here", "_law_things_here"] (M4.fn_order 3)
theorem kb_order : KbD d_order := .m1 rfl (fun _ _ _ _ _ _ us hl => match us, hl with | [_, _], _ => rfl)
-- 3 _law_draw
def d_draw : DefE := dE 28 "_law_draw" ["_law_purse_here", "_law_many", "_law_digit"] ["_law_purse_here", "_law_many"] (M4.fn_draw)
theorem kb_draw : KbD d_draw := .m1 rfl (fun _ _ _ _ _ _ us hl => match us, hl with | [_, _], _ => rfl)
-- 4 _law_things
def d_things : DefE := dE 29 "_law_things" ["_law_purse_here", "_law_many", "_law_pool", "_law_found", "_law_turn"] ["_law_purse_here", "_law_many"] (M4.fn_things 3)
theorem kb_things : KbD d_things := .m1 rfl (fun _ _ _ _ _ _ us hl => match us, hl with | [_, _], _ => rfl)
-- 5 Ranking.__init__
def d_Ranking_init : DefE := dM 24 0 "__init__" "Ranking.__init__" ["self", "row", "wrong"] ["self", "row"] (M4.fn_Ranking_init 6) (.me "Ranking" "__init__" .init)
theorem kb_Ranking_init : KbD d_Ranking_init := .m1 rfl (fun _ _ _ _ _ _ us hl => match us, hl with | [_, _], _ => rfl)
-- 6 wrong_name
def d_wrong_name : DefE := dE 23 "wrong_name" ["row", "k", "name"] ["row"] (M4.fn_wrong_name 7)
theorem kb_wrong_name : KbD d_wrong_name := .m1 rfl (fun _ _ _ _ _ _ us hl => match us, hl with | [_], _ => rfl)
-- 7 is_name
def d_is_name : DefE := dE 17 "is_name" ["value", "sign"] ["value"] (M4.fn_is_name)
theorem kb_is_name : KbD d_is_name := .m1 rfl (fun _ _ _ _ _ _ us hl => match us, hl with | [_], _ => rfl)
-- 8 _law_without
def d_without : DefE := dE 31 "_law_without" ["_law_ranking", "_law_names"] ["_law_ranking", "_law_names"] (fn_without 9)
theorem kb_without : KbD d_without := .m1 rfl (fun _ _ _ _ _ _ us hl => match us, hl with | [_, _], _ => rfl)
-- 9 Ranking.without
def d_Ranking_without : DefE := dM 24 8 "without" "Ranking.without" ["self", "names", "name"] ["self", "names"] (fn_Ranking_without 10 5) (.me "Ranking" "without" .meth)
theorem kb_Ranking_without : KbD d_Ranking_without := .st rfl (fun _ _ _ _ _ _ _ => rfl) (fun _ _ _ _ _ _ _ _ _ => rfl)
-- 10 check_thing
def d_check_thing : DefE := dE 21 "check_thing" ["thing", "things"] ["thing", "things"] (M4.fn_check_thing 11)
theorem kb_check_thing : KbD d_check_thing := .m1 rfl (fun _ _ _ _ _ _ us hl => match us, hl with | [_, _], _ => rfl)
-- 11 is_thing
def d_is_thing : DefE := dE 20 "is_thing" ["value", "things"] ["value", "things"] (M4.fn_is_thing)
theorem kb_is_thing : KbD d_is_thing := .m1 rfl (fun _ _ _ _ _ _ us hl => match us, hl with | [_, _], _ => rfl)
-- 12 Ranking.row
def d_Ranking_row : DefE := dM 24 3 "row" "Ranking.row" ["self"] ["self"] (M4.fn_Ranking_row) (.me "Ranking" "row" .prop)
theorem kb_Ranking_row : KbD d_Ranking_row := .m1 rfl (fun _ _ _ _ _ _ us hl => match us, hl with | [_], _ => rfl)
-- 13 Ranking.__eq__
def d_Ranking___eq__ : DefE := dM 24 15 "__eq__" "Ranking.__eq__" ["self", "other"] ["self", "other"] (fn_Ranking___eq__) (.me "Ranking" "__eq__" .meth)
theorem kb_Ranking___eq__ : KbD d_Ranking___eq__ := .m1 rfl (fun _ _ _ _ _ _ us hl => match us, hl with | [_, _], _ => rfl)
-- 14 Ranking.__str__
def d_Ranking___str__ : DefE := dM 24 16 "__str__" "Ranking.__str__" ["self"] ["self"] (fn_Ranking___str__) (.me "Ranking" "__str__" .meth)
theorem kb_Ranking___str__ : KbD d_Ranking___str__ := .m1 rfl (fun _ _ _ _ _ _ us hl => match us, hl with | [_], _ => rfl)
-- 15 Ranking.best
def d_Ranking_best : DefE := dM 24 5 "best" "Ranking.best" ["self", "menu"] ["self", "menu"] (fn_Ranking_best 18 16 19) (.me "Ranking" "best" .meth)
theorem kb_Ranking_best : KbD d_Ranking_best := .m1 rfl (fun _ _ _ _ _ _ us hl => match us, hl with | [_, _], _ => rfl)
-- 16 check_menu
def d_check_menu : DefE := dE 19 "check_menu" ["menu", "things", "wrong"] ["menu", "things"] (M4.fn_check_menu 17)
theorem kb_check_menu : KbD d_check_menu := .m1 rfl (fun _ _ _ _ _ _ us hl => match us, hl with | [_, _], _ => rfl)
-- 17 wrong_place
def d_wrong_place : DefE := dE 18 "wrong_place" ["value", "things", "k", "thing"] ["value", "things"] (M4.fn_wrong_place)
theorem kb_wrong_place : KbD d_wrong_place := .m1 rfl (fun _ _ _ _ _ _ us hl => match us, hl with | [_, _], _ => rfl)
-- 18 Ranking.things
def d_Ranking_things : DefE := dM 24 4 "things" "Ranking.things" ["self", "name"] ["self"] (M4.fn_Ranking_things) (.me "Ranking" "things" .prop)
theorem kb_Ranking_things : KbD d_Ranking_things := .m1 rfl (fun _ _ _ _ _ _ us hl => match us, hl with | [_], _ => rfl)
-- 19 best_of
def d_best_of : DefE := dE 11 "best_of" ["row", "menu", "thing"] ["row", "menu"] (M4.fn_best_of)
theorem kb_best_of : KbD d_best_of := .m1 rfl (fun _ _ _ _ _ _ us hl => match us, hl with | [_, _], _ => rfl)
-- 20 Ranking.__neg__
def d_Ranking___neg__ : DefE := dM 24 11 "__neg__" "Ranking.__neg__" ["self"] ["self"] (fn_Ranking___neg__ 5) (.me "Ranking" "__neg__" .meth)
theorem kb_Ranking___neg__ : KbD d_Ranking___neg__ := .m1 rfl (fun _ _ _ _ _ _ us hl => match us, hl with | [_], _ => rfl)
-- 21 _law_purse
def d_purse : DefE := dE 27 "_law_purse" ["_law_script", "_law_spot", "_law_cell", "_law_seed", "_law_one"] ["_law_script", "_law_spot"] (M4.fn_purse)
theorem kb_purse : KbD d_purse := .m1 rfl (fun _ _ _ _ _ _ us hl => match us, hl with | [_, _], _ => rfl)
def tab : List DefE := [d_law, d_right, d_order, d_draw, d_things, d_Ranking_init, d_wrong_name, d_is_name, d_without, d_Ranking_without, d_check_thing, d_is_thing, d_Ranking_row, d_Ranking___eq__, d_Ranking___str__, d_Ranking_best, d_check_menu, d_wrong_place, d_Ranking_things, d_best_of, d_Ranking___neg__, d_purse]
theorem kbs : AllKb tab := ⟨kb_law, kb_right, kb_order, kb_draw, kb_things, kb_Ranking_init, kb_wrong_name, kb_is_name, kb_without, kb_Ranking_without, kb_check_thing, kb_is_thing, kb_Ranking_row, kb_Ranking___eq__, kb_Ranking___str__, kb_Ranking_best, kb_check_menu, kb_wrong_place, kb_Ranking_things, kb_best_of, kb_Ranking___neg__, kb_purse, trivial⟩
def cst : List (Str × PyData) := [("LETTERS", .str "abcdefghijklmnopqrstuvwxyz"), ("MOST_THINGS", .int 10), ("SIGNS", .str "abcdefghijklmnopqrstuvwxyz0123456789")]
def cla : List (Str × List Str) := [("Ranking", ["names"])]
def loose0 : List Str := ["_wall", "WrongValue", "WrongName", "InvalidText", "InvalidIndex", "InvalidRow", "InvalidMenu", "UnknownThing", "MOST_THINGS", "best_of", "LETTERS", "SIGNS", "is_natural", "is_index", "is_name", "wrong_place", "check_menu", "is_thing", "check_thing", "wrong_name", "Ranking", "ranking_of", "_law_purse", "_law_draw", "_law_things", "_law_order", "_law_without", "_law_right"]
def loose : List Str := loose0
-- law (def 0) at 33 of 34
theorem tab_eq : tab.map DefE.F = restL := rfl

abbrev R : PySem.W.OpenRow := PySem.W.OpenLaw.row PySem.Challenge.rw_menuhouses_k07_rankings_without_things_a
abbrev hk : PySem.W.Hook := hkC 6 tab cst cla
def ob (s : PySem.W.SharedT) : AV := obG 6 tab cst cla (HandSHeadRun.getT s)
theorem ob_eq (s : PySem.W.SharedT) : ob s = hk.obs s.abs := obG_eq (HandSHeadRun.getT_eq s)
theorem run (w : World) : HandSHeadRun.RunEq R (PySem.W.view R.prog [33]) hk ob 4000 loose w := by
  intro os
  kernel_rfl
theorem chk : (tab.all (okDef (fsOf tab) cst cla)) = true := by kernel_rfl
end L07
open PySem PySem.W PySem.Calls PyProof.Rows
theorem PySem.Challenge.cw_menuhouses_k07_rankings_without_things_a_holds : PySem.Challenge.rw_menuhouses_k07_rankings_without_things_a.Holds := by
  w_on; o_law
  refine HandSHeadRun.head_any (r := OpenLaw.row PySem.Challenge.rw_menuhouses_k07_rankings_without_things_a) (q := view (OpenLaw.row PySem.Challenge.rw_menuhouses_k07_rankings_without_things_a).prog [33]) (H := L07.hk) (ob := L07.ob) (M := 4000) (loose := L07.loose) (d := HandSHeadRun.topDef (OpenLaw.row PySem.Challenge.rw_menuhouses_k07_rankings_without_things_a).prog 33) (kwd := []) L07.ob_eq
    (by kernel_rfl) (fun s => by kernel_rfl) L07.run (by kernel_rfl) (by kernel_rfl) (by kernel_rfl) (by rfl) (by first | assumption | decide +kernel) (by decide +kernel) ⟨rfl, rfl, rfl, rfl, rfl, by decide +kernel⟩ ?hw ?hc
  case hw => w_witness2
  case hc =>
    exact M3.law_walk (l := PySem.Challenge.rw_menuhouses_k07_rankings_without_things_a) (n := 63) (k := 40) (i := 0) (x := "_law_script") (dl := L07.d_law) (T := L07.tab) (cs := L07.cst) (cl := L07.cla) (m := 6) rfl (by decide) (by kernel_rfl) ⟨rfl, by decide, by decide⟩ (by kernel_rfl) rfl rfl rfl rfl rfl rfl L07.chk L07.kbs L07.pure_law
