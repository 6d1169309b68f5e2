import PyProof.Rows.All
import Wide.All
import OpenK.AllK
import Wide.FinOn
import HandS.ForMost
import HandS.Flow
import HandS.Style
import HandS.Deep
import HandS.Conv
import HandS.Zip
import HandS.TupAny
import HandS.TupMul
import HandS.IsInst
import KE.SortData
import KE.SortKeyHeap
import KE.DataCmp
import KE.DataMinMax
import KE.GoesEnum
import KE.GoesMore
import KE.KDictKeyed
import KE.GoesNew
import PySem.Challenge.RW_whoseasks_k73_whole_buckets_delayed_and
set_option Elab.async false
set_option linter.all false
set_option maxRecDepth 100000
/-! PX: a small syntax with slots in the place of names, and what it computes on plain data. -/
namespace PX
open PySem PyProof.Rows

abbrev D := PyData

/-- an outcome -/
inductive R (α : Type) where
  | ok (a : α)
  | ex (e : D)
  | no
@[inline] def R.bind {α β : Type} (r : R α) (f : α → R β) : R β := match r with
  | .ok a => f a
  | .ex e => .ex e
  | .no => .no
instance : Monad R where
  pure := R.ok
  bind := R.bind
theorem ok_bind {α β : Type} (a : α) (f : α → R β) : (R.ok a >>= f) = f a := rfl
theorem ex_bind {α β : Type} (e : D) (f : α → R β) : ((R.ex e : R α) >>= f) = R.ex e := rfl
theorem no_bind {α β : Type} (f : α → R β) : ((R.no : R α) >>= f) = R.no := rfl
theorem pure_ok {α : Type} (a : α) : (pure a : R α) = R.ok a := rfl
/-- a thing under a test -/
def req {α : Type} (b : Bool) (x : R α) : R α := if b then x else .no
theorem req_true {α : Type} (x : R α) : req true x = x := rfl

/-- what a slot holds: nothing; a value that never changes; a list (or dict) of the def's own; one that a caller handed in to be changed -/
inductive Sv where
  | un | frz (d : D) | own (d : D) | io (d : D)
abbrev Sl := List Sv
/-- what an expression comes to -/
inductive Ar where
  | frz (d : D) | own (d : D) | sl (i : Nat)
def Ar.get (s : Sl) : Ar → R D
  | .frz d => .ok d
  | .own d => .ok d
  | .sl i => match s[i]? with
    | some (.frz d) => .ok d
    | some (.own d) => .ok d
    | some (.io d) => .ok d
    | _ => .no
/-- as a value that never changes again -/
def Ar.take (s : Sl) : Ar → R (D × Sl)
  | .frz d => .ok (d, s)
  | .own d => .ok (d, s)
  | .sl i => match s[i]? with
    | some (.frz d) => .ok (d, s)
    | some (.own d) => .ok (d, s.set i (.frz d))
    | _ => .no
def takeAll : List Ar → Sl → R (List D × Sl)
  | [], s => .ok ([], s)
  | a :: as, s => do
    let (d, s1) ← a.take s
    let (ds, s2) ← takeAll as s1
    pure (d :: ds, s2)
def getAll (s : Sl) : List Ar → R (List D)
  | [] => .ok []
  | a :: as => do
    let d ← a.get s
    let ds ← getAll s as
    pure (d :: ds)
mutual
/-- no list (nor dict) within -/
def nl : D → Bool
  | .none => true
  | .bool _ => true
  | .int _ => true
  | .str _ => true
  | .tuple xs => nls xs
  | .list _ => false
  | .dict _ => false
def nls : List D → Bool
  | [] => true
  | x :: xs => nl x && nls xs
end

inductive Bop where
  | add | sub | mul | fdiv | mod | pow
inductive Cop where
  | eq | ne | lt | le | gt | ge | inn | nin | iss | isn
inductive Bi where
  | len | abs | int | min | max | sum | sorted | all | any | tuple | list | isI | isB | isS | isT | isL
inductive Mut where
  | append | extend | pop | popAt
def small64 (i : Int) : Bool := decide (-(2 ^ 64) < i) && decide (i < 2 ^ 64)
def bop : Bop → D → D → R Ar
  | .add, .int i, .int j => .ok (.frz (.int (i + j)))
  | .add, .str x, .str y => req (decide (x.length + y.length ≤ sizeLine)) (.ok (.frz (.str (x ++ y))))
  | .add, .list xs, .list ys => req (decide (xs.length + ys.length ≤ sizeLine)) (.ok (.own (.list (xs ++ ys))))
  | .add, .tuple xs, .tuple ys => req (decide (xs.length + ys.length ≤ sizeLine)) (.ok (.frz (.tuple (xs ++ ys))))
  | .sub, .int i, .int j => .ok (.frz (.int (i - j)))
  | .mul, .int i, .int j => req (small64 i || small64 j) (.ok (.frz (.int (i * j))))
  | .mul, .tuple xs, .int k => req (!xs.isEmpty && decide (2 ≤ k) && decide (k ≤ 1000) && decide (xs.length ≤ 1000)) (.ok (.frz (.tuple (List.replicate k.toNat xs).flatten)))
  | .fdiv, .int i, .int j => req (decide (0 < j) && decide (j < 1073741824)) (.ok (.frz (.int (i / j))))
  | .mod, .int i, .int j => req (decide (0 < j)) (.ok (.frz (.int (i % j))))
  | .pow, .int i, .int j => req (decide (0 ≤ j) && decide (j ≤ 1000000) && decide (i.natAbs < 2 ^ 64)) (.ok (.frz (.int (i ^ j.toNat))))
  | _, _, _ => .no
def cmpData (x y : D) (f : Bool) : R Bool := req (PySem.W.alike x y && (match x with | .none => false | _ => true) && decide (x.depth ≤ 64)) (.ok f)
def inData (x : D) (ds : List D) : R Bool := req (SeqAt.shaped x && SeqAt.shaped (.list ds)) (.ok (ds.any fun z => PyData.eqv z x))
def cop : Cop → D → D → R Bool
  | .eq, .int i, .int j => .ok (decide (i = j))
  | .eq, x, y => req (SeqAt.shaped x && SeqAt.shaped y) (.ok (PyData.eqv x y))
  | .ne, .int i, .int j => .ok (!decide (i = j))
  | .ne, x, y => req (SeqAt.shaped x && SeqAt.shaped y) (.ok (!PyData.eqv x y))
  | .lt, .int i, .int j => .ok (decide (i < j))
  | .lt, x, y => cmpData x y (PySem.W.dataLt x y)
  | .le, .int i, .int j => .ok (decide (i ≤ j))
  | .le, x, y => cmpData x y (!PySem.W.dataLt y x)
  | .gt, .int i, .int j => .ok (decide (j < i))
  | .gt, x, y => cmpData x y (PySem.W.dataLt y x)
  | .ge, .int i, .int j => .ok (decide (j ≤ i))
  | .ge, x, y => cmpData x y (!PySem.W.dataLt x y)
  | .inn, .str x, .str y => .ok (!(Builtin.Str.occurrences y x 0 y.length 1).isEmpty)
  | .inn, x, .list ds => inData x ds
  | .inn, x, .tuple ds => inData x ds
  | .nin, .str x, .str y => .ok (!(!(Builtin.Str.occurrences y x 0 y.length 1).isEmpty))
  | .nin, x, .list ds => do let b ← inData x ds; pure (!b)
  | .nin, x, .tuple ds => do let b ← inData x ds; pure (!b)
  | .iss, .none, .none => .ok true
  | .iss, _, .none => .ok false
  | .iss, .bool a, .bool b => .ok (decide (a = b))
  | .isn, .none, .none => .ok false
  | .isn, _, .none => .ok true
  | .isn, .bool a, .bool b => .ok (!decide (a = b))
  | _, _, _ => .no
def truth : D → R Bool
  | .none => .ok false
  | .bool b => .ok b
  | .int i => .ok (i != 0)
  | .str x => req (decide (x.length ≤ sizeLine)) (.ok ((x.length : Int) != 0))
  | .list xs => .ok (!xs.isEmpty)
  | .tuple xs => .ok (!xs.isEmpty)
  | .dict _ => .no
def intsD : List D → Option (List Int)
  | [] => some []
  | .int i :: r => (intsD r).map (i :: ·)
  | _ => none
def boolsD : List D → Option (List Bool)
  | [] => some []
  | .bool i :: r => (boolsD r).map (i :: ·)
  | _ => none
def alikeB (xs : List D) : Bool := (xs.all fun x => xs.all fun y => PySem.W.alike x y) && xs.all fun x => match x with | .none => false | _ => true
def sortB (xs : List D) : Bool := (xs.all fun x => xs.all fun y => PySem.W.alike x y) && ((xs.all fun x => match x with | .tuple (_ :: _) => true | _ => false) || xs.all fun x => match x with | .tuple _ => false | .none => false | _ => true)
def okNum (n : Nat) : R Ar := .ok (.frz (.int n))
def okB (b : Bool) : R Ar := .ok (.frz (.bool b))
def bi : Bi → List D → R Ar
  | .len, [.str x] => req (decide (x.length ≤ sizeLine)) (okNum x.length)
  | .len, [.list xs] => okNum xs.length
  | .len, [.tuple xs] => okNum xs.length
  | .abs, [.int i] => .ok (.frz (.int (if i < 0 then -i else i)))
  | .int, [.int i] => .ok (.frz (.int i))
  | .int, [.bool b] => .ok (.frz (.int (if b then 1 else 0)))
  | .min, [.int i, .int j] => .ok (.frz (.int (if j < i then j else i)))
  | .max, [.int i, .int j] => .ok (.frz (.int (if j > i then j else i)))
  | .min, [.list (x :: xs)] => req (alikeB (x :: xs) && decide (PyData.depthAll (x :: xs) ≤ 64)) (.ok (.frz (PySem.W.minD x xs)))
  | .max, [.list (x :: xs)] => req (alikeB (x :: xs) && decide (PyData.depthAll (x :: xs) ≤ 64)) (.ok (.frz (PySem.W.maxD x xs)))
  | .sum, [.list xs] => match intsD xs with | some ns => .ok (.frz (.int ns.sum)) | none => .no
  | .sorted, [.list xs] => req (sortB xs && decide (xs.length ≤ sizeLine) && xs.all fun x => decide (x.depth ≤ 64)) (.ok (.own (.list (xs.mergeSort (PySem.W.dataLe false id)))))
  | .all, [.list xs] => match boolsD xs with | some bs => okB (bs.all id) | none => .no
  | .any, [.list xs] => match boolsD xs with | some bs => okB (bs.any id) | none => .no
  | .tuple, [.list xs] => .ok (.frz (.tuple xs))
  | .tuple, [.tuple xs] => .ok (.frz (.tuple xs))
  | .list, [.list xs] => .ok (.own (.list xs))
  | .list, [.tuple xs] => .ok (.own (.list xs))
  | .isI, [.int _] => okB true
  | .isI, [.bool _] => okB true
  | .isI, [_] => okB false
  | .isB, [.bool _] => okB true
  | .isB, [_] => okB false
  | .isS, [.str _] => okB true
  | .isS, [_] => okB false
  | .isT, [.tuple _] => okB true
  | .isT, [_] => okB false
  | .isL, [.list _] => okB true
  | .isL, [_] => okB false
  | _, _ => .no
/-- x[i] -/
def item : D → D → R D
  | .list xs, .int i => match L2.atI xs i with | some d => .ok d | none => .no
  | .tuple xs, .int i => match L2.atI xs i with | some d => .ok d | none => .no
  | .str z, .int i => req (decide (z.length ≤ sizeLine)) (match L2.atI z.cps.toList i with | some c => .ok (.str ⟨#[c]⟩) | none => .no)
  | _, _ => .no
def optI : D → Option (Option Int)
  | .none => some none
  | .int i => some (some i)
  | _ => none
def cutD {α : Type} (xs : List α) (lo hi : Option Int) : List α := (xs.drop (HT.sIx xs.length 0 lo)).take (HT.sIx xs.length xs.length hi - HT.sIx xs.length 0 lo)
def slice : D → D → D → R Ar
  | .list xs, lo, hi => match optI lo, optI hi with | some a, some b => .ok (.own (.list (cutD xs a b))) | _, _ => .no
  | .tuple xs, lo, hi => match optI lo, optI hi with | some a, some b => .ok (.frz (.tuple (cutD xs a b))) | _, _ => .no
  | _, _, _ => .no
def mutD : Mut → D → List D → R (D × D)
  | .append, .list xs, [d] => req (decide (xs.length < sizeLine)) (.ok (.none, .list (xs ++ [d])))
  | .extend, .list xs, [.list ys] => req (decide (xs.length + ys.length ≤ sizeLine)) (.ok (.none, .list (xs ++ ys)))
  | .pop, .list xs, [] => match xs[xs.length - 1]? with | some d => .ok (d, .list xs.dropLast) | none => .no
  | .popAt, .list xs, [.int i] => req (decide (-(2 ^ 63) ≤ i) && decide (i < 2 ^ 63)) (match L2.ixN xs.length i with | some k => (match xs[k]? with | some d => .ok (d, .list (xs.eraseIdx k)) | none => .no) | none => .no)
  | _, _, _ => .no
def store : D → D → D → R D
  | .list xs, .int k, v => match L2.ixN xs.length k with | some j => .ok (.list (xs.set j v)) | none => .no
  | _, _, _ => .no

mutual
inductive IE where
  | sl (i : Nat)
  | cst (d : D)
  | gc (x : String) (d : D)
  | tup (es : IEs)
  | lst (es : IEs)
  | bin (op : Bop) (a b : IE)
  | neg (a : IE)
  | cmp (op : Cop) (a b : IE)
  | ch2 (o1 o2 : Cop) (a b c : IE)
  | and (a b : IE)
  | or (a b : IE)
  | not (a : IE)
  | ite (c a b : IE)
  | ix (a i : IE)
  | slc (a lo hi : IE)
  | call (f : Nat) (io : List Nat) (es : IEs)
  | bi (b : Bi) (es : IEs)
  | mtd (m : Mut) (i : Nat) (es : IEs)
  | cm (elt : IE) (t : IT) (it : II) (own : List Nat)
  | cmi (elt : IE) (t : IT) (it : II) (c : IE) (own : List Nat)
  | srtk (f : Nat) (a : IE)
  | ofi (tq : Bool) (it : II)
inductive IEs where
  | nil
  | cons (e : IE) (es : IEs)
inductive IT where
  | nm (i : Nat)
  | tp (ts : ITs)
inductive ITs where
  | nil
  | cons (t : IT) (ts : ITs)
inductive II where
  | seq (e : IE)
  | r1 (a : IE)
  | r2 (a b : IE)
  | r3 (a b c : IE)
  | enu (e : IE)
  | zp (a b : IE)
  | zp3 (a b c : IE)
end
mutual
inductive IS where
  | asg (t : IT) (e : IE)
  | pas (ts : ITs) (es : IEs)
  | sto (i : Nat) (k e : IE)
  | ex (e : IE)
  | ite (c : IE) (a b : ISs)
  | for_ (t : IT) (it : II) (body : ISs)
  | wh (c : IE) (body : ISs)
  | ret (e : IE)
  | retn
  | brk
  | cnt
  | pass
  | raise
inductive ISs where
  | nil
  | cons (s : IS) (ss : ISs)
end

/-- a part of a slice: left out, or an int -/
def partB : IE → D → Bool
  | .cst .none, _ => true
  | _, .int _ => true
  | _, _ => false
/-- what a def hands back: is it the caller's own now; the value; what has become of what was handed in to be changed -/
structure CR where
  own : Bool
  d : D
  outs : List D
inductive Out where
  | nx (s : Sl)
  | rt (own : Bool) (d : D) (s : Sl)
  | bk (s : Sl)
  | ct (s : Sl)

def isOwn : Option Sv → Bool
  | some (.own _) => true
  | some (.io _) => true
  | _ => false
def isSl (i : Nat) : Ar → Bool
  | .sl j => j == i
  | _ => false
/-- what is handed in to be changed stands in a slot of the def's own, and is handed in once -/
def okIo (as : List Ar) (s : Sl) : List Nat → Bool
  | [] => true
  | p :: ps => (match as[p]? with
    | some (.sl i) => (match s[i]? with | some (.own _) => true | some (.io _) => true | _ => false) && decide ((as.filter (isSl i)).length = 1)
    | _ => false) && okIo as s ps
def putIo (as : List Ar) : List Nat → List D → Sl → R Sl
  | [], [], s => .ok s
  | p :: ps, d :: ds, s => match as[p]? with
    | some (.sl i) => match s[i]? with
      | some (.own _) => putIo as ps ds (s.set i (.own d))
      | some (.io _) => putIo as ps ds (s.set i (.io d))
      | _ => .no
    | _ => .no
  | _, _, _ => .no
/-- what was handed in, and may be within what came back, never changes again -/
def freezeAs (io : List Nat) : Nat → List Ar → Sl → R Sl
  | _, [], s => .ok s
  | p, a :: as, s => if p ∈ io then freezeAs io (p + 1) as s else match a with
    | .sl i => match s[i]? with
      | some (.own d) => freezeAs io (p + 1) as (s.set i (.frz d))
      | some (.frz _) => freezeAs io (p + 1) as s
      | _ => .no
    | _ => freezeAs io (p + 1) as s
def nlL : D → Bool
  | .list xs => nls xs
  | _ => false
def nlR (r : CR) : Bool := (if r.own then nlL r.d else nl r.d) && r.outs.all nlL
def callEnd (io : List Nat) (as : List Ar) (r : CR) (s : Sl) : R (Ar × Sl) := do
  let s1 ← putIo as io r.outs s
  let s2 ← (if nlR r then .ok s1 else freezeAs io 0 as s1)
  pure (if r.own then .own r.d else .frz r.d, s2)

def wipeS (s : Sl) : List Nat → Sl
  | [] => s
  | v :: vs => (wipeS s vs).set v .un
/-- the comprehension's own names are as before -/
def backS (s0 s : Sl) : List Nat → Sl
  | [] => s
  | v :: vs => (backS s0 s vs).set v (match s0[v]? with | some (.frz d) => .frz d | _ => .un)

def loopF (body : D → Sl → R Out) : List D → Sl → R Out
  | [], s => .ok (.nx s)
  | x :: xs, s => (body x s).bind fun o => match o with
    | .nx s' => loopF body xs s'
    | .ct s' => loopF body xs s'
    | .bk s' => .ok (.nx s')
    | .rt o d s' => .ok (.rt o d s')
def whileF (c : Sl → R (Bool × Sl)) (body : Sl → R Out) : Nat → Sl → R Out
  | 0, _ => .no
  | n + 1, s => (c s).bind fun (b, s1) => if b then (body s1).bind fun o => match o with
      | .nx s' => whileF c body n s'
      | .ct s' => whileF c body n s'
      | .bk s' => .ok (.nx s')
      | .rt o d s' => .ok (.rt o d s')
    else .ok (.nx s1)
/-- a comprehension's turns: elt gives none where the test is false -/
def compF (elt : D → Sl → R (Option D × Sl)) : List D → Sl → List D → R (List D × Sl)
  | [], s, acc => .ok (acc, s)
  | x :: xs, s, acc => (elt x s).bind fun (o, s') => match o with
    | some d => compF elt xs s' (acc ++ [d])
    | none => compF elt xs s' acc
def zip2 : List D → List D → List D
  | x :: xs, y :: ys => .tuple [x, y] :: zip2 xs ys
  | _, _ => []
def zip3 : List D → List D → List D → List D
  | x :: xs, y :: ys, z :: zs => .tuple [x, y, z] :: zip3 xs ys zs
  | _, _, _ => []
def enuF : Nat → List D → List D
  | _, [] => []
  | n, x :: xs => .tuple [.int n, x] :: enuF (n + 1) xs
def small62 (i : Int) : Bool := decide (-(2 ^ 62) ≤ i) && decide (i < 2 ^ 62)
def rangeD (lo : Int) (n : Nat) (c : Int) : List D := (List.range n).map fun (k : Nat) => .int (lo + (k : Nat) * c)
def rlen3 (i j c : Int) : Nat := (Builtin.Range.rangeSize i j c).toNat
def seqD : D → R (List D)
  | .list xs => .ok xs
  | .tuple xs => .ok xs
  | .str z => .ok (z.cps.toList.map fun c => .str ⟨#[c]⟩)
  | _ => .no
def seqL : D → R (List D)
  | .list xs => .ok xs
  | .tuple xs => .ok xs
  | .str z => .ok (z.cps.toList.map fun c => .str ⟨#[c]⟩)
  | _ => .no
/-- a store to a name -/
def setS (i : Nat) (v : Sv) (s : Sl) : R Sl := match s[i]? with
  | some (.io _) => .no
  | some _ => .ok (s.set i v)
  | none => .no
mutual
/-- a store of a value that never changes -/
def putT : IT → D → Sl → R Sl
  | .nm i, d, s => setS i (.frz d) s
  | .tp ts, .tuple ds, s => putTs ts ds s
  | .tp _, _, _ => .no
def putTs : ITs → List D → Sl → R Sl
  | .nil, [], s => .ok s
  | .cons t ts, d :: ds, s => (putT t d s).bind fun s1 => putTs ts ds s1
  | _, _, _ => .no
end
def asgT (t : IT) (a : Ar) (s : Sl) : R Sl := match t, a with
  | .nm i, .own d => setS i (.own d) s
  | t, a => (a.take s).bind fun (d, s1) => putT t d s1
/-- out of the slots: what is another slot's is frozen -/
def outA (a : Ar) (s : Sl) : R (Ar × Sl) := match a with
  | .sl i => (Ar.take s (.sl i)).bind fun (d, s1) => .ok (.frz d, s1)
  | a => .ok (a, s)
def outAs : List Ar → Sl → R (List Ar × Sl)
  | [], s => .ok ([], s)
  | a :: as, s => (outA a s).bind fun (b, s1) => (outAs as s1).bind fun (bs, s2) => .ok (b :: bs, s2)
def asgTs : ITs → List Ar → Sl → R Sl
  | .nil, [], s => .ok s
  | .cons t ts, a :: as, s => (asgT t a s).bind fun s1 => asgTs ts as s1
  | _, _, _ => .no
def WF : Nat := 1000000

section
variable (cal : Nat → List D → R CR)
/-- sorted by a key: the keys of the items -/
def keysF (f : Nat) : List D → R (List D)
  | [] => .ok []
  | x :: xs => (cal f [x]).bind fun r => (keysF f xs).bind fun ks => req (!r.own && r.outs.isEmpty) (.ok (r.d :: ks))
mutual
def evE : IE → Sl → R (Ar × Sl)
  | .sl i, s => match s[i]? with
    | none => .no
    | some .un => .no
    | some (.frz d) => .ok (.frz d, s)
    | some _ => .ok (.sl i, s)
  | .cst d, s => .ok (.frz d, s)
  | .gc _ d, s => .ok (.frz d, s)
  | .tup es, s => (evAs es s).bind fun (as, s1) => (takeAll as s1).bind fun (ds, s2) => req (decide (ds.length ≤ sizeLine)) (.ok (.frz (.tuple ds), s2))
  | .lst es, s => (evAs es s).bind fun (as, s1) => (takeAll as s1).bind fun (ds, s2) => req (decide (ds.length ≤ sizeLine)) (.ok (.own (.list ds), s2))
  | .bin op a b, s => (evE a s).bind fun (x, s1) => (evE b s1).bind fun (y, s2) => (x.get s2).bind fun dx => (y.get s2).bind fun dy => (bop op dx dy).bind fun r => .ok (r, s2)
  | .neg a, s => (evE a s).bind fun (x, s1) => (x.get s1).bind fun d => match d with | .int i => .ok (.frz (.int (-i)), s1) | _ => .no
  | .cmp op a b, s => (evE a s).bind fun (x, s1) => (evE b s1).bind fun (y, s2) => (x.get s2).bind fun dx => (y.get s2).bind fun dy => (cop op dx dy).bind fun r => .ok (.frz (.bool r), s2)
  | .ch2 o1 o2 a b c, s => (evE a s).bind fun (x, s1) => (evE b s1).bind fun (y, s2) => (x.get s2).bind fun dx => (y.get s2).bind fun dy => (cop o1 dx dy).bind fun r =>
      if r then (evE c s2).bind fun (z, s3) => (y.get s3).bind fun dy' => (z.get s3).bind fun dz => (cop o2 dy' dz).bind fun r2 => .ok (.frz (.bool r2), s3) else .ok (.frz (.bool false), s2)
  | .and a b, s => (evE a s).bind fun (x, s1) => (x.get s1).bind fun d => (truth d).bind fun t => if t then evE b s1 else .ok (x, s1)
  | .or a b, s => (evE a s).bind fun (x, s1) => (x.get s1).bind fun d => (truth d).bind fun t => if t then .ok (x, s1) else evE b s1
  | .not a, s => (evE a s).bind fun (x, s1) => (x.get s1).bind fun d => (truth d).bind fun t => .ok (.frz (.bool (!t)), s1)
  | .ite c a b, s => (evE c s).bind fun (x, s1) => (x.get s1).bind fun d => (truth d).bind fun t => if t then evE a s1 else evE b s1
  | .ix a i, s => (evE a s).bind fun (x, s1) => (evE i s1).bind fun (y, s2) => (x.get s2).bind fun dx => (y.get s2).bind fun dy => (item dx dy).bind fun d => .ok (.frz d, s2)
  | .slc a lo hi, s => (evE a s).bind fun (x, s1) => (evE lo s1).bind fun (l, s2) => (l.get s2).bind fun dl => (evE hi s2).bind fun (h, s3) => (x.get s3).bind fun dx => (h.get s3).bind fun dh => req (partB lo dl && partB hi dh) ((slice dx dl dh).bind fun r => .ok (r, s3))
  | .call f io es, s => (evAs es s).bind fun (as, s1) => req (okIo as s1 io) ((getAll s1 as).bind fun ds => (cal f ds).bind fun r => callEnd io as r s1)
  | .bi b es, s => (evAs es s).bind fun (as, s1) => (getAll s1 as).bind fun ds => (bi b ds).bind fun r => .ok (r, s1)
  | .mtd m i es, s => req (isOwn s[i]?) ((evAs es s).bind fun (as, s1) => (takeAll as s1).bind fun (ds, s2) => match s2[i]? with
    | some (.own d) => (mutD m d ds).bind fun (r, d') => .ok (.frz r, s2.set i (.own d'))
    | some (.io d) => (mutD m d ds).bind fun (r, d') => .ok (.frz r, s2.set i (.io d'))
    | _ => .no)
  | .cm elt t it own, s => (evI it s).bind fun (ds, s1) => req (decide (ds.length ≤ sizeLine)) ((compF (fun x s => (putT t x s).bind fun s2 => (evE elt s2).bind fun (a, s3) => (a.take s3).bind fun (d, s4) => .ok (some d, wipeS s4 own)) ds (wipeS s1 own) []).bind fun (r, s2) => .ok (.own (.list r), backS s1 s2 own))
  | .cmi elt t it c own, s => (evI it s).bind fun (ds, s1) => req (decide (ds.length ≤ sizeLine)) ((compF (fun x s => (putT t x s).bind fun s2 => (evE c s2).bind fun (cv, s3) => (cv.get s3).bind fun cd => (truth cd).bind fun b =>
      if b then (evE elt s3).bind fun (a, s4) => (a.take s4).bind fun (d, s5) => .ok (some d, wipeS s5 own) else .ok (none, wipeS s3 own)) ds (wipeS s1 own) []).bind fun (r, s2) => .ok (.own (.list r), backS s1 s2 own))
  | .srtk f a, s => (evE a s).bind fun (x, s1) => (x.get s1).bind fun d => match d with
    | .list xs => (keysF cal f xs).bind fun ks => req (sortB ks && decide (xs.length ≤ sizeLine) && ks.all fun x => decide (x.depth ≤ 64)) (.ok (.own (.list (((xs.zip ks).mergeSort (PySem.W.dataLe false (·.2))).map (·.1))), s1))
    | _ => .no
  | .ofi tq it, s => (evI it s).bind fun (ds, s1) => req (decide (ds.length ≤ sizeLine)) (.ok (if tq then .frz (.tuple ds) else .own (.list ds), s1))
def evAs : IEs → Sl → R (List Ar × Sl)
  | .nil, s => .ok ([], s)
  | .cons e es, s => (evE e s).bind fun (a, s1) => (evAs es s1).bind fun (as, s2) => .ok (a :: as, s2)
/-- what is walked (it never changes again) -/
def evI : II → Sl → R (List D × Sl)
  | .seq e, s => (evE e s).bind fun (a, s1) => (a.take s1).bind fun (d, s2) => (seqD d).bind fun ds => .ok (ds, s2)
  | .r1 a, s => (evE a s).bind fun (x, s1) => (x.get s1).bind fun d => match d with
    | .int n => req (small62 n) (.ok (rangeD 0 n.toNat 1, s1))
    | _ => .no
  | .r2 a b, s => (evE a s).bind fun (x, s1) => (evE b s1).bind fun (y, s2) => (x.get s2).bind fun d => (y.get s2).bind fun e => match d, e with
    | .int i, .int j => req (small62 i && small62 j) (.ok (rangeD i (j - i).toNat 1, s2))
    | _, _ => .no
  | .r3 a b c, s => (evE a s).bind fun (x, s1) => (evE b s1).bind fun (y, s2) => (evE c s2).bind fun (z, s3) => (x.get s3).bind fun d => (y.get s3).bind fun e => (z.get s3).bind fun f => match d, e, f with
    | .int i, .int j, .int c => req (decide (c ≠ 0) && decide (c.natAbs < 1073741824) && Builtin.Range.small i j c && decide (0 ≤ Builtin.Range.rangeSize i j c)) (.ok (rangeD i (rlen3 i j c) c, s3))
    | _, _, _ => .no
  | .enu e, s => (evE e s).bind fun (a, s1) => (a.take s1).bind fun (d, s2) => (seqL d).bind fun ds => .ok (enuF 0 ds, s2)
  | .zp a b, s => (evE a s).bind fun (x, s1) => (evE b s1).bind fun (y, s2) => (x.take s2).bind fun (dx, s3) => (y.take s3).bind fun (dy, s4) => (seqL dx).bind fun xs => (seqL dy).bind fun ys => .ok (zip2 xs ys, s4)
  | .zp3 a b c, s => (evE a s).bind fun (x, s1) => (evE b s1).bind fun (y, s2) => (evE c s2).bind fun (z, s3) => (x.take s3).bind fun (dx, s4) => (y.take s4).bind fun (dy, s5) => (z.take s5).bind fun (dz, s6) =>
      (seqL dx).bind fun xs => (seqL dy).bind fun ys => (seqL dz).bind fun zs => .ok (zip3 xs ys zs, s6)
end
mutual
def evS : IS → Sl → R Out
  | .asg t e, s => (evE cal e s).bind fun (a, s1) => (asgT t a s1).bind fun s2 => .ok (.nx s2)
  | .pas ts es, s => (evAs cal es s).bind fun (as, s1) => (outAs as s1).bind fun (bs, s2) => (asgTs ts bs s2).bind fun s3 => .ok (.nx s3)
  | .sto i k e, s => (evE cal e s).bind fun (a, s1) => req (isOwn s1[i]?) ((evE cal k s1).bind fun (y, s2) => (a.take s2).bind fun (d, s3) => (y.get s3).bind fun dk => match s3[i]? with
    | some (.own l) => (store l dk d).bind fun l' => .ok (.nx (s3.set i (.own l')))
    | some (.io l) => (store l dk d).bind fun l' => .ok (.nx (s3.set i (.io l')))
    | _ => .no)
  | .ex e, s => (evE cal e s).bind fun (_, s1) => .ok (.nx s1)
  | .ite c a b, s => (evE cal c s).bind fun (x, s1) => (x.get s1).bind fun d => (truth d).bind fun t => if t then evSs a s1 else evSs b s1
  | .for_ t it body, s => (evI cal it s).bind fun (ds, s1) => loopF (fun x s => (putT t x s).bind fun s2 => evSs body s2) ds s1
  | .wh c body, s => whileF (fun s => (evE cal c s).bind fun (x, s1) => (x.get s1).bind fun d => (truth d).bind fun t => .ok (t, s1)) (fun s => evSs body s) WF s
  | .ret e, s => (evE cal e s).bind fun (a, s1) => match a with
    | .frz d => .ok (.rt false d s1)
    | .own d => .ok (.rt true d s1)
    | .sl i => match s1[i]? with
      | some (.own d) => .ok (.rt true d (s1.set i .un))
      | _ => .no
  | .retn, s => .ok (.rt false .none s)
  | .brk, s => .ok (.bk s)
  | .cnt, s => .ok (.ct s)
  | .pass, s => .ok (.nx s)
  | .raise, _ => .no
def evSs : ISs → Sl → R Out
  | .nil, s => .ok (.nx s)
  | .cons st ss, s => (evS st s).bind fun o => match o with
    | .nx s1 => evSs ss s1
    | o => .ok o
end
end

/-- a def: its name, how many parameters, which of them are handed in to be changed, its names by slot, its body -/
structure FD where
  name : String
  np : Nat
  io : List Nat
  N : List String
  body : ISs
def slot0 (io : List Nat) (p : Nat) (d : D) : Sv := if p ∈ io then .io d else .frz d
def start0 (io : List Nat) : Nat → List D → List Sv
  | _, [] => []
  | p, d :: ds => slot0 io p d :: start0 io (p + 1) ds
def outs (s : Sl) : List Nat → R (List D)
  | [] => .ok []
  | p :: ps => match s[p]? with
    | some (.io d) => (outs s ps).bind fun ds => .ok (d :: ds)
    | _ => .no
def evD (cal : Nat → List D → R CR) (f : FD) (ds : List D) : R CR :=
  req (decide (ds.length = f.np)) ((evSs cal f.body (start0 f.io 0 ds ++ List.replicate (f.N.length - f.np) .un)).bind fun o => match o with
    | .nx s => (outs s f.io).bind fun os => .ok ⟨false, .none, os⟩
    | .rt own d s => (outs s f.io).bind fun os => .ok ⟨own, d, os⟩
    | _ => .no)
/-- the program: its defs by number; n levels of calls -/
def evC (T : List FD) : Nat → Nat → List D → R CR
  | 0, _, _ => .no
  | n + 1, f, ds => match T[f]? with
    | some fd => evD (evC T n) fd ds
    | none => .no
end PX

set_option Elab.async false
set_option linter.all false
set_option maxRecDepth 100000
/-! PX, part A: how plain data lie on the abstract heap. -/
namespace L2
open PySem PySem.Spec PyProof.Rows

theorem sqL_mono {K : PySem.W.Frag} {G G' : Hp} {a : Addr} {xs : List V} (e : Same G G') (h : SqL K G a xs) : SqL K G' a xs := e.seq h
theorem sqT_mono {K : PySem.W.Frag} {G G' : Hp} {a : Addr} {xs : List V} (e : Same G G') (h : SqT K G a xs) : SqT K G' a xs := by
  rcases h with (h | ⟨o, h⟩) | h
  · exact .inl (.inl (e _ _ h))
  · exact .inl (.inr ⟨o, e _ _ h⟩)
  · exact .inr h
mutual
theorem Dp.mono {K : PySem.W.Frag} {G G' : Hp} (e : Same G G') : ∀ {v : V} {d : PyData}, Dp K G v d → Dp K G' v d
  | _, _, .non => .non
  | _, _, .bl b => .bl b
  | _, _, .int i => .int i
  | _, _, .str x => .str x
  | _, _, .lst h a => .lst (sqL_mono e h) (DpAll.mono e a)
  | _, _, .tup h a => .tup (sqT_mono e h) (DpAll.mono e a)
theorem DpAll.mono {K : PySem.W.Frag} {G G' : Hp} (e : Same G G') : ∀ {vs : List V} {ds : List PyData}, DpAll K G vs ds → DpAll K G' vs ds
  | _, _, .nil => .nil
  | _, _, .cons h t => .cons (Dp.mono e h) (DpAll.mono e t)
end
theorem DpAll.length {K : PySem.W.Frag} {G : Hp} : ∀ {vs : List V} {ds : List PyData}, DpAll K G vs ds → vs.length = ds.length
  | _, _, .nil => rfl
  | _, _, .cons _ t => by rw [List.length_cons, List.length_cons, DpAll.length t]
theorem DpAll.append {K : PySem.W.Frag} {G : Hp} : ∀ {vs ws : List V} {ds es : List PyData}, DpAll K G vs ds → DpAll K G ws es → DpAll K G (vs ++ ws) (ds ++ es)
  | _, _, _, _, .nil, s => s
  | _, _, _, _, .cons h t, s => .cons h (DpAll.append t s)
theorem DpAll.get {K : PySem.W.Frag} {G : Hp} : ∀ {vs : List V} {ds : List PyData} {i : Nat} {d : PyData}, DpAll K G vs ds → ds[i]? = some d → ∃ v, vs[i]? = some v ∧ Dp K G v d
  | _, _, _, _, .nil, e => by simp at e
  | _, _, 0, _, .cons h _, e => by simp at e; subst e; exact ⟨_, rfl, h⟩
  | _, _, i + 1, d, .cons _ t, e => by
    obtain ⟨v, h1, h2⟩ := DpAll.get (i := i) (d := d) t (by simpa using e)
    exact ⟨v, by simpa using h1, h2⟩
theorem DpAll.getV {K : PySem.W.Frag} {G : Hp} : ∀ {vs : List V} {ds : List PyData} {i : Nat} {v : V}, DpAll K G vs ds → vs[i]? = some v → ∃ d, ds[i]? = some d ∧ Dp K G v d
  | _, _, _, _, .nil, e => by simp at e
  | _, _, 0, _, .cons h _, e => by simp at e; subst e; exact ⟨_, rfl, h⟩
  | _, _, i + 1, d, .cons _ t, e => by
    obtain ⟨v, h1, h2⟩ := DpAll.getV (i := i) (v := d) t (by simpa using e)
    exact ⟨v, by simpa using h1, h2⟩
theorem DpAll.take {K : PySem.W.Frag} {G : Hp} : ∀ {vs : List V} {ds : List PyData} (n : Nat), DpAll K G vs ds → DpAll K G (vs.take n) (ds.take n)
  | _, _, 0, _ => .nil
  | _, _, _ + 1, .nil => .nil
  | _, _, n + 1, .cons h t => .cons h (DpAll.take n t)
theorem DpAll.drop {K : PySem.W.Frag} {G : Hp} : ∀ {vs : List V} {ds : List PyData} (n : Nat), DpAll K G vs ds → DpAll K G (vs.drop n) (ds.drop n)
  | _, _, 0, h => h
  | _, _, _ + 1, .nil => .nil
  | _, _, n + 1, .cons _ t => DpAll.drop n t
theorem DpAll.set {K : PySem.W.Frag} {G : Hp} {v : V} {d : PyData} (r : Dp K G v d) : ∀ {vs : List V} {ds : List PyData} (i : Nat), DpAll K G vs ds → DpAll K G (vs.set i v) (ds.set i d)
  | _, _, _, .nil => .nil
  | _, _, 0, .cons _ t => .cons r t
  | _, _, i + 1, .cons h t => .cons h (DpAll.set r i t)
theorem DpAll.eraseIdx {K : PySem.W.Frag} {G : Hp} : ∀ {vs : List V} {ds : List PyData} (i : Nat), DpAll K G vs ds → DpAll K G (vs.eraseIdx i) (ds.eraseIdx i)
  | _, _, _, .nil => .nil
  | _, _, 0, .cons _ t => t
  | _, _, i + 1, .cons h t => .cons h (DpAll.eraseIdx i t)
theorem DpAll.dropLast {K : PySem.W.Frag} {G : Hp} : ∀ {vs : List V} {ds : List PyData}, DpAll K G vs ds → DpAll K G vs.dropLast ds.dropLast
  | _, _, .nil => .nil
  | _, _, .cons _ .nil => .nil
  | _, _, .cons h (.cons h2 t) => .cons h (DpAll.dropLast (.cons h2 t))
theorem DpAll.rep {K : PySem.W.Frag} {G : Hp} {vs : List V} {ds : List PyData} (h : DpAll K G vs ds) : ∀ k : Nat, DpAll K G (List.replicate k vs).flatten (List.replicate k ds).flatten
  | 0 => .nil
  | k + 1 => by
    rw [List.replicate_succ, List.flatten_cons, List.replicate_succ, List.flatten_cons]
    exact h.append (DpAll.rep h k)
theorem DpAll.empty {K : PySem.W.Frag} {G : Hp} {vs : List V} {ds : List PyData} (h : DpAll K G vs ds) : vs.isEmpty = ds.isEmpty := by cases h <;> rfl

end L2

namespace PX
open PySem PySem.Spec PyProof.Rows L2
abbrev St := L2.St
/-- the content of a value: what stands at the top lies on H, what is within on G -/
def Cn (K : PySem.W.Frag) (G H : Hp) (v : V) : D → Prop
  | .none => v = .non
  | .bool b => v = .bl b
  | .int i => v = .int i
  | .str x => v = .str x
  | .list ds => ∃ a xs, v = .ref a ∧ SqL K H a xs ∧ DpAll K G xs ds
  | .tuple ds => ∃ a xs, v = .ref a ∧ SqT K G a xs ∧ DpAll K G xs ds
  | .dict _ => False
theorem Dp.cn {K : PySem.W.Frag} {G H : Hp} (e : Same G H) : ∀ {v : V} {d : D}, Dp K G v d → Cn K G H v d
  | _, _, .non => rfl
  | _, _, .bl b => rfl
  | _, _, .int i => rfl
  | _, _, .str x => rfl
  | _, _, .lst h a => ⟨_, _, rfl, sqL_mono e h, a⟩
  | _, _, .tup h a => ⟨_, _, rfl, h, a⟩
theorem Cn.dp {K : PySem.W.Frag} {G H : Hp} (e : Same G H) {v : V} : ∀ {d : D}, Cn K G H v d → Dp K H v d
  | .none, h => by cases h; exact .non
  | .bool _, h => by cases h; exact .bl _
  | .int _, h => by cases h; exact .int _
  | .str _, h => by cases h; exact .str _
  | .list _, ⟨a, xs, e1, h, t⟩ => by subst e1; exact .lst h (t.mono e)
  | .tuple _, ⟨a, xs, e1, h, t⟩ => by subst e1; exact .tup (sqT_mono e h) (t.mono e)
  | .dict _, h => h.elim

/-- a list of one's own -/
def OwnAt (K : PySem.W.Frag) (G H : Hp) (p : Addr) : D → Prop
  | .list ds => ∃ xs, H p = some (.lst xs) ∧ DpAll K G xs ds
  | _ => False
theorem OwnAt.cn {K : PySem.W.Frag} {G H : Hp} {p : Addr} : ∀ {d : D}, OwnAt K G H p d → Cn K G H (.ref p) d
  | .list _, ⟨xs, h, t⟩ => ⟨p, xs, rfl, SqL.of h, t⟩
  | .none, h => h.elim
  | .bool _, h => h.elim
  | .int _, h => h.elim
  | .str _, h => h.elim
  | .tuple _, h => h.elim
  | .dict _, h => h.elim
theorem OwnAt.mono {K : PySem.W.Frag} {G G' H H' : Hp} {p : Addr} (eg : Same G G') (eh : H' p = H p) : ∀ {d : D}, OwnAt K G H p d → OwnAt K G' H' p d
  | .list _, ⟨xs, h, t⟩ => ⟨xs, by rw [eh]; exact h, t.mono eg⟩
  | .none, h => h.elim
  | .bool _, h => h.elim
  | .int _, h => h.elim
  | .str _, h => h.elim
  | .tuple _, h => h.elim
  | .dict _, h => h.elim
theorem OwnAt.held {K : PySem.W.Frag} {G H : Hp} {p : Addr} {d : D} (h : OwnAt K G H p d) : ∃ o, H p = some o := by
  cases d with
  | list _ => obtain ⟨xs, h, _⟩ := h; exact ⟨_, h⟩
  | _ => exact h.elim
/-- frozen -/
theorem OwnAt.dp {K : PySem.W.Frag} {G G' H : Hp} {p : Addr} (eg : Same G G') (eh : G' p = H p) : ∀ {d : D}, OwnAt K G H p d → Dp K G' (.ref p) d
  | .list _, ⟨xs, h, t⟩ => .lst (SqL.of (eh.trans h)) (t.mono eg)
  | .none, h => h.elim
  | .bool _, h => h.elim
  | .int _, h => h.elim
  | .str _, h => h.elim
  | .tuple _, h => h.elim
  | .dict _, h => h.elim

structure OwnP (K : PySem.W.Frag) (F G H : Hp) (p : Addr) (d : D) : Prop where
  f : F p = none
  g : G p = none
  at_ : OwnAt K G H p d
def SlOk (K : PySem.W.Frag) (F G H : Hp) (ios : List (Nat × Addr)) (i : Nat) (v? : Option (Option V)) : Option Sv → Prop
  | some (.frz d) => ∃ v, v? = some (some v) ∧ Dp K G v d
  | some (.own d) => ∃ p, v? = some (some (.ref p)) ∧ OwnP K F G H p d
  | some (.io d) => ∃ p, v? = some (some (.ref p)) ∧ (i, p) ∈ ios ∧ OwnP K F G H p d
  | _ => True
/-- the abstract heap H and the names' values σ are told by the slots s: F is what stood at the entry, G what never changes (and may be read), P what is in hand -/
structure Sim (K : PySem.W.Frag) (F G0 : Hp) (ios : List (Nat × Addr)) (G H : Hp) (σ : St) (s : Sl) (P : List (V × D)) : Prop where
  len : σ.length = s.length
  fh : Same F H
  gh : Same G H
  g0 : ∀ a o, G a = some o → G0 a = some o ∨ F a = none
  sl : ∀ (i : Nat), SlOk K F G H ios i σ[i]? s[i]?
  pe : ∀ x ∈ P, ∃ p, x.1 = V.ref p ∧ OwnP K F G H p x.2
  ss : ∀ (i j : Nat) (v : V), isOwn s[i]? = true → isOwn s[j]? = true → σ[i]? = some (some v) → σ[j]? = some (some v) → i = j
  sp : ∀ (i : Nat) (v : V), isOwn s[i]? = true → σ[i]? = some (some v) → ∀ x ∈ P, x.1 ≠ v
  pp : P.Pairwise fun x y => x.1 ≠ y.1
/-- what is in hand of a value -/
def pnd (v : V) : Ar → List (V × D)
  | .own d => [(v, d)]
  | _ => []
def ArOk (K : PySem.W.Frag) (G : Hp) (σ : St) (v : V) : Ar → Prop
  | .frz d => Dp K G v d
  | .own _ => True
  | .sl i => σ[i]? = some (some v)
/-- a new value comes: the heap has grown -/
structure NewV (K : PySem.W.Frag) (G H G' H' : Hp) (z : V) (r : Ar) : Prop where
  gg : Same G G'
  gh : Same G' H'
  hh : Same H H'
  fr : ∀ a o, G' a = some o → G a = some o ∨ H a = none
  ok : match r with
    | .frz d => Dp K G' z d
    | .own d => ∃ p, z = V.ref p ∧ H p = none ∧ G' p = none ∧ OwnAt K G' H' p d
    | .sl _ => False

section
variable {K : PySem.W.Frag} {F G0 G G' H H' : Hp} {ios : List (Nat × Addr)} {σ : St} {s : Sl} {P P' A : List (V × D)} {v z : V} {d : D} {r : Ar}
theorem OwnP.mono {p : Addr} (h : OwnP K F G H p d) (eg : Same G G') (eh : H' p = H p) (g : G' p = none) : OwnP K F G' H' p d := ⟨h.f, g, h.at_.mono eg eh⟩
theorem SlOk.mono {i : Nat} {v? : Option (Option V)} {x : Option Sv} (h : SlOk K F G H ios i v? x) (eg : Same G G') (k : ∀ p d, isOwn x = true → v? = some (some (V.ref p)) → OwnP K F G H p d → OwnP K F G' H' p d) : SlOk K F G' H' ios i v? x := by
  cases x with
  | none => trivial
  | some x =>
    cases x with
    | un => trivial
    | frz d => obtain ⟨v, e, h⟩ := h; exact ⟨v, e, h.mono eg⟩
    | own d => obtain ⟨p, e, h⟩ := h; exact ⟨p, e, k p d rfl e h⟩
    | io d => obtain ⟨p, e, m, h⟩ := h; exact ⟨p, e, m, k p d rfl e h⟩
theorem Sim.perm (h : Sim K F G0 ios G H σ s P) (e : P.Perm P') : Sim K F G0 ios G H σ s P' :=
  ⟨h.len, h.fh, h.gh, h.g0, h.sl, fun x hx => h.pe x (e.mem_iff.mpr hx), h.ss, fun i v a b x hx => h.sp i v a b x (e.mem_iff.mpr hx), (e.pairwise_iff (fun {x y} q => Ne.symm q)).mp h.pp⟩
theorem Sim.sub (h : Sim K F G0 ios G H σ s P) (e : P'.Sublist P) : Sim K F G0 ios G H σ s P' :=
  ⟨h.len, h.fh, h.gh, h.g0, h.sl, fun x hx => h.pe x (e.subset hx), h.ss, fun i v a b x hx => h.sp i v a b x (e.subset hx), h.pp.sublist e⟩
theorem Sim.drop (h : Sim K F G0 ios G H σ s (A ++ P)) : Sim K F G0 ios G H σ s P := h.sub (List.sublist_append_right _ _)
/-- the heap has grown (what was tracked stands) -/
theorem Sim.grow (h : Sim K F G0 ios G H σ s P) (gg : Same G G') (gh : Same G' H') (hh : Same H H') (fr : ∀ a o, G' a = some o → G a = some o ∨ H a = none) : Sim K F G0 ios G' H' σ s P := by
  have ownk : ∀ p d, OwnP K F G H p d → OwnP K F G' H' p d := fun p d q => by
    obtain ⟨o, ho⟩ := q.at_.held
    refine q.mono gg ((hh _ _ ho).trans ho.symm) ?_
    cases e : G' p with
    | none => rfl
    | some u =>
      rcases fr p u e with z | z
      · rw [q.g] at z; cases z
      · rw [ho] at z; cases z
  refine ⟨h.len, h.fh.trans hh, gh, fun a o e => ?_, fun i => (h.sl i).mono gg fun p d _ _ q => ownk p d q, fun x hx => ?_, h.ss, h.sp, h.pp⟩
  · rcases fr a o e with z | z
    · exact h.g0 a o z
    · right
      cases q : F a with
      | none => rfl
      | some u => have := h.fh a u q; rw [z] at this; cases this
  · obtain ⟨p, e, q⟩ := h.pe x hx
    exact ⟨p, e, ownk p _ q⟩
/-- nothing owned stands at a free place -/
theorem SlOk.held {i : Nat} {p : Addr} {x : Option Sv} (h : SlOk K F G H ios i (some (some (V.ref p))) x) (o : isOwn x = true) : ∃ u, H p = some u := by
  cases x with
  | none => cases o
  | some x =>
    cases x with
    | un => cases o
    | frz _ => cases o
    | own d => obtain ⟨q, e, h⟩ := h; cases e; exact h.at_.held
    | io d => obtain ⟨q, e, _, h⟩ := h; cases e; exact h.at_.held
theorem SlOk.ref {i : Nat} {v? : Option (Option V)} {x : Option Sv} (h : SlOk K F G H ios i v? x) (o : isOwn x = true) : ∃ p d, v? = some (some (V.ref p)) ∧ OwnP K F G H p d ∧ (x = some (.own d) ∨ x = some (.io d)) := by
  cases x with
  | none => cases o
  | some x =>
    cases x with
    | un => cases o
    | frz _ => cases o
    | own d => obtain ⟨q, e, h⟩ := h; exact ⟨q, d, e, h, .inl rfl⟩
    | io d => obtain ⟨q, e, _, h⟩ := h; exact ⟨q, d, e, h, .inr rfl⟩
theorem Sim.new (h : Sim K F G0 ios G H σ s P) (n : NewV K G H G' H' z r) : Sim K F G0 ios G' H' σ s (pnd z r ++ P) ∧ ArOk K G' σ z r := by
  have h' := h.grow n.gg n.gh n.hh n.fr
  cases r with
  | frz d => exact ⟨h', n.ok⟩
  | sl i => exact n.ok.elim
  | own d =>
    obtain ⟨p, rfl, hp, gp, at_⟩ := n.ok
    refine ⟨⟨h'.len, h'.fh, h'.gh, h'.g0, h'.sl, fun x hx => ?_, h'.ss, fun i w a b x hx => ?_, ?_⟩, trivial⟩
    · rcases List.mem_append.mp hx with hx | hx
      · have e : x = (V.ref p, d) := by simpa [pnd] using hx
        subst e
        refine ⟨p, rfl, ?_, gp, at_⟩
        cases q : F p with
        | none => rfl
        | some u => have := h.fh p u q; rw [hp] at this; cases this
      · exact h'.pe x hx
    · rcases List.mem_append.mp hx with hx | hx
      · have e : x = (V.ref p, d) := by simpa [pnd] using hx
        subst e
        intro z
        subst z
        obtain ⟨u, hu⟩ := (show SlOk K F G H ios i (some (some (V.ref p))) s[i]? by rw [← b]; exact h.sl i).held a
        rw [hp] at hu; cases hu
      · exact h'.sp i w a b x hx
    · show ((V.ref p, d) :: P).Pairwise _
      refine List.Pairwise.cons (fun y hy => ?_) h'.pp
      intro z
      obtain ⟨p', e', q⟩ := h.pe y hy
      obtain ⟨u, hu⟩ := q.at_.held
      have : V.ref p = V.ref p' := (show V.ref p = y.1 from z).trans e'
      cases this
      rw [hp] at hu; cases hu
/-- what is in hand is frozen -/
theorem Sim.freezeP (h : Sim K F G0 ios G H σ s ((v, d) :: P)) : ∃ G', Same G G' ∧ Sim K F G0 ios G' H σ s P ∧ Dp K G' v d := by
  obtain ⟨p, e, q⟩ := h.pe (v, d) List.mem_cons_self
  have e : v = V.ref p := e
  subst e
  obtain ⟨o, ho⟩ := q.at_.held
  have gg : Same G (upd G p o) := fun a u z => by
    by_cases ha : a = p
    · subst ha; rw [q.g] at z; cases z
    · rw [upd_ne ha]; exact z
  have keep : ∀ p' d', p' ≠ p → OwnP K F G H p' d' → OwnP K F (upd G p o) H p' d' := fun p' d' ne q' => q'.mono gg rfl (by rw [upd_ne ne]; exact q'.g)
  refine ⟨upd G p o, gg, ⟨h.len, h.fh, fun a u z => ?_, fun a u z => ?_, fun i => (h.sl i).mono gg fun p' d' ow hv q' => keep p' d' ?_ q', fun x hx => ?_, h.ss, fun i w a b x hx => h.sp i w a b x (List.mem_cons_of_mem _ hx), (List.pairwise_cons.mp h.pp).2⟩, q.at_.dp gg (by rw [upd_same]; exact ho.symm)⟩
  · by_cases ha : a = p
    · subst ha; rw [upd_same] at z; cases z; exact ho
    · rw [upd_ne ha] at z; exact h.gh a u z
  · by_cases ha : a = p
    · subst ha; exact .inr q.f
    · rw [upd_ne ha] at z; exact h.g0 a u z
  · rintro rfl
    exact h.sp i (V.ref p') ow hv (V.ref p', d) List.mem_cons_self rfl
  · obtain ⟨p', e', q'⟩ := h.pe x (List.mem_cons_of_mem _ hx)
    refine ⟨p', e', keep p' _ ?_ q'⟩
    rintro rfl
    exact (List.pairwise_cons.mp h.pp).1 x hx e'.symm
theorem get_set {α : Type} {l : List α} {i j : Nat} {a : α} : (l.set i a)[j]? = if i = j ∧ i < l.length then some a else l[j]? := by
  by_cases h : i = j
  · subst h
    by_cases hl : i < l.length
    · rw [List.getElem?_set_self hl, if_pos ⟨rfl, hl⟩]
    · rw [if_neg (fun q => hl q.2), List.getElem?_eq_none (by simpa using hl), List.getElem?_eq_none (by simpa using hl)]
  · rw [List.getElem?_set_ne h, if_neg (fun q => h q.1)]
theorem lt_of_get {α : Type} {l : List α} {i : Nat} {a : α} (h : l[i]? = some a) : i < l.length := (List.getElem?_eq_some_iff.mp h).1
/-- a slot's own list is frozen -/
theorem Sim.freezeS {i : Nat} (h : Sim K F G0 ios G H σ s P) (hs : s[i]? = some (.own d)) : ∃ G' v, σ[i]? = some (some v) ∧ Same G G' ∧ Sim K F G0 ios G' H σ (s.set i (.frz d)) P ∧ Dp K G' v d := by
  have hi := lt_of_get hs
  have q0 := h.sl i
  rw [hs] at q0
  obtain ⟨p, e, q⟩ := q0
  obtain ⟨o, ho⟩ := q.at_.held
  have gg : Same G (upd G p o) := fun a u z => by
    by_cases ha : a = p
    · subst ha; rw [q.g] at z; cases z
    · rw [upd_ne ha]; exact z
  have keep : ∀ p' d', p' ≠ p → OwnP K F G H p' d' → OwnP K F (upd G p o) H p' d' := fun p' d' ne q' => q'.mono gg rfl (by rw [upd_ne ne]; exact q'.g)
  have dp := q.at_.dp gg (show upd G p o p = H p by rw [upd_same]; exact ho.symm)
  have ow : isOwn s[i]? = true := by rw [hs]; rfl
  refine ⟨upd G p o, V.ref p, e, gg, ⟨by rw [List.length_set]; exact h.len, h.fh, fun a u z => ?_, fun a u z => ?_, fun j => ?_, fun x hx => ?_, fun j k w a b => ?_, fun j w a b x hx => ?_, h.pp⟩, dp⟩
  · by_cases ha : a = p
    · subst ha; rw [upd_same] at z; cases z; exact ho
    · rw [upd_ne ha] at z; exact h.gh a u z
  · by_cases ha : a = p
    · subst ha; exact .inr q.f
    · rw [upd_ne ha] at z; exact h.g0 a u z
  · rw [get_set]
    by_cases hj : i = j
    · rw [if_pos ⟨hj, hi⟩]
      subst hj
      exact ⟨_, e, dp⟩
    · rw [if_neg (fun z => hj z.1)]
      refine (h.sl j).mono gg fun p' d' ow' hv q' => keep p' d' ?_ q'
      rintro rfl
      exact hj (h.ss i j (V.ref p') ow ow' e hv)
  · obtain ⟨p', e', q'⟩ := h.pe x hx
    refine ⟨p', e', keep p' _ ?_ q'⟩
    rintro rfl
    exact h.sp i (V.ref p') ow e x hx e'
  · rw [get_set] at a b
    by_cases hj : i = j
    · rw [if_pos ⟨hj, hi⟩] at a; cases a
    · by_cases hk : i = k
      · rw [if_pos ⟨hk, hi⟩] at b; cases b
      · rw [if_neg (fun z => hj z.1)] at a
        rw [if_neg (fun z => hk z.1)] at b
        exact h.ss j k w a b
  · rw [get_set] at a
    by_cases hj : i = j
    · rw [if_pos ⟨hj, hi⟩] at a; cases a
    · rw [if_neg (fun z => hj z.1)] at a
      exact h.sp j w a b x hx
/-- a name is stored a value that never changes -/
theorem Sim.setF {i : Nat} {x : Sv} (h : Sim K F G0 ios G H σ s P) (hs : s[i]? = some x) (hv : Dp K G v d) : Sim K F G0 ios G H (σ.set i (some v)) (s.set i (.frz d)) P := by
  have hi := lt_of_get hs
  have hi' : i < σ.length := by rw [h.len]; exact hi
  refine ⟨by rw [List.length_set, List.length_set]; exact h.len, h.fh, h.gh, h.g0, fun j => ?_, h.pe, fun j k w a b c e => ?_, fun j w a b => ?_, h.pp⟩
  · rw [get_set, get_set]
    by_cases hj : i = j
    · rw [if_pos ⟨hj, hi'⟩, if_pos ⟨hj, hi⟩]
      exact ⟨v, rfl, hv⟩
    · rw [if_neg (fun z => hj z.1), if_neg (fun z => hj z.1)]
      exact h.sl j
  · rw [get_set] at a b c e
    by_cases hj : i = j
    · rw [if_pos ⟨hj, hi⟩] at a; cases a
    · by_cases hk : i = k
      · rw [if_pos ⟨hk, hi⟩] at b; cases b
      · rw [if_neg (fun z => hj z.1)] at a c
        rw [if_neg (fun z => hk z.1)] at b e
        exact h.ss j k w a b c e
  · rw [get_set] at a b
    by_cases hj : i = j
    · rw [if_pos ⟨hj, hi⟩] at a; cases a
    · rw [if_neg (fun z => hj z.1)] at a b
      exact h.sp j w a b
/-- a name is stored a list of one's own -/
theorem Sim.setO {i : Nat} {x : Sv} (h : Sim K F G0 ios G H σ s ((v, d) :: P)) (hs : s[i]? = some x) : Sim K F G0 ios G H (σ.set i (some v)) (s.set i (.own d)) P := by
  have hi := lt_of_get hs
  have hi' : i < σ.length := by rw [h.len]; exact hi
  obtain ⟨p, e, q⟩ := h.pe (v, d) List.mem_cons_self
  have e : v = V.ref p := e
  refine ⟨by rw [List.length_set, List.length_set]; exact h.len, h.fh, h.gh, h.g0, fun j => ?_, fun x hx => h.pe x (List.mem_cons_of_mem _ hx), fun j k w a b c e => ?_, fun j w a b y hy => ?_, (List.pairwise_cons.mp h.pp).2⟩
  · rw [get_set, get_set]
    by_cases hj : i = j
    · rw [if_pos ⟨hj, hi'⟩, if_pos ⟨hj, hi⟩]
      exact ⟨p, by rw [e], q⟩
    · rw [if_neg (fun z => hj z.1), if_neg (fun z => hj z.1)]
      exact h.sl j
  · rw [get_set] at a b c e
    by_cases hj : i = j
    · by_cases hk : i = k
      · exact hj.symm.trans hk
      · rw [if_pos ⟨hj, hi'⟩] at c
        rw [if_neg (fun z => hk z.1)] at b e
        cases c
        exact absurd rfl (h.sp k v b e (v, d) List.mem_cons_self)
    · by_cases hk : i = k
      · rw [if_pos ⟨hk, hi'⟩] at e
        rw [if_neg (fun z => hj z.1)] at a c
        cases e
        exact absurd rfl (h.sp j v a c (v, d) List.mem_cons_self)
      · rw [if_neg (fun z => hj z.1)] at a c
        rw [if_neg (fun z => hk z.1)] at b e
        exact h.ss j k w a b c e
  · rw [get_set] at a b
    by_cases hj : i = j
    · rw [if_pos ⟨hj, hi'⟩] at b
      cases b
      exact fun z => (List.pairwise_cons.mp h.pp).1 y hy z.symm
    · rw [if_neg (fun z => hj z.1)] at a b
      exact h.sp j w a b y (List.mem_cons_of_mem _ hy)
/-- a slot is forgotten -/
theorem Sim.unset {i : Nat} (h : Sim K F G0 ios G H σ s P) : Sim K F G0 ios G H σ (s.set i .un) P := by
  refine ⟨by rw [List.length_set]; exact h.len, h.fh, h.gh, h.g0, fun j => ?_, h.pe, fun j k w a b => ?_, fun j w a => ?_, h.pp⟩
  · rw [get_set]
    by_cases hj : i = j ∧ i < s.length
    · rw [if_pos hj]; trivial
    · rw [if_neg hj]; exact h.sl j
  · rw [get_set] at a b
    by_cases hj : i = j ∧ i < s.length
    · rw [if_pos hj] at a; cases a
    · by_cases hk : i = k ∧ i < s.length
      · rw [if_pos hk] at b; cases b
      · rw [if_neg hj] at a; rw [if_neg hk] at b
        exact h.ss j k w a b
  · rw [get_set] at a
    by_cases hj : i = j ∧ i < s.length
    · rw [if_pos hj] at a; cases a
    · rw [if_neg hj] at a; exact h.sp j w a
/-- a list of one's own is changed -/
theorem Sim.change {i : Nat} {p : Addr} {d' : D} {o : HO} {x : Sv} (h : Sim K F G0 ios G H σ s P) (hs : s[i]? = some (.own d) ∧ x = .own d' ∨ s[i]? = some (.io d) ∧ x = .io d') (e : σ[i]? = some (some (V.ref p))) (ho : OwnAt K G (upd H p o) p d') :
    Sim K F G0 ios G (upd H p o) σ (s.set i x) P := by
  have hi : i < s.length := by
    rcases hs with ⟨z, _⟩ | ⟨z, _⟩ <;> exact lt_of_get z
  have ow : isOwn s[i]? = true := by rcases hs with ⟨z, _⟩ | ⟨z, _⟩ <;> (rw [z]; rfl)
  obtain ⟨p', d0, e', q, hx⟩ := (h.sl i).ref ow
  rw [e] at e'; cases e'
  have ox : isOwn (some x) = true := by rcases hs with ⟨_, z⟩ | ⟨_, z⟩ <;> (rw [z]; rfl)
  have keep : ∀ p' d', p' ≠ p → OwnP K F G H p' d' → OwnP K F G (upd H p o) p' d' := fun p' d' ne q' => q'.mono (Same.refl _) (upd_ne ne) q'.g
  have own : ∀ j, isOwn (s.set i x)[j]? = isOwn s[j]? := fun j => by
    rw [get_set]
    by_cases hj : i = j
    · rw [if_pos ⟨hj, hi⟩, ox, ← hj, ow]
    · rw [if_neg (fun z => hj z.1)]
  refine ⟨by rw [List.length_set]; exact h.len, fun a u z => ?_, fun a u z => ?_, h.g0, fun j => ?_, fun y hy => ?_, fun j k w a b => ?_, fun j w a => ?_, h.pp⟩
  · have ne : a ≠ p := by rintro rfl; rw [q.f] at z; cases z
    rw [upd_ne ne]; exact h.fh a u z
  · have ne : a ≠ p := by rintro rfl; rw [q.g] at z; cases z
    rw [upd_ne ne]; exact h.gh a u z
  · rw [get_set]
    by_cases hj : i = j
    · rw [if_pos ⟨hj, hi⟩]
      subst hj
      have z := h.sl i
      rcases hs with ⟨z1, z2⟩ | ⟨z1, z2⟩
      · subst z2
        exact ⟨p, e, q.f, q.g, ho⟩
      · subst z2
        rw [z1] at z
        obtain ⟨p2, e2, m, _⟩ := z
        rw [e] at e2; cases e2
        exact ⟨p, e, m, q.f, q.g, ho⟩
    · rw [if_neg (fun z => hj z.1)]
      refine (h.sl j).mono (Same.refl _) fun p' d' ow' hv q' => keep p' d' ?_ q'
      rintro rfl
      exact hj (h.ss i j (V.ref p') ow ow' e hv)
  · obtain ⟨p', e', q'⟩ := h.pe y hy
    refine ⟨p', e', keep p' _ ?_ q'⟩
    rintro rfl
    exact h.sp i (V.ref p') ow e y hy e'
  · rw [own] at a b
    exact h.ss j k w a b
  · rw [own] at a
    exact h.sp j w a
/-- what a slot's list holds -/
theorem Sim.at_ {i : Nat} {x : Sv} (h : Sim K F G0 ios G H σ s P) (hs : s[i]? = some x) (hx : x = .own d ∨ x = .io d) : ∃ p, σ[i]? = some (some (V.ref p)) ∧ OwnP K F G H p d := by
  have q := h.sl i
  rw [hs] at q
  rcases hx with rfl | rfl
  · obtain ⟨p, e, q⟩ := q; exact ⟨p, e, q⟩
  · obtain ⟨p, e, _, q⟩ := q; exact ⟨p, e, q⟩
/-- read -/
theorem Sim.get {a : Ar} (h : Sim K F G0 ios G H σ s P) (hp : ∀ x ∈ pnd v a, x ∈ P) (ok : ArOk K G σ v a) (e : a.get s = .ok d) : Cn K G H v d := by
  cases a with
  | frz d' => cases e; exact Dp.cn h.gh ok
  | own d' =>
    cases e
    obtain ⟨p, e, q⟩ := h.pe (v, d) (hp _ (by simp [pnd]))
    have e : v = V.ref p := e
    subst e
    exact q.at_.cn
  | sl i =>
    have ok : σ[i]? = some (some v) := ok
    have q := h.sl i
    unfold Ar.get at e
    dsimp only at e
    cases hs : s[i]? with
    | none => rw [hs] at e; cases e
    | some x =>
      rw [hs] at e q
      cases x with
      | un => cases e
      | frz d' => cases e; obtain ⟨v', e', q⟩ := q; rw [ok] at e'; cases e'; exact Dp.cn h.gh q
      | own d' => cases e; obtain ⟨p, e', q⟩ := q; rw [ok] at e'; cases e'; exact q.at_.cn
      | io d' => cases e; obtain ⟨p, e', _, q⟩ := q; rw [ok] at e'; cases e'; exact q.at_.cn
/-- taken for good -/
theorem Sim.take {a : Ar} {s' : Sl} (h : Sim K F G0 ios G H σ s (pnd v a ++ P)) (ok : ArOk K G σ v a) (e : a.take s = .ok (d, s')) : ∃ G', Same G G' ∧ Sim K F G0 ios G' H σ s' P ∧ Dp K G' v d := by
  cases a with
  | frz d' => cases e; exact ⟨G, Same.refl _, h, ok⟩
  | own d' => cases e; exact h.freezeP
  | sl i =>
    have ok : σ[i]? = some (some v) := ok
    unfold Ar.take at e
    dsimp only at e
    cases hs : s[i]? with
    | none => rw [hs] at e; cases e
    | some x =>
      rw [hs] at e
      cases x with
      | un => cases e
      | frz d' =>
        cases e
        have q := h.sl i
        rw [hs] at q
        obtain ⟨v', e', q⟩ := q
        rw [ok] at e'; cases e'
        exact ⟨G, Same.refl _, h, q⟩
      | own d' =>
        cases e
        obtain ⟨G', v', e', gg, h', q⟩ := Sim.freezeS (P := P) h hs
        rw [ok] at e'; cases e'
        exact ⟨G', gg, h', q⟩
      | io d' => cases e
end
end PX

set_option Elab.async false
set_option linter.all false
set_option maxRecDepth 100000
set_option maxHeartbeats 4000000
/-! PX, part B: the operations by values. -/
namespace PX
open PySem PySem.Spec PyProof.Rows L2

section
variable {K : PySem.W.Frag} {G H : Hp} {z : V} {d : D}
theorem NewV.same (e : Same G H) (h : Dp K G z d) : NewV K G H G H z (.frz d) := ⟨Same.refl _, e, Same.refl _, fun _ _ h => .inl h, h⟩
theorem same_upd {p : Addr} {o : HO} (hp : H p = none) : Same H (upd H p o) := fun a u e => by rw [upd_ne (ne_of_none e hp)]; exact e
theorem none_of_same {p : Addr} (e : Same G H) (hp : H p = none) : G p = none := e.free hp
theorem NewV.tup {p : Addr} {xs : List V} {ds : List D} (e : Same G H) (hp : H p = none) (h : DpAll K G xs ds) : NewV K G H (upd G p (.tup xs)) (upd H p (.tup xs)) (.ref p) (.frz (.tuple ds)) := by
  have g := same_upd (o := .tup xs) (none_of_same e hp)
  refine ⟨g, fun a u q => ?_, same_upd hp, fun a u q => ?_, .tup (SqT.of upd_same) (h.mono g)⟩
  · by_cases ha : a = p
    · subst ha; rw [upd_same] at q ⊢; exact q
    · rw [upd_ne ha] at q ⊢; exact e a u q
  · by_cases ha : a = p
    · subst ha; exact .inr hp
    · rw [upd_ne ha] at q; exact .inl q
theorem NewV.lst {p : Addr} {xs : List V} {ds : List D} (e : Same G H) (hp : H p = none) (h : DpAll K G xs ds) : NewV K G H G (upd H p (.lst xs)) (.ref p) (.own (.list ds)) :=
  ⟨Same.refl _, e.trans (same_upd hp), same_upd hp, fun _ _ q => .inl q, p, rfl, hp, none_of_same e hp, xs, upd_same, h⟩
end

/-- a two-place operation, on plain data -/
def OpD (X : Cx) (f : Value → Value → Sem Value) (g : D → D → R Ar) : Prop :=
  ∀ (pins : List (Addr × Obj)) (s : Shared) (σ : St) (G H : Hp) (x y : V) (v u : Value) (dx dy : D) (r : Ar) (Q : VK), Inv X pins σ H s → RelV x v → RelV y u → Same G H → Cn X.K G H x dx → Cn X.K G H y dy → g dx dy = .ok r →
    (∀ z G' H', NewV X.K G H G' H' z r → Q z H') → wpAny (model X.prog X.w) X.A (f v u) (EP X pins σ Q) X.xe s
/-- a call of a builtin, on plain data -/
def CallD (X : Cx) (f : Value) (g : List D → R Ar) : Prop :=
  ∀ (pins : List (Addr × Obj)) (s : Shared) (σ : St) (G H : Hp) (xs : List V) (us : List Value) (ds : List D) (r : Ar) (Q : VK), Inv X pins σ H s → Vals xs us → Same G H → Paired (Cn X.K G H) xs ds → g ds = .ok r →
    (∀ z G' H', NewV X.K G H G' H' z r → Q z H') → wpAny (model X.prog X.w) X.A (call f us) (EP X pins σ Q) X.xe s
theorem req_ok {α : Type} {b : Bool} {x : R α} {a : α} (h : req b x = .ok a) : b = true ∧ x = .ok a := by
  unfold req at h
  cases b with
  | true => exact ⟨rfl, h⟩
  | false => cases h
theorem bind_ok {α β : Type} {x : R α} {f : α → R β} {b : β} (h : x.bind f = .ok b) : ∃ a, x = .ok a ∧ f a = .ok b := by
  cases x with
  | ok a => exact ⟨a, rfl, h⟩
  | ex e => cases h
  | no => cases h

/-! ### list + list, of any list that is read -/
theorem list_add_lists (l : Addr) (xs : Array Value) (n : Nat) (dd : Option Addr) (sl : Array (Option Value)) (b : Addr) (ys : Array Value) (m : Nat) (dd2 : Option Addr) (sl2 : Array (Option Value)) (hc : xs.size + ys.size ≤ sizeLine) :
    Meets (Builtin.«list.__add__» ⟨[.ref l, .ref b], []⟩) (fun _ R s => s.heap.get? l = some ⟨.type "list", dd, .seq xs n, sl⟩ ∧ s.heap.get? b = some ⟨.type "list", dd2, .seq ys m, sl2⟩ ∧
      R (.ok (.ret (Value.ref s.heap.objs.size))) { s with heap := s.heap.push { cls := Value.type "list", data := Data.seq (xs ++ ys) }, toks := s.toks }) :=
  .of_wp fun prog w A R s h => by
    obtain ⟨hp, g, d, tk, os⟩ := s
    obtain ⟨hl, hb, h⟩ := h
    have e1 := AutoSeq1.sub_list_list
    wp_walk using AutoSeq1.wpAny_loadPart' hl, AutoSeq1.wpAny_loadPart' hb
    exact ⟨_, rfl, h⟩
section
variable {X : Cx}
theorem cat_lists {pins : List (Addr × Obj)} {σ : St} {s : Shared} {H : Hp} {a b : Addr} {xs ys : List V} {Q : VK} (I : Inv X pins σ H s) (ha : SqL X.K H a xs) (hb : SqL X.K H b ys) (hz : xs.length + ys.length ≤ sizeLine)
    (q : ∀ p, H p = none → Q (.ref p) (upd H p (.lst (xs ++ ys)))) : wpAny (model X.prog X.w) X.A (binaryOp .Add (.ref a) (.ref b)) (EP X pins σ Q) X.xe s := by
  obtain ⟨its, r, ⟨⟨c1, d1, t1, s1⟩, n, e, hc, _, hd⟩, _⟩ := I.list ha
  obtain ⟨its2, r2, ⟨⟨c2, d2, t2, s2⟩, n2, e2, hc2, _, hd2⟩, _⟩ := I.list hb
  simp only at hc hd hc2 hd2
  subst hc hd hc2 hd2
  have l1 := r.length
  have l2 := r2.length
  refine concat_meets ⟨_, e, rfl⟩ ⟨_, e2, rfl⟩ noFill_list_add seq_list_add F.slot_list_add F.entry_list_add (F.args_list_add_2 _ _)
    (list_add_lists a its.toArray n _ _ b its2.toArray n2 _ _ (by rw [List.size_toArray, List.size_toArray]; omega)) ⟨e, e2, ?_⟩
  have ea : its.toArray ++ its2.toArray = (its ++ its2).toArray := by simp
  rw [ea]
  exact ⟨.ref _, _, I.lnew (t' := s.toks) (r.append r2) (by rw [List.length_append]; omega), rfl, q _ I.fresh⟩

def opOf : Bop → Operator
  | .add => .Add | .sub => .Sub | .mul => .Mult | .fdiv => .FloorDiv | .mod => .Mod | .pow => .Pow
theorem small64_ok {i : Int} (h : small64 i = true) : -(2 ^ 64) < i ∧ i < 2 ^ 64 := by
  unfold small64 at h
  rw [Bool.and_eq_true] at h
  exact ⟨of_decide_eq_true h.1, of_decide_eq_true h.2⟩
theorem bop_ok (op : Bop) : OpD X (binaryOp (opOf op)) (bop op) := by
  intro pins s σ G H x y v u dx dy r Q I rx ry gh cx cy e q
  have scal : ∀ {i : Int}, r = .frz (.int i) → Q (.int i) H := fun {i} er => by
    subst er
    exact q _ _ _ (NewV.same gh (.int i))
  cases op with
  | add =>
    cases dx with
    | int i =>
      cases dy with
      | int j => cases e; cases cx; cases cy; exact op_add pins s σ H _ _ v u Q I rx ry ⟨i, j, rfl, rfl, scal rfl⟩
      | _ => cases e
    | str i =>
      cases dy with
      | str j =>
        obtain ⟨h1, e⟩ := req_ok (e : req _ _ = _)
        cases e; cases cx; cases cy
        exact op_add_str pins s σ H _ _ v u Q I rx ry ⟨i, j, rfl, rfl, of_decide_eq_true h1, q _ _ _ (NewV.same gh (.str _))⟩
      | _ => cases e
    | list ds =>
      cases dy with
      | list es =>
        obtain ⟨h1, e⟩ := req_ok (e : req _ _ = _)
        cases e
        obtain ⟨a, xs, rfl, ha, da⟩ := cx
        obtain ⟨b, ys, rfl, hb, db⟩ := cy
        cases rx; cases ry
        have h1 := of_decide_eq_true h1
        exact cat_lists I ha hb (by rw [da.length, db.length]; exact h1) fun p hp => q _ _ _ (NewV.lst gh hp (da.append db))
      | _ => cases e
    | tuple ds =>
      cases dy with
      | tuple es =>
        obtain ⟨h1, e⟩ := req_ok (e : req _ _ = _)
        cases e
        obtain ⟨a, xs, rfl, ha, da⟩ := cx
        obtain ⟨b, ys, rfl, hb, db⟩ := cy
        have h1 := of_decide_eq_true h1
        have hl := da.length
        have hl2 := db.length
        refine op_catA pins s σ H _ _ v u Q I rx ry ⟨a, b, xs, ys, rfl, rfl, sqT_mono gh ha, sqT_mono gh hb, by omega, fun ex => ?_, fun _ ey => ?_, fun _ _ p hp => q _ _ _ (NewV.tup gh hp (da.append db))⟩
        · subst ex
          cases da
          exact q _ _ _ (NewV.same gh (.tup hb (by simpa using db)))
        · subst ey
          cases db
          exact q _ _ _ (NewV.same gh (.tup ha (by simpa using da)))
      | _ => cases e
    | _ => cases e
  | sub =>
    cases dx with
    | int i =>
      cases dy with
      | int j => cases e; cases cx; cases cy; exact op_sub pins s σ H _ _ v u Q I rx ry ⟨i, j, rfl, rfl, scal rfl⟩
      | _ => cases e
    | _ => cases e
  | mul =>
    cases dx with
    | int i =>
      cases dy with
      | int j =>
        obtain ⟨h1, e⟩ := req_ok (e : req _ _ = _)
        cases e; cases cx; cases cy
        refine op_mul pins s σ H _ _ v u Q I rx ry ⟨i, j, rfl, rfl, ?_, scal rfl⟩
        rw [Bool.or_eq_true] at h1
        exact h1.elim (fun h => .inl (small64_ok h)) fun h => .inr (small64_ok h)
      | _ => cases e
    | tuple ds =>
      cases dy with
      | int k =>
        obtain ⟨h1, e⟩ := req_ok (e : req _ _ = _)
        cases e
        obtain ⟨a, xs, rfl, ha, da⟩ := cx
        cases cy
        simp only [Bool.and_eq_true, decide_eq_true_eq] at h1
        obtain ⟨⟨⟨h1, h2⟩, h3⟩, h4⟩ := h1
        refine op_repT pins s σ H _ _ v u Q I rx ry ⟨a, k, xs, rfl, rfl, sqT_mono gh ha, ?_, h2, h3, by rw [da.length]; exact h4, fun p hp => q _ _ _ (NewV.tup gh hp (da.rep _))⟩
        rintro rfl
        cases da
        simp at h1
      | _ => cases e
    | _ => cases e
  | fdiv =>
    cases dx with
    | int i =>
      cases dy with
      | int j =>
        obtain ⟨h1, e⟩ := req_ok (e : req _ _ = _)
        cases e; cases cx; cases cy
        simp only [Bool.and_eq_true, decide_eq_true_eq] at h1
        exact op_fdiv pins s σ H _ _ v u Q I rx ry ⟨i, j, rfl, rfl, h1, scal rfl⟩
      | _ => cases e
    | _ => cases e
  | mod =>
    cases dx with
    | int i =>
      cases dy with
      | int j =>
        obtain ⟨h1, e⟩ := req_ok (e : req _ _ = _)
        cases e; cases cx; cases cy
        exact op_mod pins s σ H _ _ v u Q I rx ry ⟨i, j, rfl, rfl, of_decide_eq_true h1, scal rfl⟩
      | _ => cases e
    | _ => cases e
  | pow =>
    cases dx with
    | int i =>
      cases dy with
      | int j =>
        obtain ⟨h1, e⟩ := req_ok (e : req _ _ = _)
        cases e; cases cx; cases cy
        simp only [Bool.and_eq_true, decide_eq_true_eq] at h1
        exact op_pow pins s σ H _ _ v u Q I rx ry ⟨i, j, rfl, rfl, ⟨h1.1.1, h1.1.2, h1.2⟩, scal rfl⟩
      | _ => cases e
    | _ => cases e

/-! ### comparisons -/
def copOf : Cop → CmpOp
  | .eq => .Eq | .ne => .NotEq | .lt => .Lt | .le => .LtE | .gt => .Gt | .ge => .GtE | .inn => .In | .nin => .NotIn | .iss => .Is | .isn => .IsNot
/-- a comparison: a flag -/
def CmpD (X : Cx) (f : Value → Value → Sem Value) (g : D → D → R Bool) : Prop :=
  ∀ (pins : List (Addr × Obj)) (s : Shared) (σ : St) (G H : Hp) (x y : V) (v u : Value) (dx dy : D) (r : Bool) (Q : VK), Inv X pins σ H s → RelV x v → RelV y u → Same G H → Cn X.K G H x dx → Cn X.K G H y dy → g dx dy = .ok r →
    Q (.bl r) H → wpAny (model X.prog X.w) X.A (f v u) (EP X pins σ Q) X.xe s
theorem cn_reads {pins : List (Addr × Obj)} {s : Shared} {σ : St} {G H : Hp} {x : V} {v : Value} {d : D} (I : Inv X pins σ H s) (gh : Same G H) (rx : RelV x v) (cx : Cn X.K G H x d) : ∃ as, Reads s.heap v d as := Dp.reads I d x v (cx.dp gh) rx
theorem min_depth {A : Around} {x y : D} (h : x.depth ≤ 64) (hu : A.units + 64 < cLine) : A.units + min x.depth y.depth < cLine := by
  have := Nat.min_le_left x.depth y.depth
  omega
theorem min_depth' {A : Around} {x y : D} (h : x.depth ≤ 64) (hu : A.units + 64 < cLine) : A.units + min y.depth x.depth < cLine := by
  have := Nat.min_le_right y.depth x.depth
  omega
theorem cmpData_ok {x y : D} {f b : Bool} (h : cmpData x y f = .ok b) : PySem.W.alike x y = true ∧ x ≠ .none ∧ x.depth ≤ 64 ∧ b = f := by
  obtain ⟨h1, e⟩ := req_ok (h : req _ _ = _)
  cases e
  simp only [Bool.and_eq_true, decide_eq_true_eq] at h1
  refine ⟨h1.1.1, ?_, h1.2, rfl⟩
  rintro rfl
  exact absurd h1.1.2 (by decide)
theorem cmp_gen {x y : D} {b : Bool} (op : Cop) (h : cop op x y = .ok b) : (∃ i j, x = .int i ∧ y = .int j) ∨ True := .inr trivial
theorem fl_bl {pins : List (Addr × Obj)} {σ : St} {H : Hp} {s : Shared} {Q : VK} {k : Bool} (I : Inv X pins σ H s) (q : Q (.bl k) H) : EP X pins σ Q (.bool k) s := ⟨.bl k, H, I, rfl, q⟩
section
variable {pins : List (Addr × Obj)} {s : Shared} {σ : St} {G H : Hp} {x y : V} {v u : Value} {dx dy : D} {b : Bool} {Q : VK}
theorem lt_ok (hu : X.A.units + 64 < cLine) (I : Inv X pins σ H s) (rx : RelV x v) (ry : RelV y u) (gh : Same G H) (cx : Cn X.K G H x dx) (cy : Cn X.K G H y dy) (e : cmpData dx dy b = .ok b) (eb : b = PySem.W.dataLt dx dy) (q : Q (.bl b) H) :
    wpAny (model X.prog X.w) X.A (compareOp .Lt v u) (EP X pins σ Q) X.xe s := by
  obtain ⟨h1, h2, h3, _⟩ := cmpData_ok e
  obtain ⟨_, r1⟩ := cn_reads I gh rx cx
  obtain ⟨_, r2⟩ := cn_reads I gh ry cy
  subst eb
  exact PySem.W.lt_data r1 r2 h1 h2 (min_depth h3 hu) (fl_bl I q)
theorem le_ok (hu : X.A.units + 64 < cLine) (I : Inv X pins σ H s) (rx : RelV x v) (ry : RelV y u) (gh : Same G H) (cx : Cn X.K G H x dx) (cy : Cn X.K G H y dy) (e : cmpData dx dy b = .ok b) (eb : b = !PySem.W.dataLt dy dx) (q : Q (.bl b) H) :
    wpAny (model X.prog X.w) X.A (compareOp .LtE v u) (EP X pins σ Q) X.xe s := by
  obtain ⟨h1, h2, h3, _⟩ := cmpData_ok e
  obtain ⟨_, r1⟩ := cn_reads I gh rx cx
  obtain ⟨_, r2⟩ := cn_reads I gh ry cy
  subst eb
  exact PySem.W.le_data r1 r2 h1 h2 (min_depth h3 hu) (fl_bl I q)
theorem gt_ok (hu : X.A.units + 64 < cLine) (I : Inv X pins σ H s) (rx : RelV x v) (ry : RelV y u) (gh : Same G H) (cx : Cn X.K G H x dx) (cy : Cn X.K G H y dy) (e : cmpData dx dy b = .ok b) (eb : b = PySem.W.dataLt dy dx) (q : Q (.bl b) H) :
    wpAny (model X.prog X.w) X.A (compareOp .Gt v u) (EP X pins σ Q) X.xe s := by
  obtain ⟨h1, h2, h3, _⟩ := cmpData_ok e
  obtain ⟨_, r1⟩ := cn_reads I gh rx cx
  obtain ⟨_, r2⟩ := cn_reads I gh ry cy
  subst eb
  exact PySem.W.gt_data r1 r2 h1 h2 (min_depth h3 hu) (fl_bl I q)
theorem ge_ok (hu : X.A.units + 64 < cLine) (I : Inv X pins σ H s) (rx : RelV x v) (ry : RelV y u) (gh : Same G H) (cx : Cn X.K G H x dx) (cy : Cn X.K G H y dy) (e : cmpData dx dy b = .ok b) (eb : b = !PySem.W.dataLt dx dy) (q : Q (.bl b) H) :
    wpAny (model X.prog X.w) X.A (compareOp .GtE v u) (EP X pins σ Q) X.xe s := by
  obtain ⟨h1, h2, h3, _⟩ := cmpData_ok e
  obtain ⟨_, r1⟩ := cn_reads I gh rx cx
  obtain ⟨_, r2⟩ := cn_reads I gh ry cy
  subst eb
  exact PySem.W.ge_data r1 r2 h1 h2 (min_depth h3 hu) (fl_bl I q)
end
/-- two ints, or the general row -/
theorem cop_split {op : Cop} {f : D → D → R Bool} {g : Int → Int → Bool} {x y : D} {b : Bool} (h1 : ∀ i j, cop op (.int i) (.int j) = .ok (g i j)) (h2 : ∀ x y, (∀ i j, ¬ (x = .int i ∧ y = .int j)) → cop op x y = f x y) (h : cop op x y = .ok b) :
    (∃ i j, x = .int i ∧ y = .int j ∧ b = g i j) ∨ ((∀ i j, ¬ (x = .int i ∧ y = .int j)) ∧ f x y = .ok b) := by
  by_cases z : ∃ i j, x = .int i ∧ y = .int j
  · obtain ⟨i, j, rfl, rfl⟩ := z
    rw [h1] at h
    cases h
    exact .inl ⟨i, j, rfl, rfl, rfl⟩
  · have z' : ∀ i j, ¬ (x = .int i ∧ y = .int j) := fun i j q => z ⟨i, j, q⟩
    rw [h2 x y z'] at h
    exact .inr ⟨z', h⟩
theorem cop_gen (op : Cop) (f : D → D → R Bool) (h : ∀ x y, (match x, y with | .int _, .int _ => False | _, _ => True) → cop op x y = f x y) : ∀ x y : D, (∀ i j, ¬ (x = .int i ∧ y = .int j)) → cop op x y = f x y := by
  intro x y z
  refine h x y ?_
  cases x <;> cases y <;> first
    | trivial
    | exact absurd ⟨rfl, rfl⟩ (z _ _)
theorem cop_ok (hu : X.A.units + 65 < cLine) (op : Cop) : CmpD X (compareOp (copOf op)) (cop op) := by
  intro pins s σ G H x y v u dx dy r Q I rx ry gh cx cy e q
  have hu' : X.A.units + 64 < cLine := by omega
  cases op with
  | eq =>
    rcases cop_split (f := fun x y => req (SeqAt.shaped x && SeqAt.shaped y) (.ok (PyData.eqv x y))) (g := fun i j => decide (i = j)) (fun _ _ => rfl) (cop_gen _ _ fun x y z => by cases x <;> cases y <;> first | rfl | exact z.elim) e with ⟨i, j, rfl, rfl, rfl⟩ | ⟨_, e⟩
    · cases cx; cases cy
      exact op_eq pins s σ H _ _ v u Q I rx ry ⟨rfl, by simpa using q⟩
    · obtain ⟨h1, e⟩ := req_ok (e : req _ _ = _)
      cases e
      rw [Bool.and_eq_true] at h1
      exact op_eqD hu' pins s σ H _ _ v u Q I rx ry ⟨dx, dy, cx.dp gh, cy.dp gh, h1.1, h1.2, q⟩
  | ne =>
    rcases cop_split (f := fun x y => req (SeqAt.shaped x && SeqAt.shaped y) (.ok (!PyData.eqv x y))) (g := fun i j => !decide (i = j)) (fun _ _ => rfl) (cop_gen _ _ fun x y z => by cases x <;> cases y <;> first | rfl | exact z.elim) e with ⟨i, j, rfl, rfl, rfl⟩ | ⟨_, e⟩
    · cases cx; cases cy
      exact op_ne pins s σ H _ _ v u Q I rx ry ⟨rfl, by simpa using q⟩
    · obtain ⟨h1, e⟩ := req_ok (e : req _ _ = _)
      cases e
      rw [Bool.and_eq_true] at h1
      exact op_neD hu' pins s σ H _ _ v u Q I rx ry ⟨dx, dy, cx.dp gh, cy.dp gh, h1.1, h1.2, q⟩
  | lt =>
    rcases cop_split (f := fun x y => cmpData x y (PySem.W.dataLt x y)) (g := fun i j => decide (i < j)) (fun _ _ => rfl) (cop_gen _ _ fun x y z => by cases x <;> cases y <;> first | rfl | exact z.elim) e with ⟨i, j, rfl, rfl, rfl⟩ | ⟨_, e⟩
    · cases cx; cases cy
      exact op_lt pins s σ H _ _ v u Q I rx ry ⟨i, j, rfl, rfl, q⟩
    · obtain ⟨_, _, _, eb⟩ := cmpData_ok e
      exact lt_ok hu' I rx ry gh cx cy (by rw [← eb] at e; exact e) eb q
  | le =>
    rcases cop_split (f := fun x y => cmpData x y (!PySem.W.dataLt y x)) (g := fun i j => decide (i ≤ j)) (fun _ _ => rfl) (cop_gen _ _ fun x y z => by cases x <;> cases y <;> first | rfl | exact z.elim) e with ⟨i, j, rfl, rfl, rfl⟩ | ⟨_, e⟩
    · cases cx; cases cy
      exact op_le pins s σ H _ _ v u Q I rx ry ⟨i, j, rfl, rfl, q⟩
    · obtain ⟨_, _, _, eb⟩ := cmpData_ok e
      exact le_ok hu' I rx ry gh cx cy (by rw [← eb] at e; exact e) eb q
  | gt =>
    rcases cop_split (f := fun x y => cmpData x y (PySem.W.dataLt y x)) (g := fun i j => decide (j < i)) (fun _ _ => rfl) (cop_gen _ _ fun x y z => by cases x <;> cases y <;> first | rfl | exact z.elim) e with ⟨i, j, rfl, rfl, rfl⟩ | ⟨_, e⟩
    · cases cx; cases cy
      exact op_gt pins s σ H _ _ v u Q I rx ry ⟨i, j, rfl, rfl, q⟩
    · obtain ⟨_, _, _, eb⟩ := cmpData_ok e
      exact gt_ok hu' I rx ry gh cx cy (by rw [← eb] at e; exact e) eb q
  | ge =>
    rcases cop_split (f := fun x y => cmpData x y (!PySem.W.dataLt x y)) (g := fun i j => decide (j ≤ i)) (fun _ _ => rfl) (cop_gen _ _ fun x y z => by cases x <;> cases y <;> first | rfl | exact z.elim) e with ⟨i, j, rfl, rfl, rfl⟩ | ⟨_, e⟩
    · cases cx; cases cy
      exact op_ge pins s σ H _ _ v u Q I rx ry ⟨i, j, rfl, rfl, q⟩
    · obtain ⟨_, _, _, eb⟩ := cmpData_ok e
      exact ge_ok hu' I rx ry gh cx cy (by rw [← eb] at e; exact e) eb q
  | inn =>
    cases dy with
    | str j =>
      cases dx with
      | str i => cases e; cases cx; cases cy; exact op_in_str pins s σ H _ _ v u Q I rx ry ⟨i, j, rfl, rfl, q⟩
      | _ => cases e
    | list ds =>
      have e : inData dx ds = .ok r := by cases dx <;> exact e
      obtain ⟨h1, e⟩ := req_ok (e : req _ _ = _)
      cases e
      rw [Bool.and_eq_true] at h1
      exact op_inD hu pins s σ H _ _ v u Q I rx ry ⟨dx, ds, cx.dp gh, Cn.dp (d := .list ds) gh cy, h1.1, h1.2, q⟩
    | tuple ds =>
      have e : inData dx ds = .ok r := by cases dx <;> exact e
      obtain ⟨h1, e⟩ := req_ok (e : req _ _ = _)
      cases e
      rw [Bool.and_eq_true] at h1
      obtain ⟨_, r1⟩ := cn_reads I gh rx cx
      obtain ⟨_, r2⟩ := cn_reads (d := .tuple ds) I gh ry cy
      exact SeqAt.in_tuple_reads r2 r1 (by have h := SeqAt.canLay_of_shaped h1.2; exact h) (SeqAt.canLay_of_shaped h1.1) (room_in_shaped h1.1 hu) (fl_bl I q)
    | _ => cases dx <;> cases e
  | nin =>
    cases dy with
    | str j =>
      cases dx with
      | str i => cases e; cases cx; cases cy; exact op_notin_str pins s σ H _ _ v u Q I rx ry ⟨i, j, rfl, rfl, q⟩
      | _ => cases e
    | list ds =>
      have e : (inData dx ds).bind (fun b => R.ok (!b)) = .ok r := by cases dx <;> exact e
      obtain ⟨b, e, e2⟩ := bind_ok e
      obtain ⟨h1, e⟩ := req_ok (e : req _ _ = _)
      cases e; cases e2
      rw [Bool.and_eq_true] at h1
      exact op_notInD hu pins s σ H _ _ v u Q I rx ry ⟨dx, ds, cx.dp gh, Cn.dp (d := .list ds) gh cy, h1.1, h1.2, q⟩
    | tuple ds =>
      have e : (inData dx ds).bind (fun b => R.ok (!b)) = .ok r := by cases dx <;> exact e
      obtain ⟨b, e, e2⟩ := bind_ok e
      obtain ⟨h1, e⟩ := req_ok (e : req _ _ = _)
      cases e; cases e2
      rw [Bool.and_eq_true] at h1
      obtain ⟨_, r1⟩ := cn_reads I gh rx cx
      obtain ⟨_, r2⟩ := cn_reads (d := .tuple ds) I gh ry cy
      exact SeqAt.notIn_tuple_reads r2 r1 (by have h := SeqAt.canLay_of_shaped h1.2; exact h) (SeqAt.canLay_of_shaped h1.1) (room_in_shaped h1.1 hu) (fl_bl I q)
    | _ => cases dx <;> cases e
  | iss =>
    cases dy with
    | none =>
      cases cy
      refine op_isN pins s σ H _ _ v u Q I rx ry ⟨rfl, ?_⟩
      cases dx with
      | none => cases e; cases cx; exact q
      | list _ => cases e; obtain ⟨a, xs, rfl, _⟩ := cx; exact q
      | tuple _ => cases e; obtain ⟨a, xs, rfl, _⟩ := cx; exact q
      | dict _ => exact cx.elim
      | _ => cases e; cases cx; exact q
    | bool j =>
      cases dx with
      | bool i => cases e; cases cx; cases cy; exact op_isBl pins s σ H _ _ v u Q I rx ry ⟨i, j, rfl, rfl, q⟩
      | _ => cases e
    | _ => cases dx <;> cases e
  | isn =>
    cases dy with
    | none =>
      cases cy
      refine op_notN pins s σ H _ _ v u Q I rx ry ⟨rfl, ?_⟩
      cases dx with
      | none => cases e; cases cx; exact q
      | list _ => cases e; obtain ⟨a, xs, rfl, _⟩ := cx; exact q
      | tuple _ => cases e; obtain ⟨a, xs, rfl, _⟩ := cx; exact q
      | dict _ => exact cx.elim
      | _ => cases e; cases cx; exact q
    | bool j =>
      cases dx with
      | bool i => cases e; cases cx; cases cy; exact op_notBl pins s σ H _ _ v u Q I rx ry ⟨i, j, rfl, rfl, q⟩
      | _ => cases e
    | _ => cases dx <;> cases e
end
end PX

set_option Elab.async false
set_option linter.all false
set_option maxRecDepth 100000
set_option maxHeartbeats 4000000
/-! PX, part C: truth, builtins, items, slices, changes, by values. -/
namespace PX
open PySem PySem.Spec PyProof.Rows L2

theorem truth_ok {K : PySem.W.Frag} {G H : Hp} {v : V} {b : Bool} (gh : Same G H) : ∀ {d : D}, Cn K G H v d → truth d = .ok b → TruV K v H b
  | .none, h, e => by cases h; cases e; rfl
  | .bool _, h, e => by cases h; cases e; rfl
  | .int _, h, e => by cases h; cases e; rfl
  | .str x, h, e => by
    cases h
    obtain ⟨h1, e⟩ := req_ok (e : req _ _ = _)
    cases e
    exact ⟨of_decide_eq_true h1, rfl⟩
  | .list ds, ⟨a, xs, ev, h, t⟩, e => by
    subst ev
    cases e
    exact .inl ⟨xs, h, by rw [t.empty]⟩
  | .tuple ds, ⟨a, xs, ev, h, t⟩, e => by
    subst ev
    cases e
    exact .inr (.inl ⟨xs, sqT_mono gh h, by rw [t.empty]⟩)
  | .dict _, h, _ => h.elim

/-! ### builtins -/
theorem paired1 {α β : Type} {F : α → β → Prop} {xs : List α} {d : β} (h : Paired F xs [d]) : ∃ x, xs = [x] ∧ F x d := by
  cases h with
  | cons r t => cases t; exact ⟨_, rfl, r⟩
theorem paired2 {α β : Type} {F : α → β → Prop} {xs : List α} {d e : β} (h : Paired F xs [d, e]) : ∃ x y, xs = [x, y] ∧ F x d ∧ F y e := by
  cases h with
  | cons r t =>
    cases t with
    | cons r2 t2 => cases t2; exact ⟨_, _, rfl, r, r2⟩
theorem intsD_ok : ∀ {ds : List D} {ns : List Int}, intsD ds = some ns → ds = ns.map .int
  | [], _, e => by cases e; rfl
  | .int i :: r, ns, e => by
    unfold intsD at e
    cases h : intsD r with
    | none => rw [h] at e; cases e
    | some ms =>
      rw [h] at e
      cases e
      rw [intsD_ok h]
      rfl
  | .none :: _, _, e => by cases e
  | .bool _ :: _, _, e => by cases e
  | .str _ :: _, _, e => by cases e
  | .list _ :: _, _, e => by cases e
  | .tuple _ :: _, _, e => by cases e
  | .dict _ :: _, _, e => by cases e
theorem boolsD_ok : ∀ {ds : List D} {ns : List Bool}, boolsD ds = some ns → ds = ns.map .bool
  | [], _, e => by cases e; rfl
  | .bool i :: r, ns, e => by
    unfold boolsD at e
    cases h : boolsD r with
    | none => rw [h] at e; cases e
    | some ms =>
      rw [h] at e
      cases e
      rw [boolsD_ok h]
      rfl
  | .none :: _, _, e => by cases e
  | .int _ :: _, _, e => by cases e
  | .str _ :: _, _, e => by cases e
  | .list _ :: _, _, e => by cases e
  | .tuple _ :: _, _, e => by cases e
  | .dict _ :: _, _, e => by cases e
theorem dpAll_ints {K : PySem.W.Frag} {G : Hp} : ∀ {xs : List V} {ns : List Int}, DpAll K G xs (ns.map .int) → xs = ns.map .int
  | _, [], h => by cases h; rfl
  | _, n :: ns, h => by
    have h' : DpAll K G _ (.int n :: ns.map .int) := h
    cases h' with
    | cons h1 h2 => cases h1; rw [dpAll_ints h2]; rfl
theorem dpAll_bools {K : PySem.W.Frag} {G : Hp} : ∀ {xs : List V} {ns : List Bool}, DpAll K G xs (ns.map .bool) → xs = ns.map .bl
  | _, [], h => by cases h; rfl
  | _, n :: ns, h => by
    have h' : DpAll K G _ (.bool n :: ns.map .bool) := h
    cases h' with
    | cons h1 h2 => cases h1; rw [dpAll_bools h2]; rfl
theorem alikeB_ok {xs : List D} (h : alikeB xs = true) : PySem.W.AlikeAll xs := by
  unfold alikeB at h
  simp only [Bool.and_eq_true, List.all_eq_true] at h
  refine ⟨h.1, fun x hx e => ?_⟩
  have := h.2 x hx
  rw [e] at this
  exact absurd this (by decide)
/-- where an item of a list lies -/
theorem vals_at : ∀ {xs : List V} {us : List Value} {i : Nat} {u : Value}, Vals xs us → us[i]? = some u → ∃ x, xs[i]? = some x ∧ RelV x u
  | _, _, _, _, .nil, e => by simp at e
  | _, _, 0, _, .cons r _, e => by simp at e; subst e; exact ⟨_, rfl, r⟩
  | _, _, i + 1, u, .cons _ t, e => by
    obtain ⟨x, h1, h2⟩ := vals_at (i := i) (u := u) t (by simpa using e)
    exact ⟨x, by simpa using h1, h2⟩
theorem each_vals {K : PySem.W.Frag} {G : Hp} : ∀ {xs : List V} {us : List Value} {ds : List D}, Vals xs us → DpAll K G xs ds → PySem.W.EachIs (fun (u : Value) (d : D) => ∃ x, RelV x u ∧ Dp K G x d) us ds
  | _, _, _, .nil, .nil => .nil
  | _, _, _, .cons r t, .cons h t2 => .cons ⟨_, r, h⟩ (each_vals t t2)
theorem vals_each {K : PySem.W.Frag} {G : Hp} : ∀ {us : List Value} {ds : List D}, PySem.W.EachIs (fun (u : Value) (d : D) => ∃ x, RelV x u ∧ Dp K G x d) us ds → ∃ xs, Vals xs us ∧ DpAll K G xs ds
  | _, _, .nil => ⟨[], .nil, .nil⟩
  | _, _, .cons ⟨x, r, h⟩ t => by
    obtain ⟨xs, h1, h2⟩ := vals_each t
    exact ⟨x :: xs, .cons r h1, .cons h h2⟩
section
variable {X : Cx}
theorem each_reads {pins : List (Addr × Obj)} {s : Shared} {σ : St} {G H : Hp} (I : Inv X pins σ H s) (gh : Same G H) : ∀ {us : List Value} {ds : List D}, PySem.W.EachIs (fun (u : Value) (d : D) => ∃ x, RelV x u ∧ Dp X.K G x d) us ds → PySem.W.EachIs (fun (u : Value) (d : D) => ∃ as, Reads s.heap u d as) us ds
  | _, _, .nil => .nil
  | _, _, .cons ⟨x, r, h⟩ t => .cons (Dp.reads I _ _ _ (h.mono gh) r) (each_reads I gh t)
theorem sortB_ok {xs : List D} (h : sortB xs = true) : PySem.W.AllAlike xs ∧ PySem.W.Sortable xs := by
  unfold sortB at h
  simp only [Bool.and_eq_true, List.all_eq_true, Bool.or_eq_true] at h
  refine ⟨fun d hd e he => h.1 d hd e he, ?_⟩
  rcases h.2 with z | z
  · refine .inl fun d hd => ?_
    have := z d hd
    split at this
    · exact ⟨_, _, rfl⟩
    · cases this
  · refine .inr fun d hd => ?_
    have := z d hd
    split at this
    · cases this
    · cases this
    · rename_i h1 h2
      exact ⟨h2, h1⟩

/-- the builtins' values -/
def biV : Bi → Value
  | .len => .builtin "len" | .abs => .builtin "abs" | .min => .builtin "min" | .max => .builtin "max" | .sum => .builtin "sum" | .sorted => .builtin "sorted"
  | .all => .builtin "all" | .any => .builtin "any" | .int => .type "int" | .tuple => .type "tuple" | .list => .type "list" | _ => .none
def isBuiltin : Bi → Bool
  | .len => true | .abs => true | .min => true | .max => true | .sum => true | .sorted => true | .all => true | .any => true | _ => false
def isTypeB : Bi → Bool
  | .int => true | .tuple => true | .list => true | _ => false
theorem best_ok {pins : List (Addr × Obj)} {s : Shared} {σ : St} {G H : Hp} {Q : VK} {xs : List V} {us : List Value} {ds : List D} {as : List Addr} {d : D} (I : Inv X pins σ H s) (gh : Same G H) (rv : Vals xs us) (da : DpAll X.K G xs ds) (hr : ReadsAll s.heap us ds as)
    {i : Nat} {v : Value} {h' : Heap} {tk : Nat} {bs : List Addr} (hi : us[i]? = some v) (r : Reads h' v d bs) (k : ∀ b o, s.heap.get? b = some o → h'.get? b = some o) (q : ∀ z G' H', NewV X.K G H G' H' z (.frz d) → Q z H') : EP X pins σ Q v { s with heap := h', toks := tk } := by
  obtain ⟨x, hx, rx⟩ := vals_at rv hi
  obtain ⟨d', hd', dx⟩ := da.getV hx
  obtain ⟨cs, r2⟩ := Dp.reads I d' x v (dx.mono gh) rx
  obtain ⟨e, _⟩ := PySem.Reads.unique r d' cs (PySem.W.reads_keeps k r2)
  subst e
  exact ⟨x, H, I.kept k, rx, q _ _ _ (NewV.same gh dx)⟩
theorem bi_ok (hc : X.calm = true) (hu : X.A.units + 200 < cLine) (b : Bi) (hb : (isBuiltin b || isTypeB b) = true) : CallD X (biV b) (bi b) := by
  intro pins s σ G H xs us ds r Q I rv gh cs e q
  have hh := I.ok.hd hc
  cases b with
  | len =>
    match ds, e, cs with
    | [.str x], e, cs =>
      obtain ⟨h1, e⟩ := req_ok (e : req _ _ = _)
      cases e
      obtain ⟨_, rfl, c⟩ := paired1 cs
      cases c
      exact call_len pins s σ H _ us Q I rv ⟨_, _, rfl, ⟨of_decide_eq_true h1, rfl⟩, q _ _ _ (NewV.same gh (.int _))⟩
    | [.list es], e, cs =>
      cases e
      obtain ⟨_, rfl, a, ys, rfl, ha, da⟩ := paired1 cs
      exact call_len pins s σ H _ us Q I rv ⟨_, _, rfl, .inl ⟨ys, ha, rfl⟩, by rw [da.length]; exact q _ _ _ (NewV.same gh (.int _))⟩
    | [.tuple es], e, cs =>
      cases e
      obtain ⟨_, rfl, a, ys, rfl, ha, da⟩ := paired1 cs
      exact call_len pins s σ H _ us Q I rv ⟨_, _, rfl, .inr ⟨ys, sqT_mono gh ha, rfl⟩, by rw [da.length]; exact q _ _ _ (NewV.same gh (.int _))⟩
  | abs =>
    match ds, e, cs with
    | [.int i], e, cs =>
      cases e
      obtain ⟨_, rfl, c⟩ := paired1 cs
      cases c
      exact call_abs pins s σ H _ us Q I rv ⟨i, rfl, q _ _ _ (NewV.same gh (.int _))⟩
  | int =>
    match ds, e, cs with
    | [.int i], e, cs =>
      cases e
      obtain ⟨_, rfl, c⟩ := paired1 cs
      cases c
      exact call_int1 pins s σ H _ us Q I rv (.inl ⟨i, rfl, q _ _ _ (NewV.same gh (.int _))⟩)
    | [.bool i], e, cs =>
      cases e
      obtain ⟨_, rfl, c⟩ := paired1 cs
      cases c
      exact call_int1 pins s σ H _ us Q I rv (.inr ⟨i, rfl, q _ _ _ (NewV.same gh (.int _))⟩)
  | min =>
    match ds, e, cs with
    | [.int i, .int j], e, cs =>
      cases e
      obtain ⟨_, _, rfl, c, c2⟩ := paired2 cs
      cases c; cases c2
      exact call_min2 hc pins s σ H _ us Q I rv ⟨i, j, rfl, q _ _ _ (NewV.same gh (.int _))⟩
    | [.list (x :: es)], e, cs =>
      obtain ⟨h1, e⟩ := req_ok (e : req _ _ = _)
      cases e
      rw [Bool.and_eq_true] at h1
      obtain ⟨_, rfl, a, ys, rfl, ha, da⟩ := paired1 cs
      rw [Vals.ref1 rv]
      obtain ⟨its, r1, pl, _⟩ := I.list ha
      obtain ⟨as, hr⟩ := Dp.readsAll I _ ys its (da.mono gh) r1
      have h2 := of_decide_eq_true h1.2
      exact PySem.W.min_list_data hh pl.isList (by simpa using hr) (alikeB_ok h1.1) (by omega) fun i v h' tk bs hi r k => best_ok I gh r1 da hr (by simpa using hi) r k q
  | max =>
    match ds, e, cs with
    | [.int i, .int j], e, cs =>
      cases e
      obtain ⟨_, _, rfl, c, c2⟩ := paired2 cs
      cases c; cases c2
      exact call_max2 hc pins s σ H _ us Q I rv ⟨i, j, rfl, q _ _ _ (NewV.same gh (.int _))⟩
    | [.list (x :: es)], e, cs =>
      obtain ⟨h1, e⟩ := req_ok (e : req _ _ = _)
      cases e
      rw [Bool.and_eq_true] at h1
      obtain ⟨_, rfl, a, ys, rfl, ha, da⟩ := paired1 cs
      rw [Vals.ref1 rv]
      obtain ⟨its, r1, pl, _⟩ := I.list ha
      obtain ⟨as, hr⟩ := Dp.readsAll I _ ys its (da.mono gh) r1
      have h2 := of_decide_eq_true h1.2
      exact PySem.W.max_list_data hh pl.isList (by simpa using hr) (alikeB_ok h1.1) (by omega) fun i v h' tk bs hi r k => best_ok I gh r1 da hr (by simpa using hi) r k q
  | sum =>
    match ds, e, cs with
    | [.list es], e, cs =>
      have e : (match intsD es with | some ns => R.ok (Ar.frz (.int ns.sum)) | none => .no) = .ok r := e
      cases h : intsD es with
      | none => rw [h] at e; cases e
      | some ns =>
        rw [h] at e
        cases e
        obtain ⟨_, rfl, a, ys, rfl, ha, da⟩ := paired1 cs
        rw [intsD_ok h] at da
        have ey := dpAll_ints da
        subst ey
        exact cr_sum hc pins s σ H _ us Q I rv ⟨a, ns, rfl, ha, q _ _ _ (NewV.same gh (.int _))⟩
  | sorted =>
    match ds, e, cs with
    | [.list es], e, cs =>
      obtain ⟨h1, e⟩ := req_ok (e : req _ _ = _)
      cases e
      simp only [Bool.and_eq_true, decide_eq_true_eq, List.all_eq_true] at h1
      obtain ⟨_, rfl, a, ys, rfl, ha, da⟩ := paired1 cs
      rw [Vals.ref1 rv]
      obtain ⟨its, r1, pl, _⟩ := I.list ha
      obtain ⟨h2, h3⟩ := sortB_ok h1.1.1
      have ev := each_vals r1 da
      refine PySem.W.sorted_data (bs := es) (enc := id) pl.isList ev (each_reads I gh ev) (by rw [List.map_id]; exact h2) (by rw [List.map_id]; exact h3) h1.1.2 (fun b hb => by have := h1.2 b hb; show X.A.units + 2 + b.depth < cLine; omega) fun out hl ho => ?_
      obtain ⟨zs, v1, d1⟩ := vals_each ho
      obtain ⟨ep, he'⟩ := PyProof.Rows.sortedAll_at s.heap its out.toArray
      have hp : H (s.heap.objs.size + 1) = none := I.hok.fresh (Nat.le_succ _)
      exact ⟨.ref _, upd H (s.heap.objs.size + 1) (.lst zs), I.laid (t' := s.toks) (fun _ _ => PyProof.Rows.sortedAll_old) (Nat.le_succ _) ⟨by rw [v1.length, hl]; exact h1.1.2, out, ep, v1, he'⟩, rfl, q _ _ _ (NewV.lst gh hp d1)⟩
  | all =>
    match ds, e, cs with
    | [.list es], e, cs =>
      have e : (match boolsD es with | some bs => okB (bs.all id) | none => .no) = .ok r := e
      cases h : boolsD es with
      | none => rw [h] at e; cases e
      | some ns =>
        rw [h] at e
        cases e
        obtain ⟨_, rfl, a, ys, rfl, ha, da⟩ := paired1 cs
        rw [boolsD_ok h] at da
        have ey := dpAll_bools da
        subst ey
        exact cr_all hc pins s σ H _ us Q I rv ⟨a, ns, rfl, ha, q _ _ _ (NewV.same gh (.bl _))⟩
  | any =>
    match ds, e, cs with
    | [.list es], e, cs =>
      have e : (match boolsD es with | some bs => okB (bs.any id) | none => .no) = .ok r := e
      cases h : boolsD es with
      | none => rw [h] at e; cases e
      | some ns =>
        rw [h] at e
        cases e
        obtain ⟨_, rfl, a, ys, rfl, ha, da⟩ := paired1 cs
        rw [boolsD_ok h] at da
        have ey := dpAll_bools da
        subst ey
        exact cr_any hc pins s σ H _ us Q I rv ⟨a, ns, rfl, ha, q _ _ _ (NewV.same gh (.bl _))⟩
  | tuple =>
    match ds, e, cs with
    | [.list es], e, cs =>
      cases e
      obtain ⟨_, rfl, a, ys, rfl, ha, da⟩ := paired1 cs
      exact call_tuple_of pins s σ H _ us Q I rv ⟨a, ys, rfl, .inl ⟨ha, fun p hp => q _ _ _ (NewV.tup gh hp da)⟩⟩
    | [.tuple es], e, cs =>
      cases e
      obtain ⟨_, rfl, a, ys, rfl, ha, da⟩ := paired1 cs
      exact call_tuple_of pins s σ H _ us Q I rv ⟨a, ys, rfl, .inr ⟨sqT_mono gh ha, q _ _ _ (NewV.same gh (.tup ha da))⟩⟩
  | list =>
    match ds, e, cs with
    | [.list es], e, cs =>
      cases e
      obtain ⟨_, rfl, a, ys, rfl, ha, da⟩ := paired1 cs
      exact call_list_of pins s σ H _ us Q I rv ⟨a, ys, rfl, .inl ha, fun p hp => q _ _ _ (NewV.lst gh hp da)⟩
    | [.tuple es], e, cs =>
      cases e
      obtain ⟨_, rfl, a, ys, rfl, ha, da⟩ := paired1 cs
      exact call_list_of pins s σ H _ us Q I rv ⟨a, ys, rfl, .inr (sqT_mono gh ha), fun p hp => q _ _ _ (NewV.lst gh hp da)⟩
  | _ => cases hb
end
end PX

set_option Elab.async false
set_option linter.all false
set_option maxRecDepth 100000
set_option maxHeartbeats 4000000
/-! PX, part D: items, slices, changes; the rules in HandS's form. -/
namespace PX
open PySem PySem.Spec PyProof.Rows L2

def rB (op : Bop) (K : PySem.W.Frag) : R2 := fun x y H Q => ∃ G dx dy r, Same G H ∧ Cn K G H x dx ∧ Cn K G H y dy ∧ bop op dx dy = .ok r ∧ ∀ z G' H', NewV K G H G' H' z r → Q z H'
def rC (op : Cop) (K : PySem.W.Frag) : R2 := fun x y H Q => ∃ G dx dy b, Same G H ∧ Cn K G H x dx ∧ Cn K G H y dy ∧ cop op dx dy = .ok b ∧ Q (.bl b) H
def rBi (b : Bi) (K : PySem.W.Frag) : List V → Hp → VK → Prop := fun xs H Q => ∃ G ds r, Same G H ∧ Paired (Cn K G H) xs ds ∧ bi b ds = .ok r ∧ ∀ z G' H', NewV K G H G' H' z r → Q z H'
def rIt (K : PySem.W.Frag) : R2 := fun x y H Q => ∃ G dx dy d, Same G H ∧ Cn K G H x dx ∧ Cn K G H y dy ∧ item dx dy = .ok d ∧ ∀ z, Dp K G z d → Q z H
def sliceO : D → Option Int → Option Int → R Ar
  | .list xs, a, b => .ok (.own (.list (cutD xs a b)))
  | .tuple xs, a, b => .ok (.frz (.tuple (cutD xs a b)))
  | _, _, _ => .no
theorem slice_ok {d lo hi : D} {r : Ar} (h : slice d lo hi = .ok r) : ∃ a b, optI lo = some a ∧ optI hi = some b ∧ sliceO d a b = .ok r := by
  cases d with
  | list xs =>
    have h : (match optI lo, optI hi with | some a, some b => R.ok (Ar.own (.list (cutD xs a b))) | _, _ => .no) = .ok r := h
    split at h
    · exact ⟨_, _, by assumption, by assumption, h⟩
    · cases h
  | tuple xs =>
    have h : (match optI lo, optI hi with | some a, some b => R.ok (Ar.frz (.tuple (cutD xs a b))) | _, _ => .no) = .ok r := h
    split at h
    · exact ⟨_, _, by assumption, by assumption, h⟩
    · cases h
  | _ => cases h
def rSl (K : PySem.W.Frag) : V → Option Int → Option Int → Hp → VK → Prop := fun x lo hi H Q => ∃ G dx r, Same G H ∧ Cn K G H x dx ∧ sliceO dx lo hi = .ok r ∧ ∀ z G' H', NewV K G H G' H' z r → Q z H'
theorem DpAll.atI {K : PySem.W.Frag} {G : Hp} {xs : List V} {ds : List D} {i : Int} {d : D} (h : DpAll K G xs ds) (e : L2.atI ds i = some d) : ∃ v, L2.atI xs i = some v ∧ Dp K G v d := by
  unfold L2.atI at e ⊢
  rw [h.length]
  cases q : L2.ixN ds.length i with
  | none => rw [q] at e; cases e
  | some j =>
    rw [q] at e
    exact h.get e
theorem DpAll.cut {K : PySem.W.Frag} {G : Hp} {xs : List V} {ds : List D} (lo hi : Option Int) (h : DpAll K G xs ds) : DpAll K G (L2.cutV xs lo hi) (cutD ds lo hi) := by
  unfold L2.cutV cutD
  rw [h.length]
  exact (h.drop _).take _
theorem cutD_whole {α : Type} (xs : List α) (lo hi : Option Int) (h : HT.sIx xs.length 0 lo = 0 ∧ HT.sIx xs.length xs.length hi = xs.length) : cutD xs lo hi = xs := by
  unfold cutD
  rw [h.1, h.2]
  simp
theorem list_extend_lists (l : Addr) (xs : Array Value) (n : Nat) (b : Addr) (ys : Array Value) (m : Nat) (dd : Option Addr) (sl : Array (Option Value)) (hc : ¬(!xs.isEmpty && Builtin.List.listTooLong (xs.size + ys.size)) = true) (h1 : xs.size ≤ sizeLine) (h2 : xs.size + ys.size ≤ sizeLine + 1) :
    Meets (Builtin.«list.extend» ⟨[.ref l, .ref b], []⟩) (fun _ R s => s.heap.get? l = some ⟨.type "list", none, .seq xs n, #[]⟩ ∧ s.heap.get? b = some ⟨.type "list", dd, .seq ys m, sl⟩ ∧
      R (.ok (.ret Value.none)) { s with heap := s.heap.update l (Obj.mapSeq fun x => x ++ ys), toks := s.toks }) :=
  .of_wp fun prog w A R s h => by
    obtain ⟨hp, g, d, tk, os⟩ := s
    obtain ⟨hl, hb, h⟩ := h
    have e1 := AutoSeq1.sub_list_list
    have e2 : (xs ++ ys).size ≤ sizeLine + 1 := by
      rw [Array.size_append]
      exact h2
    wp_walk using (wpAny_updateSeq hl rfl (hz := h1) (_hz' := e2)), AutoSeq1.wpAny_loadPart' hl, AutoSeq1.wpAny_loadPart' hb
    exact ⟨_, rfl, h⟩
section
variable {X : Cx}
theorem opr_bop (op : Bop) : OpR X (binaryOp (opOf op)) (rB op X.K) := by
  rintro pins s σ H x y v u Q I rx ry ⟨G, dx, dy, r, gh, cx, cy, e, q⟩
  exact bop_ok op pins s σ G H x y v u dx dy r Q I rx ry gh cx cy e q
theorem opr_cop (hu : X.A.units + 65 < cLine) (op : Cop) : OpR X (compareOp (copOf op)) (rC op X.K) := by
  rintro pins s σ H x y v u Q I rx ry ⟨G, dx, dy, r, gh, cx, cy, e, q⟩
  exact cop_ok hu op pins s σ G H x y v u dx dy r Q I rx ry gh cx cy e q
theorem callr_bi (hc : X.calm = true) (hu : X.A.units + 200 < cLine) (b : Bi) (hb : (isBuiltin b || isTypeB b) = true) : CallR X (biV b) (rBi b X.K) := by
  rintro pins s σ H xs us Q I rv ⟨G, ds, r, gh, cs, e, q⟩
  exact bi_ok hc hu b hb pins s σ G H xs us ds r Q I rv gh cs e q
theorem ixr_item : IxR X (rIt X.K) := by
  rintro value slice pins s σ H x y v u Q I rx ry ⟨G, dx, dy, d, gh, cx, cy, e, q⟩ hs
  cases dx with
  | list ds =>
    cases dy with
    | int i =>
      have e : (match L2.atI ds i with | some d => R.ok d | none => .no) = .ok d := e
      cases h : L2.atI ds i with
      | none => rw [h] at e; cases e
      | some d' =>
        rw [h] at e
        cases e
        obtain ⟨a, xs, rfl, ha, da⟩ := cx
        cases cy
        obtain ⟨z, hz, dz⟩ := DpAll.atI da h
        exact ix_list value slice pins s σ H _ _ v u Q I rx ry ⟨a, xs, i, z, rfl, rfl, ha, hz, q z dz⟩ hs
    | _ => cases e
  | tuple ds =>
    cases dy with
    | int i =>
      have e : (match L2.atI ds i with | some d => R.ok d | none => .no) = .ok d := e
      cases h : L2.atI ds i with
      | none => rw [h] at e; cases e
      | some d' =>
        rw [h] at e
        cases e
        obtain ⟨a, xs, rfl, ha, da⟩ := cx
        cases cy
        obtain ⟨z, hz, dz⟩ := DpAll.atI da h
        exact ix_tup value slice pins s σ H _ _ v u Q I rx ry ⟨a, xs, i, z, rfl, rfl, sqT_mono gh ha, hz, q z dz⟩ hs
    | _ => cases e
  | str z =>
    cases dy with
    | int i =>
      obtain ⟨h1, e⟩ := req_ok (e : req _ _ = _)
      have e : (match L2.atI z.cps.toList i with | some c => R.ok (PyData.str ⟨#[c]⟩) | none => .no) = .ok d := e
      cases h : L2.atI z.cps.toList i with
      | none => rw [h] at e; cases e
      | some c =>
        rw [h] at e
        cases e
        cases cx; cases cy
        exact ix_str value slice pins s σ H _ _ v u Q I rx ry ⟨z, i, c, rfl, rfl, of_decide_eq_true h1, h, q _ (.str _)⟩ hs
    | _ => cases e
  | _ => cases e
theorem slr_slice : SlR X (rSl X.K) := by
  rintro pins s σ H x v vl vu lo hi sl Q I rx hs pl pu ⟨G, dx, r, gh, cx, e, q⟩
  cases dx with
  | list ds =>
    cases e
    obtain ⟨a, xs, rfl, ha, da⟩ := cx
    exact sl_list pins s σ H _ v vl vu lo hi sl Q I rx hs pl pu ⟨a, xs, rfl, ha, fun p hp => q _ _ _ (NewV.lst gh hp (DpAll.cut lo hi da))⟩
  | tuple ds =>
    cases e
    obtain ⟨a, xs, rfl, ha, da⟩ := cx
    refine sl_tupA pins s σ H _ v vl vu lo hi sl Q I rx hs pl pu ⟨a, xs, rfl, sqT_mono gh ha, fun hw => ?_, fun hw p hp => q _ _ _ (NewV.tup gh hp (DpAll.cut lo hi da))⟩
    rw [da.length] at hw
    refine q _ _ _ (NewV.same gh (.tup ha ?_))
    rw [cutD_whole ds lo hi hw]
    exact da
  | _ => cases e
theorem extend_ok {pins : List (Addr × Obj)} {s : Shared} {σ : St} {H : Hp} {l b : Addr} {xs zs : List V} {Q : VK} (I : Inv X pins σ H s) (hH : H l = some (.lst xs)) (hB : SqL X.K H b zs) (hz : xs.length + zs.length ≤ sizeLine) (q : Q .non (upd H l (.lst (xs ++ zs)))) :
    wpAny (model X.prog X.w) X.A (call (.builtin "list.extend") [.ref l, .ref b]) (EP X pins σ Q) X.xe s := by
  obtain ⟨z, its, n, r, hl, e⟩ := I.lstM hH
  obtain ⟨its2, r2, ⟨⟨c2, d2, t2, s2⟩, n2, e2, hc2, _, hd2⟩, _⟩ := I.list hB
  simp only at hc2 hd2
  subst hc2 hd2
  have l2 := r2.length
  have hsz : its.toArray.size + its2.toArray.size ≤ sizeLine := by
    rw [List.size_toArray, List.size_toArray]
    omega
  refine call_meets F.slot_list_extend ⟨_, e, rfl⟩ F.entry_list_extend (F.args_list_extend_2 _ _) (list_extend_lists l its.toArray n b its2.toArray n2 _ _ ?_ (by rw [List.size_toArray]; omega) (by omega)) ⟨e, e2, ?_⟩
  · rw [notLongL hsz, Bool.and_false]
    exact Bool.false_ne_true
  · exact ⟨.non, _, I.lset (its' := its ++ its2) hH e (by simp) (r.append r2) (by rw [List.length_append]; omega), rfl, q⟩
def mutId : Mut → String
  | .append => "list.append" | .extend => "list.extend" | .pop => "list.pop" | .popAt => "list.pop"
/-- the receiver at p is a list of the data d (told over G), the arguments never change -/
def rMu (m : Mut) (K : PySem.W.Frag) : V → List V → Hp → VK → Prop := fun x xs H Q => ∃ G p d ds r d', x = .ref p ∧ Same G H ∧ G p = none ∧ OwnAt K G H p d ∧ DpAll K G xs ds ∧ mutD m d ds = .ok (r, d') ∧
  ∀ z o, Dp K G z r → OwnAt K G (upd H p o) p d' → Q z (upd H p o)
theorem mtr_mut (m : Mut) : MtR X (mutId m) (rMu m X.K) := by
  rintro pins s σ H x xs v us Q I rx rv ⟨G, p, d, ds, r, d', rfl, gh, gp, ow, da, e, q⟩
  cases d with
  | list es =>
    obtain ⟨ys, hy, dy⟩ := ow
    cases m with
    | append =>
      match ds, e, da with
      | [z], e, .cons h .nil =>
        obtain ⟨h1, e⟩ := req_ok (e : req _ _ = _)
        cases e
        exact mt_append pins s σ H _ _ v us Q I rx rv ⟨p, ys, _, rfl, rfl, hy, by rw [dy.length]; exact of_decide_eq_true h1, q _ _ .non ⟨_, upd_same, dy.append (.cons h .nil)⟩⟩
    | extend =>
      match ds, e, da with
      | [.list zs], e, .cons (.lst (a := b) (xs := ws) hb dz) .nil =>
        obtain ⟨h1, e⟩ := req_ok (e : req _ _ = _)
        cases e
        cases rx
        rw [Vals.ref1 rv]
        exact extend_ok I hy (sqL_mono gh hb) (by rw [dy.length, dz.length]; exact of_decide_eq_true h1) (q _ _ .non ⟨_, upd_same, dy.append dz⟩)
    | pop =>
      match ds, e, da with
      | [], e, .nil =>
        have e : (match es[es.length - 1]? with | some d => R.ok (d, PyData.list es.dropLast) | none => .no) = .ok (r, d') := e
        cases h : es[es.length - 1]? with
        | none => rw [h] at e; cases e
        | some z =>
          rw [h] at e
          cases e
          obtain ⟨w, hw, dw⟩ := dy.get h
          exact mt_pop pins s σ H _ _ v us Q I rx rv ⟨p, ys, w, rfl, rfl, hy, by rw [dy.length]; exact hw, q _ _ dw ⟨_, upd_same, dy.dropLast⟩⟩
    | popAt =>
      match ds, e, da with
      | [.int i], e, .cons (.int _) .nil =>
        obtain ⟨h1, e⟩ := req_ok (e : req _ _ = _)
        simp only [Bool.and_eq_true, decide_eq_true_eq] at h1
        have e : (match L2.ixN es.length i with | some k => (match es[k]? with | some d => R.ok (d, PyData.list (es.eraseIdx k)) | none => .no) | none => .no) = .ok (r, d') := e
        cases h : L2.ixN es.length i with
        | none => rw [h] at e; cases e
        | some k =>
          rw [h] at e
          dsimp only at e
          cases h2 : es[k]? with
          | none => rw [h2] at e; cases e
          | some z =>
            rw [h2] at e
            cases e
            obtain ⟨w, hw, dw⟩ := dy.get h2
            exact mt_popAt pins s σ H _ _ v us Q I rx rv ⟨p, ys, i, k, w, rfl, rfl, hy, h1.1, h1.2, by rw [dy.length]; exact (L2.ixN_seq h).1, hw, q _ _ dw ⟨_, upd_same, dy.eraseIdx k⟩⟩
  | _ => exact ow.elim
/-- x[k] = v -/
def rSt (K : PySem.W.Frag) : TSet := fun o i v H Q => ∃ G p l k d l', o = .ref p ∧ Same G H ∧ OwnAt K G H p l ∧ Cn K G H i k ∧ Dp K G v d ∧ store l k d = .ok l' ∧ ∀ u, OwnAt K G (upd H p u) p l' → Q (upd H p u)
theorem pset_store : PSet X (rSt X.K) := by
  rintro pins s σ H o i v ov iv u Q I ro ri rv ⟨G, p, l, k, d, l', rfl, gh, ow, ck, dv, e, q⟩
  cases l with
  | list es =>
    obtain ⟨ys, hy, dy⟩ := ow
    cases k with
    | int k =>
      have e : (match L2.ixN es.length k with | some j => R.ok (PyData.list (es.set j d)) | none => .no) = .ok l' := e
      cases h : L2.ixN es.length k with
      | none => rw [h] at e; cases e
      | some j =>
        rw [h] at e
        cases e
        cases ck
        exact set_list pins s σ H _ _ v ov iv u Q I ro ri rv ⟨p, ys, k, j, rfl, rfl, hy, by rw [dy.length]; exact h, q _ ⟨_, upd_same, dy.set dv j⟩⟩
    | _ => cases e
  | _ => exact ow.elim
end
end PX

set_option Elab.async false
set_option linter.all false
set_option maxRecDepth 100000
set_option maxHeartbeats 4000000
/-! PX, part E: what is walked: zip, enumerate of anything; what a walk tells. -/
namespace PX
open PySem PySem.Spec PyProof.Rows L2

/-- what an iterator walks: a list, a tuple, a text -/
inductive Kd where
  | l (a : Addr) | t (a : Addr) | s (z : Str) (k : Tok)
def Kd.val : Kd → Value
  | .l a => .ref a | .t a => .ref a | .s z k => .str z k
def Kd.adr : Kd → List Addr
  | .l a => [a] | .t a => [a] | .s _ _ => []
def Kd.obj : Kd → Obj
  | .l a => { cls := .type "list_iterator", data := .fields #[.ref a, .int 0 0] }
  | .t a => { cls := .type "tuple_iterator", data := .fields #[.ref a, .int 0 0] }
  | .s z k => { cls := .type (strIterType z), data := .fields #[.str z k, .int 0 0] }
/-- the iterator at it has handed out i items -/
def Kd.at_ (k : Kd) (it : Addr) (i : Nat) (h : Heap) : Prop := match k with
  | .l a => h.IsListIter it a i
  | .t a => h.IsTupleIter it a i
  | .s z k => h.IsStrIter it (strIterType z) z k i
/-- the items, by values -/
def Kd.items (K : PySem.W.Frag) (H : Hp) (k : Kd) (xs : List V) : Prop := match k with
  | .l a => SqL K H a xs
  | .t a => SqT K H a xs
  | .s z _ => xs = z.cps.toList.map fun c => V.str ⟨#[c]⟩
theorem Kd.at_obj {k : Kd} {it : Addr} {i : Nat} {h : Heap} (x : k.at_ it i h) : ∃ o, h.get? it = some o ∧ ∀ v, o.data ≠ .cell v := by
  cases k with
  | l a => obtain ⟨o, e, _, d⟩ := x; exact ⟨o, e, fun v z => by rw [d] at z; cases z⟩
  | t a => obtain ⟨o, e, _, d⟩ := x; exact ⟨o, e, fun v z => by rw [d] at z; cases z⟩
  | s z k => obtain ⟨o, e, _, d⟩ := x; exact ⟨o, e, fun v z => by rw [d] at z; cases z⟩
theorem Kd.at_keep {k : Kd} {it : Addr} {i : Nat} {h h' : Heap} (x : k.at_ it i h) (e : ∀ o, h.get? it = some o → h'.get? it = some o) : k.at_ it i h' := by
  cases k with
  | l a => obtain ⟨o, q, r⟩ := x; exact ⟨o, e o q, r⟩
  | t a => obtain ⟨o, q, r⟩ := x; exact ⟨o, e o q, r⟩
  | s z k => obtain ⟨o, q, r⟩ := x; exact ⟨o, e o q, r⟩
theorem Kd.at_new {k : Kd} {it : Addr} {h : Heap} (e : h.get? it = some k.obj) : k.at_ it 0 h := by
  cases k with
  | l a => exact ⟨_, e, rfl, rfl⟩
  | t a => exact ⟨_, e, rfl, rfl⟩
  | s z k => exact ⟨_, e, rfl, rfl⟩
section
variable {X : Cx} {pins : List (Addr × Obj)} {σ : St} {H : Hp} {s : Shared}
/-- at a state: what its iterator draws -/
structure Drawn (P : Program) (w : World) (A : Around) (k : Kd) (xs : List V) (h : Heap) (it : Addr) (Pt : Nat → Value → Prop) (Sn : Nat → Heap → Prop) : Prop where
  dr : Draws P w A it (it :: k.adr) xs.length Pt Sn
  of : ∀ i, k.at_ it i h → Sn i h
  to : ∀ i h', Sn i h' → k.at_ it i h'
  rel : ∀ i u, Pt i u → ∃ x, xs[i]? = some x ∧ RelV x u
theorem Kd.draws {k : Kd} {xs : List V} {it : Addr} {A : Around} (I : Inv X pins σ H s) (hx : k.items X.K H xs) (hh : A.handled = none) (ha : it ∉ k.adr) : ∃ Pt Sn, Drawn X.prog X.w A k xs s.heap it Pt Sn := by
  cases k with
  | l a =>
    obtain ⟨its, r, pl, _⟩ := I.list hx
    refine ⟨fun i v => its.toArray[i]? = some v, fun i h => h.IsListIter it a i ∧ h.IsList a its.toArray, ?_, ?_, ?_, ?_⟩
    · have D := Draws.list (prog := X.prog) (w := X.w) hh it a (by intro z; exact ha (by simp [Kd.adr, z])) its.toArray
      have e : its.toArray.size = xs.length := by rw [List.size_toArray]; exact r.length.symm
      rw [e] at D
      exact D
    · exact fun i x => ⟨x, pl.isList⟩
    · exact fun i h' x => x.1
    · intro i u e
      exact vals_at r (by simpa using e)
  | t a =>
    obtain ⟨its, r, pl, _⟩ := I.tuple hx
    refine ⟨fun i v => its.toArray[i]? = some v, fun i h => h.IsTupleIter it a i ∧ h.IsTuple a its.toArray, ?_, ?_, ?_, ?_⟩
    · have D := Draws.tuple (prog := X.prog) (w := X.w) hh it a (by intro z; exact ha (by simp [Kd.adr, z])) its.toArray
      have e : its.toArray.size = xs.length := by rw [List.size_toArray]; exact r.length.symm
      rw [e] at D
      exact D
    · exact fun i x => ⟨x, pl⟩
    · exact fun i h' x => x.1
    · intro i u e
      exact vals_at r (by simpa using e)
  | s z k =>
    have hx : xs = z.cps.toList.map fun c => V.str ⟨#[c]⟩ := hx
    refine ⟨fun i v => ∃ c u, z.cps[i]? = some c ∧ v = .str ⟨#[c]⟩ u, fun i h => h.IsStrIter it (strIterType z) z k i, ?_, ?_, ?_, ?_⟩
    · have D := Draws.text (prog := X.prog) (w := X.w) hh it z k
      have e : z.cps.size = xs.length := by rw [hx]; simp
      rw [e] at D
      exact D
    · exact fun i x => x
    · exact fun i h' x => x
    · rintro i u ⟨c, t, e, rfl⟩
      exact ⟨.str ⟨#[c]⟩, by rw [hx, List.getElem?_map, Array.getElem?_toList, e]; rfl, t, rfl⟩
def Kd.has (k : Kd) (xs : List V) (h : Heap) : Prop := match k with
  | .l a => ∃ its : Array Value, h.IsList a its
  | .t a => ∃ its : Array Value, h.IsTuple a its
  | .s _ _ => True
theorem Kd.begins {k : Kd} {xs : List V} (I : Inv X pins σ H s) (hx : k.items X.K H xs) : ∃ Hh, Begins k.val k.obj Hh ∧ Hh s.heap ∧ ∀ b ∈ k.adr, b < s.heap.objs.size := by
  cases k with
  | l a =>
    obtain ⟨its, r, pl, _⟩ := I.list hx
    exact ⟨_, begins_list a its.toArray, pl.isList, fun b hb => by simp [Kd.adr] at hb; rw [hb]; exact pl.lt⟩
  | t a =>
    obtain ⟨its, r, pl, _⟩ := I.tuple hx
    exact ⟨_, begins_tuple a its.toArray, pl, fun b hb => by simp [Kd.adr] at hb; rw [hb]; exact pl.lt⟩
  | s z k => exact ⟨_, begins_text z k, trivial, fun b hb => absurd hb (by simp [Kd.adr])⟩
end

/-- new tuples, one a turn: y tells their items; F holds while it is walked -/
def Itp (F : Hp → Prop) (n : Nat) (y : Nat → Option (List V)) : It :=
  ⟨fun i H => F H ∧ i < n, fun i H v H' => ∃ T ys, v = V.ref T ∧ H T = none ∧ y i = some ys ∧ H' = upd H T (.tup ys), fun i H => F H ∧ i = n⟩
/-- a step of a walk that hands out new tuples -/
theorem goes_step {X : Cx} {pins : List (Addr × Obj)} {s : Shared} {σ : St} {H : Hp} {E : Value → Shared → Prop} {tg : Expr} {I : Addr} {fp fp0 wr : List Addr} {n : Nat} {Sn : Nat → Heap → Prop} {Pt : Nat → Array Value → Prop} {i : Nat} {tn : Nat → Heap → Prop} {F : Hp → Prop} {y : Nat → Option (List V)}
    (J : Inv X pins σ H s) (W : GoesN X.prog X.w X.A tg I fp wr n (fun i h₀ v h => ∃ T vals, v = .ref T ∧ h₀.objs.size ≤ T ∧ Pt i vals ∧ h.IsTuple T vals) Sn) (hw : ∀ b ∈ wr, b ∈ fp0) (hf : ∀ b ∈ fp0, FpOk X pins H b) (hi : i < n) (st : Sn i s.heap) (to : ∀ h', Sn (i + 1) h' → (∀ b o, b ∉ wr → s.heap.get? b = some o → h'.get? b = some o) → tn (i + 1) h')
    (rel : ∀ vals, Pt i vals → ∃ ys, y i = some ys ∧ ys.length ≤ 3 ∧ Vals ys vals.toList) (hs : ∀ b ∈ fp0, ∃ o, s.heap.get? b = some o) :
    wpAny (model X.prog X.w) X.A (pyNext (.ref I)) (fun r s1 => ∃ u, r = some u ∧
      wpAny (model X.prog X.w) X.A (letOwnedTupleGo tg (.ref I) u) (fun _ s2 => ∃ x H', Inv X pins σ H' s2 ∧ RelV x u ∧ (Itp F n y).yld i H x H' ∧ tn (i + 1) s2.heap ∧ ∀ b ∈ fp0, H' b = none) E s1) E s := by
  refine W.goes i s (fun u s2 => ∃ x H', Inv X pins σ H' s2 ∧ RelV x u ∧ (Itp F n y).yld i H x H' ∧ tn (i + 1) s2.heap ∧ ∀ b ∈ fp0, H' b = none) E hi st ?_
  rintro v h' tk ⟨T, vals, rfl, hT, hp, ⟨o, e1, e2, m, e3⟩⟩ st' kp _
  obtain ⟨ys, ey, hl, rv⟩ := rel vals hp
  have hn : H T = none := J.hok.fresh hT
  refine ⟨.ref T, upd H T (.tup ys), ?_, rfl, ⟨T, ys, rfl, hn, ey, rfl⟩, to h' st' kp, fun b hb => ?_⟩
  · refine J.turnedNew (ch := wr) (t' := tk) kp (fun b hb => hf b (hw b hb)) hT ⟨Nat.le_trans hl (by decide), vals.toList, rv, ⟨o, e1, e2, m, by rw [e3]⟩⟩
  · obtain ⟨o, ho⟩ := hs b hb
    rw [upd_ne (Nat.ne_of_lt (Nat.lt_of_lt_of_le (Heap.lt_size ho) hT))]
    exact (hf b hb).1
theorem goes_done {X : Cx} {pins : List (Addr × Obj)} {s : Shared} {σ : St} {H : Hp} {E : Value → Shared → Prop} {tg : Expr} {I : Addr} {fp fp0 wr : List Addr} {n : Nat} {Sn : Nat → Heap → Prop} {Y : Nat → Heap → Value → Heap → Prop}
    (J : Inv X pins σ H s) (W : GoesN X.prog X.w X.A tg I fp wr n Y Sn) (hw : ∀ b ∈ wr, b ∈ fp0) (hf : ∀ b ∈ fp0, FpOk X pins H b) (st : Sn n s.heap) :
    wpAny (model X.prog X.w) X.A (pyNext (.ref I)) (fun r s1 => r = none ∧ Inv X pins σ H s1) E s := by
  refine W.stops s _ E st fun h' tk kp _ => ?_
  have nit : ∀ b u, H b = some u → b ∉ wr := fun b u e z => by
    have q := (hf b (hw b z)).1
    rw [q] at e; cases e
  refine J.step (g' := s.gens) (d' := s.drawn) (ch := wr) (fun b hb => ?_) (fun b o _ _ hc e _ => kp b o hc e) (fun b o _ _ hc e _ => ⟨o.slots, kp b o hc e⟩) (fun _ _ _ _ z => z) (fun b o hc e => ⟨o, kp b o hc e⟩) (fun _ _ z => z) (fun _ _ _ z => z) (fun b ps z => ⟨#[], by rw [z]; simp⟩) (fun m hm => ?_) (fun b u e => ?_) J.bare
  · obtain ⟨_, f1, _, f3, f4, f5⟩ := hf b (hw b hb)
    exact ⟨f3, f1, f4, f5⟩
  · obtain ⟨o, es, ep, ho, r⟩ := hm
    exact ⟨o, es, ep, kp _ o (fun z => (hf _ (hw _ z)).2.1 rfl) ho, r⟩
  · refine (J.hok b u e).stay (fun c v hc q => kp c v ?_ q) (fun _ q => q) fun _ _ q => q
    rcases hc with z | z
    · rw [z]; exact nit b u e
    · exact nit c _ z

/-! ### zip of two -/
theorem mem5 {b z TO TI i1 i2 : Addr} (h : b ∈ [z, TO, i1, i2]) : b ∈ [z, TI, TO, i1, i2] := by
  simp only [List.mem_cons, List.not_mem_nil, or_false] at h ⊢
  rcases h with h | h | h | h
  · exact .inl h
  · exact .inr (.inr (.inl h))
  · exact .inr (.inr (.inr (.inl h)))
  · exact .inr (.inr (.inr (.inr h)))
def pairAt (xs ys : List V) (i : Nat) : Option (List V) := match xs[i]?, ys[i]? with
  | some x, some y => some [x, y]
  | _, _ => none
def zip2At (k1 k2 : Kd) (N : Addr) (i : Nat) (h : Heap) : Prop := IsZip h (N + 4) (N + 2) (N + 3) .none ∧ IsTupOf2 h (N + 2) (.ref N) (.ref (N + 1)) ∧ (∃ a1 a2, IsTupOf2 h (N + 3) a1 a2) ∧ k1.at_ N i h ∧ k2.at_ (N + 1) i h
theorem turn_zip2 {P : Program} {w : World} {K : PySem.W.Frag} {elts : List Expr} {kk : Nat} {tpos : Pos} {k1 k2 : Kd} {xs ys : List V} {N : Addr} (a1 : ∀ b ∈ k1.adr, b < N) (a2 : ∀ b ∈ k2.adr, b < N) :
    Turn P w K (.Tuple elts kk tpos) (Itp (fun H => k1.items K H xs ∧ k2.items K H ys) (min xs.length ys.length) (pairAt xs ys)) [N + 4, N + 2, N + 3, N, N + 1] (N + 4) (zip2At k1 k2 N) where
  mem := by simp
  obj := by
    rintro i h ⟨z1, z2, ⟨b1, b2, z3⟩, z4, z5⟩ b hb
    simp only [List.mem_cons, List.not_mem_nil, or_false] at hb
    rcases hb with rfl | rfl | rfl | rfl | rfl
    · exact ⟨_, z1, fun v q => nomatch q⟩
    · exact ⟨_, z2, fun v q => nomatch q⟩
    · exact ⟨_, z3, fun v q => nomatch q⟩
    · exact Kd.at_obj z4
    · exact Kd.at_obj z5
  keep := by
    rintro i h h' ⟨z1, z2, ⟨b1, b2, z3⟩, z4, z5⟩ k
    exact ⟨k _ (by simp) _ z1, k _ (by simp) _ z2, ⟨b1, b2, k _ (by simp) _ z3⟩, Kd.at_keep z4 fun o e => k N (by simp) o e, Kd.at_keep z5 fun o e => k (N + 1) (by simp) o e⟩
  item := by
    intro X hP hw hK hc i pins s σ H E I hf st hg
    subst hP hw hK
    obtain ⟨⟨i1, i2⟩, hi⟩ := hg
    obtain ⟨Pt1, Sn1, D1⟩ := Kd.draws (A := X.A.in1) (it := N) I i1 (I.ok.hd hc) (fun z => absurd (a1 N z) (Nat.lt_irrefl _))
    obtain ⟨Pt2, Sn2, D2⟩ := Kd.draws (A := X.A.in1) (it := N + 1) I i2 (I.ok.hd hc) (fun z => absurd (a2 _ z) (Nat.not_lt.mpr (Nat.le_succ N)))
    obtain ⟨z1, z2, z3, z4, z5⟩ := id st
    have W := (GoesN.zip2 (elts := elts) (x1 := kk) (pos := tpos) (zip_sep2 a1 a2) D1.dr D2.dr).mono (Y' := fun i h₀ v h => ∃ T vals, v = .ref T ∧ h₀.objs.size ≤ T ∧ (∃ x y, vals = #[x, y] ∧ Pt1 i x ∧ Pt2 i y) ∧ h.IsTuple T vals) fun i h₀ v h _ ⟨T, x, y, e, hs, p1, p2, ht⟩ => ⟨T, _, e, hs, ⟨x, y, rfl, p1, p2⟩, ht⟩
    refine goes_step I W (fun b hb => ?_) hf hi ⟨z1, z2, z3, D1.of _ z4, D2.of _ z5⟩ (fun h' st' _ => ?_) ?_ fun b hb => ?_
    · exact mem5 hb
    · obtain ⟨y1, y2, y3, y4, y5⟩ := st'
      exact ⟨y1, y2, y3, D1.to _ _ y4, D2.to _ _ y5⟩
    · rintro vals ⟨x, y, rfl, p1, p2⟩
      obtain ⟨vx, ex, rx⟩ := D1.rel i x p1
      obtain ⟨vy, ey, ry⟩ := D2.rel i y p2
      exact ⟨[vx, vy], by unfold pairAt; rw [ex, ey], by simp, .cons rx (.cons ry .nil)⟩
    · have q : ∀ b ∈ [N + 4, N + 2, N + 3, N, N + 1], ∃ o, s.heap.get? b = some o := fun b hb => by
        simp only [List.mem_cons, List.not_mem_nil, or_false] at hb
        obtain ⟨b1, b2, z3⟩ := z3
        rcases hb with rfl | rfl | rfl | rfl | rfl
        · exact ⟨_, z1⟩
        · exact ⟨_, z2⟩
        · exact ⟨_, z3⟩
        · obtain ⟨o, e, _⟩ := Kd.at_obj z4; exact ⟨o, e⟩
        · obtain ⟨o, e, _⟩ := Kd.at_obj z5; exact ⟨o, e⟩
      exact q b hb
  done := by
    intro X hP hw hK hc i pins s σ H E I hf st hg
    subst hP hw hK
    obtain ⟨⟨i1, i2⟩, hi⟩ := hg
    subst hi
    obtain ⟨Pt1, Sn1, D1⟩ := Kd.draws (A := X.A.in1) (it := N) I i1 (I.ok.hd hc) (fun z => absurd (a1 N z) (Nat.lt_irrefl _))
    obtain ⟨Pt2, Sn2, D2⟩ := Kd.draws (A := X.A.in1) (it := N + 1) I i2 (I.ok.hd hc) (fun z => absurd (a2 _ z) (Nat.not_lt.mpr (Nat.le_succ N)))
    obtain ⟨z1, z2, z3, z4, z5⟩ := id st
    have W := GoesN.zip2 (elts := elts) (x1 := kk) (pos := tpos) (zip_sep2 a1 a2) D1.dr D2.dr
    refine goes_done I W (fun b hb => ?_) hf ⟨z1, z2, z3, D1.of _ z4, D2.of _ z5⟩
    exact mem5 hb
  self := fun A i s Q E st h => wpAny_pyIter_zip st.1 h
end PX

set_option Elab.async false
set_option linter.all false
set_option maxRecDepth 100000
set_option maxHeartbeats 4000000
/-! PX, part E2: enumerate of anything; calls of zip and enumerate. -/
namespace PX
open PySem PySem.Spec PyProof.Rows L2

theorem meets_enum_new1 {v : Value} {o : Obj} {H : Heap → Prop} (B : Begins v o H) :
    Meets (Builtin.«enumerate.__new__» ⟨[.type "enumerate", v], []⟩) (fun _ R s => H s.heap ∧
      R (.ok (.ret (.ref (s.heap.push o).objs.size))) { s with heap := (s.heap.push o).push { cls := .type "enumerate", data := .fields #[.none, .bool false, .ref s.heap.objs.size, rawInt 0, .none, .none] } }) :=
  .of_wp fun prog w A R s h => by
    obtain ⟨hh, ge, dr, tk, os⟩ := s
    obtain ⟨stands, h⟩ := h
    have isSub := sub_enumerate
    have iter1 : ∀ {B : Around} {E P : Value → Shared → Prop}, P (.ref hh.objs.size) ⟨hh.push o, ge, dr, tk, os⟩ → wpAny (model prog w) B (pyIter v) P E ⟨hh, ge, dr, tk, os⟩ := fun q => B.iter prog w _ _ _ _ stands q
    wp_walk
    refine wpAny_stack_any fun st => wpAny_pure ?_
    split
    · rename_i c _ _ _ _ _
      cases (c == Value.type "enumerate")
      · wp_walk using iter1
        exact ⟨_, rfl, h⟩
      · wp_walk using iter1
        exact ⟨_, rfl, h⟩
    · wp_walk using iter1
      exact ⟨_, rfl, h⟩

section
variable {prog : Program} {w : World} {A : Around} {E : Value → Shared → Prop} {s : Shared}
theorem call_enum {v : Value} {o : Obj} {Hh : Heap → Prop} {Q : Value → Shared → Prop} (B : Begins v o Hh) (hs : Hh s.heap)
    (h : ∀ h', IsEnum h' (s.heap.objs.size + 1) s.heap.objs.size 0 .none → h'.get? s.heap.objs.size = some o → (∀ b u, s.heap.get? b = some u → h'.get? b = some u) → Q (.ref (s.heap.objs.size + 1)) { s with heap := h' }) :
    wpAny (model prog w) A (call (.type "enumerate") [v]) Q E s := by
  refine callType_new F.called_enumerate (by decide) (F.typeCall_enumerate_1 _) (F.newCall_enumerate_1 _) (fun obj => F.args_object_init_2 obj _) F.entry_enumerate_new (meets_enum_new1 B) ⟨hs, ?_⟩
  have size1 : (s.heap.push o).objs.size = s.heap.objs.size + 1 := Heap.size_push ..
  have there : IsEnum ((s.heap.push o).push { cls := .type "enumerate", data := .fields #[.none, .bool false, .ref s.heap.objs.size, rawInt 0, .none, .none] }) (s.heap.objs.size + 1) s.heap.objs.size 0 .none := by
    have q := Heap.get?_push_size (s.heap.push o) (o := { cls := .type "enumerate", data := .fields #[.none, .bool false, .ref s.heap.objs.size, rawInt 0, .none, .none] }) rfl
    rw [size1] at q
    exact q
  show _ ∧ _
  rw [size1]
  exact ⟨⟨_, there, rfl⟩, h _ there (Heap.get?_push_of_some _ (Heap.get?_push_size _ B.free)) fun b u e => Heap.get?_push_of_some _ (Heap.get?_push_of_some _ e)⟩
end

def countAt (xs : List V) (i : Nat) : Option (List V) := xs[i]?.map fun x => [.int (i : Nat), x]
def enumAt (k : Kd) (N : Addr) (i : Nat) (h : Heap) : Prop := (∃ old, IsEnum h (N + 1) N ((i : Nat) : Int) old) ∧ k.at_ N i h
theorem mem2 {b e it : Addr} (h : b ∈ [e, it]) : b = e ∨ b = it := by
  simpa using h
theorem turn_enumA {P : Program} {w : World} {K : PySem.W.Frag} {elts : List Expr} {kk : Nat} {tpos : Pos} {k : Kd} {xs : List V} {N : Addr} (a1 : ∀ b ∈ k.adr, b < N) :
    Turn P w K (.Tuple elts kk tpos) (Itp (fun H => k.items K H xs) xs.length (countAt xs)) [N + 1, N] (N + 1) (enumAt k N) where
  mem := by simp
  obj := by
    rintro i h ⟨⟨old, z1⟩, z2⟩ b hb
    rcases mem2 hb with rfl | rfl
    · exact ⟨_, z1, fun v q => nomatch q⟩
    · exact Kd.at_obj z2
  keep := by
    rintro i h h' ⟨⟨old, z1⟩, z2⟩ k
    exact ⟨⟨old, k _ (by simp) _ z1⟩, Kd.at_keep z2 fun o e => k N (by simp) o e⟩
  item := by
    intro X hP hw hK hc i pins s σ H E I hf st hg
    subst hP hw hK
    obtain ⟨i1, hi⟩ := hg
    have nN : N ∉ k.adr := fun z => absurd (a1 N z) (Nat.lt_irrefl _)
    obtain ⟨Pt1, Sn1, D1⟩ := Kd.draws (A := X.A.in1) (it := N) I i1 (I.ok.hd hc) nN
    obtain ⟨⟨old, z1⟩, z2⟩ := id st
    have z0 : ∀ i : Nat, (0 : Int) + (i : Nat) = ((i : Nat) : Int) := fun i => by omega
    have W := (GoesN.enumFrom (elts := elts) (x1 := kk) (pos := tpos) 0 D1.dr (N + 1) (Nat.succ_ne_self N) (fun z => by
      rcases List.mem_cons.mp z with e | z
      · exact Nat.succ_ne_self N e
      · exact absurd (a1 _ z) (Nat.not_lt.mpr (Nat.le_succ N))) List.mem_cons_self).mono (Y' := fun i h₀ v h => ∃ T vals, v = .ref T ∧ h₀.objs.size ≤ T ∧ (∃ t x, vals = #[.int (i : Nat) t, x] ∧ Pt1 i x) ∧ h.IsTuple T vals) fun i h₀ v h _ ⟨T, t, x, e, hs, p1, ht⟩ => ⟨T, #[.int ((i : Nat) : Int) t, x], e, hs, ⟨t, x, rfl, p1⟩, by rw [z0] at ht; exact ht⟩
    refine goes_step I W (fun b hb => hb) hf hi ⟨⟨old, by rw [z0]; exact z1⟩, D1.of _ z2⟩ (fun h' st' _ => ?_) ?_ fun b hb => ?_
    · obtain ⟨⟨old', y1⟩, y2⟩ := st'
      rw [z0] at y1
      exact ⟨⟨old', y1⟩, D1.to _ _ y2⟩
    · rintro vals ⟨t, x, rfl, p1⟩
      obtain ⟨vx, ex, rx⟩ := D1.rel i x p1
      exact ⟨[.int (i : Nat), vx], by unfold countAt; rw [ex]; rfl, by simp, .cons ⟨_, rfl⟩ (.cons rx .nil)⟩
    · rcases mem2 hb with rfl | rfl
      · exact ⟨_, z1⟩
      · obtain ⟨o, e, _⟩ := Kd.at_obj z2; exact ⟨o, e⟩
  done := by
    intro X hP hw hK hc i pins s σ H E I hf st hg
    subst hP hw hK
    obtain ⟨i1, hi⟩ := hg
    subst hi
    have nN : N ∉ k.adr := fun z => absurd (a1 N z) (Nat.lt_irrefl _)
    obtain ⟨Pt1, Sn1, D1⟩ := Kd.draws (A := X.A.in1) (it := N) I i1 (I.ok.hd hc) nN
    obtain ⟨⟨old, z1⟩, z2⟩ := id st
    have z0 : ∀ i : Nat, (0 : Int) + (i : Nat) = ((i : Nat) : Int) := fun i => by omega
    have W := GoesN.enumFrom (elts := elts) (x1 := kk) (pos := tpos) 0 D1.dr (N + 1) (Nat.succ_ne_self N) (fun z => by
      rcases List.mem_cons.mp z with e | z
      · exact Nat.succ_ne_self N e
      · exact absurd (a1 _ z) (Nat.not_lt.mpr (Nat.le_succ N))) List.mem_cons_self
    exact goes_done I W (fun b hb => hb) hf ⟨⟨old, by rw [z0]; exact z1⟩, D1.of _ z2⟩
  self := fun A i s Q E st h => let ⟨⟨_, he⟩, _⟩ := st; wpAny_pyIter_enum he h

/-! ### what a walk tells -/
/-- J walks the data ds, while G stands -/
structure WalkD (K : PySem.W.Frag) (G : Hp) (J : It) (ds : List D) : Prop where
  go : ∀ (i : Nat) H, i < ds.length → Same G H → J.go i H
  stop : ∀ H, Same G H → J.stop ds.length H
  yld : ∀ (i : Nat) Gc H x H' d, ds[i]? = some d → Same G Gc → Same Gc H → J.yld i H x H' → ∃ G', NewV K Gc H G' H' x (.frz d)
theorem walk_lst {K : PySem.W.Frag} {G : Hp} {a : Addr} {xs : List V} {ds : List D} (h : SqL K G a xs) (da : DpAll K G xs ds) : WalkD K G (Itl K a) ds where
  go := fun i H hi e => by
    have hl := da.length
    exact ⟨xs, xs[i], sqL_mono e h, by simp [hl, hi]⟩
  stop := fun H e => ⟨xs, sqL_mono e h, by rw [da.length]; exact Nat.le_refl _⟩
  yld := fun i Gc H x H' d hd e1 e2 y => by
    obtain ⟨rfl, y⟩ := y
    obtain ⟨v, hv, dv⟩ := da.get hd
    have := y xs (sqL_mono (e1.trans e2) h)
    rw [hv] at this
    cases this
    exact ⟨Gc, NewV.same e2 (dv.mono e1)⟩
theorem walk_tup {K : PySem.W.Frag} {G : Hp} {a : Addr} {xs : List V} {ds : List D} (h : SqT K G a xs) (da : DpAll K G xs ds) : WalkD K G (Itt K a) ds where
  go := fun i H hi e => by
    have hl := da.length
    exact ⟨xs, xs[i], sqT_mono e h, by simp [hl, hi]⟩
  stop := fun H e => ⟨xs, sqT_mono e h, by rw [da.length]; exact Nat.le_refl _⟩
  yld := fun i Gc H x H' d hd e1 e2 y => by
    obtain ⟨rfl, y⟩ := y
    obtain ⟨v, hv, dv⟩ := da.get hd
    have := y xs (sqT_mono (e1.trans e2) h)
    rw [hv] at this
    cases this
    exact ⟨Gc, NewV.same e2 (dv.mono e1)⟩
theorem walk_text {K : PySem.W.Frag} {G : Hp} {z : Str} : WalkD K G (Its z) (z.cps.toList.map fun c => PyData.str ⟨#[c]⟩) where
  go := fun i H hi _ => by simpa [Its] using hi
  stop := fun H _ => by simp [Its]
  yld := fun i Gc H x H' d hd _ e2 y => by
    obtain ⟨rfl, c, hc, rfl⟩ := y
    rw [List.getElem?_map, Array.getElem?_toList, hc] at hd
    cases hd
    exact ⟨Gc, NewV.same e2 (.str _)⟩
theorem walk_rng {K : PySem.W.Frag} {G : Hp} {lo : Int} {n : Nat} : WalkD K G (Itr lo n) (rangeD lo n 1) where
  go := fun i H hi _ => by simpa [Itr, rangeD] using hi
  stop := fun H _ => by simp [Itr, rangeD]
  yld := fun i Gc H x H' d hd _ e2 y => by
    obtain ⟨rfl, rfl⟩ := y
    unfold rangeD at hd
    rw [List.getElem?_map] at hd
    cases q : (List.range n)[i]? with
    | none => rw [q] at hd; cases hd
    | some k =>
      rw [q] at hd
      cases hd
      obtain ⟨_, e⟩ := List.getElem?_eq_some_iff.mp q
      rw [List.getElem_range] at e
      subst e
      have e3 : lo + ((i : Nat) : Int) = lo + (i : Nat) * 1 := by omega
      rw [e3]
      exact ⟨Gc, NewV.same e2 (.int _)⟩
theorem walk_rng3 {K : PySem.W.Frag} {G : Hp} {lo c : Int} {n : Nat} : WalkD K G (Itc lo c n) (rangeD lo n c) where
  go := fun i H hi _ => by simpa [Itc, rangeD] using hi
  stop := fun H _ => by simp [Itc, rangeD]
  yld := fun i Gc H x H' d hd _ e2 y => by
    obtain ⟨rfl, rfl⟩ := y
    unfold rangeD at hd
    rw [List.getElem?_map] at hd
    cases q : (List.range n)[i]? with
    | none => rw [q] at hd; cases hd
    | some k =>
      rw [q] at hd
      cases hd
      obtain ⟨_, e⟩ := List.getElem?_eq_some_iff.mp q
      rw [List.getElem_range] at e
      subst e
      exact ⟨Gc, NewV.same e2 (.int _)⟩
/-- a walk of new tuples -/
theorem walk_new {K : PySem.W.Frag} {G : Hp} {F : Hp → Prop} {n : Nat} {y : Nat → Option (List V)} {ds : List D} (hF : ∀ H, Same G H → F H) (hn : ds.length = n)
    (hy : ∀ (i : Nat) d ys, ds[i]? = some d → y i = some ys → ∃ es, d = .tuple es ∧ DpAll K G ys es) : WalkD K G (Itp F n y) ds where
  go := fun i H hi e => ⟨hF H e, by rw [← hn]; exact hi⟩
  stop := fun H e => ⟨hF H e, hn⟩
  yld := fun i Gc H x H' d hd e1 e2 q => by
    obtain ⟨T, ys, rfl, hT, ey, rfl⟩ := q
    obtain ⟨es, rfl, da⟩ := hy i d ys hd ey
    exact ⟨_, NewV.tup e2 hT (da.mono e1)⟩
/-- a source's data -/
inductive SrcD (K : PySem.W.Frag) (G : Hp) : V → List D → Prop where
  | l {a : Addr} {xs : List V} {ds : List D} : SqL K G a xs → DpAll K G xs ds → SrcD K G (.ref a) ds
  | t {a : Addr} {xs : List V} {ds : List D} : SqT K G a xs → DpAll K G xs ds → SrcD K G (.ref a) ds
  | s (z : Str) : SrcD K G (.str z) (z.cps.toList.map fun c => PyData.str ⟨#[c]⟩)
theorem srcD_of {K : PySem.W.Frag} {G : Hp} {v : V} {d : D} {ds : List D} (h : Dp K G v d) (e : seqD d = .ok ds) : SrcD K G v ds := by
  cases h with
  | lst h a => cases e; exact .l h a
  | tup h a => cases e; exact .t h a
  | str z => cases e; exact .s z
  | _ => cases e
theorem SrcD.mono {K : PySem.W.Frag} {G G' : Hp} {v : V} {ds : List D} (h : SrcD K G v ds) (e : Same G G') : SrcD K G' v ds := by
  cases h with
  | l h a => exact .l (sqL_mono e h) (a.mono e)
  | t h a => exact .t (sqT_mono e h) (a.mono e)
  | s z => exact .s z
theorem dpAll_chars {K : PySem.W.Frag} {G : Hp} : ∀ l : List Nat, DpAll K G (l.map fun c => V.str ⟨#[c]⟩) (l.map fun c => PyData.str ⟨#[c]⟩)
  | [] => .nil
  | c :: l => .cons (.str _) (dpAll_chars l)
theorem SrcD.kd {K : PySem.W.Frag} {G : Hp} {v : V} {u : Value} {ds : List D} (h : SrcD K G v ds) (r : RelV v u) : ∃ (k : Kd) (xs : List V), k.val = u ∧ DpAll K G xs ds ∧ ∀ H, Same G H → k.items K H xs := by
  cases h with
  | @l a xs _ h da => cases r; exact ⟨.l a, xs, rfl, da, fun H e => sqL_mono e h⟩
  | @t a xs _ h da => cases r; exact ⟨.t a, xs, rfl, da, fun H e => sqT_mono e h⟩
  | s z => obtain ⟨t, rfl⟩ := r; exact ⟨.s z t, _, rfl, dpAll_chars _, fun H e => rfl⟩
theorem zip2_length : ∀ xs ys : List D, (zip2 xs ys).length = min xs.length ys.length
  | [], _ => by simp [zip2]
  | _ :: _, [] => by simp [zip2]
  | x :: xs, y :: ys => by simp only [zip2, List.length_cons, zip2_length xs ys]; omega
theorem zip2_get : ∀ (xs ys : List D) (i : Nat) (d : D), (zip2 xs ys)[i]? = some d → ∃ x y, xs[i]? = some x ∧ ys[i]? = some y ∧ d = .tuple [x, y]
  | [], _, _, _, h => by simp [zip2] at h
  | _ :: _, [], _, _, h => by simp [zip2] at h
  | x :: xs, y :: ys, 0, d, h => by
    simp only [zip2, List.getElem?_cons_zero, Option.some.injEq] at h
    exact ⟨x, y, rfl, rfl, h.symm⟩
  | x :: xs, y :: ys, i + 1, d, h => by
    simp only [zip2, List.getElem?_cons_succ] at h
    obtain ⟨a, b, h1, h2, h3⟩ := zip2_get xs ys i d h
    exact ⟨a, b, by simpa using h1, by simpa using h2, h3⟩
theorem enuF_length : ∀ (n : Nat) (xs : List D), (enuF n xs).length = xs.length
  | _, [] => rfl
  | n, x :: xs => by simp only [enuF, List.length_cons, enuF_length (n + 1) xs]
theorem enuF_get : ∀ (n : Nat) (xs : List D) (i : Nat) (d : D), (enuF n xs)[i]? = some d → ∃ x, xs[i]? = some x ∧ d = .tuple [.int ((n + i : Nat) : Int), x]
  | _, [], _, _, h => by simp [enuF] at h
  | n, x :: xs, 0, d, h => by
    simp only [enuF, List.getElem?_cons_zero, Option.some.injEq] at h
    exact ⟨x, rfl, h.symm⟩
  | n, x :: xs, i + 1, d, h => by
    simp only [enuF, List.getElem?_cons_succ] at h
    obtain ⟨a, h1, h2⟩ := enuF_get (n + 1) xs i d h
    refine ⟨a, by simpa using h1, ?_⟩
    rw [h2]
    have : n + 1 + i = n + (i + 1) := by omega
    rw [this]
section
variable {X : Cx} {pins : List (Addr × Obj)} {s : Shared} {σ : St} {G H : Hp} {tg : Expr} {R : It → Hp → Prop} {E : Value → Shared → Prop}
theorem it_zip2 {elts : List Expr} {kk : Nat} {tpos : Pos} {v1 v2 : V} {u1 u2 : Value} {ds es : List D} (I : Inv X pins σ H s) (gh : Same G H) (s1 : SrcD X.K G v1 ds) (s2 : SrcD X.K G v2 es) (r1 : RelV v1 u1) (r2 : RelV v2 u2)
    (h : ∀ J, WalkD X.K G J (zip2 ds es) → R J H) : wpAny (model X.prog X.w) X.A (call (.type "zip") [u1, u2]) (fun v s1 => wpAny (model X.prog X.w) X.A (pyIter v) (PIE X pins σ (.Tuple elts kk tpos) R) E s1) E s := by
  obtain ⟨k1, xs, rfl, d1, i1⟩ := s1.kd r1
  obtain ⟨k2, ys, rfl, d2, i2⟩ := s2.kd r2
  obtain ⟨H1, B1, h1, l1⟩ := Kd.begins I (i1 H gh)
  obtain ⟨H2, B2, h2, l2⟩ := Kd.begins I (i2 H gh)
  refine zip_begins2 B1 B2 h1 h2 fun h' z1 z2 z3 z4 z5 _ kp => wpAny_pyIter_zip z1 ?_
  have I2 : Inv X pins σ H { s with heap := h' } := I.kept (t' := s.toks) kp
  refine ⟨s.heap.objs.size + 4, _, _, _, H, rfl, I2, turn_zip2 (N := s.heap.objs.size) l1 l2, ⟨z1, z2, ⟨_, _, z3⟩, Kd.at_new z4, Kd.at_new z5⟩, fun b hb => ?_, h _ (walk_new (fun H e => ⟨i1 H e, i2 H e⟩) (by rw [zip2_length, d1.length, d2.length]) fun i d zs hd hy => ?_)⟩
  · have hle : s.heap.objs.size ≤ b := by
      simp only [List.mem_cons, List.not_mem_nil, or_false] at hb
      rcases hb with rfl | rfl | rfl | rfl | rfl <;> first | exact Nat.le_refl _ | exact Nat.le_add_right _ _
    exact I.fpOk hle (I.hok.fresh hle)
  · obtain ⟨x, y, e1, e2, rfl⟩ := zip2_get ds es i d hd
    obtain ⟨w1, q1, p1⟩ := d1.get e1
    obtain ⟨w2, q2, p2⟩ := d2.get e2
    unfold pairAt at hy
    rw [q1, q2] at hy
    cases hy
    exact ⟨_, rfl, .cons p1 (.cons p2 .nil)⟩
theorem it_enum {elts : List Expr} {kk : Nat} {tpos : Pos} {v1 : V} {u1 : Value} {ds : List D} (I : Inv X pins σ H s) (gh : Same G H) (s1 : SrcD X.K G v1 ds) (r1 : RelV v1 u1)
    (h : ∀ J, WalkD X.K G J (enuF 0 ds) → R J H) : wpAny (model X.prog X.w) X.A (call (.type "enumerate") [u1]) (fun v s1 => wpAny (model X.prog X.w) X.A (pyIter v) (PIE X pins σ (.Tuple elts kk tpos) R) E s1) E s := by
  obtain ⟨k1, xs, rfl, d1, i1⟩ := s1.kd r1
  obtain ⟨H1, B1, h1, l1⟩ := Kd.begins I (i1 H gh)
  refine call_enum B1 h1 fun h' z1 z2 kp => wpAny_pyIter_enum z1 ?_
  have I2 : Inv X pins σ H { s with heap := h' } := I.kept (t' := s.toks) kp
  refine ⟨s.heap.objs.size + 1, _, _, _, H, rfl, I2, turn_enumA (N := s.heap.objs.size) l1, ⟨⟨_, z1⟩, Kd.at_new z2⟩, fun b hb => ?_, h _ (walk_new (fun H e => i1 H e) (by rw [enuF_length, d1.length]) fun i d zs hd hy => ?_)⟩
  · have hle : s.heap.objs.size ≤ b := by
      rcases mem2 hb with rfl | rfl <;> first | exact Nat.le_refl _ | exact Nat.le_add_right _ _
    exact I.fpOk hle (I.hok.fresh hle)
  · obtain ⟨x, e1, rfl⟩ := enuF_get 0 ds i d hd
    obtain ⟨w1, q1, p1⟩ := d1.get e1
    unfold countAt at hy
    rw [q1] at hy
    cases hy
    rw [Nat.zero_add]
    exact ⟨_, rfl, .cons (.int _) (.cons p1 .nil)⟩
end
end PX

set_option Elab.async false
set_option linter.all false
set_option maxRecDepth 100000
set_option maxHeartbeats 4000000
/-! PX, part F: what a def promises; a call. -/
namespace PX
open PySem PySem.Spec PyProof.Rows L2

/-- what comes back -/
def RetOk (K : PySem.W.Frag) (H G' H' : Hp) (v : V) (own : Bool) (d : D) : Prop :=
  if own = true then ∃ p, v = V.ref p ∧ H p = none ∧ G' p = none ∧ OwnAt K G' H' p d else Dp K G' v d
/-- a def's promise: it hands back what m says -/
def spF (K : PySem.W.Frag) (io : List Nat) (np : Nat) (m : List D → R CR) : Sp := fun vs H Q _ => ∃ (G : Hp) (ds : List D) (r : CR), m ds = .ok r ∧ vs.length = np ∧ ds.length = np ∧ Same G H ∧
  (∀ (i : Nat) d, ds[i]? = some d → i ∉ io → ∃ v, vs[i]? = some v ∧ Dp K G v d) ∧
  (∀ (i : Nat) d, ds[i]? = some d → i ∈ io → ∃ p, vs[i]? = some (V.ref p) ∧ G p = none ∧ OwnAt K G H p d) ∧
  (∀ (i j : Nat) v, i ∈ io → j ∈ io → vs[i]? = some v → vs[j]? = some v → i = j) ∧
  ∀ (G' H' : Hp) (v : V), Same G G' → Same G' H' → (∀ a o, H a = some o → (∀ i ∈ io, vs[i]? ≠ some (V.ref a)) → H' a = some o) → (∀ a, H a ≠ none → G a = none → G' a = none) → RetOk K H G' H' v r.own r.d →
    r.outs.length = io.length → (∀ (k j : Nat), io[k]? = some j → ∃ p d, vs[j]? = some (V.ref p) ∧ r.outs[k]? = some d ∧ OwnAt K G' H' p d) → Q v H'

/-- the values and what they come to -/
abbrev AsOk (K : PySem.W.Frag) (G : Hp) (σ : St) : List V → List Ar → Prop := Paired (ArOk K G σ)
def pnds : List V → List Ar → List (V × D)
  | v :: vs, a :: as => pnds vs as ++ pnd v a
  | _, _ => []

/-! ### slots behind a call -/
theorem putIo_len {as : List Ar} : ∀ {io : List Nat} {ds : List D} {s s' : Sl}, putIo as io ds s = .ok s' → s'.length = s.length
  | [], [], _, _, h => by cases h; rfl
  | [], _ :: _, _, _, h => by cases h
  | _ :: _, [], _, _, h => by cases h
  | p :: ps, d :: ds, s, s', h => by
    unfold putIo at h
    split at h
    · split at h
      · rw [putIo_len h, List.length_set]
      · rw [putIo_len h, List.length_set]
      · cases h
    · cases h
/-- pointwise: a slot that was handed in to be changed holds what has become of it, the others are as before -/
theorem putIo_at {as : List Ar} : ∀ {io : List Nat} {ds : List D} {s s' : Sl}, putIo as io ds s = .ok s' → ds.length = io.length ∧ ∀ j : Nat, s'[j]? = s[j]? ∨ ∃ (k p : Nat) (d d0 : D), io[k]? = some p ∧ as[p]? = some (.sl j) ∧ ds[k]? = some d ∧ (s[j]? = some (.own d0) ∧ s'[j]? = some (.own d) ∨ s[j]? = some (.io d0) ∧ s'[j]? = some (.io d))
  | [], [], _, _, h => by cases h; exact ⟨rfl, fun _ => .inl rfl⟩
  | [], _ :: _, _, _, h => by cases h
  | _ :: _, [], _, _, h => by cases h
  | p :: ps, d :: ds, s, s', h => by
    unfold putIo at h
    split at h
    · rename_i i hp
      split at h
      · rename_i d0 hs
        obtain ⟨hl, q⟩ := putIo_at h
        refine ⟨by simp [hl], fun j => ?_⟩
        have hi := lt_of_get hs
        rcases q j with e | ⟨k, p', d', d1, e1, e2, e3, e4⟩
        · rw [get_set] at e
          by_cases hj : i = j
          · subst hj
            rw [if_pos ⟨rfl, hi⟩] at e
            exact .inr ⟨0, p, d, d0, rfl, hp, rfl, .inl ⟨hs, e⟩⟩
          · rw [if_neg (fun z => hj z.1)] at e
            exact .inl e
        · rw [get_set] at e4
          by_cases hj : i = j
          · subst hj
            rw [if_pos ⟨rfl, hi⟩] at e4
            refine .inr ⟨k + 1, p', d', d0, by simpa using e1, e2, by simpa using e3, .inl ⟨hs, ?_⟩⟩
            rcases e4 with ⟨_, z⟩ | ⟨z, _⟩
            · exact z
            · cases z
          · rw [if_neg (fun z => hj z.1)] at e4
            exact .inr ⟨k + 1, p', d', d1, by simpa using e1, e2, by simpa using e3, e4⟩
      · rename_i d0 hs
        obtain ⟨hl, q⟩ := putIo_at h
        refine ⟨by simp [hl], fun j => ?_⟩
        have hi := lt_of_get hs
        rcases q j with e | ⟨k, p', d', d1, e1, e2, e3, e4⟩
        · rw [get_set] at e
          by_cases hj : i = j
          · subst hj
            rw [if_pos ⟨rfl, hi⟩] at e
            exact .inr ⟨0, p, d, d0, rfl, hp, rfl, .inr ⟨hs, e⟩⟩
          · rw [if_neg (fun z => hj z.1)] at e
            exact .inl e
        · rw [get_set] at e4
          by_cases hj : i = j
          · subst hj
            rw [if_pos ⟨rfl, hi⟩] at e4
            refine .inr ⟨k + 1, p', d', d0, by simpa using e1, e2, by simpa using e3, .inr ⟨hs, ?_⟩⟩
            rcases e4 with ⟨z, _⟩ | ⟨_, z⟩
            · cases z
            · exact z
          · rw [if_neg (fun z => hj z.1)] at e4
            exact .inr ⟨k + 1, p', d', d1, by simpa using e1, e2, by simpa using e3, e4⟩
      · cases h
    · cases h
/-- each of them has been changed -/
theorem putIo_hit {as : List Ar} : ∀ {io : List Nat} {ds : List D} {s s' : Sl}, putIo as io ds s = .ok s' → ∀ (k p j : Nat), io[k]? = some p → as[p]? = some (.sl j) → isOwn s[j]? = true
  | [], [], _, _, _, k, p, j, e, _ => by simp at e
  | [], _ :: _, _, _, h, _, _, _, _, _ => by cases h
  | _ :: _, [], _, _, h, _, _, _, _, _ => by cases h
  | p0 :: ps, d :: ds, s, s', h, k, p, j, e1, e2 => by
    unfold putIo at h
    split at h
    · rename_i i hp
      split at h
      · rename_i d0 hs
        cases k with
        | zero => simp at e1; subst e1; rw [hp] at e2; cases e2; rw [hs]; rfl
        | succ k =>
          have q := putIo_hit h k p j (by simpa using e1) e2
          rw [get_set] at q
          by_cases hj : i = j ∧ i < s.length
          · obtain ⟨rfl, _⟩ := hj; rw [hs]; rfl
          · rw [if_neg hj] at q; exact q
      · rename_i d0 hs
        cases k with
        | zero => simp at e1; subst e1; rw [hp] at e2; cases e2; rw [hs]; rfl
        | succ k =>
          have q := putIo_hit h k p j (by simpa using e1) e2
          rw [get_set] at q
          by_cases hj : i = j ∧ i < s.length
          · obtain ⟨rfl, _⟩ := hj; rw [hs]; rfl
          · rw [if_neg hj] at q; exact q
      · cases h
    · cases h
theorem putIo_set {as : List Ar} : ∀ {io : List Nat} {ds : List D} {s s' : Sl}, putIo as io ds s = .ok s' → io.Nodup → (∀ p ∈ io, ∀ (q j : Nat), as[p]? = some (.sl j) → as[q]? = some (.sl j) → p = q) →
    ∀ (k p j : Nat) (d : D), io[k]? = some p → as[p]? = some (.sl j) → ds[k]? = some d → (∃ d0, s[j]? = some (.own d0) ∧ s'[j]? = some (.own d)) ∨ ∃ d0, s[j]? = some (.io d0) ∧ s'[j]? = some (.io d)
  | [], _, _, _, _, _, _, k, p, j, d, e, _, _ => by simp at e
  | _ :: _, [], _, _, h, _, _, _, _, _, _, _, _, _ => by cases h
  | p0 :: ps, d0 :: ds, s, s', h, nd, one, k, p, j, d, e1, e2, e3 => by
    have nd := List.nodup_cons.mp nd
    have one' : ∀ p ∈ ps, ∀ (q j : Nat), as[p]? = some (.sl j) → as[q]? = some (.sl j) → p = q := fun p hp => one p (List.mem_cons_of_mem _ hp)
    unfold putIo at h
    split at h
    · rename_i i hp
      have away : ∀ {s0 : Sl}, putIo as ps ds s0 = .ok s' → s'[i]? = s0[i]? := fun {s0} h => by
        rcases (putIo_at h).2 i with e | ⟨k2, p2, _, _, y1, y2, _, _⟩
        · exact e
        · have := one p0 List.mem_cons_self p2 i hp y2
          subst this
          exact absurd (List.mem_of_getElem? y1) nd.1
      split at h
      · rename_i dd hs
        have hi := lt_of_get hs
        cases k with
        | zero =>
          simp at e1 e3
          subst e1 e3
          rw [hp] at e2; cases e2
          exact .inl ⟨dd, hs, by rw [away h, List.getElem?_set_self hi]⟩
        | succ k =>
          have ne : i ≠ j := by
            rintro rfl
            have := one p0 List.mem_cons_self p i hp e2
            subst this
            exact nd.1 (List.mem_of_getElem? (by simpa using e1))
          rcases putIo_set h nd.2 one' k p j d (by simpa using e1) e2 (by simpa using e3) with ⟨d1, z1, z2⟩ | ⟨d1, z1, z2⟩
          · rw [List.getElem?_set_ne ne] at z1; exact .inl ⟨d1, z1, z2⟩
          · rw [List.getElem?_set_ne ne] at z1; exact .inr ⟨d1, z1, z2⟩
      · rename_i dd hs
        have hi := lt_of_get hs
        cases k with
        | zero =>
          simp at e1 e3
          subst e1 e3
          rw [hp] at e2; cases e2
          exact .inr ⟨dd, hs, by rw [away h, List.getElem?_set_self hi]⟩
        | succ k =>
          have ne : i ≠ j := by
            rintro rfl
            have := one p0 List.mem_cons_self p i hp e2
            subst this
            exact nd.1 (List.mem_of_getElem? (by simpa using e1))
          rcases putIo_set h nd.2 one' k p j d (by simpa using e1) e2 (by simpa using e3) with ⟨d1, z1, z2⟩ | ⟨d1, z1, z2⟩
          · rw [List.getElem?_set_ne ne] at z1; exact .inl ⟨d1, z1, z2⟩
          · rw [List.getElem?_set_ne ne] at z1; exact .inr ⟨d1, z1, z2⟩
      · cases h
    · cases h
theorem freezeAs_len {io : List Nat} : ∀ {as : List Ar} {n : Nat} {s s' : Sl}, freezeAs io n as s = .ok s' → s'.length = s.length
  | [], _, _, _, h => by cases h; rfl
  | a :: as, n, s, s', h => by
    unfold freezeAs at h
    split at h
    · exact freezeAs_len h
    · split at h
      · split at h
        · rw [freezeAs_len h, List.length_set]
        · exact freezeAs_len h
        · cases h
      · exact freezeAs_len h
/-- pointwise -/
theorem freezeAs_at {io : List Nat} : ∀ {as : List Ar} {n : Nat} {s s' : Sl}, freezeAs io n as s = .ok s' → (∀ j : Nat, s'[j]? = s[j]? ∨ ∃ d p, s[j]? = some (.own d) ∧ s'[j]? = some (.frz d) ∧ as[p]? = some (.sl j) ∧ n + p ∉ io) ∧
    (∀ (p j : Nat), as[p]? = some (.sl j) → n + p ∉ io → isOwn s'[j]? = false)
  | [], _, _, _, h => by cases h; exact ⟨fun _ => .inl rfl, fun p j e => by simp at e⟩
  | a :: as, n, s, s', h => by
    unfold freezeAs at h
    split at h
    · rename_i hn
      obtain ⟨q1, q2⟩ := freezeAs_at h
      refine ⟨fun j => ?_, fun p j e hp => ?_⟩
      · rcases q1 j with e | ⟨d, p, e1, e2, e3, e4⟩
        · exact .inl e
        · exact .inr ⟨d, p + 1, e1, e2, by simpa using e3, by rw [show n + (p + 1) = n + 1 + p by omega]; exact e4⟩
      · cases p with
        | zero => exact absurd hn hp
        | succ p => exact q2 p j (by simpa using e) (by rw [show n + 1 + p = n + (p + 1) by omega]; exact hp)
    · rename_i hn
      split at h
      · rename_i i
        split at h
        · rename_i d hs
          obtain ⟨q1, q2⟩ := freezeAs_at h
          have hi := lt_of_get hs
          refine ⟨fun j => ?_, fun p j e hp => ?_⟩
          · rcases q1 j with e | ⟨d', p, e1, e2, e3, e4⟩
            · rw [get_set] at e
              by_cases hj : i = j
              · subst hj
                rw [if_pos ⟨rfl, hi⟩] at e
                exact .inr ⟨d, 0, hs, e, rfl, hn⟩
              · rw [if_neg (fun z => hj z.1)] at e
                exact .inl e
            · rw [get_set] at e1
              by_cases hj : i = j
              · subst hj; rw [if_pos ⟨rfl, hi⟩] at e1; cases e1
              · rw [if_neg (fun z => hj z.1)] at e1
                exact .inr ⟨d', p + 1, e1, e2, by simpa using e3, by rw [show n + (p + 1) = n + 1 + p by omega]; exact e4⟩
          · cases p with
            | zero =>
              simp at e; subst e
              rcases q1 i with z | ⟨d', p, e1, _⟩
              · rw [z, List.getElem?_set_self hi]; rfl
              · rw [List.getElem?_set_self hi] at e1; cases e1
            | succ p => exact q2 p j (by simpa using e) (by rw [show n + 1 + p = n + (p + 1) by omega]; exact hp)
        · rename_i d hs
          obtain ⟨q1, q2⟩ := freezeAs_at h
          refine ⟨fun j => ?_, fun p j e hp => ?_⟩
          · rcases q1 j with e | ⟨d', p, e1, e2, e3, e4⟩
            · exact .inl e
            · exact .inr ⟨d', p + 1, e1, e2, by simpa using e3, by rw [show n + (p + 1) = n + 1 + p by omega]; exact e4⟩
          · cases p with
            | zero =>
              simp at e; subst e
              rcases q1 i with z | ⟨d', p, e1, _⟩
              · rw [z, hs]; rfl
              · rw [hs] at e1; cases e1
            | succ p => exact q2 p j (by simpa using e) (by rw [show n + 1 + p = n + (p + 1) by omega]; exact hp)
        · cases h
      · rename_i hx
        obtain ⟨q1, q2⟩ := freezeAs_at h
        refine ⟨fun j => ?_, fun p j e hp => ?_⟩
        · rcases q1 j with e | ⟨d', p, e1, e2, e3, e4⟩
          · exact .inl e
          · exact .inr ⟨d', p + 1, e1, e2, by simpa using e3, by rw [show n + (p + 1) = n + 1 + p by omega]; exact e4⟩
        · cases p with
          | zero => simp at e; exact absurd e (hx j)
          | succ p => exact q2 p j (by simpa using e) (by rw [show n + 1 + p = n + (p + 1) by omega]; exact hp)

theorem okIo_at {as : List Ar} {s : Sl} : ∀ {io : List Nat}, okIo as s io = true → ∀ p ∈ io, ∃ i, as[p]? = some (.sl i) ∧ isOwn s[i]? = true ∧ (as.filter (isSl i)).length = 1
  | [], _, p, hp => by simp at hp
  | q :: qs, h, p, hp => by
    unfold okIo at h
    rw [Bool.and_eq_true] at h
    rcases List.mem_cons.mp hp with rfl | hp
    · obtain ⟨h, _⟩ := h
      split at h
      · rename_i i e
        rw [Bool.and_eq_true] at h
        refine ⟨i, e, ?_, of_decide_eq_true h.2⟩
        obtain ⟨h, _⟩ := h
        split at h
        · rename_i d e2; rw [e2]; rfl
        · rename_i d e2; rw [e2]; rfl
        · cases h
      · cases h
    · exact okIo_at h.2 p hp
theorem isSl_self (i : Nat) : isSl i (.sl i) = true := by simp [isSl]
/-- one alone among many -/
theorem one_place : ∀ {as : List Ar} {i p q : Nat}, (as.filter (isSl i)).length = 1 → as[p]? = some (.sl i) → as[q]? = some (.sl i) → p = q
  | [], _, _, _, _, h, _ => by simp at h
  | a :: as, i, p, q, hl, h1, h2 => by
    have none_of : ∀ {r : Nat}, (as.filter (isSl i)).length = 0 → as[r]? ≠ some (.sl i) := fun {r} z e => by
      have hm : Ar.sl i ∈ as.filter (isSl i) := List.mem_filter.mpr ⟨List.mem_of_getElem? e, isSl_self i⟩
      rw [List.length_eq_zero_iff.mp z] at hm
      cases hm
    rw [List.filter_cons] at hl
    cases p with
    | zero =>
      simp at h1
      subst h1
      rw [if_pos (isSl_self i)] at hl
      cases q with
      | zero => rfl
      | succ q => exact absurd (by simpa using h2) (none_of (r := q) (by simpa using hl))
    | succ p =>
      cases q with
      | zero =>
        simp at h2
        subst h2
        rw [if_pos (isSl_self i)] at hl
        exact absurd (by simpa using h1) (none_of (r := p) (by simpa using hl))
      | succ q =>
        by_cases ha : isSl i a = true
        · rw [if_pos ha] at hl
          exact absurd (by simpa using h1) (none_of (r := p) (by simpa using hl))
        · rw [if_neg ha] at hl
          rw [one_place (p := p) (q := q) hl (by simpa using h1) (by simpa using h2)]
theorem getAll_at {s : Sl} : ∀ {as : List Ar} {ds : List D}, getAll s as = .ok ds → as.length = ds.length ∧ ∀ (i : Nat) d, ds[i]? = some d → ∃ a, as[i]? = some a ∧ a.get s = .ok d
  | [], ds, h => by cases h; exact ⟨rfl, fun i d e => by simp at e⟩
  | a :: as, ds, h => by
    obtain ⟨d0, e0, h⟩ := bind_ok (h : R.bind _ _ = _)
    obtain ⟨ds', e1, h⟩ := bind_ok (h : R.bind _ _ = _)
    cases h
    obtain ⟨l, q⟩ := getAll_at e1
    refine ⟨by simp [l], fun i d e => ?_⟩
    cases i with
    | zero => simp at e; subst e; exact ⟨a, rfl, e0⟩
    | succ i =>
      obtain ⟨b, h1, h2⟩ := q i d (by simpa using e)
      exact ⟨b, by simpa using h1, h2⟩
theorem paired_at {α β : Type} {F : α → β → Prop} : ∀ {xs : List α} {ys : List β}, Paired F xs ys → xs.length = ys.length ∧ ∀ (i : Nat) y, ys[i]? = some y → ∃ x, xs[i]? = some x ∧ F x y
  | _, _, .nil => ⟨rfl, fun i y e => by simp at e⟩
  | _, _, .cons r t => by
    obtain ⟨l, q⟩ := paired_at t
    refine ⟨by simp [l], fun i y e => ?_⟩
    cases i with
    | zero => simp at e; subst e; exact ⟨_, rfl, r⟩
    | succ i =>
      obtain ⟨x, h1, h2⟩ := q i y (by simpa using e)
      exact ⟨x, by simpa using h1, h2⟩
theorem mem_pnds : ∀ {vs : List V} {as : List Ar} {i : Nat} {v : V} {d : D}, vs[i]? = some v → as[i]? = some (.own d) → (v, d) ∈ pnds vs as
  | [], _, _, _, _, h, _ => by simp at h
  | _ :: _, [], _, _, _, _, h => by simp at h
  | v :: vs, a :: as, 0, w, d, h1, h2 => by
    simp at h1 h2
    subst h1 h2
    simp [pnds, pnd]
  | v :: vs, a :: as, i + 1, w, d, h1, h2 => by
    have := mem_pnds (vs := vs) (as := as) (i := i) (v := w) (d := d) (by simpa using h1) (by simpa using h2)
    simp [pnds, this]
theorem pnds_mem : ∀ {vs : List V} {as : List Ar} {x : V × D}, x ∈ pnds vs as → ∃ i : Nat, vs[i]? = some x.1 ∧ as[i]? = some (.own x.2)
  | [], _, _, h => by simp [pnds] at h
  | _ :: _, [], _, h => by simp [pnds] at h
  | v :: vs, a :: as, x, h => by
    simp only [pnds, List.mem_append] at h
    rcases h with h | h
    · obtain ⟨i, h1, h2⟩ := pnds_mem h
      exact ⟨i + 1, by simpa using h1, by simpa using h2⟩
    · cases a with
      | own d =>
        have : x = (v, d) := by simpa [pnd] using h
        subst this
        exact ⟨0, rfl, rfl⟩
      | _ => simp [pnd] at h
mutual
/-- where no list is within, another place for lists does not matter -/
theorem Dp.off {K : PySem.W.Frag} {G G' : Hp} (e : ∀ a o, G a = some o → G' a = some o ∨ ∃ xs, o = .lst xs) : ∀ {v : V} {d : PyData}, Dp K G v d → nl d = true → Dp K G' v d
  | _, _, .non, _ => .non
  | _, _, .bl b, _ => .bl b
  | _, _, .int i, _ => .int i
  | _, _, .str x, _ => .str x
  | _, _, .lst _ _, h => by simp [nl] at h
  | _, _, .tup h a, hn => by
    refine .tup ?_ (DpAll.off e a (by simpa [nl] using hn))
    rcases h with (h | ⟨o, h⟩) | h
    · rcases e _ _ h with z | ⟨xs, z⟩
      · exact .inl (.inl z)
      · cases z
    · rcases e _ _ h with z | ⟨xs, z⟩
      · exact .inl (.inr ⟨o, z⟩)
      · cases z
    · exact .inr h
theorem DpAll.off {K : PySem.W.Frag} {G G' : Hp} (e : ∀ a o, G a = some o → G' a = some o ∨ ∃ xs, o = .lst xs) : ∀ {vs : List V} {ds : List PyData}, DpAll K G vs ds → nls ds = true → DpAll K G' vs ds
  | _, _, .nil, _ => .nil
  | _, _, .cons h t, hn => by
    simp only [nls, Bool.and_eq_true] at hn
    exact .cons (Dp.off e h hn.1) (DpAll.off e t hn.2)
end
theorem OwnAt.off {K : PySem.W.Frag} {G G' H : Hp} {p : Addr} {d : D} (e : ∀ a o, G a = some o → G' a = some o ∨ ∃ xs, o = .lst xs) (h : OwnAt K G H p d) (hn : nlL d = true) : OwnAt K G' H p d := by
  cases d with
  | list ds => obtain ⟨xs, h1, h2⟩ := h; exact ⟨xs, h1, DpAll.off e h2 hn⟩
  | _ => exact h.elim
end PX

set_option Elab.async false
set_option linter.all false
set_option maxRecDepth 100000
set_option maxHeartbeats 4000000
/-! PX, part G: a call, from the caller's side. -/
namespace PX
open PySem PySem.Spec PyProof.Rows L2

section
variable {K : PySem.W.Frag} {F G0 G H : Hp} {ios : List (Nat × Addr)} {σ : St} {s : Sl} {P : List (V × D)} {vs : List V} {as : List Ar}
/-- the i-th argument is a list of one's own -/
def ArgOwn (s : Sl) (as : List Ar) (i : Nat) : Prop := (∃ d, as[i]? = some (.own d)) ∨ ∃ j, as[i]? = some (.sl j) ∧ isOwn s[j]? = true
theorem arg_own (S : Sim K F G0 ios G H σ s (pnds vs as ++ P)) (ok : AsOk K G σ vs as) {i : Nat} {a : Ar} {d : D} (ha : as[i]? = some a) (hd : a.get s = .ok d) (ho : ArgOwn s as i) : ∃ p, vs[i]? = some (V.ref p) ∧ OwnP K F G H p d := by
  obtain ⟨l, q⟩ := paired_at ok
  obtain ⟨v, hv, av⟩ := q i a ha
  rcases ho with ⟨d', e⟩ | ⟨j, e, ow⟩
  · rw [ha] at e; cases e
    cases hd
    obtain ⟨p, e, o⟩ := S.pe (v, d) (List.mem_append_left _ (mem_pnds hv ha))
    have e : v = V.ref p := e
    subst e
    exact ⟨p, hv, o⟩
  · rw [ha] at e; cases e
    obtain ⟨p, d', e1, o, e2⟩ := (S.sl j).ref ow
    have av : σ[j]? = some (some v) := av
    rw [av] at e1
    cases e1
    have : d' = d := by
      unfold Ar.get at hd
      dsimp only at hd
      rcases e2 with e2 | e2 <;> (rw [e2] at hd; cases hd; rfl)
    subst this
    exact ⟨p, hv, o⟩
theorem arg_frz (S : Sim K F G0 ios G H σ s (pnds vs as ++ P)) (ok : AsOk K G σ vs as) {i : Nat} {a : Ar} {d : D} (ha : as[i]? = some a) (hd : a.get s = .ok d) (ho : ¬ ArgOwn s as i) : ∃ v, vs[i]? = some v ∧ Dp K G v d := by
  obtain ⟨l, q⟩ := paired_at ok
  obtain ⟨v, hv, av⟩ := q i a ha
  refine ⟨v, hv, ?_⟩
  cases a with
  | frz d' => cases hd; exact av
  | own d' => exact absurd (.inl ⟨d', ha⟩) ho
  | sl j =>
    have av : σ[j]? = some (some v) := av
    have nw : ¬ isOwn s[j]? = true := fun z => ho (.inr ⟨j, ha, z⟩)
    have q := S.sl j
    unfold Ar.get at hd
    dsimp only at hd
    cases hs : s[j]? with
    | none => rw [hs] at hd; cases hd
    | some x =>
      rw [hs] at hd q nw
      cases x with
      | un => cases hd
      | frz d' => cases hd; obtain ⟨v', e, dp⟩ := q; rw [av] at e; cases e; exact dp
      | own d' => exact absurd rfl nw
      | io d' => exact absurd rfl nw
/-- a slot that is one's own, and an argument that is one's own, at one place: the argument is the slot -/
theorem arg_slot (S : Sim K F G0 ios G H σ s (pnds vs as ++ P)) (ok : AsOk K G σ vs as) {i k : Nat} {v : V} (ho : ArgOwn s as i) (hv : vs[i]? = some v) (hk : isOwn s[k]? = true) (hσ : σ[k]? = some (some v)) : as[i]? = some (.sl k) := by
  obtain ⟨l, q⟩ := paired_at ok
  rcases ho with ⟨d', e⟩ | ⟨j, e, ow⟩
  · exact absurd rfl (S.sp k v hk hσ (v, d') (List.mem_append_left _ (mem_pnds hv e)))
  · obtain ⟨v', hv', av⟩ := q i _ e
    rw [hv] at hv'; cases hv'
    have := S.ss j k v ow hk av hσ
    subst this
    exact e
theorem arg_pend (S : Sim K F G0 ios G H σ s (pnds vs as ++ P)) (ok : AsOk K G σ vs as) {i : Nat} {v : V} (ho : ArgOwn s as i) (hv : vs[i]? = some v) {x : V × D} (hx : x ∈ P) : x.1 ≠ v := by
  obtain ⟨l, q⟩ := paired_at ok
  rcases ho with ⟨d', e⟩ | ⟨j, e, ow⟩
  · have := (List.pairwise_append.mp S.pp).2.2 (v, d') (mem_pnds hv e) x hx
    exact fun z => this z.symm
  · obtain ⟨v', hv', av⟩ := q i _ e
    rw [hv] at hv'; cases hv'
    exact S.sp j v ow av x (List.mem_append_right _ hx)
end

theorem call_sim {K : PySem.W.Frag} {F G0 G H : Hp} {ios : List (Nat × Addr)} {σ : St} {s s3 : Sl} {P : List (V × D)} {vs : List V} {as : List Ar} {io : List Nat} {np : Nat} {m : List D → R CR} {ds : List D} {r : CR} {a : Ar} {Q : VK} {E : XK}
    (S : Sim K F G0 ios G H σ s (pnds vs as ++ P)) (ok : AsOk K G σ vs as) (hio : okIo as s io = true) (hn : as.length = np) (nd : io.Nodup) (hds : getAll s as = .ok ds) (hm : m ds = .ok r) (he : callEnd io as r s = .ok (a, s3))
    (q : ∀ v G' H', Same G G' → Sim K F G0 ios G' H' σ s3 (pnd v a ++ P) → ArOk K G' σ v a → Q v H') : spF K io np m vs H Q E := by
  classical
  obtain ⟨ld, gds⟩ := getAll_at hds
  obtain ⟨lv, pv⟩ := paired_at ok
  have hio' := okIo_at hio
  have ioOwn : ∀ i ∈ io, ArgOwn s as i := fun i hi => by
    obtain ⟨j, e, ow, _⟩ := hio' i hi
    exact .inr ⟨j, e, ow⟩
  -- what is lent
  let B : Addr → Prop := fun p => ∃ i, i ∉ io ∧ vs[i]? = some (V.ref p) ∧ ArgOwn s as i
  -- an address of one's own
  have ownOf : ∀ {i : Nat} {p : Addr}, vs[i]? = some (V.ref p) → ArgOwn s as i → ∃ d, OwnP K F G H p d := fun {i p} hv ho => by
    have hi : i < as.length := by rw [← lv]; exact lt_of_get hv
    obtain ⟨dd, hd⟩ : ∃ dd, ds[i]? = some dd := ⟨ds[i]'(by rw [← ld]; exact hi), List.getElem?_eq_getElem _⟩
    obtain ⟨a', ha', hg⟩ := gds i dd hd
    obtain ⟨p', hp', o⟩ := arg_own S ok ha' hg ho
    rw [hv] at hp'; cases hp'
    exact ⟨dd, o⟩
  have bF : ∀ {p}, B p → F p = none ∧ G p = none ∧ ∃ xs, H p = some (.lst xs) := fun {p} ⟨i, _, hv, ho⟩ => by
    obtain ⟨dd, o⟩ := ownOf hv ho
    refine ⟨o.f, o.g, ?_⟩
    cases dd with
    | list es => obtain ⟨xs, h, _⟩ := o.at_; exact ⟨xs, h⟩
    | _ => exact o.at_.elim
  let Gc : Hp := fun p => if B p then H p else G p
  have gcB : ∀ {p}, B p → Gc p = H p := fun {p} h => if_pos h
  have gcN : ∀ {p}, ¬ B p → Gc p = G p := fun {p} h => if_neg h
  have gG : Same G Gc := fun p o e => by
    rw [gcN (fun z => by have := (bF z).2.1; rw [e] at this; cases this)]
    exact e
  have gH : Same Gc H := fun p o e => by
    by_cases h : B p
    · rw [gcB h] at e; exact e
    · rw [gcN h] at e; exact S.gh p o e
  -- an io argument is not lent
  have ioNot : ∀ {i p}, i ∈ io → vs[i]? = some (V.ref p) → ¬ B p := fun {i p} hi hv ⟨i', hi', hv', ho'⟩ => by
    obtain ⟨j, e, ow, one⟩ := hio' i hi
    obtain ⟨v', h1, h2⟩ := pv i _ e
    rw [hv] at h1; cases h1
    have e' := arg_slot S ok ho' hv' ow h2
    have := one_place one e e'
    subst this
    exact hi' hi
  refine ⟨Gc, ds, r, hm, by rw [lv, hn], by rw [← ld, hn], gH, fun i d hd hi => ?_, fun i d hd hi => ?_, fun i j v hi hj h1 h2 => ?_, fun G' H' v g1 g2 fr fresh ret lo outs => ?_⟩
  · obtain ⟨a', ha', hg⟩ := gds i d hd
    by_cases ho : ArgOwn s as i
    · obtain ⟨p, hp, o⟩ := arg_own S ok ha' hg ho
      exact ⟨_, hp, o.at_.dp gG (gcB ⟨i, hi, hp, ho⟩)⟩
    · obtain ⟨v, hv, dp⟩ := arg_frz S ok ha' hg ho
      exact ⟨v, hv, dp.mono gG⟩
  · obtain ⟨a', ha', hg⟩ := gds i d hd
    obtain ⟨p, hp, o⟩ := arg_own S ok ha' hg (ioOwn i hi)
    exact ⟨p, hp, (gcN (ioNot hi hp)).trans o.g, o.at_.mono gG rfl⟩
  · obtain ⟨j1, e1, ow1, one⟩ := hio' i hi
    obtain ⟨j2, e2, ow2, _⟩ := hio' j hj
    obtain ⟨v1, h3, h4⟩ := pv i _ e1
    rw [h1] at h3; cases h3
    have := arg_slot S ok (ioOwn j hj) h2 ow1 h4
    exact one_place one e1 this
  · -- behind the call
    obtain ⟨s1, e1, he⟩ := bind_ok (he : R.bind _ _ = _)
    obtain ⟨s2, e2, he⟩ := bind_ok (he : R.bind _ _ = _)
    cases he
    obtain ⟨lo2, at1⟩ := putIo_at e1
    have len1 := putIo_len e1
    -- the heap where nothing was handed in to be changed
    have keepH : ∀ {p o}, H p = some o → (∀ i ∈ io, vs[i]? ≠ some (V.ref p)) → H' p = H p := fun {p o} h n => (fr p o h n).trans h.symm
    -- an io address belongs to its slot
    have ioSlot : ∀ {k : Nat} {p : Addr} {i : Nat}, isOwn s[k]? = true → σ[k]? = some (some (V.ref p)) → i ∈ io → vs[i]? = some (V.ref p) → as[i]? = some (.sl k) := fun {k p i} hk hσ hi hv => arg_slot S ok (ioOwn i hi) hv hk hσ
    have own1 : ∀ k : Nat, isOwn s1[k]? = isOwn s[k]? := fun k => by
      rcases at1 k with e | ⟨_, _, _, _, _, _, _, ⟨z1, z2⟩ | ⟨z1, z2⟩⟩
      · rw [e]
      · rw [z1, z2]; rfl
      · rw [z1, z2]; rfl
    have oneP : ∀ p ∈ io, ∀ (q j : Nat), as[p]? = some (.sl j) → as[q]? = some (.sl j) → p = q := fun p hp q j h1 h2 => by
      obtain ⟨j', ej, _, one⟩ := hio' p hp
      rw [h1] at ej; cases ej
      exact one_place one h1 h2
    -- a slot of one's own behind the call
    have atK : ∀ (k : Nat) (p : Addr) (d : D), (s1[k]? = some (.own d) ∨ s1[k]? = some (.io d)) → σ[k]? = some (some (V.ref p)) → (OwnAt K G H p d ∧ H' p = H p) ∨ (OwnAt K G' H' p d ∧ d ∈ r.outs) := fun k p d hd hσ => by
      have hk : isOwn s[k]? = true := by
        rw [← own1 k]
        rcases hd with hd | hd <;> (rw [hd]; rfl)
      obtain ⟨p', d0, e', o, hx⟩ := (S.sl k).ref hk
      rw [hσ] at e'; cases e'
      by_cases hit : ∃ i ∈ io, as[i]? = some (.sl k)
      · obtain ⟨i, hi, ei⟩ := hit
        obtain ⟨kk, hkk⟩ := List.getElem?_of_mem hi
        obtain ⟨p2, d2, h1, h2, h3⟩ := outs kk i hkk
        obtain ⟨v', h4, h5⟩ := pv i _ ei
        have h5 : σ[k]? = some (some v') := h5
        rw [h1] at h4; cases h4
        rw [hσ] at h5; cases h5
        have : d = d2 := by
          rcases putIo_set e1 nd oneP kk i k d2 hkk ei h2 with ⟨_, _, z⟩ | ⟨_, _, z⟩ <;> rcases hd with hd | hd <;> (rw [z] at hd; cases hd; try rfl)
        subst this
        exact .inr ⟨h3, List.mem_of_getElem? h2⟩
      · have e : s1[k]? = s[k]? := by
          rcases at1 k with e | ⟨k2, p3, d3, d4, y1, y2, y3, y4⟩
          · exact e
          · exact absurd ⟨p3, List.mem_of_getElem? y1, y2⟩ hit
        have : d0 = d := by
          rw [e] at hd
          rcases hd with hd | hd <;> rcases hx with hx | hx <;> (rw [hx] at hd; cases hd; try rfl)
        subst this
        obtain ⟨u, hu⟩ := o.at_.held
        exact .inl ⟨o.at_, keepH hu fun i hi hv => hit ⟨i, hi, ioSlot hk hσ hi hv⟩⟩
    -- nothing of one's own, but what is lent, comes to be read
    have unread : ∀ {p o}, H p = some o → ¬ B p → G p = none → G' p = none := fun {p o} h nb g => fresh p (by rw [h]; exact fun z => nomatch z) (by rw [gcN nb]; exact g)
    have seen : ∀ {a o}, G' a = some o → G a ≠ none ∨ B a ∨ H a = none := fun {a o} h => by
      by_cases hb : B a
      · exact .inr (.inl hb)
      · by_cases hg : G a = none
        · right; right
          cases hh : H a with
          | none => rfl
          | some u => rw [unread hh hb hg] at h; cases h
        · exact .inl hg
    have fh : Same F H' := fun p o e => by
      have hh := S.fh p o e
      rw [keepH hh fun i hi hv => ?_]
      · exact hh
      · obtain ⟨d, o'⟩ := ownOf hv (ioOwn i hi)
        rw [o'.f] at e; cases e
    have pend : ∀ x ∈ P, ∃ p, x.1 = V.ref p ∧ OwnP K F G H p x.2 ∧ H' p = H p ∧ ¬ B p := fun x hx => by
      obtain ⟨p, e, o⟩ := S.pe x (List.mem_append_right _ hx)
      obtain ⟨u, hu⟩ := o.at_.held
      exact ⟨p, e, o, keepH hu fun i hi hv => arg_pend S ok (ioOwn i hi) hv hx e, fun ⟨i, _, hv, ho⟩ => arg_pend S ok ho hv hx e⟩
    have gG' : Same G G' := gG.trans g1
    have atB : ∀ {p}, B p → G' p = H p := fun {p} hb => by
      obtain ⟨xs, hx⟩ := (bF hb).2.2
      rw [hx]
      exact g1 p _ ((gcB hb).trans hx)
    -- the rest, over the heap Gn that may be read from now on
    have fin : ∀ (Gn : Hp) (sn : Sl), Same G Gn → (∀ a o, Gn a = some o → G' a = some o) → sn.length = s.length → (∀ k : Nat, isOwn sn[k]? = true → isOwn s[k]? = true) →
        (∀ k : Nat, SlOk K F Gn H' ios k σ[k]? sn[k]?) → RetOk K H Gn H' v r.own r.d → ∃ a', a' = (if r.own = true then Ar.own r.d else Ar.frz r.d) ∧ Sim K F G0 ios Gn H' σ sn (pnd v a' ++ P) ∧ ArOk K Gn σ v a' := fun Gn sn n1 n3 n4 n5 n6 n10 => by
      have base : Sim K F G0 ios Gn H' σ sn P := by
        refine ⟨by rw [n4]; exact S.len, fh, fun a o e => g2 a o (n3 a o e), fun a o e => ?_, n6, fun x hx => ?_, fun i j w a b => S.ss i j w (n5 i a) (n5 j b), fun i w a b x hx => S.sp i w (n5 i a) b x (List.mem_append_right _ hx), (List.pairwise_append.mp S.pp).2.1⟩
        · have e' := n3 a o e
          rcases seen e' with z | z | z
          · cases hg : G a with
            | none => exact absurd hg z
            | some u =>
              have := gG' a u hg
              rw [e'] at this; cases this
              exact S.g0 a _ hg
          · exact .inr (bF z).1
          · right
            cases hf : F a with
            | none => rfl
            | some u => have := S.fh a u hf; rw [z] at this; cases this
        · obtain ⟨p, e, o, hh, nb⟩ := pend x hx
          obtain ⟨u, hu⟩ := o.at_.held
          refine ⟨p, e, o.mono n1 hh ?_⟩
          cases hg : Gn p with
          | none => rfl
          | some u => have := n3 p u hg; rw [unread hu nb o.g] at this; cases this
      cases ho : r.own with
      | false =>
        rw [RetOk, ho, if_neg (by simp)] at n10
        exact ⟨_, rfl, base, n10⟩
      | true =>
        rw [RetOk, ho, if_pos rfl] at n10
        obtain ⟨p, rfl, hp, gp, at_⟩ := n10
        refine ⟨_, rfl, ⟨base.len, base.fh, base.gh, base.g0, base.sl, fun x hx => ?_, base.ss, fun i w a b x hx => ?_, ?_⟩, trivial⟩
        · rcases List.mem_append.mp hx with hx | hx
          · have e : x = (V.ref p, r.d) := by simpa [pnd] using hx
            subst e
            refine ⟨p, rfl, ?_, gp, at_⟩
            cases z : F p with
            | none => rfl
            | some u => have := S.fh p u z; rw [hp] at this; cases this
          · exact base.pe x hx
        · rcases List.mem_append.mp hx with hx | hx
          · have e : x = (V.ref p, r.d) := by simpa [pnd] using hx
            subst e
            intro z
            subst z
            obtain ⟨u, hu⟩ := (show SlOk K F G H ios i (some (some (V.ref p))) s[i]? by rw [← b]; exact S.sl i).held (n5 i a)
            rw [hp] at hu; cases hu
          · exact base.sp i w a b x hx
        · show ((V.ref p, r.d) :: P).Pairwise _
          refine List.Pairwise.cons (fun y hy => ?_) base.pp
          intro z
          obtain ⟨p', e', q'⟩ := S.pe y (List.mem_append_right _ hy)
          obtain ⟨u, hu⟩ := q'.at_.held
          have : V.ref p = V.ref p' := (show V.ref p = y.1 from z).trans e'
          cases this
          rw [hp] at hu; cases hu
    have frz1 : ∀ (k : Nat) (d : D), s1[k]? = some (.frz d) → s[k]? = some (.frz d) := fun k d hk => by
      rcases at1 k with e | ⟨_, _, _, _, _, _, _, ⟨z1, z2⟩ | ⟨z1, z2⟩⟩
      · rw [← e]; exact hk
      · rw [z2] at hk; cases hk
      · rw [z2] at hk; cases hk
    have ioIn : ∀ (k : Nat) (p : Addr) (d : D), s1[k]? = some (.io d) → σ[k]? = some (some (V.ref p)) → (k, p) ∈ ios := fun k p d hk hσ => by
      have z := S.sl k
      rcases at1 k with e | ⟨_, _, _, _, _, _, _, ⟨z1, z2⟩ | ⟨z1, z2⟩⟩
      · rw [← e, hk] at z
        obtain ⟨p', e1, m, _⟩ := z
        rw [hσ] at e1; cases e1
        exact m
      · rw [z2] at hk; cases hk
      · rw [z1] at z
        obtain ⟨p', e1, m, _⟩ := z
        rw [hσ] at e1; cases e1
        exact m
    have ownSl : ∀ (k : Nat), isOwn s1[k]? = true → ∃ p d, σ[k]? = some (some (V.ref p)) ∧ F p = none ∧ G p = none ∧ (∃ u, H p = some u) ∧ (s1[k]? = some (.own d) ∨ s1[k]? = some (.io d)) := fun k hk => by
      obtain ⟨p, d, e1, o, _⟩ := (S.sl k).ref (by rw [← own1 k]; exact hk)
      cases hs : s1[k]? with
      | none => rw [hs] at hk; cases hk
      | some x =>
        rw [hs] at hk
        cases x with
        | un => cases hk
        | frz _ => cases hk
        | own d1 => exact ⟨p, d1, e1, o.f, o.g, o.at_.held, .inl rfl⟩
        | io d1 => exact ⟨p, d1, e1, o.f, o.g, o.at_.held, .inr rfl⟩
    cases hr : nlR r with
    | true =>
      rw [hr, if_pos rfl] at e2
      cases e2
      let Gn : Hp := fun a => if B a then none else G' a
      have gnB : ∀ {p}, B p → Gn p = none := fun {p} h => if_pos h
      have gnN : ∀ {p}, ¬ B p → Gn p = G' p := fun {p} h => if_neg h
      have n1 : Same G Gn := fun a o e => by
        rw [gnN fun z => by have := (bF z).2.1; rw [e] at this; cases this]
        exact gG' a o e
      have n3 : ∀ a o, Gn a = some o → G' a = some o := fun a o e => by
        by_cases h : B a
        · rw [gnB h] at e; cases e
        · rw [gnN h] at e; exact e
      have off : ∀ a o, G' a = some o → Gn a = some o ∨ ∃ xs, o = .lst xs := fun a o e => by
        by_cases h : B a
        · right
          obtain ⟨xs, hx⟩ := (bF h).2.2
          rw [atB h, hx] at e
          cases e
          exact ⟨xs, rfl⟩
        · left; rw [gnN h]; exact e
      have hr' := hr
      rw [nlR, Bool.and_eq_true] at hr'
      have gnone : ∀ {p u}, H p = some u → G p = none → Gn p = none := fun {p u} h g => by
        by_cases hb : B p
        · exact gnB hb
        · rw [gnN hb]; exact unread h hb g
      have ownK : ∀ (k : Nat) (p : Addr) (d : D), (s3[k]? = some (.own d) ∨ s3[k]? = some (.io d)) → σ[k]? = some (some (V.ref p)) → OwnAt K Gn H' p d := fun k p d hd hσ => by
        rcases atK k p d hd hσ with ⟨o, hh⟩ | ⟨o, hm'⟩
        · exact o.mono n1 hh
        · exact o.off off (List.all_eq_true.mp hr'.2 d hm')
      obtain ⟨a', ea, S', ok'⟩ := fin Gn s3 n1 n3 len1 (fun k z => by rw [← own1 k]; exact z) (fun k => by
        cases hs : s3[k]? with
        | none => trivial
        | some x =>
          cases x with
          | un => trivial
          | frz d =>
            have z := S.sl k
            rw [frz1 k d hs] at z
            obtain ⟨w, e, dp⟩ := z
            exact ⟨w, e, dp.mono n1⟩
          | own d =>
            obtain ⟨p, d', e1, f, g, ⟨u, hu⟩, e3⟩ := ownSl k (by rw [hs]; rfl)
            exact ⟨p, e1, f, gnone hu g, ownK k p d (.inl hs) e1⟩
          | io d =>
            obtain ⟨p, d', e1, f, g, ⟨u, hu⟩, e3⟩ := ownSl k (by rw [hs]; rfl)
            exact ⟨p, e1, ioIn k p d hs e1, f, gnone hu g, ownK k p d (.inr hs) e1⟩) (by
        unfold RetOk at ret ⊢
        cases ho : r.own with
        | false =>
          rw [ho, if_neg (by simp)] at ret
          rw [if_neg (by simp)]
          rw [ho] at hr'
          exact Dp.off off ret (by simpa using hr'.1)
        | true =>
          rw [ho, if_pos rfl] at ret
          rw [if_pos rfl]
          rw [ho] at hr'
          obtain ⟨p, e, hp, gp, at_⟩ := ret
          refine ⟨p, e, hp, ?_, at_.off off (by simpa using hr'.1)⟩
          by_cases hb : B p
          · exact gnB hb
          · rw [gnN hb]; exact gp)
      subst ea
      exact q v Gn H' n1 S' ok'
    | false =>
      rw [hr, if_neg (by simp)] at e2
      obtain ⟨at2, off2⟩ := freezeAs_at e2
      have own2 : ∀ k : Nat, isOwn s3[k]? = true → s3[k]? = s1[k]? := fun k z => by
        rcases at2 k with e | ⟨_, _, _, e, _⟩
        · exact e
        · rw [e] at z; cases z
      have notB : ∀ (k : Nat) (p : Addr), isOwn s3[k]? = true → σ[k]? = some (some (V.ref p)) → ¬ B p := fun k p hk hσ ⟨i, hi, hv, ho⟩ => by
        have hs : isOwn s[k]? = true := by rw [← own1 k, ← own2 k hk]; exact hk
        have e := arg_slot S ok ho hv hs hσ
        have := off2 i k e (by simpa using hi)
        rw [hk] at this; cases this
      have ownK : ∀ (k : Nat) (p : Addr) (d : D), (s1[k]? = some (.own d) ∨ s1[k]? = some (.io d)) → σ[k]? = some (some (V.ref p)) → OwnAt K G' H' p d := fun k p d hd hσ => by
        rcases atK k p d hd hσ with ⟨o, hh⟩ | ⟨o, _⟩
        · exact o.mono gG' hh
        · exact o
      obtain ⟨a', ea, S', ok'⟩ := fin G' s3 gG' (fun _ _ e => e) ((freezeAs_len e2).trans len1) (fun k z => by rw [← own1 k, ← own2 k z]; exact z) (fun k => by
        cases hs : s3[k]? with
        | none => trivial
        | some x =>
          cases x with
          | un => trivial
          | frz d =>
            rcases at2 k with e | ⟨d', i, y1, y2, y3, y4⟩
            · have z := S.sl k
              rw [frz1 k d (e.symm.trans hs)] at z
              obtain ⟨w, e, dp⟩ := z
              exact ⟨w, e, dp.mono gG'⟩
            · rw [hs] at y2; cases y2
              obtain ⟨p, d', e1, f, g, ⟨u, hu⟩, e3⟩ := ownSl k (by rw [y1]; rfl)
              refine ⟨_, e1, (ownK k p d (.inl y1) e1).dp (Same.refl _) ?_⟩
              obtain ⟨w, hw1, hw2⟩ := pv i _ y3
              have hw2 : σ[k]? = some (some w) := hw2
              rw [e1] at hw2; cases hw2
              have hb : B p := ⟨i, by simpa using y4, hw1, .inr ⟨k, y3, by rw [← own1 k, y1]; rfl⟩⟩
              obtain ⟨xs, hx⟩ := (bF hb).2.2
              have := (atB hb).trans hx
              rw [this, g2 p _ this]
          | own d =>
            have e := own2 k (by rw [hs]; rfl)
            obtain ⟨p, d', e1, f, g, ⟨u, hu⟩, e3⟩ := ownSl k (by rw [← e, hs]; rfl)
            exact ⟨p, e1, f, unread hu (notB k p (by rw [hs]; rfl) e1) g, ownK k p d (.inl (e.symm.trans hs)) e1⟩
          | io d =>
            have e := own2 k (by rw [hs]; rfl)
            obtain ⟨p, d', e1, f, g, ⟨u, hu⟩, e3⟩ := ownSl k (by rw [← e, hs]; rfl)
            exact ⟨p, e1, ioIn k p d (e.symm.trans hs) e1, f, unread hu (notB k p (by rw [hs]; rfl) e1) g, ownK k p d (.inr (e.symm.trans hs)) e1⟩) ret
      subst ea
      exact q v G' H' gG' S' ok'
end PX

set_option Elab.async false
set_option linter.all false
set_option maxRecDepth 100000
set_option maxHeartbeats 4000000
/-! PX, part H: more of what the slots tell. -/
namespace PX
open PySem PySem.Spec PyProof.Rows L2

section
variable {K : PySem.W.Frag} {F G0 G G' H H' : Hp} {ios : List (Nat × Addr)} {σ : St} {s s' : Sl} {P P' : List (V × D)} {v z : V} {d : D} {a : Ar}
theorem ArOk.mono (e : Same G G') (h : ArOk K G σ v a) : ArOk K G' σ v a := by
  cases a with
  | frz d => exact Dp.mono e h
  | own d => trivial
  | sl i => exact h
theorem AsOk.mono {vs : List V} {as : List Ar} (e : Same G G') (h : AsOk K G σ vs as) : AsOk K G' σ vs as := by
  induction h with
  | nil => exact .nil
  | cons h _ ih => exact .cons (h.mono e) ih
theorem Sim.takeAll : ∀ {as : List Ar} {vs : List V} {s : Sl} {ds : List D} {s' : Sl} {G : Hp}, Sim K F G0 ios G H σ s (pnds vs as ++ P) → AsOk K G σ vs as → PX.takeAll as s = .ok (ds, s') → ∃ G', Same G G' ∧ Sim K F G0 ios G' H σ s' P ∧ DpAll K G' vs ds
  | [], vs, s, ds, s', G, S, ok, e => by
    cases ok
    cases e
    exact ⟨G, Same.refl _, S, .nil⟩
  | a :: as, [], s, ds, s', G, S, ok, e => nomatch ok
  | a :: as, v :: vs, s, ds, s', G, S, ok, e => by
    have h : ArOk K G σ v a := by cases ok; assumption
    have t : AsOk K G σ vs as := by cases ok; assumption
    obtain ⟨⟨d, s1⟩, e1, e⟩ := bind_ok (e : R.bind _ _ = _)
    obtain ⟨⟨ds', s2⟩, e2, e⟩ := bind_ok (e : R.bind _ _ = _)
    cases e
    have S' : Sim K F G0 ios G H σ s (pnd v a ++ (pnds vs as ++ P)) := by
      refine S.perm ?_
      show ((pnds vs as ++ pnd v a) ++ P).Perm _
      rw [List.append_assoc, ← List.append_assoc (pnd v a), ← List.append_assoc (pnds vs as)]
      exact List.Perm.append_right P List.perm_append_comm
    obtain ⟨G1, g1, S1, d1⟩ := S'.take h e1
    obtain ⟨G2, g2, S2, d2⟩ := Sim.takeAll S1 (AsOk.mono g1 t) e2
    exact ⟨G2, g1.trans g2, S2, .cons (d1.mono g2) d2⟩
/-- all read -/
theorem Sim.getAll' : ∀ {as : List Ar} {vs : List V} {ds : List D}, Sim K F G0 ios G H σ s P → AsOk K G σ vs as → PX.getAll s as = .ok ds → (∀ x ∈ pnds vs as, x ∈ P) → Paired (Cn K G H) vs ds
  | [], vs, ds, S, ok, e, _ => by
    cases ok
    cases e
    exact .nil
  | a :: as, [], ds, S, ok, e, hp => nomatch ok
  | a :: as, v :: vs, ds, S, ok, e, hp => by
    have h : ArOk K G σ v a := by cases ok; assumption
    have t : AsOk K G σ vs as := by cases ok; assumption
    obtain ⟨d, e1, e⟩ := bind_ok (e : R.bind _ _ = _)
    obtain ⟨ds', e2, e⟩ := bind_ok (e : R.bind _ _ = _)
    cases e
    exact .cons (S.get (fun x hx => hp x (List.mem_append_right _ hx)) h e1) (Sim.getAll' S t e2 fun x hx => hp x (List.mem_append_left _ hx))
theorem Sim.getAll {as : List Ar} {vs : List V} {ds : List D} (S : Sim K F G0 ios G H σ s (pnds vs as ++ P)) (ok : AsOk K G σ vs as) (e : PX.getAll s as = .ok ds) : Paired (Cn K G H) vs ds :=
  S.getAll' ok e fun x hx => List.mem_append_left _ hx
/-- a slot's own list goes out -/
theorem Sim.unown {i : Nat} (h : Sim K F G0 ios G H σ s P) (hs : s[i]? = some (.own d)) : ∃ p, σ[i]? = some (some (V.ref p)) ∧ Sim K F G0 ios G H σ (s.set i .un) ((V.ref p, d) :: P) := by
  have hi := lt_of_get hs
  obtain ⟨p, e, o⟩ := h.at_ hs (.inl rfl)
  have u := h.unset (i := i)
  have ow : isOwn s[i]? = true := by rw [hs]; rfl
  refine ⟨p, e, u.len, u.fh, u.gh, u.g0, u.sl, fun x hx => ?_, u.ss, fun j w a b x hx => ?_, ?_⟩
  · rcases List.mem_cons.mp hx with rfl | hx
    · exact ⟨p, rfl, o⟩
    · exact h.pe x hx
  · rcases List.mem_cons.mp hx with rfl | hx
    · rintro rfl
      rw [get_set] at a
      by_cases hj : i = j
      · rw [if_pos ⟨hj, hi⟩] at a; cases a
      · rw [if_neg (fun z => hj z.1)] at a
        exact hj (h.ss i j _ ow a e b)
    · exact u.sp j w a b x hx
  · exact List.Pairwise.cons (fun y hy z => h.sp i (V.ref p) ow e y hy z.symm) h.pp
/-- what is in hand is changed -/
theorem Sim.changeP {p : Addr} {d' : D} {o : HO} (h : Sim K F G0 ios G H σ s ((V.ref p, d) :: P)) (ho : OwnAt K G (upd H p o) p d') : Sim K F G0 ios G (upd H p o) σ s ((V.ref p, d') :: P) := by
  obtain ⟨p', e', q⟩ := h.pe _ List.mem_cons_self
  cases e'
  have pw := List.pairwise_cons.mp h.pp
  have keep : ∀ p' d', p' ≠ p → OwnP K F G H p' d' → OwnP K F G (upd H p o) p' d' := fun p' d' ne q' => q'.mono (Same.refl _) (upd_ne ne) q'.g
  refine ⟨h.len, fun a u z => ?_, fun a u z => ?_, h.g0, fun i => (h.sl i).mono (Same.refl _) fun p' d' ow hv q' => keep p' d' ?_ q', fun x hx => ?_, h.ss, fun i w a b x hx => ?_, List.Pairwise.cons pw.1 pw.2⟩
  · have ne : a ≠ p := by rintro rfl; rw [q.f] at z; cases z
    rw [upd_ne ne]; exact h.fh a u z
  · have ne : a ≠ p := by rintro rfl; rw [q.g] at z; cases z
    rw [upd_ne ne]; exact h.gh a u z
  · rintro rfl
    exact h.sp i _ ow hv _ List.mem_cons_self rfl
  · rcases List.mem_cons.mp hx with hy | hy
    · subst hy; exact ⟨p, rfl, q.f, q.g, ho⟩
    · obtain ⟨p', e', q'⟩ := h.pe x (List.mem_cons_of_mem _ hy)
      refine ⟨p', e', keep p' _ ?_ q'⟩
      intro z
      exact pw.1 x hy (by rw [e', z])
  · rcases List.mem_cons.mp hx with hy | hy
    · subst hy; exact h.sp i w a b (V.ref p, d) List.mem_cons_self
    · exact h.sp i w a b x (List.mem_cons_of_mem _ hy)
/-- a place that no slot tells of -/
theorem Sim.laid {p : Addr} {o : HO} (h : Sim K F G0 ios G H σ s P) (hp : H p = none) : Sim K F G0 ios G (upd H p o) σ s P :=
  h.grow (Same.refl _) (h.gh.trans (same_upd hp)) (same_upd hp) fun _ _ q => .inl q
end

/-! ### forgotten names -/
theorem wipe_get (σ : St) : ∀ (vs : List Nat) (j : Nat), (wipe σ vs)[j]? = if j ∈ vs ∧ j < σ.length then some none else σ[j]?
  | [], j => by simp [wipe]
  | v :: vs, j => by
    unfold wipe
    rw [get_set, wipe_length, wipe_get σ vs j]
    by_cases h : v = j
    · subst h
      by_cases hl : v < σ.length
      · simp [hl]
      · simp [hl]
    · by_cases hm : j ∈ vs
      · simp [h, hm]
      · have : ¬ j = v := fun z => h z.symm
        simp [h, hm, this]
theorem wipeS_len (s : Sl) : ∀ vs : List Nat, (wipeS s vs).length = s.length
  | [] => rfl
  | v :: vs => by unfold wipeS; rw [List.length_set, wipeS_len s vs]
theorem wipeS_get (s : Sl) : ∀ (vs : List Nat) (j : Nat), (wipeS s vs)[j]? = if j ∈ vs ∧ j < s.length then some .un else s[j]?
  | [], j => by simp [wipeS]
  | v :: vs, j => by
    unfold wipeS
    rw [get_set, wipeS_len, wipeS_get s vs j]
    by_cases h : v = j
    · subst h
      by_cases hl : v < s.length
      · simp [hl]
      · simp [hl]
    · by_cases hm : j ∈ vs
      · simp [h, hm]
      · have : ¬ j = v := fun z => h z.symm
        simp [h, hm, this]
theorem backS_len (s0 s : Sl) : ∀ vs : List Nat, (backS s0 s vs).length = s.length
  | [] => rfl
  | v :: vs => by unfold backS; rw [List.length_set, backS_len s0 s vs]
def backV (s0 : Sl) (j : Nat) : Sv := match s0[j]? with | some (.frz d) => .frz d | _ => .un
theorem backS_get (s0 s : Sl) : ∀ (vs : List Nat) (j : Nat), (backS s0 s vs)[j]? = if j ∈ vs ∧ j < s.length then some (backV s0 j) else s[j]?
  | [], j => by simp [backS]
  | v :: vs, j => by
    unfold backS
    rw [get_set, backS_len, backS_get s0 s vs j]
    by_cases h : v = j
    · subst h
      by_cases hl : v < s.length
      · rw [if_pos ⟨rfl, hl⟩, if_pos ⟨List.mem_cons_self, hl⟩]; rfl
      · simp [hl]
    · by_cases hm : j ∈ vs
      · simp [h, hm]
      · have : ¬ j = v := fun z => h z.symm
        simp [h, hm, this]
section
variable {K : PySem.W.Frag} {F G0 G G' H H' : Hp} {ios : List (Nat × Addr)} {σ σ' : St} {s s' : Sl} {P P' : List (V × D)}
theorem isOwn_un {x : Sv} {b : Prop} [Decidable b] {y : Option Sv} (h : isOwn (if b then some Sv.un else y) = true) : ¬ b ∧ isOwn y = true := by
  by_cases hb : b
  · rw [if_pos hb] at h; cases h
  · rw [if_neg hb] at h; exact ⟨hb, h⟩
/-- another frame that tells the same of the names that still count -/
theorem Sim.look (h : Sim K F G0 ios G H σ s P) (hl : σ'.length = s'.length) (e : ∀ j : Nat, (s'[j]? = s[j]? ∧ σ'[j]? = σ[j]?) ∨ s'[j]? = some .un ∨ s'[j]? = none ∨ ∃ d v, s'[j]? = some (.frz d) ∧ σ'[j]? = some (some v) ∧ Dp K G v d) : Sim K F G0 ios G H σ' s' P := by
  have own : ∀ j : Nat, isOwn s'[j]? = true → s'[j]? = s[j]? ∧ σ'[j]? = σ[j]? := fun j ho => by
    rcases e j with z | z | z | ⟨d, v, z, _⟩
    · exact z
    · rw [z] at ho; cases ho
    · rw [z] at ho; cases ho
    · rw [z] at ho; cases ho
  refine ⟨hl, h.fh, h.gh, h.g0, fun j => ?_, h.pe, fun i j w a b c d => ?_, fun i w a b => ?_, h.pp⟩
  · rcases e j with ⟨z1, z2⟩ | z | z | ⟨d, v, z1, z2, z3⟩
    · rw [z1, z2]; exact h.sl j
    · rw [z]; trivial
    · rw [z]; trivial
    · rw [z1]; exact ⟨v, z2, z3⟩
  · obtain ⟨a1, a2⟩ := own i a
    obtain ⟨b1, b2⟩ := own j b
    rw [a1] at a; rw [b1] at b; rw [a2] at c; rw [b2] at d
    exact h.ss i j w a b c d
  · obtain ⟨a1, a2⟩ := own i a
    rw [a1] at a; rw [a2] at b
    exact h.sp i w a b
theorem Sim.wipe (h : Sim K F G0 ios G H σ s P) (vs : List Nat) (σ' : St) (e : L2.wipe σ' vs = L2.wipe σ vs) (hl : σ'.length = σ.length) : Sim K F G0 ios G H (L2.wipe σ' vs) (wipeS s vs) P := by
  refine h.look (by rw [wipe_length, wipeS_len, hl, h.len]) fun j => ?_
  rw [e, wipeS_get, wipe_get]
  by_cases hj : j ∈ vs ∧ j < s.length
  · rw [if_pos hj]; exact .inr (.inl rfl)
  · rw [if_neg hj]
    by_cases hl' : j < s.length
    · have : ¬ (j ∈ vs ∧ j < σ.length) := fun z => hj ⟨z.1, hl'⟩
      rw [if_neg this]; exact .inl ⟨rfl, rfl⟩
    · exact .inr (.inr (.inl (List.getElem?_eq_none (by omega))))
/-- behind a comprehension -/
theorem Sim.back (h : Sim K F G0 ios G H (L2.wipe σ vs) s P) {G1 : Hp} {s1 : Sl} (g : Same G1 G) (hl : σ.length = s.length) (h1 : ∀ (j : Nat) d, s1[j]? = some (.frz d) → ∃ v, σ[j]? = some (some v) ∧ Dp K G1 v d) : Sim K F G0 ios G H σ (backS s1 s vs) P := by
  refine h.look (by rw [backS_len, hl]) fun j => ?_
  rw [backS_get, wipe_get]
  by_cases hj : j ∈ vs ∧ j < s.length
  · rw [if_pos hj]
    unfold backV
    cases e : s1[j]? with
    | none => exact .inr (.inl rfl)
    | some x =>
      cases x with
      | frz d =>
        obtain ⟨v, z1, z2⟩ := h1 j d e
        exact .inr (.inr (.inr ⟨d, v, rfl, z1, z2.mono g⟩))
      | _ => exact .inr (.inl rfl)
  · rw [if_neg hj]
    have : ¬ (j ∈ vs ∧ j < σ.length) := fun z => hj ⟨z.1, by rw [← hl]; exact z.2⟩
    rw [if_neg this]
    exact .inl ⟨rfl, rfl⟩
end
end PX

set_option Elab.async false
set_option linter.all false
set_option maxRecDepth 100000
set_option maxHeartbeats 4000000
/-! PX, part I: does a text say what the syntax says? A check that the kernel runs. -/
namespace PX
open PySem PySem.Spec PyProof.Rows L2

mutual
def eqD : D → D → Bool
  | .none, .none => true
  | .bool a, .bool b => a == b
  | .int a, .int b => decide (a = b)
  | .str a, .str b => decide (a = b)
  | .tuple xs, .tuple ys => eqDs xs ys
  | _, _ => false
def eqDs : List D → List D → Bool
  | [], [] => true
  | x :: xs, y :: ys => eqD x y && eqDs xs ys
  | _, _ => false
end
mutual
theorem eqD_ok : ∀ {x y : D}, eqD x y = true → x = y
  | .none, y, h => by cases y <;> first | rfl | cases h
  | .bool a, y, h => by
    cases y <;> first | (cases h; done) | skip
    unfold eqD at h; simp at h; rw [h]
  | .int a, y, h => by
    cases y <;> first | (cases h; done) | skip
    unfold eqD at h; simp at h; rw [h]
  | .str a, y, h => by
    cases y <;> first | (cases h; done) | skip
    unfold eqD at h; simp at h; rw [h]
  | .tuple xs, y, h => by
    cases y <;> first | (cases h; done) | skip
    unfold eqD at h; rw [eqDs_ok h]
  | .list xs, y, h => by unfold eqD at h; cases h
  | .dict xs, y, h => by unfold eqD at h; cases h
theorem eqDs_ok : ∀ {x y : List D}, eqDs x y = true → x = y
  | [], [], _ => rfl
  | [], _ :: _, h => by unfold eqDs at h; cases h
  | _ :: _, [], h => by unfold eqDs at h; cases h
  | x :: xs, y :: ys, h => by
    unfold eqDs at h
    rw [Bool.and_eq_true] at h
    rw [eqD_ok h.1, eqDs_ok h.2]
end
/-- not starred, no slice, no set -/
def plainX : Expr → Bool
  | .Starred .. => false
  | .Set .. => false
  | .Slice .. => false
  | _ => true
def kindB (sc : Scope) (x : Str) (k : NameKind) : Bool := decide (sc.names.lookup x = some k)
def locB (sc : Scope) (x : Str) : Bool := kindB sc x .local || kindB sc x .cell
def visB (sc : Scope) (x : Str) : Bool := kindB sc x .local || kindB sc x .cell || kindB sc x .free
def glB (sc : Scope) (x : Str) : Bool := kindB sc x .globalImplicit
def notDbg (x : Str) : Bool := !(x == ("__debug__" : Str)) && !(x == ("__classdict__" : Str)) && decide (x ≠ ("__name__" : Str))
def nameB (N : List Str) (sc : Scope) (i : Nat) : Expr → Bool
  | .Name x _ => decide (N[i]? = some x) && visB sc x && notDbg x
  | _ => false
def cstB : D → Expr → Bool
  | .none, .Constant .none _ _ => true
  | .bool b, .Constant (.bool c) _ _ => b == c
  | .int i, .Constant (.int j) _ _ => decide (i = j)
  | .str x, .Constant (.str y) _ _ => decide (x = y)
  | _, _ => false
def opB : Bop → Operator → Bool
  | .add, .Add => true | .sub, .Sub => true | .mul, .Mult => true | .fdiv, .FloorDiv => true | .mod, .Mod => true | .pow, .Pow => true
  | _, _ => false
theorem opB_ok {a : Bop} {o : Operator} (h : opB a o = true) : o = opOf a := by cases a <;> cases o <;> first | rfl | cases h
def copB : Cop → CmpOp → Bool
  | .eq, .Eq => true | .ne, .NotEq => true | .lt, .Lt => true | .le, .LtE => true | .gt, .Gt => true | .ge, .GtE => true | .inn, .In => true | .nin, .NotIn => true | .iss, .Is => true | .isn, .IsNot => true
  | _, _ => false
theorem copB_ok {a : Cop} {o : CmpOp} (h : copB a o = true) : o = copOf a := by cases a <;> cases o <;> first | rfl | cases h
def biN : Bi → String
  | .len => "len" | .abs => "abs" | .int => "int" | .min => "min" | .max => "max" | .sum => "sum" | .sorted => "sorted" | .all => "all" | .any => "any" | .tuple => "tuple" | .list => "list"
  | _ => "isinstance"
def isN : Bi → String
  | .isI => "int" | .isB => "bool" | .isS => "str" | .isT => "tuple" | .isL => "list" | _ => "?"
def isIsi : Bi → Bool
  | .isI => true | .isB => true | .isS => true | .isT => true | .isL => true | _ => false
def mutN : Mut → String
  | .append => "append" | .extend => "extend" | .pop => "pop" | .popAt => "pop"
/-- the builtins that a program does not shadow -/
def bltNames : List String := ["len", "abs", "int", "min", "max", "sum", "sorted", "all", "any", "tuple", "list", "isinstance", "bool", "str", "range", "zip", "enumerate"]
def ownOf (N : List Str) (own : List Nat) : List (Str × Nat) := own.filterMap fun i => N[i]?.map fun x => (x, i)
def isBO (o : BoolOp) (b : Bool) : Bool := match o with | .And => b | .Or => !b
section
variable (T : List FD) (N : List Str) (C : List (String × D))
mutual
def chkE : IE → Scope → Expr → Bool
  | .sl i, sc, e => nameB N sc i e
  | .cst d, _, e => cstB d e
  | .gc x d, sc, e => (match e with | .Name y _ => decide (y = Str.ofString x) && glB sc y && notDbg y | _ => false) && (match C.lookup x with | some d' => eqD d' d | none => false)
  | .tup es, sc, e => match e with | .Tuple as _ _ => chkEs es sc as | _ => false
  | .lst es, sc, e => match e with | .List as _ => chkEs es sc as | _ => false
  | .bin op a b, sc, e => match e with | .BinOp l o r _ => opB op o && chkE a sc l && chkE b sc r | _ => false
  | .neg a, sc, e => match e with | .UnaryOp .USub l _ => chkE a sc l | _ => false
  | .cmp op a b, sc, e => match e with | .Compare l [o] [r] _ => copB op o && plainX r && chkE a sc l && chkE b sc r | _ => false
  | .ch2 o1 o2 a b c, sc, e => match e with | .Compare l [p1, p2] [r, q] _ => copB o1 p1 && copB o2 p2 && plainX q && chkE a sc l && chkE b sc r && chkE c sc q | _ => false
  | .and a b, sc, e => match e with
    | .BoolOp .And [x, y] _ => chkE a sc x && chkE b sc y
    | .BoolOp .And (x :: y :: z :: r) p => chkE a sc x && chkE b sc (.BoolOp .And (y :: z :: r) p)
    | _ => false
  | .or a b, sc, e => match e with
    | .BoolOp .Or [x, y] _ => chkE a sc x && chkE b sc y
    | .BoolOp .Or (x :: y :: z :: r) p => chkE a sc x && chkE b sc (.BoolOp .Or (y :: z :: r) p)
    | _ => false
  | .not a, sc, e => match e with | .UnaryOp .Not l _ => chkE a sc l | _ => false
  | .ite c a b, sc, e => match e with | .IfExp x y z _ => chkE c sc x && chkE a sc y && chkE b sc z | _ => false
  | .ix a i, sc, e => match e with | .Subscript l r _ => plainX r && chkE a sc l && chkE i sc r | _ => false
  | .slc a lo hi, sc, e => match e with
    | .Subscript l (.Slice l? h? none _) _ => chkE a sc l && (match l? with | none => (match lo with | .cst .none => true | _ => false) | some x => (match lo with | .cst .none => false | _ => true) && chkE lo sc x) &&
        (match h? with | none => (match hi with | .cst .none => true | _ => false) | some x => (match hi with | .cst .none => false | _ => true) && chkE hi sc x)
    | _ => false
  | .call f io es, sc, e => match e with
    | .Call (.Name x _) as [] _ => (match T[f]? with | some fd => decide (x = Str.ofString fd.name) && decide (io = fd.io) && decide (as.length = fd.np) | none => false) && decide io.Nodup && glB sc x && notDbg x && chkEs es sc as
    | _ => false
  | .bi b es, sc, e => match e with
    | .Call (.Name x _) (a :: as) [] _ => decide (x = Str.ofString (biN b)) && glB sc x &&
        (if isIsi b then (match es, as with | .cons e1 .nil, [.Name y _] => plainX a && chkE e1 sc a && decide (y = Str.ofString (isN b)) && glB sc y | _, _ => false) else chkEs es sc (a :: as))
    | _ => false
  | .mtd m i es, sc, e => match e with
    | .Call (.Attribute o m' ap) as [] cp => nameB N sc i o && decide (m' = Str.ofString (mutN m)) && decide (ap.endLine = cp.line) && decide (as.length < 20) && chkEs es sc as
    | _ => false
  | .cm elt t it own, sc, e => match e with
    | .ListComp el [⟨tg, itx, [], 0⟩] scope _ => blkC N sc scope (ownOf N own) && decide ((ownOf N own).map (·.2) = own) && chkE elt (relS scope sc) el && chkT t (some own) (relS scope sc) (fun x => scope.names.lookup x == some .cell) tg && chkI it sc itx tg && plainX itx
    | _ => false
  | .cmi elt t it c own, sc, e => match e with
    | .ListComp el [⟨tg, itx, [cx], 0⟩] scope _ => blkC N sc scope (ownOf N own) && decide ((ownOf N own).map (·.2) = own) && chkE elt (relS scope sc) el && chkE c (relS scope sc) cx && chkT t (some own) (relS scope sc) (fun x => scope.names.lookup x == some .cell) tg && chkI it sc itx tg && plainX itx
    | _ => false
  | .srtk _ _, _, _ => false
  | .ofi _ _, _, _ => false
def chkEs : IEs → Scope → List Expr → Bool
  | .nil, _, as => as.isEmpty
  | .cons e es, sc, as => match as with | a :: as => plainX a && chkE e sc a && chkEs es sc as | [] => false
def chkT : IT → Option (List Nat) → Scope → (Str → Bool) → Expr → Bool
  | .nm i, ow, sc, fb, e => match e with | .Name x _ => decide (N[i]? = some x) && locB sc x && (fb x || kindB sc x .local) && (match ow with | some o => decide (i ∈ o) | none => true) | _ => false
  | .tp ts, ow, sc, fb, e => match e with | .Tuple es _ _ => chkTs ts ow sc fb es | _ => false
def chkTs : ITs → Option (List Nat) → Scope → (Str → Bool) → List Expr → Bool
  | .nil, _, _, _, es => es.isEmpty
  | .cons t ts, ow, sc, fb, es => match es with | e :: es => plainX e && chkT t ow sc fb e && chkTs ts ow sc fb es | [] => false
def chkI : II → Scope → Expr → Expr → Bool
  | .seq e, sc, x, _ => chkE e sc x
  | .r1 a, sc, x, _ => match x with | .Call (.Name r _) [a'] [] _ => decide (r = Str.ofString "range") && glB sc r && plainX a' && chkE a sc a' | _ => false
  | .r2 a b, sc, x, _ => match x with | .Call (.Name r _) [a', b'] [] _ => decide (r = Str.ofString "range") && glB sc r && plainX a' && plainX b' && chkE a sc a' && chkE b sc b' | _ => false
  | .r3 a b c, sc, x, _ => match x with | .Call (.Name r _) [a', b', c'] [] _ => decide (r = Str.ofString "range") && glB sc r && plainX a' && plainX b' && plainX c' && chkE a sc a' && chkE b sc b' && chkE c sc c' | _ => false
  | .enu e, sc, x, tg => match x, tg with | .Call (.Name r _) [a'] [] _, .Tuple _ _ _ => decide (r = Str.ofString "enumerate") && glB sc r && plainX a' && chkE e sc a' | _, _ => false
  | .zp a b, sc, x, tg => match x, tg with | .Call (.Name r _) [a', b'] [] _, .Tuple _ _ _ => decide (r = Str.ofString "zip") && glB sc r && plainX a' && plainX b' && chkE a sc a' && chkE b sc b' | _, _ => false
  | .zp3 _ _ _, _, _, _ => false
end
/-- what is exchanged in a stroke (none: the model does not say) -/
def swN (sc : Scope) (ts : List Expr) : List Str := ts.filterMap fun
  | .Name id pos => if sc.names.lookup id == some .local && pos.line == (ts.head?.map (·.pos.line)).getD 0 then some id else none
  | _ => none
def isStar : Expr → Bool
  | .Starred .. => true
  | _ => false
def swB (sc : Scope) (ts vs : List Expr) : Option (Option (List Str)) :=
  if !(ts.length == 2 || ts.length == 3) || vs.length != ts.length then some none
  else if vs.any isStar then some none
  else if (swN sc ts).length != ts.length || (swN sc ts).eraseDups.length != (swN sc ts).length then some none
  else if vs.all (foldedForSure 8) then some none
  else if vs.all (constantsAlone 8) then none
  else some (some (swN sc ts))
/-- is the list of a comprehension stored ahead of its names' end -/
def swapB (sc : Scope) (e : Expr) (t : Str) (pos : Pos) : Bool := match e with
  | .ListComp _ _ scope p => kindB sc t .local && decide (pos.line = p.line) && !(scope.names.any fun (n, k) => n == t && (k == .local || k == .cell))
  | _ => false
def noSD : Expr → Bool
  | .SetComp .. => false
  | .DictComp .. => false
  | _ => true
def noTup : Expr → Bool
  | .Tuple .. => false
  | _ => true
def noComp : Expr → Bool
  | .ListComp .. => false
  | .SetComp .. => false
  | .DictComp .. => false
  | _ => true
mutual
def chkS : IS → Scope → Stmt → Bool
  | .asg t e, sc, st => match st with
    | .Assign [tg] v _ => chkE T N C e sc v && chkT T N C t none sc (fun _ => true) tg && (match tg with | .Name _ _ => noSD v | .Tuple _ _ _ => noComp v && noTup v | _ => false)
    | _ => false
  | .pas ts es, sc, st => match st with
    | .Assign [.Tuple tgs _ _] (.Tuple vs _ _) _ => chkEs T N C es sc vs && chkTs T N C ts none sc (fun _ => true) tgs && decide (vs.length ≤ 1000) && (match swB sc tgs vs with
      | none => false
      | some none => true
      | some (some _) => (match ts, tgs with
        | .cons (.nm i) (.cons (.nm j) .nil), [.Name x _, .Name y _] => decide (i ≠ j) && kindB sc x .local && kindB sc y .local && decide (swN sc tgs = [x, y])
        | .cons (.nm i) (.cons (.nm j) (.cons (.nm l) .nil)), [.Name x _, .Name y _, .Name z _] => decide (i ≠ j) && decide (i ≠ l) && decide (j ≠ l) && kindB sc x .local && kindB sc y .local && kindB sc z .local && decide (swN sc tgs = [x, y, z])
        | _, _ => false))
    | _ => false
  | .sto i k e, sc, st => match st with
    | .Assign [.Subscript o kx _] v _ => nameB N sc i o && plainX kx && chkE T N C k sc kx && chkE T N C e sc v && noComp v
    | _ => false
  | .ex e, sc, st => match st with | .Expr v _ => chkE T N C e sc v && noComp v | _ => false
  | .ite c a b, sc, st => match st with | .If x y z _ => chkE T N C c sc x && chkSs a sc y && chkSs b sc z | _ => false
  | .for_ t it body, sc, st => match st with | .For tg x b [] _ => chkI T N C it sc x tg && plainX x && chkT T N C t none sc (fun _ => true) tg && chkSs body sc b | _ => false
  | .wh c body, sc, st => match st with | .While x b [] _ => chkE T N C c sc x && chkSs body sc b | _ => false
  | .ret e, sc, st => match st with | .Return (some v) _ => chkE T N C e sc v | _ => false
  | .retn, _, st => match st with | .Return none _ => true | _ => false
  | .brk, _, st => match st with | .Break _ => true | _ => false
  | .cnt, _, st => match st with | .Continue _ => true | _ => false
  | .pass, _, st => match st with | .Pass _ => true | _ => false
  | .raise, _, _ => true
def chkSs : ISs → Scope → List Stmt → Bool
  | .nil, _, ss => ss.isEmpty
  | .cons s ss, sc, sts => match sts with | st :: sts => chkS s sc st && chkSs ss sc sts | [] => false
end
end
end PX

set_option Elab.async false
set_option linter.all false
set_option maxRecDepth 100000
set_option maxHeartbeats 4000000
/-! PX, part J: what the syntax computes is what the text does: expressions. -/
namespace PX
open PySem PySem.Spec PyProof.Rows L2

structure Wd (T : List FD) (N : List Str) (C : List (String × D)) (cal : Nat → List D → R CR) (X : Cx) (sc : Scope) : Prop where
  calm : X.calm = true
  hN : X.N = N
  nd : N.Nodup
  hsc : X.env.scope = sc
  kind : sc.kind = .function
  xe : X.xe = fun _ _ => False
  un : X.A.units + 200 < cLine
  blt : ∀ b ∈ bltNames, X.mg (Str.ofString b) = none
  cst : ∀ x d, C.lookup x = some d → ∃ v u, X.mg (Str.ofString x) = some u ∧ RelV v u ∧ Dp X.K (fun _ => none) v d
  fns : ∀ (i : Nat) fd ds r, T[i]? = some fd → cal i ds = .ok r → ∃ f fdt ps k, FnOk X.prog X.w X.K X.mg X.base CX0 k f fdt ps (spF X.K fd.io fd.np (cal i)) ∧ Room k X.A ∧ X.mg (Str.ofString fd.name) = some (.ref f) ∧ PySem.W.keepIn X.K (.ref f) = true ∧ L2.Binds X.K fdt ps []
section
variable (K : PySem.W.Frag) (cal : Nat → List D → R CR)
def rdE (ie : IE) : TE := fun σ H Q => ∃ F G0 ios G s P a s', Sim K F G0 ios G H σ s P ∧ evE cal ie s = .ok (a, s') ∧ ∀ v G' H', Same G G' → Sim K F G0 ios G' H' σ s' (pnd v a ++ P) → ArOk K G' σ v a → Q v H'
def rdT (ie : IE) : TT := fun σ H Q => ∃ F G0 ios G s P a s' d b, Sim K F G0 ios G H σ s P ∧ evE cal ie s = .ok (a, s') ∧ a.get s' = .ok d ∧ truth d = .ok b ∧ ∀ G' H', Same G G' → Sim K F G0 ios G' H' σ s' P → Q b H'
def rdAs (es : IEs) : TA := fun σ H Q => ∃ F G0 ios G s P as s', Sim K F G0 ios G H σ s P ∧ evAs cal es s = .ok (as, s') ∧ ∀ vs G' H', Same G G' → Sim K F G0 ios G' H' σ s' (pnds vs as ++ P) → AsOk K G' σ vs as → Q vs H'
def rdI (it : II) : TI := fun σ H R' => ∃ F G0 ios G s P ds s', Sim K F G0 ios G H σ s P ∧ evI cal it s = .ok (ds, s') ∧ ∀ J G' H', Same G G' → Sim K F G0 ios G' H' σ s' P → WalkD K G' J ds → R' J H'
end
section
variable {X : Cx}
theorem pe_of {e : Expr} {t : TE} (h : ∀ σ H Q, t σ H Q → ∃ t', PE X e t' ∧ t' σ H Q) : PE X e t := ⟨fun pins s σ H Q I ht => let ⟨_, p, h'⟩ := h σ H Q ht; p.run pins s σ H Q I h'⟩
theorem pt_of {e : Expr} {t : TT} (h : ∀ σ H Q, t σ H Q → ∃ t', PT X e t' ∧ t' σ H Q) : PT X e t := ⟨fun pins s σ H Q I ht => let ⟨_, p, h'⟩ := h σ H Q ht; p.run pins s σ H Q I h'⟩
theorem pi_of {tg e : Expr} {t : TI} (h : ∀ σ H Q, t σ H Q → ∃ t', PI X tg e t' ∧ t' σ H Q) : PI X tg e t := ⟨fun pins s σ H Q I ht => let ⟨_, p, h'⟩ := h σ H Q ht; p.run pins s σ H Q I h'⟩
theorem ps_of {e : Stmt} {t : TS} (h : ∀ D σ H, t D σ H → ∃ t', PS X e t' ∧ t' D σ H) : PS X e t := ⟨fun pins s σ H D I ht => let ⟨_, p, h'⟩ := h D σ H ht; p.run pins s σ H D I h'⟩
theorem pg_of {e : Expr} {t : TG} (h : ∀ v σ H Q, t v σ H Q → ∃ t', PG X e t' ∧ t' v σ H Q) : PG X e t := ⟨fun pins s σ H v u Q I r ht => let ⟨_, p, h'⟩ := h v σ H Q ht; p.run pins s σ H v u Q I r h'⟩
theorem pa_of {e : List Expr} {t : TA} (h : ∀ σ H Q, t σ H Q → ∃ t', PA X e t' ∧ t' σ H Q) : PA X e t := ⟨fun pos pins s σ H Q I ht => let ⟨_, p, h'⟩ := h σ H Q ht; p.run pos pins s σ H Q I h'⟩
theorem po_of {e : Option Expr} {t : TO} (h : ∀ σ H Q, t σ H Q → ∃ t', PO X e t' ∧ t' σ H Q) : PO X e t := ⟨fun pins s σ H Q I ht => let ⟨_, p, h'⟩ := h σ H Q ht; p.run pins s σ H Q I h'⟩
end
/-! ### shapes of the text -/
theorem star_plain {e : Expr} {es : List Expr} {env : Env} (h : plainX e = true) : starEach (e :: es) env = (false, eval e env) :: starEach es env := by cases e <;> first | rfl | cases h
theorem star_any {env : Env} {pos : Pos} : ∀ {es : List Expr}, (es.all plainX = true) → (backTo pos (starEach es env)).any (·.1) = false
  | [], _ => rfl
  | e :: es, h => by
    rw [List.all_cons, Bool.and_eq_true] at h
    rw [star_plain h.1]
    exact star_any (pos := pos) h.2
theorem star_all {env : Env} {pos : Pos} : ∀ {es : List Expr}, (es.all plainX = true) → (backTo pos (starEach es env)).all (!·.1) = true
  | [], _ => rfl
  | e :: es, h => by
    rw [List.all_cons, Bool.and_eq_true] at h
    rw [star_plain h.1]
    exact star_all (pos := pos) h.2
theorem plain_behind {o : CmpOp} {e : Expr} (h : plainX e = true) : behindInMarks o e = false := by cases e <;> first | rfl | cases h
theorem plain_ix {e : Expr} (h : plainX e = true) : PlainIx e := by
  intro o i
  cases e <;> first | rfl | cases h
theorem plain_set {e : Expr} {env : Env} (h : plainX e = true) : ∀ x, foldedSetIterable e env x = pure x := by
  intro x
  cases e <;> first | rfl | cases h
theorem kind_of {sc : Scope} {x : Str} {k : NameKind} (h : kindB sc x k = true) : sc.names.lookup x = some k := of_decide_eq_true h
theorem vis_of {sc : Scope} {x : Str} (h : visB sc x = true) : Vis sc x := by
  unfold visB at h
  simp only [Bool.or_eq_true] at h
  rcases h with (h | h) | h
  · exact .inl (kind_of h)
  · exact .inr (.inl (kind_of h))
  · exact .inr (.inr (kind_of h))
theorem loc_of {sc : Scope} {x : Str} (h : locB sc x = true) : L2.Loc sc x := by
  unfold locB at h
  simp only [Bool.or_eq_true] at h
  rcases h with h | h
  · exact .inl (kind_of h)
  · exact .inr (kind_of h)
theorem dbg_of {x : Str} (h : notDbg x = true) : (x == ("__debug__" : Str)) = false ∧ (x == ("__classdict__" : Str)) = false ∧ x ≠ ("__name__" : Str) := by
  unfold notDbg at h
  simp only [Bool.and_eq_true, Bool.not_eq_true', decide_eq_true_eq] at h
  exact ⟨h.1.1, h.1.2, h.2⟩

section
variable {T : List FD} {N : List Str} {C : List (String × D)} {cal : Nat → List D → R CR} {X : Cx} {sc : Scope}
theorem Wd.gl (W : Wd T N C cal X sc) {x : Str} (h : glB sc x = true) : Gl X x := by
  show X.env.scope.names.lookup x = _
  rw [W.hsc]; exact kind_of h
theorem pe_name (W : Wd T N C cal X sc) {i : Nat} {e : Expr} (h : nameB N sc i e = true) : PE X e (tVar i) := by
  cases e with
  | Name x p =>
    simp only [nameB, Bool.and_eq_true, decide_eq_true_eq] at h
    obtain ⟨⟨h1, h2⟩, h3⟩ := h
    obtain ⟨d1, d2, _⟩ := dbg_of h3
    exact pe_var (by rw [W.hN]; exact h1) (by rw [W.hsc]; exact vis_of h2) d1 d2
  | _ => cases h
theorem q_sl (W : Wd T N C cal X sc) {i : Nat} {e : Expr} (h : nameB N sc i e = true) : PE X e (rdE X.K cal (.sl i)) := by
  refine pe_of fun σ H Q ⟨F, G0, ios, G, s, P, a, s', S, ev, q⟩ => ⟨_, pe_name W h, ?_⟩
  rw [evE] at ev
  have z := S.sl i
  cases hs : s[i]? with
  | none => rw [hs] at ev; cases ev
  | some x =>
    rw [hs] at ev z
    cases x with
    | un => cases ev
    | frz d =>
      cases ev
      obtain ⟨v, e1, dp⟩ := z
      exact ⟨v, e1, q v G H (Same.refl _) S dp⟩
    | own d =>
      cases ev
      obtain ⟨p, e1, _⟩ := z
      exact ⟨_, e1, q _ G H (Same.refl _) S e1⟩
    | io d =>
      cases ev
      obtain ⟨p, e1, _⟩ := z
      exact ⟨_, e1, q _ G H (Same.refl _) S e1⟩
theorem q_cst {d : D} {e : Expr} (h : cstB d e = true) : PE X e (rdE X.K cal (.cst d)) := by
  have key : ∀ {v : V}, (∀ G, Dp X.K G v d) → PE X e (tC v) → PE X e (rdE X.K cal (.cst d)) := fun {v} dp p => pe_of fun σ H Q ⟨F, G0, ios, G, s, P, a, s', S, ev, q⟩ => ⟨_, p, by
    rw [evE] at ev
    cases ev
    exact q v G H (Same.refl _) S (dp G)⟩
  cases e with
  | Constant c k p =>
    cases d <;> cases c <;> first | (cases h; done) | skip
    · exact key (fun _ => .non) pe_non
    · unfold cstB at h; simp at h; subst h; exact key (fun _ => .bl _) pe_bl
    · unfold cstB at h; simp at h; subst h; exact key (fun _ => .int _) pe_int
    · unfold cstB at h; simp at h; subst h; exact key (fun _ => .str _) pe_str
  | _ => cases d <;> cases h
theorem same_none {G : Hp} : Same (fun _ => none) G := fun a o h => nomatch h
theorem q_gc (W : Wd T N C cal X sc) {x : String} {d : D} {y : Str} {p : Pos} (hy : y = Str.ofString x) (hg : glB sc y = true) (hd : notDbg y = true) (hc : C.lookup x = some d) : PE X (.Name y p) (rdE X.K cal (.gc x d)) := by
  obtain ⟨v, u, hm, r, dp⟩ := W.cst x d hc
  refine pe_of fun σ H Q ⟨F, G0, ios, G, s, P, a, s', S, ev, q⟩ => ⟨_, pe_glob (W.gl hg) (by rw [hy]; exact hm) r (dbg_of hd).1, ?_⟩
  rw [evE] at ev
  cases ev
  exact q v G H (Same.refl _) S (dp.mono same_none)
theorem q_nil : PA X [] (rdAs X.K cal .nil) := pa_of fun σ H Q ⟨F, G0, ios, G, s, P, as, s', S, ev, q⟩ => ⟨_, pa_nil, by
  rw [evAs] at ev
  cases ev
  exact q [] G H (Same.refl _) S .nil⟩
theorem q_cons {e : IE} {es : IEs} {a : Expr} {as : List Expr} (hp : plainX a = true) (he : PE X a (rdE X.K cal e)) (ht : PA X as (rdAs X.K cal es)) : PA X (a :: as) (rdAs X.K cal (.cons e es)) := by
  refine pa_of fun σ H Q ⟨F, G0, ios, G, s, P, rs, s', S, ev, q⟩ => ⟨_, pa_cons he ht (star_plain hp), ?_⟩
  rw [evAs] at ev
  obtain ⟨⟨x, s1⟩, e1, ev⟩ := bind_ok ev
  obtain ⟨⟨xs, s2⟩, e2, ev⟩ := bind_ok (ev : R.bind _ _ = _)
  cases ev
  refine ⟨F, G0, ios, G, s, P, x, s1, S, e1, fun v G1 H1 g1 S1 ok1 => ⟨F, G0, ios, G1, s1, _, xs, _, S1, e2, fun vs G2 H2 g2 S2 ok2 => q (v :: vs) G2 H2 (g1.trans g2) ?_ (.cons (ok1.mono g2) ok2)⟩⟩
  show Sim X.K F G0 ios G2 H2 σ s' ((pnds vs xs ++ pnd v x) ++ P)
  rw [List.append_assoc]
  exact S2
theorem q_tup {es : IEs} {as : List Expr} {k : Nat} {p : Pos} (h : PA X as (rdAs X.K cal es)) : PE X (.Tuple as k p) (rdE X.K cal (.tup es)) := by
  refine pe_of fun σ H Q ⟨F, G0, ios, G, s, P, r, s', S, ev, q⟩ => ⟨_, pe_tup h, ?_⟩
  rw [evE] at ev
  obtain ⟨⟨xs, s1⟩, e1, ev⟩ := bind_ok ev
  obtain ⟨⟨ds, s2⟩, e2, ev⟩ := bind_ok (ev : R.bind _ _ = _)
  obtain ⟨hl, ev⟩ := req_ok (ev : req _ _ = _)
  cases ev
  refine ⟨F, G0, ios, G, s, P, xs, s1, S, e1, fun vs G1 H1 g1 S1 ok1 => ?_⟩
  obtain ⟨G2, g2, S2, da⟩ := S1.takeAll ok1 e2
  refine ⟨by rw [da.length]; exact of_decide_eq_true hl, fun p' hp => ?_⟩
  obtain ⟨S3, ok3⟩ := S2.new (NewV.tup S2.gh hp da)
  exact q _ _ _ ((g1.trans g2).trans (same_upd (S2.gh.free hp))) S3 ok3
theorem q_lst {es : IEs} {as : List Expr} {p : Pos} (h : PA X as (rdAs X.K cal es)) : PE X (.List as p) (rdE X.K cal (.lst es)) := by
  refine pe_of fun σ H Q ⟨F, G0, ios, G, s, P, r, s', S, ev, q⟩ => ⟨_, pe_lst h, ?_⟩
  rw [evE] at ev
  obtain ⟨⟨xs, s1⟩, e1, ev⟩ := bind_ok ev
  obtain ⟨⟨ds, s2⟩, e2, ev⟩ := bind_ok (ev : R.bind _ _ = _)
  obtain ⟨hl, ev⟩ := req_ok (ev : req _ _ = _)
  cases ev
  refine ⟨F, G0, ios, G, s, P, xs, s1, S, e1, fun vs G1 H1 g1 S1 ok1 => ?_⟩
  obtain ⟨G2, g2, S2, da⟩ := S1.takeAll ok1 e2
  refine ⟨by rw [da.length]; exact of_decide_eq_true hl, fun p' hp => ?_⟩
  obtain ⟨S3, ok3⟩ := S2.new (NewV.lst S2.gh hp da)
  exact q _ _ _ (g1.trans g2) S3 ok3
/-- two values one behind the other -/
theorem two {F G0 G H : Hp} {ios : List (Nat × Addr)} {σ : St} {s : Sl} {P : List (V × D)} {v w : V} {x y : Ar} {dx dy : D} (S : Sim X.K F G0 ios G H σ s (pnd w y ++ (pnd v x ++ P))) (okx : ArOk X.K G σ v x) (oky : ArOk X.K G σ w y) (ex : x.get s = .ok dx) (ey : y.get s = .ok dy) : Cn X.K G H v dx ∧ Cn X.K G H w dy ∧ Sim X.K F G0 ios G H σ s P :=
  ⟨S.get (fun z hz => List.mem_append_right _ (List.mem_append_left _ hz)) okx ex, S.get (fun z hz => List.mem_append_left _ hz) oky ey, S.drop.drop⟩
theorem q_bin {op : Bop} {a b : IE} {l r : Expr} {o : Operator} {p : Pos} (ho : opB op o = true) (ha : PE X l (rdE X.K cal a)) (hb : PE X r (rdE X.K cal b)) : PE X (.BinOp l o r p) (rdE X.K cal (.bin op a b)) := by
  rw [opB_ok ho]
  refine pe_of fun σ H Q ⟨F, G0, ios, G, s, P, z, s', S, ev, q⟩ => ⟨_, pe_op (opr_bop op) ha hb, ?_⟩
  rw [evE] at ev
  obtain ⟨⟨x, s1⟩, e1, ev⟩ := bind_ok ev
  obtain ⟨⟨y, s2⟩, e2, ev⟩ := bind_ok (ev : R.bind _ _ = _)
  obtain ⟨dx, e3, ev⟩ := bind_ok (ev : R.bind _ _ = _)
  obtain ⟨dy, e4, ev⟩ := bind_ok (ev : R.bind _ _ = _)
  obtain ⟨t, e5, ev⟩ := bind_ok (ev : R.bind _ _ = _)
  cases ev
  refine ⟨F, G0, ios, G, s, P, x, s1, S, e1, fun v G1 H1 g1 S1 ok1 => ⟨F, G0, ios, G1, s1, _, y, _, S1, e2, fun w G2 H2 g2 S2 ok2 => ?_⟩⟩
  obtain ⟨c1, c2, S3⟩ := two S2 (ok1.mono g2) ok2 e3 e4
  refine ⟨G2, dx, dy, _, S3.gh, c1, c2, e5, fun z G3 H3 n => ?_⟩
  obtain ⟨S4, ok4⟩ := S3.new n
  exact q _ _ _ ((g1.trans g2).trans n.gg) S4 ok4
theorem q_ix {a i : IE} {l r : Expr} {p : Pos} (hp : plainX r = true) (ha : PE X l (rdE X.K cal a)) (hb : PE X r (rdE X.K cal i)) : PE X (.Subscript l r p) (rdE X.K cal (.ix a i)) := by
  refine pe_of fun σ H Q ⟨F, G0, ios, G, s, P, z, s', S, ev, q⟩ => ⟨_, pe_ix ixr_item ha hb (plain_ix hp), ?_⟩
  rw [evE] at ev
  obtain ⟨⟨x, s1⟩, e1, ev⟩ := bind_ok ev
  obtain ⟨⟨y, s2⟩, e2, ev⟩ := bind_ok (ev : R.bind _ _ = _)
  obtain ⟨dx, e3, ev⟩ := bind_ok (ev : R.bind _ _ = _)
  obtain ⟨dy, e4, ev⟩ := bind_ok (ev : R.bind _ _ = _)
  obtain ⟨t, e5, ev⟩ := bind_ok (ev : R.bind _ _ = _)
  cases ev
  refine ⟨F, G0, ios, G, s, P, x, s1, S, e1, fun v G1 H1 g1 S1 ok1 => ⟨F, G0, ios, G1, s1, _, y, _, S1, e2, fun w G2 H2 g2 S2 ok2 => ?_⟩⟩
  obtain ⟨c1, c2, S3⟩ := two S2 (ok1.mono g2) ok2 e3 e4
  exact ⟨G2, dx, dy, _, S3.gh, c1, c2, e5, fun z dz => q _ _ _ (g1.trans g2) S3 dz⟩
theorem q_neg {a : IE} {l : Expr} {p : Pos} (ha : PE X l (rdE X.K cal a)) : PE X (.UnaryOp .USub l p) (rdE X.K cal (.neg a)) := by
  refine pe_of fun σ H Q ⟨F, G0, ios, G, s, P, z, s', S, ev, q⟩ => ⟨_, pe_un un_neg ha, ?_⟩
  rw [evE] at ev
  obtain ⟨⟨x, s1⟩, e1, ev⟩ := bind_ok ev
  obtain ⟨d, e2, ev⟩ := bind_ok (ev : R.bind _ _ = _)
  cases d with
  | int i =>
    cases ev
    refine ⟨F, G0, ios, G, s, P, x, _, S, e1, fun v G1 H1 g1 S1 ok1 => ?_⟩
    have c := S1.get (fun z hz => List.mem_append_left _ hz) ok1 e2
    exact ⟨i, c, q _ _ _ g1 S1.drop (.int _)⟩
  | _ => cases ev
theorem q_cmp (W : Wd T N C cal X sc) {op : Cop} {a b : IE} {l r : Expr} {o : CmpOp} {p : Pos} (ho : copB op o = true) (hr : plainX r = true) (ha : PE X l (rdE X.K cal a)) (hb : PE X r (rdE X.K cal b)) : PE X (.Compare l [o] [r] p) (rdE X.K cal (.cmp op a b)) := by
  rw [copB_ok ho]
  have hu : X.A.units + 65 < cLine := by have := W.un; omega
  refine pe_of fun σ H Q ⟨F, G0, ios, G, s, P, z, s', S, ev, q⟩ => ⟨_, pe_cmpR (opr_cop hu op) ha hb (plain_behind hr), ?_⟩
  rw [evE] at ev
  obtain ⟨⟨x, s1⟩, e1, ev⟩ := bind_ok ev
  obtain ⟨⟨y, s2⟩, e2, ev⟩ := bind_ok (ev : R.bind _ _ = _)
  obtain ⟨dx, e3, ev⟩ := bind_ok (ev : R.bind _ _ = _)
  obtain ⟨dy, e4, ev⟩ := bind_ok (ev : R.bind _ _ = _)
  obtain ⟨t, e5, ev⟩ := bind_ok (ev : R.bind _ _ = _)
  cases ev
  refine ⟨F, G0, ios, G, s, P, x, s1, S, e1, fun v G1 H1 g1 S1 ok1 => ⟨F, G0, ios, G1, s1, _, y, _, S1, e2, fun w G2 H2 g2 S2 ok2 => ?_⟩⟩
  obtain ⟨c1, c2, S3⟩ := two S2 (ok1.mono g2) ok2 e3 e4
  exact ⟨G2, dx, dy, t, S3.gh, c1, c2, e5, q _ _ _ (g1.trans g2) S3 (.bl _)⟩
theorem qt_cmp (W : Wd T N C cal X sc) {op : Cop} {a b : IE} {l r : Expr} {o : CmpOp} {p : Pos} (ho : copB op o = true) (hr : plainX r = true) (ha : PE X l (rdE X.K cal a)) (hb : PE X r (rdE X.K cal b)) : PT X (.Compare l [o] [r] p) (rdT X.K cal (.cmp op a b)) := by
  rw [copB_ok ho]
  have hu : X.A.units + 65 < cLine := by have := W.un; omega
  refine pt_of fun σ H Q ⟨F, G0, ios, G, s, P, z, s', d, k, S, ev, eg, et, q⟩ => ⟨_, pt_cmpR (opr_cop hu op) ha hb (plain_behind hr), ?_⟩
  rw [evE] at ev
  obtain ⟨⟨x, s1⟩, e1, ev⟩ := bind_ok ev
  obtain ⟨⟨y, s2⟩, e2, ev⟩ := bind_ok (ev : R.bind _ _ = _)
  obtain ⟨dx, e3, ev⟩ := bind_ok (ev : R.bind _ _ = _)
  obtain ⟨dy, e4, ev⟩ := bind_ok (ev : R.bind _ _ = _)
  obtain ⟨t, e5, ev⟩ := bind_ok (ev : R.bind _ _ = _)
  cases ev
  cases eg
  cases et
  refine ⟨F, G0, ios, G, s, P, x, s1, S, e1, fun v G1 H1 g1 S1 ok1 => ⟨F, G0, ios, G1, s1, _, y, _, S1, e2, fun w G2 H2 g2 S2 ok2 => ?_⟩⟩
  obtain ⟨c1, c2, S3⟩ := two S2 (ok1.mono g2) ok2 e3 e4
  exact ⟨G2, dx, dy, _, S3.gh, c1, c2, e5, _, rfl, q _ _ (g1.trans g2) S3⟩
theorem plain_last {o1 o2 : CmpOp} {r q : Expr} (h : plainX q = true) : lastMarks [o1, o2] [r, q] = false := plain_behind h
/-- a chain of two, run -/
theorem chain_run {op1 op2 : Cop} {a b c : IE} {F G0 G H : Hp} {ios : List (Nat × Addr)} {σ : St} {s s' : Sl} {P : List (V × D)} {z : Ar} {Q : VK} (S : Sim X.K F G0 ios G H σ s P) (ev : evE cal (.ch2 op1 op2 a b c) s = .ok (z, s')) (q : ∀ t G' H', z = .frz (.bool t) → Same G G' → Sim X.K F G0 ios G' H' σ s' P → Q (.bl t) H') :
    tChain (rC op1 X.K) (rC op2 X.K) (rdE X.K cal a) (rdE X.K cal b) (rdE X.K cal c) σ H Q := by
  rw [evE] at ev
  obtain ⟨⟨x, s1⟩, e1, ev⟩ := bind_ok ev
  obtain ⟨⟨y, s2⟩, e2, ev⟩ := bind_ok (ev : R.bind _ _ = _)
  obtain ⟨dx, e3, ev⟩ := bind_ok (ev : R.bind _ _ = _)
  obtain ⟨dy, e4, ev⟩ := bind_ok (ev : R.bind _ _ = _)
  obtain ⟨t, e5, ev⟩ := bind_ok (ev : R.bind _ _ = _)
  refine ⟨F, G0, ios, G, s, P, x, s1, S, e1, fun v G1 H1 g1 S1 ok1 => ⟨F, G0, ios, G1, s1, _, y, _, S1, e2, fun w G2 H2 g2 S2 ok2 => ?_⟩⟩
  obtain ⟨c1, c2, S3⟩ := two S2 (ok1.mono g2) ok2 e3 e4
  refine ⟨G2, dx, dy, t, S3.gh, c1, c2, e5, t, rfl, ?_⟩
  cases t with
  | false =>
    cases ev
    exact q _ _ _ rfl (g1.trans g2) S3
  | true =>
    rw [if_pos rfl] at ev
    obtain ⟨⟨u, s3⟩, e6, ev⟩ := bind_ok (ev : R.bind _ _ = _)
    obtain ⟨dy', e7, ev⟩ := bind_ok (ev : R.bind _ _ = _)
    obtain ⟨dz, e8, ev⟩ := bind_ok (ev : R.bind _ _ = _)
    obtain ⟨t2, e9, ev⟩ := bind_ok (ev : R.bind _ _ = _)
    cases ev
    rw [if_pos rfl]
    refine ⟨F, G0, ios, G2, s2, _, u, _, S2, e6, fun w2 G3 H3 g3 S4 ok4 => ?_⟩
    have S5 : Sim X.K F G0 ios G3 H3 σ s' (pnd w2 u ++ (pnd w y ++ (pnd v x ++ P))) := S4
    obtain ⟨c3, c4, S6⟩ := two S5 (ok2.mono g3) ok4 e7 e8
    exact ⟨G3, dy', dz, t2, S6.gh, c3, c4, e9, q _ _ _ rfl ((g1.trans g2).trans g3) S6.drop⟩
theorem q_ch2 (W : Wd T N C cal X sc) {op1 op2 : Cop} {a b c : IE} {l r m : Expr} {o1 o2 : CmpOp} {p : Pos} (h1 : copB op1 o1 = true) (h2 : copB op2 o2 = true) (hr : plainX m = true) (ha : PE X l (rdE X.K cal a)) (hb : PE X r (rdE X.K cal b)) (hc : PE X m (rdE X.K cal c)) :
    PE X (.Compare l [o1, o2] [r, m] p) (rdE X.K cal (.ch2 op1 op2 a b c)) := by
  rw [copB_ok h1, copB_ok h2]
  have hu : X.A.units + 65 < cLine := by have := W.un; omega
  exact pe_of fun σ H Q ⟨F, G0, ios, G, s, P, z, s', S, ev, q⟩ => ⟨_, pe_chain (opr_cop hu op1) (opr_cop hu op2) ha hb hc (plain_last hr), chain_run S ev fun t G' H' e g S' => q _ _ _ g (by subst e; exact S') (by subst e; exact .bl t)⟩
theorem qt_ch2 (W : Wd T N C cal X sc) {op1 op2 : Cop} {a b c : IE} {l r m : Expr} {o1 o2 : CmpOp} {p : Pos} (h1 : copB op1 o1 = true) (h2 : copB op2 o2 = true) (hr : plainX m = true) (ha : PE X l (rdE X.K cal a)) (hb : PE X r (rdE X.K cal b)) (hc : PE X m (rdE X.K cal c)) :
    PT X (.Compare l [o1, o2] [r, m] p) (rdT X.K cal (.ch2 op1 op2 a b c)) := by
  rw [copB_ok h1, copB_ok h2]
  have hu : X.A.units + 65 < cLine := by have := W.un; omega
  exact pt_of fun σ H Q ⟨F, G0, ios, G, s, P, z, s', d, k, S, ev, eg, et, q⟩ => ⟨_, pt_chain (opr_cop hu op1) (opr_cop hu op2) ha hb hc (plain_last hr), chain_run S ev fun t G' H' e g S' => ⟨k, by subst e; cases eg; cases et; rfl, q _ _ g S'⟩⟩
theorem q_and {a b : IE} {x y : Expr} {rest : List Expr} {p : Pos} (ha : PE X x (rdE X.K cal a)) (hb : PE X (.BoolOp .And (y :: rest) p) (rdE X.K cal b)) : PE X (.BoolOp .And (x :: y :: rest) p) (rdE X.K cal (.and a b)) := by
  refine pe_of fun σ H Q ⟨F, G0, ios, G, s, P, z, s', S, ev, q⟩ => ⟨_, pe_andT ha hb, ?_⟩
  rw [evE] at ev
  obtain ⟨⟨x, s1⟩, e1, ev⟩ := bind_ok ev
  obtain ⟨d, e2, ev⟩ := bind_ok (ev : R.bind _ _ = _)
  obtain ⟨t, e3, ev⟩ := bind_ok (ev : R.bind _ _ = _)
  refine ⟨F, G0, ios, G, s, P, x, _, S, e1, fun v G1 H1 g1 S1 ok1 => ⟨t, truth_ok S1.gh (S1.get (fun z hz => List.mem_append_left _ hz) ok1 e2) e3, ?_⟩⟩
  cases t with
  | true => exact ⟨F, G0, ios, G1, s1, P, z, s', S1.drop, ev, fun w G2 H2 g2 S2 ok2 => q w G2 H2 (g1.trans g2) S2 ok2⟩
  | false => cases ev; exact q v G1 H1 g1 S1 ok1
theorem q_or {a b : IE} {x y : Expr} {rest : List Expr} {p : Pos} (ha : PE X x (rdE X.K cal a)) (hb : PE X (.BoolOp .Or (y :: rest) p) (rdE X.K cal b)) : PE X (.BoolOp .Or (x :: y :: rest) p) (rdE X.K cal (.or a b)) := by
  refine pe_of fun σ H Q ⟨F, G0, ios, G, s, P, z, s', S, ev, q⟩ => ⟨_, pe_orT ha hb, ?_⟩
  rw [evE] at ev
  obtain ⟨⟨x, s1⟩, e1, ev⟩ := bind_ok ev
  obtain ⟨d, e2, ev⟩ := bind_ok (ev : R.bind _ _ = _)
  obtain ⟨t, e3, ev⟩ := bind_ok (ev : R.bind _ _ = _)
  refine ⟨F, G0, ios, G, s, P, x, _, S, e1, fun v G1 H1 g1 S1 ok1 => ⟨t, truth_ok S1.gh (S1.get (fun z hz => List.mem_append_left _ hz) ok1 e2) e3, ?_⟩⟩
  cases t with
  | false => exact ⟨F, G0, ios, G1, s1, P, z, s', S1.drop, ev, fun w G2 H2 g2 S2 ok2 => q w G2 H2 (g1.trans g2) S2 ok2⟩
  | true => cases ev; exact q v G1 H1 g1 S1 ok1
theorem q_not {a : IE} {x : Expr} {p : Pos} (ha : PE X x (rdE X.K cal a)) : PE X (.UnaryOp .Not x p) (rdE X.K cal (.not a)) := by
  refine pe_of fun σ H Q ⟨F, G0, ios, G, s, P, z, s', S, ev, q⟩ => ⟨_, pe_notT ha, ?_⟩
  rw [evE] at ev
  obtain ⟨⟨x, s1⟩, e1, ev⟩ := bind_ok ev
  obtain ⟨d, e2, ev⟩ := bind_ok (ev : R.bind _ _ = _)
  obtain ⟨t, e3, ev⟩ := bind_ok (ev : R.bind _ _ = _)
  cases ev
  exact ⟨F, G0, ios, G, s, P, x, _, S, e1, fun v G1 H1 g1 S1 ok1 => ⟨t, truth_ok S1.gh (S1.get (fun z hz => List.mem_append_left _ hz) ok1 e2) e3, q _ _ _ g1 S1.drop (.bl _)⟩⟩
theorem q_ite {c a b : IE} {x y z : Expr} {p : Pos} (hc : PT X x (rdT X.K cal c)) (ha : PE X y (rdE X.K cal a)) (hb : PE X z (rdE X.K cal b)) : PE X (.IfExp x y z p) (rdE X.K cal (.ite c a b)) := by
  refine pe_of fun σ H Q ⟨F, G0, ios, G, s, P, z, s', S, ev, q⟩ => ⟨_, pe_ifExp hc ha hb, ?_⟩
  rw [evE] at ev
  obtain ⟨⟨x, s1⟩, e1, ev⟩ := bind_ok ev
  obtain ⟨d, e2, ev⟩ := bind_ok (ev : R.bind _ _ = _)
  obtain ⟨t, e3, ev⟩ := bind_ok (ev : R.bind _ _ = _)
  refine ⟨F, G0, ios, G, s, P, x, _, d, t, S, e1, e2, e3, fun G1 H1 g1 S1 => ?_⟩
  cases t with
  | true => exact ⟨F, G0, ios, G1, s1, P, z, s', S1, ev, fun w G2 H2 g2 S2 ok2 => q w G2 H2 (g1.trans g2) S2 ok2⟩
  | false => exact ⟨F, G0, ios, G1, s1, P, z, s', S1, ev, fun w G2 H2 g2 S2 ok2 => q w G2 H2 (g1.trans g2) S2 ok2⟩
/-! ### tests -/
theorem qt_val {e : IE} {x : Expr} (h : PE X x (rdE X.K cal e)) (hx : ∀ whole, isTrue x X.env whole = (do let v ← whole; standAt x.pos; holding [v] (truthy v))) : PT X x (rdT X.K cal e) :=
  pt_of fun σ H Q ⟨F, G0, ios, G, s, P, z, s', d, k, S, ev, eg, et, q⟩ => ⟨_, pt_truth h hx, F, G0, ios, G, s, P, z, s', S, ev, fun v G1 H1 g1 S1 ok1 => ⟨k, truth_ok S1.gh (S1.get (fun z hz => List.mem_append_left _ hz) ok1 eg) et, q _ _ g1 S1.drop⟩⟩
theorem qt_not {a : IE} {x : Expr} {p : Pos} (ha : PT X x (rdT X.K cal a)) : PT X (.UnaryOp .Not x p) (rdT X.K cal (.not a)) := by
  refine pt_of fun σ H Q ⟨F, G0, ios, G, s, P, z, s', d, k, S, ev, eg, et, q⟩ => ⟨_, pt_not ha, ?_⟩
  rw [evE] at ev
  obtain ⟨⟨x, s1⟩, e1, ev⟩ := bind_ok ev
  obtain ⟨d', e2, ev⟩ := bind_ok (ev : R.bind _ _ = _)
  obtain ⟨t, e3, ev⟩ := bind_ok (ev : R.bind _ _ = _)
  cases ev
  cases eg
  cases et
  exact ⟨F, G0, ios, G, s, P, x, _, d', t, S, e1, e2, e3, fun G1 H1 g1 S1 => q _ _ g1 S1⟩
theorem qw_and {a b : IE} {x y : Expr} {rest : List Expr} {p : Pos} (ha : PT X x (rdT X.K cal a)) (hb : PW X (.BoolOp .And (y :: rest) p) (rdT X.K cal b)) : PW X (.BoolOp .And (x :: y :: rest) p) (rdT X.K cal (.and a b)) := by
  refine ⟨fun whole pins s0 σ H Q I ht => ?_⟩
  obtain ⟨F, G0, ios, G, s, P, z, s', d, k, S, ev, eg, et, q⟩ := ht
  refine (pw_and ha hb).run whole pins s0 σ H Q I ?_
  rw [evE] at ev
  obtain ⟨⟨x, s1⟩, e1, ev⟩ := bind_ok ev
  obtain ⟨d', e2, ev⟩ := bind_ok (ev : R.bind _ _ = _)
  obtain ⟨t, e3, ev⟩ := bind_ok (ev : R.bind _ _ = _)
  refine ⟨F, G0, ios, G, s, P, x, _, d', t, S, e1, e2, e3, fun G1 H1 g1 S1 => ?_⟩
  cases t with
  | true => exact ⟨F, G0, ios, G1, s1, P, z, s', d, k, S1, ev, eg, et, fun G2 H2 g2 S2 => q G2 H2 (g1.trans g2) S2⟩
  | false =>
    cases ev
    rw [e2] at eg
    cases eg
    rw [e3] at et
    cases et
    exact q _ _ g1 S1
theorem qw_or {a b : IE} {x y : Expr} {rest : List Expr} {p : Pos} (ha : PT X x (rdT X.K cal a)) (hb : PW X (.BoolOp .Or (y :: rest) p) (rdT X.K cal b)) : PW X (.BoolOp .Or (x :: y :: rest) p) (rdT X.K cal (.or a b)) := by
  refine ⟨fun whole pins s0 σ H Q I ht => ?_⟩
  obtain ⟨F, G0, ios, G, s, P, z, s', d, k, S, ev, eg, et, q⟩ := ht
  refine (pw_or ha hb).run whole pins s0 σ H Q I ?_
  rw [evE] at ev
  obtain ⟨⟨x, s1⟩, e1, ev⟩ := bind_ok ev
  obtain ⟨d', e2, ev⟩ := bind_ok (ev : R.bind _ _ = _)
  obtain ⟨t, e3, ev⟩ := bind_ok (ev : R.bind _ _ = _)
  refine ⟨F, G0, ios, G, s, P, x, _, d', t, S, e1, e2, e3, fun G1 H1 g1 S1 => ?_⟩
  cases t with
  | false => exact ⟨F, G0, ios, G1, s1, P, z, s', d, k, S1, ev, eg, et, fun G2 H2 g2 S2 => q G2 H2 (g1.trans g2) S2⟩
  | true =>
    cases ev
    rw [e2] at eg
    cases eg
    rw [e3] at et
    cases et
    exact q _ _ g1 S1
theorem pt_ife {c a b : Expr} {p : Pos} {tc ta tb : TT} (hc : PT X c tc) (ha : PT X a ta) (hb : PT X b tb) : PT X (.IfExp c a b p) (fun σ H Q => tc σ H fun k H1 => if k = true then ta σ H1 Q else tb σ H1 Q) := by
  refine ⟨fun pins s σ H Q I h => ?_⟩
  have e : PySem.isTrue (.IfExp c a b p) X.env (eval (.IfExp c a b p) X.env) = (do if ← PySem.isTrue c X.env (eval c X.env) then PySem.isTrue a X.env (eval a X.env) else PySem.isTrue b X.env (eval b X.env)) := by
    rw [PySem.isTrue]
  rw [e]
  refine wpAny_bind (thn (hc.run pins s σ H _ I h) fun k s1 ⟨H1, I1, q⟩ => ?_)
  cases k with
  | true => exact ha.run pins s1 σ H1 Q I1 q
  | false => exact hb.run pins s1 σ H1 Q I1 q
theorem qt_ite {c a b : IE} {x y z : Expr} {p : Pos} (hc : PT X x (rdT X.K cal c)) (ha : PT X y (rdT X.K cal a)) (hb : PT X z (rdT X.K cal b)) : PT X (.IfExp x y z p) (rdT X.K cal (.ite c a b)) := by
  refine pt_of fun σ H Q ⟨F, G0, ios, G, s, P, z, s', d, k, S, ev, eg, et, q⟩ => ⟨_, pt_ife hc ha hb, ?_⟩
  rw [evE] at ev
  obtain ⟨⟨x, s1⟩, e1, ev⟩ := bind_ok ev
  obtain ⟨d', e2, ev⟩ := bind_ok (ev : R.bind _ _ = _)
  obtain ⟨t, e3, ev⟩ := bind_ok (ev : R.bind _ _ = _)
  refine ⟨F, G0, ios, G, s, P, x, _, d', t, S, e1, e2, e3, fun G1 H1 g1 S1 => ?_⟩
  cases t with
  | true => exact ⟨F, G0, ios, G1, s1, P, z, s', d, k, S1, ev, eg, et, fun G2 H2 g2 S2 => q G2 H2 (g1.trans g2) S2⟩
  | false => exact ⟨F, G0, ios, G1, s1, P, z, s', d, k, S1, ev, eg, et, fun G2 H2 g2 S2 => q G2 H2 (g1.trans g2) S2⟩
end
end PX

set_option Elab.async false
set_option linter.all false
set_option maxRecDepth 100000
set_option maxHeartbeats 4000000
/-! PX, part K: slices, calls, methods, what is walked. -/
namespace PX
open PySem PySem.Spec PyProof.Rows L2

section
variable {T : List FD} {N : List Str} {C : List (String × D)} {cal : Nat → List D → R CR} {X : Cx} {sc : Scope}
theorem q_slc {a lo hi : IE} {l : Expr} {l? h? : Option Expr} {p p2 : Pos} (ha : PE X l (rdE X.K cal a))
    (hl : (l? = none ∧ lo = .cst .none) ∨ ∃ x, l? = some x ∧ lo ≠ .cst .none ∧ PE X x (rdE X.K cal lo)) (hh : (h? = none ∧ hi = .cst .none) ∨ ∃ x, h? = some x ∧ hi ≠ .cst .none ∧ PE X x (rdE X.K cal hi)) :
    PE X (.Subscript l (.Slice l? h? none p2) p) (rdE X.K cal (.slc a lo hi)) := by
  have part : ∀ {e : IE} {x? : Option Expr}, ((x? = none ∧ e = .cst .none) ∨ ∃ x, x? = some x ∧ e ≠ .cst .none ∧ PE X x (rdE X.K cal e)) →
      PO X x? (fun σ H Q => ∃ F G0 ios G s P b s', Sim X.K F G0 ios G H σ s P ∧ evE cal e s = .ok (b, s') ∧ ∀ v G' H', Same G G' → Sim X.K F G0 ios G' H' σ s' (pnd v b ++ P) → ArOk X.K G' σ v b → ∃ o, (e = .cst .none ∧ o = none ∨ e ≠ .cst .none ∧ ∃ i, v = .int i ∧ o = some i) ∧ Q o H') := fun {e x?} h => by
    rcases h with ⟨rfl, rfl⟩ | ⟨x, rfl, hn, hp⟩
    · refine po_of fun σ H Q ⟨F, G0, ios, G, s, P, b, s', S, ev, q⟩ => ⟨_, po_none, ?_⟩
      rw [evE] at ev
      cases ev
      obtain ⟨o, ho, q⟩ := q .non G H (Same.refl _) S .non
      rcases ho with ⟨_, rfl⟩ | ⟨z, _⟩
      · exact q
      · exact absurd rfl z
    · refine po_of fun σ H Q ⟨F, G0, ios, G, s, P, b, s', S, ev, q⟩ => ⟨_, po_some hp, F, G0, ios, G, s, P, b, s', S, ev, fun v G' H' g S' ok => ?_⟩
      obtain ⟨o, ho, q⟩ := q v G' H' g S' ok
      rcases ho with ⟨z, _⟩ | ⟨_, i, e1, rfl⟩
      · exact absurd z hn
      · exact ⟨i, e1, q⟩
  refine pe_of fun σ H Q ⟨F, G0, ios, G, s, P, z, s', S, ev, q⟩ => ⟨_, pe_slice slr_slice ha (part hl) (part hh), ?_⟩
  rw [evE] at ev
  obtain ⟨⟨x, s1⟩, e1, ev⟩ := bind_ok ev
  obtain ⟨⟨u, s2⟩, e2, ev⟩ := bind_ok (ev : R.bind _ _ = _)
  obtain ⟨dl, e5, ev⟩ := bind_ok (ev : R.bind _ _ = _)
  obtain ⟨⟨w, s3⟩, e3, ev⟩ := bind_ok (ev : R.bind _ _ = _)
  obtain ⟨dx, e4, ev⟩ := bind_ok (ev : R.bind _ _ = _)
  obtain ⟨dh, e6, ev⟩ := bind_ok (ev : R.bind _ _ = _)
  obtain ⟨hb, ev⟩ := req_ok (ev : req _ _ = _)
  obtain ⟨r, e7, ev⟩ := bind_ok (ev : R.bind _ _ = _)
  cases ev
  obtain ⟨oa, ob, e8, e9, e10⟩ := slice_ok e7
  rw [Bool.and_eq_true] at hb
  -- what a part comes to
  have tell : ∀ {e : IE} {d : D} {G H : Hp} {v : V} {o : Option Int} {s t : Sl} {b : Ar}, evE cal e s = .ok (b, t) → b.get t = .ok d → partB e d = true → optI d = some o → Cn X.K G H v d → (e = .cst .none ∧ o = none ∨ e ≠ .cst .none ∧ ∃ i, v = .int i ∧ o = some i) := fun {e d G H v o s t b} h1 h2 hb ho c => by
    by_cases hn : e = .cst .none
    · subst hn
      rw [evE] at h1
      cases h1
      cases h2
      cases ho
      exact .inl ⟨rfl, rfl⟩
    · refine .inr ⟨hn, ?_⟩
      cases d with
      | none => exact absurd hb (by cases e <;> first | exact Bool.false_ne_true | (rename_i k; cases k <;> first | exact absurd rfl hn | exact Bool.false_ne_true))
      | int i => cases ho; exact ⟨i, c, rfl⟩
      | _ => cases ho
  refine ⟨F, G0, ios, G, s, P, x, s1, S, e1, fun v G1 H1 g1 S1 ok1 => ⟨F, G0, ios, G1, s1, _, u, s2, S1, e2, fun vl G2 H2 g2 S2 ok2 => ⟨oa, tell e2 e5 hb.1 e8 (S2.get (fun z hz => List.mem_append_left _ hz) ok2 e5), ?_⟩⟩⟩
  refine ⟨F, G0, ios, G2, s2, _, w, _, S2, e3, fun vh G3 H3 g3 S3 ok3 => ⟨ob, tell e3 e6 hb.2 e9 (S3.get (fun z hz => List.mem_append_left _ hz) ok3 e6), ?_⟩⟩
  have c1 := S3.get (fun z hz => List.mem_append_right _ (List.mem_append_right _ (List.mem_append_left _ hz))) (ok1.mono (g2.trans g3)) e4
  have S4 : Sim X.K F G0 ios G3 H3 σ _ P := S3.drop.drop.drop
  refine ⟨G3, dx, _, S4.gh, c1, e10, fun zz G4 H4 n => ?_⟩
  obtain ⟨S5, ok5⟩ := S4.new n
  exact q _ _ _ (((g1.trans g2).trans g3).trans n.gg) S5 ok5
end
end PX

set_option Elab.async false
set_option linter.all false
set_option maxRecDepth 100000
set_option maxHeartbeats 4000000
/-! PX, part L: calls, methods, what is walked. -/
namespace PX
open PySem PySem.Spec PyProof.Rows L2

section
variable {T : List FD} {N : List Str} {C : List (String × D)} {cal : Nat → List D → R CR} {X : Cx} {sc : Scope}
theorem evAs_len {cal : Nat → List D → R CR} : ∀ {es : IEs} {as : List Expr} {s s' : Sl} {rs : List Ar} {T : List FD} {N : List Str} {C : List (String × D)} {sc : Scope}, chkEs T N C es sc as = true → evAs cal es s = .ok (rs, s') → rs.length = as.length
  | .nil, as, s, s', rs, T, N, C, sc, h, ev => by
    rw [evAs] at ev
    cases ev
    unfold chkEs at h
    rw [List.isEmpty_iff.mp h]; rfl
  | .cons e es, [], s, s', rs, T, N, C, sc, h, ev => by unfold chkEs at h; cases h
  | .cons e es, a :: as, s, s', rs, T, N, C, sc, h, ev => by
    unfold chkEs at h
    simp only [Bool.and_eq_true] at h
    rw [evAs] at ev
    obtain ⟨⟨x, s1⟩, e1, ev⟩ := bind_ok ev
    obtain ⟨⟨xs, s2⟩, e2, ev⟩ := bind_ok (ev : R.bind _ _ = _)
    cases ev
    rw [List.length_cons, List.length_cons, evAs_len h.2 e2]
theorem chkEs_plain : ∀ {es : IEs} {as : List Expr} {T : List FD} {N : List Str} {C : List (String × D)} {sc : Scope}, chkEs T N C es sc as = true → as.all plainX = true
  | .nil, as, T, N, C, sc, h => by
    unfold chkEs at h
    rw [List.isEmpty_iff.mp h]; rfl
  | .cons e es, [], T, N, C, sc, h => by unfold chkEs at h; cases h
  | .cons e es, a :: as, T, N, C, sc, h => by
    unfold chkEs at h
    simp only [Bool.and_eq_true] at h
    rw [List.all_cons, h.1.1, chkEs_plain h.2]; rfl
theorem q_call (W : Wd T N C cal X sc) {f : Nat} {io : List Nat} {es : IEs} {as : List Expr} {x : Str} {p pos : Pos} {fd : FD} (hT : T[f]? = some fd) (hx : x = Str.ofString fd.name) (hio : io = fd.io) (hl : as.length = fd.np) (nd : io.Nodup) (hg : glB sc x = true) (hd : notDbg x = true)
    (hc : chkEs T N C es sc as = true) (h : PA X as (rdAs X.K cal es)) : PE X (.Call (.Name x p) as [] pos) (rdE X.K cal (.call f io es)) := by
  refine pe_of fun σ H Q ⟨F, G0, ios, G, s, P, z, s', S, ev, q⟩ => ?_
  rw [evE] at ev
  obtain ⟨⟨xs, s1⟩, e1, ev⟩ := bind_ok ev
  obtain ⟨hok, ev⟩ := req_ok (ev : req _ _ = _)
  obtain ⟨ds, e2, ev⟩ := bind_ok (ev : R.bind _ _ = _)
  obtain ⟨r, e3, ev⟩ := bind_ok (ev : R.bind _ _ = _)
  obtain ⟨g, fdt, ps, k, hF, hr, hm, hk, hb⟩ := W.fns f fd ds r hT e3
  have len : xs.length = fd.np := by rw [evAs_len hc e1, hl]
  have hpl := chkEs_plain hc
  subst hio
  have red : tCall (spF X.K fd.io fd.np (cal f)) [] (fun _ _ _ => False) (rdAs X.K cal es) σ H Q := by
    refine ⟨F, G0, ios, G, s, P, xs, s1, S, e1, fun vs G1 H1 g1 S1 ok1 => ?_⟩
    show spF X.K fd.io fd.np (cal f) (vs ++ []) H1 Q _
    rw [List.append_nil]
    exact call_sim S1 ok1 hok len nd e2 e3 ev fun v G2 H2 g2 S2 ok2 => q v G2 H2 (g1.trans g2) S2 ok2
  cases as with
  | nil =>
    refine ⟨_, pe_call0 hF hr (W.gl hg) (by rw [hx]; exact hm) hk hb .nil pass0 (dbg_of hd).1, ?_⟩
    cases es with
    | nil =>
      rw [evAs] at e1
      cases e1
      obtain ⟨F, G0, ios, G, s, P, as, s', S, ev, q⟩ := red
      rw [evAs] at ev
      cases ev
      exact q [] G H (Same.refl _) S .nil
    | cons e es => unfold chkEs at hc; cases hc
  | cons a as =>
    rw [List.all_cons, Bool.and_eq_true] at hpl
    exact ⟨_, pe_call hF hr (W.gl hg) (by rw [hx]; exact hm) hk hb .nil pass0 h (dbg_of hd).1 (star_plain hpl.1) (star_any hpl.2), red⟩
theorem boot_bi : ∀ b : Bi, isIsi b = false → bootBuiltins (Str.ofString (biN b)) = some (biV b) ∧ (isBuiltin b || isTypeB b) = true ∧ biN b ∈ bltNames := by
  intro b h
  cases b <;> first | (cases h; done) | (refine ⟨?_, rfl, ?_⟩ <;> decide +kernel)
theorem nodbg_bi : ∀ b : Bi, Str.ofString (biN b) ≠ Str.ofString "__name__" ∧ (Str.ofString (biN b) == Str.ofString "__debug__") = false := by
  intro b
  cases b <;> decide +kernel
theorem q_bi (W : Wd T N C cal X sc) {b : Bi} {es : IEs} {a : Expr} {as : List Expr} {x : Str} {p pos : Pos} (hx : x = Str.ofString (biN b)) (hg : glB sc x = true) (hi : isIsi b = false) (hc : chkEs T N C es sc (a :: as) = true) (h : PA X (a :: as) (rdAs X.K cal es)) :
    PE X (.Call (.Name x p) (a :: as) [] pos) (rdE X.K cal (.bi b es)) := by
  subst hx
  obtain ⟨b1, b2, b3⟩ := boot_bi b hi
  obtain ⟨n1, n2⟩ := nodbg_bi b
  have hpl := chkEs_plain hc
  rw [List.all_cons, Bool.and_eq_true] at hpl
  have cr := callr_bi W.calm W.un b b2
  refine pe_of fun σ H Q ⟨F, G0, ios, G, s, P, z, s', S, ev, q⟩ => ?_
  have red : tCB (rBi b X.K) (rdAs X.K cal es) σ H Q := by
    rw [evE] at ev
    obtain ⟨⟨xs, s1⟩, e1, ev⟩ := bind_ok ev
    obtain ⟨ds, e2, ev⟩ := bind_ok (ev : R.bind _ _ = _)
    obtain ⟨r, e3, ev⟩ := bind_ok (ev : R.bind _ _ = _)
    cases ev
    refine ⟨F, G0, ios, G, s, P, xs, _, S, e1, fun vs G1 H1 g1 S1 ok1 => ⟨G1, ds, _, S1.gh, S1.getAll ok1 e2, e3, fun z G2 H2 n => ?_⟩⟩
    obtain ⟨S2, ok2⟩ := S1.drop.new n
    exact q _ _ _ (g1.trans n.gg) S2 ok2
  have mg := W.blt _ b3
  cases b <;> first
    | (exact ⟨_, pe_callB cr (W.gl hg) mg b1 h n1 n2 (star_plain hpl.1) (star_any hpl.2), red⟩)
    | (exact ⟨_, pe_callTy cr (W.gl hg) mg b1 h n1 n2 (star_plain hpl.1) (star_any hpl.2), red⟩)
    | (cases hi; done)
def tyS (d : D) (t : String) : Prop := match d with | .none => t = "NoneType" | .bool _ => t = "bool" | .int _ => t = "int" | .str _ => t = "str" | .list _ => t = "list" | .tuple _ => t = "tuple" | .dict _ => False
theorem cn_ty {K : PySem.W.Frag} {G H : Hp} {v : V} (gh : Same G H) : ∀ {d : D}, Cn K G H v d → ∃ t : String, TyX K H v (.type t) ∧ tyS d t
  | .none, h => by cases h; exact ⟨_, .base .non, rfl⟩
  | .bool b, h => by cases h; exact ⟨_, .base (.bl b), rfl⟩
  | .int i, h => by cases h; exact ⟨_, .base (.int i), rfl⟩
  | .str x, h => by cases h; exact ⟨_, .base (.str x), rfl⟩
  | .list ds, ⟨a, xs, e, h, _⟩ => by
    subst e
    rcases h with (h | ⟨o, h⟩) | ⟨o, its, n, h1, h2, _⟩
    · exact ⟨_, .base (.lst h), rfl⟩
    · exact ⟨_, .base (.frz h), rfl⟩
    · exact ⟨_, .kList h1 h2, rfl⟩
  | .tuple ds, ⟨a, xs, e, h, _⟩ => by
    subst e
    rcases h with (h | ⟨o, h⟩) | ⟨o, its, n, h1, h2, _⟩
    · exact ⟨_, .base (.tup (gh _ _ h)), rfl⟩
    · exact ⟨_, .fTuple (gh _ _ h), rfl⟩
    · exact ⟨_, .kTuple h1 h2, rfl⟩
  | .dict _, h => h.elim
theorem kit_tab : ∀ t ∈ ["NoneType", "bool", "int", "str", "list", "tuple"], ∀ b ∈ [Bi.isI, Bi.isB, Bi.isS, Bi.isT, Bi.isL], kitB t (isN b) = some (match b with | .isI => t == "int" || t == "bool" | .isB => t == "bool" | .isS => t == "str" | .isT => t == "tuple" | _ => t == "list") := by decide +kernel
theorem bi_is {b : Bi} {d : D} {r : Ar} (hb : isIsi b = true) (h : bi b [d] = .ok r) (t : String) (ht : tyS d t) :
    ∃ k, r = .frz (.bool k) ∧ kitB t (isN b) = some k := by
  have ht' : t ∈ ["NoneType", "bool", "int", "str", "list", "tuple"] := by cases d <;> first | exact ht.elim | (subst ht; decide)
  have hb' : b ∈ [Bi.isI, Bi.isB, Bi.isS, Bi.isT, Bi.isL] := by cases b <;> first | (cases hb; done) | simp
  have z := kit_tab t ht' b hb'
  cases b <;> first
    | (cases hb; done)
    | (cases d <;> first | exact ht.elim | (subst ht; cases h; exact ⟨_, rfl, z⟩))
theorem boot_is : ∀ b : Bi, isIsi b = true → bootBuiltins (Str.ofString (isN b)) = some (.type (isN b)) ∧ isN b ∈ bltNames ∧ Str.ofString (isN b) ≠ Str.ofString "__name__" ∧ (Str.ofString (isN b) == Str.ofString "__debug__") = false := by
  intro b h
  cases b <;> first | (cases h; done) | (refine ⟨?_, ?_, ?_, ?_⟩ <;> decide +kernel)
theorem boot_isinst : bootBuiltins (Str.ofString "isinstance") = some (.builtin "isinstance") ∧ "isinstance" ∈ bltNames := by constructor <;> decide +kernel
theorem bi_isN {b : Bi} (h : isIsi b = true) : biN b = "isinstance" := by cases b <;> first | rfl | cases h
theorem q_isi (W : Wd T N C cal X sc) {b : Bi} {e : IE} {a : Expr} {x y : Str} {p p2 pos : Pos} (hx : x = Str.ofString (biN b)) (hg : glB sc x = true) (hi : isIsi b = true) (hp : plainX a = true) (he : PE X a (rdE X.K cal e)) (hy : y = Str.ofString (isN b)) (hgy : glB sc y = true) :
    PE X (.Call (.Name x p) [a, .Name y p2] [] pos) (rdE X.K cal (.bi b (.cons e .nil))) := by
  rw [bi_isN hi] at hx
  subst hx hy
  obtain ⟨b1, b2, b3, b4⟩ := boot_is b hi
  obtain ⟨c1, c2⟩ := boot_isinst
  refine pe_of fun σ H Q ⟨F, G0, ios, G, s, P, z, s', S, ev, q⟩ =>
    ⟨_, pe_callB call_isi (W.gl hg) (W.blt _ c2) c1 (pa_cons he (pa_cons (pe_bltn (v := .ty (isN b)) (W.gl hgy) (W.blt _ b2) b1 rfl b3 b4) pa_nil rfl) (star_plain hp)) (by decide +kernel) (by decide +kernel) (star_plain hp) rfl, ?_⟩
  rw [evE] at ev
  obtain ⟨⟨xs, s1⟩, e1, ev⟩ := bind_ok ev
  obtain ⟨ds, e2, ev⟩ := bind_ok (ev : R.bind _ _ = _)
  obtain ⟨r, e3, ev⟩ := bind_ok (ev : R.bind _ _ = _)
  cases ev
  rw [evAs] at e1
  obtain ⟨⟨u, s2⟩, e4, e1⟩ := bind_ok e1
  obtain ⟨⟨us, s3⟩, e6, e1⟩ := bind_ok (e1 : R.bind _ _ = _)
  rw [evAs] at e6
  cases e6
  cases e1
  obtain ⟨d, e5, e2⟩ := bind_ok (e2 : R.bind _ _ = _)
  cases e2
  refine ⟨F, G0, ios, G, s, P, u, _, S, e4, fun v G1 H1 g1 S1 ok1 => ?_⟩
  have c := S1.get (fun z hz => List.mem_append_left _ hz) ok1 e5
  obtain ⟨t, ty, ht⟩ := cn_ty S1.gh c
  obtain ⟨k, rfl, hk⟩ := bi_is hi e3 t ht
  exact ⟨v, .ty (isN b), _, _, k, rfl, .ty _, ty, kit_ty hk, q _ _ _ g1 S1.drop (.bl k)⟩
/-! ### methods -/
theorem slot_mut : ∀ m : Mut, Slot "list" (Str.ofString (mutN m)) (mutId m) ∧ typeOf (.builtin (mutId m)) = pure (.type "method_descriptor") := by
  intro m
  cases m
  · exact ⟨F.slot_list_append, F.type_list_append⟩
  · exact ⟨F.slot_list_extend, F.type_list_extend⟩
  · exact ⟨F.slot_list_pop, F.type_list_pop⟩
  · exact ⟨F.slot_list_pop, F.type_list_pop⟩
theorem isOwn_cases {x : Option Sv} (h : isOwn x = true) : ∃ d, x = some (.own d) ∨ x = some (.io d) := by
  cases x with
  | none => cases h
  | some x => cases x with
    | un => cases h
    | frz _ => cases h
    | own d => exact ⟨d, .inl rfl⟩
    | io d => exact ⟨d, .inr rfl⟩
theorem mtd_run {m : Mut} {i : Nat} {s1 s2 s' : Sl} {F G0 G G1 H1 : Hp} {ios : List (Nat × Addr)} {σ : St} {P : List (V × D)} {rs : List Ar} {vs : List V} {ds : List D} {z : Ar} {Q : VK} {p : Addr} (hσ : σ[i]? = some (some (V.ref p))) (g1 : Same G G1) (S1 : Sim X.K F G0 ios G1 H1 σ s1 (pnds vs rs ++ P)) (ok1 : AsOk X.K G1 σ vs rs) (e2 : takeAll rs s1 = .ok (ds, s2))
    (ev : (match s2[i]? with
      | some (.own d) => (mutD m d ds).bind fun (r, d') => .ok (Ar.frz r, s2.set i (.own d'))
      | some (.io d) => (mutD m d ds).bind fun (r, d') => .ok (.frz r, s2.set i (.io d'))
      | _ => .no) = R.ok (z, s')) (q : ∀ v G' H', Same G G' → Sim X.K F G0 ios G' H' σ s' (pnd v z ++ P) → ArOk X.K G' σ v z → Q v H') : rMu m X.K (.ref p) vs H1 Q := by
  obtain ⟨G2, g2, S2, da⟩ := S1.takeAll ok1 e2
  cases hs : s2[i]? with
  | none => rw [hs] at ev; cases ev
  | some x =>
    rw [hs] at ev
    cases x with
    | un => cases ev
    | frz _ => cases ev
    | own d =>
      obtain ⟨⟨r, d'⟩, e3, ev⟩ := bind_ok (ev : R.bind _ _ = _)
      cases ev
      obtain ⟨p', e', o⟩ := S2.at_ hs (.inl rfl)
      rw [hσ] at e'; cases e'
      exact ⟨G2, p, d, ds, r, d', rfl, S2.gh, o.g, o.at_, da, e3, fun zz u dz ow => q zz G2 _ (g1.trans g2) (S2.change (.inl ⟨hs, rfl⟩) hσ ow) dz⟩
    | io d =>
      obtain ⟨⟨r, d'⟩, e3, ev⟩ := bind_ok (ev : R.bind _ _ = _)
      cases ev
      obtain ⟨p', e', o⟩ := S2.at_ hs (.inr rfl)
      rw [hσ] at e'; cases e'
      exact ⟨G2, p, d, ds, r, d', rfl, S2.gh, o.g, o.at_, da, e3, fun zz u dz ow => q zz G2 _ (g1.trans g2) (S2.change (.inr ⟨hs, rfl⟩) hσ ow) dz⟩
theorem q_mtd (W : Wd T N C cal X sc) {m : Mut} {i : Nat} {es : IEs} {o : Expr} {m' : Str} {ap cp : Pos} {as : List Expr} (hn : nameB N sc i o = true) (hm : m' = Str.ofString (mutN m)) (hp : ap.endLine = cp.line) (hl : as.length < 20) (hc : chkEs T N C es sc as = true) (h : PA X as (rdAs X.K cal es)) :
    PE X (.Call (.Attribute o m' ap) as [] cp) (rdE X.K cal (.mtd m i es)) := by
  subst hm
  obtain ⟨sl, ty⟩ := slot_mut m
  have hpl := chkEs_plain hc
  have base : attributeBase o (Str.ofString (mutN m)) X.env (eval o X.env) = eval o X.env := by cases o <;> first | rfl | cases hn
  have line : (ap.endLine == cp.line) = true := by rw [hp]; exact beq_self_eq_true _
  refine pe_of fun σ H Q ⟨F, G0, ios, G, s, P, z, s', S, ev, q⟩ => ?_
  rw [evE] at ev
  obtain ⟨hio, ev1⟩ := req_ok (ev : req _ _ = _)
  obtain ⟨⟨rs, s1⟩, e1, ev2⟩ := bind_ok (ev1 : R.bind _ _ = _)
  obtain ⟨⟨ds, s2⟩, e2, ev3⟩ := bind_ok (ev2 : R.bind _ _ = _)
  clear ev ev1 ev2
  obtain ⟨p, d0, e3, o3, _⟩ := (S.sl i).ref hio
  have tyv : tyV X.K "list" (.ref p) H := by
    cases d0 with
    | list es => obtain ⟨xs, hx, _⟩ := o3.at_; exact .inl ⟨rfl, xs, SqL.of hx⟩
    | _ => exact o3.at_.elim
  cases as with
  | nil =>
    refine ⟨_, pe_bm0 PySem.F.plainAttrs_list sl ty (mtr_mut m) (pe_name W hn) base line, .ref p, e3, tyv, ?_⟩
    cases es with
    | nil =>
      rw [evAs] at e1
      cases e1
      exact mtd_run e3 (Same.refl _) (vs := []) S .nil e2 ev3 q
    | cons e es => unfold chkEs at hc; cases hc
  | cons a as =>
    rw [List.all_cons, Bool.and_eq_true] at hpl
    refine ⟨_, pe_bm PySem.F.plainAttrs_list sl ty (mtr_mut m) (pe_name W hn) h base ?_ line (star_plain hpl.1) (star_any hpl.2), .ref p, e3, tyv, ?_⟩
    · rw [Bool.and_eq_true, Bool.and_eq_true]
      refine ⟨⟨star_all (by rw [List.all_cons, hpl.1, hpl.2]; rfl), rfl⟩, ?_⟩
      have : (a :: as).length + ([] : List Keyword).length + (if ([] : List Keyword).isEmpty = true then 0 else 1) < 30 := by
        show (a :: as).length + 0 + 0 < 30
        omega
      exact decide_eq_true this
    · exact ⟨F, G0, ios, G, s, P, rs, s1, S, e1, fun vs G1 H1 g1 S1 ok1 => mtd_run e3 g1 S1 ok1 e2 ev3 q⟩
end
end PX

set_option Elab.async false
set_option linter.all false
set_option maxRecDepth 100000
set_option maxHeartbeats 4000000
/-! PX, part M: what is walked; stores to names. -/
namespace PX
open PySem PySem.Spec PyProof.Rows L2

section
variable {T : List FD} {N : List Str} {C : List (String × D)} {cal : Nat → List D → R CR} {X : Cx} {sc : Scope}
theorem seqL_eq : ∀ d : D, seqL d = seqD d := by intro d; cases d <;> rfl
theorem q_seq {e : IE} {x tg : Expr} (h : PE X x (rdE X.K cal e)) : PI X tg x (rdI X.K cal (.seq e)) := by
  refine pi_of fun σ H Q ⟨F, G0, ios, G, s, P, ds, s', S, ev, q⟩ => ?_
  rw [evI] at ev
  obtain ⟨⟨a, s1⟩, e1, ev⟩ := bind_ok ev
  obtain ⟨⟨d, s2⟩, e2, ev⟩ := bind_ok (ev : R.bind _ _ = _)
  obtain ⟨ds', e3, ev⟩ := bind_ok (ev : R.bind _ _ = _)
  cases ev
  have go : ∀ v G' H', Same G G' → Sim X.K F G0 ios G' H' σ s1 (pnd v a ++ P) → ArOk X.K G' σ v a → ∃ G2, Same G G2 ∧ Sim X.K F G0 ios G2 H' σ s' P ∧ Dp X.K G2 v d := fun v G1 H1 g1 S1 ok1 => by
    obtain ⟨G2, g2, S2, dp⟩ := S1.take ok1 e2
    exact ⟨G2, g1.trans g2, S2, dp⟩
  cases d with
  | list xs =>
    cases e3
    refine ⟨_, pi_list h, F, G0, ios, G, s, P, a, s1, S, e1, fun v G1 H1 g1 S1 ok1 => ?_⟩
    obtain ⟨G2, g2, S2, dp⟩ := go v G1 H1 g1 S1 ok1
    cases dp with
    | lst hl da => exact ⟨_, rfl, ⟨_, sqL_mono S2.gh hl⟩, q _ _ _ g2 S2 (walk_lst hl da)⟩
  | tuple xs =>
    cases e3
    refine ⟨_, pi_tup h, F, G0, ios, G, s, P, a, s1, S, e1, fun v G1 H1 g1 S1 ok1 => ?_⟩
    obtain ⟨G2, g2, S2, dp⟩ := go v G1 H1 g1 S1 ok1
    cases dp with
    | tup hl da => exact ⟨_, rfl, ⟨_, sqT_mono S2.gh hl⟩, q _ _ _ g2 S2 (walk_tup hl da)⟩
  | str z =>
    cases e3
    refine ⟨_, pi_str h, F, G0, ios, G, s, P, a, s1, S, e1, fun v G1 H1 g1 S1 ok1 => ?_⟩
    obtain ⟨G2, g2, S2, dp⟩ := go v G1 H1 g1 S1 ok1
    cases dp with
    | str => exact ⟨z, rfl, q _ _ _ g2 S2 walk_text⟩
  | _ => cases e3
theorem small62_ok {i : Int} (h : small62 i = true) : -(2 ^ 62) ≤ i ∧ i < 2 ^ 62 := by
  unfold small62 at h
  rw [Bool.and_eq_true] at h
  exact ⟨of_decide_eq_true h.1, of_decide_eq_true h.2⟩
theorem rng_in : "range" ∈ bltNames ∧ "zip" ∈ bltNames ∧ "enumerate" ∈ bltNames := by decide
theorem q_r1 (W : Wd T N C cal X sc) {a : IE} {x tg : Expr} {r : Str} {p pos : Pos} (hr : r = Str.ofString "range") (hg : glB sc r = true) (hp : plainX x = true) (h : PE X x (rdE X.K cal a)) : PI X tg (.Call (.Name r p) [x] [] pos) (rdI X.K cal (.r1 a)) := by
  subst hr
  refine pi_of fun σ H Q ⟨F, G0, ios, G, s, P, ds, s', S, ev, q⟩ => ⟨_, pi_range1 (W.gl hg) (W.blt _ rng_in.1) (pa_cons h pa_nil (star_plain hp)) (star_plain hp), ?_⟩
  rw [evI] at ev
  obtain ⟨⟨a, s1⟩, e1, ev⟩ := bind_ok ev
  obtain ⟨d, e2, ev⟩ := bind_ok (ev : R.bind _ _ = _)
  cases d with
  | int n =>
    obtain ⟨hn, ev⟩ := req_ok (ev : req _ _ = _)
    cases ev
    obtain ⟨n1, n2⟩ := small62_ok hn
    refine ⟨F, G0, ios, G, s, P, a, _, S, e1, fun v G1 H1 g1 S1 ok1 => ?_⟩
    have c := S1.get (fun z hz => List.mem_append_left _ hz) ok1 e2
    exact ⟨n, by rw [show v = .int n from c], n1, n2, q _ _ _ g1 S1.drop walk_rng⟩
  | _ => cases ev
theorem q_r2 (W : Wd T N C cal X sc) {a b : IE} {x y tg : Expr} {r : Str} {p pos : Pos} (hr : r = Str.ofString "range") (hg : glB sc r = true) (hp : plainX x = true) (hp2 : plainX y = true) (h : PE X x (rdE X.K cal a)) (h2 : PE X y (rdE X.K cal b)) : PI X tg (.Call (.Name r p) [x, y] [] pos) (rdI X.K cal (.r2 a b)) := by
  subst hr
  refine pi_of fun σ H Q ⟨F, G0, ios, G, s, P, ds, s', S, ev, q⟩ => ⟨_, pi_range2 (W.gl hg) (W.blt _ rng_in.1) (pa_cons h (pa_cons h2 pa_nil (star_plain hp2)) (star_plain hp)) (by rw [star_plain hp, star_plain hp2]; rfl) (star_plain hp2), ?_⟩
  rw [evI] at ev
  obtain ⟨⟨a, s1⟩, e1, ev⟩ := bind_ok ev
  obtain ⟨⟨b, s2⟩, e2, ev⟩ := bind_ok (ev : R.bind _ _ = _)
  obtain ⟨d, e3, ev⟩ := bind_ok (ev : R.bind _ _ = _)
  obtain ⟨e, e4, ev⟩ := bind_ok (ev : R.bind _ _ = _)
  cases d with
  | int i =>
    cases e with
    | int j =>
      obtain ⟨hn, ev⟩ := req_ok (ev : req _ _ = _)
      cases ev
      rw [Bool.and_eq_true] at hn
      obtain ⟨n1, n2⟩ := small62_ok hn.1
      obtain ⟨n3, n4⟩ := small62_ok hn.2
      refine ⟨F, G0, ios, G, s, P, a, s1, S, e1, fun v G1 H1 g1 S1 ok1 => ⟨F, G0, ios, G1, s1, _, b, _, S1, e2, fun w G2 H2 g2 S2 ok2 => ?_⟩⟩
      obtain ⟨c1, c2, S3⟩ := two S2 (ok1.mono g2) ok2 e3 e4
      exact ⟨i, j, by rw [show v = .int i from c1, show w = .int j from c2], ⟨n1, n2, n3, n4⟩, q _ _ _ (g1.trans g2) S3 walk_rng⟩
    | _ => cases ev
  | _ => cases e <;> cases ev
theorem q_r3 (W : Wd T N C cal X sc) {a b c : IE} {x y z tg : Expr} {r : Str} {p pos : Pos} (hr : r = Str.ofString "range") (hg : glB sc r = true) (hp : plainX x = true) (hp2 : plainX y = true) (hp3 : plainX z = true) (h : PE X x (rdE X.K cal a)) (h2 : PE X y (rdE X.K cal b)) (h3 : PE X z (rdE X.K cal c)) :
    PI X tg (.Call (.Name r p) [x, y, z] [] pos) (rdI X.K cal (.r3 a b c)) := by
  subst hr
  refine pi_of fun σ H Q ⟨F, G0, ios, G, s, P, ds, s', S, ev, q⟩ => ⟨_, pi_range3 (W.gl hg) (W.blt _ rng_in.1) (pa_cons h (pa_cons h2 (pa_cons h3 pa_nil (star_plain hp3)) (star_plain hp2)) (star_plain hp)) (star_plain hp) (star_any (by rw [List.all_cons, List.all_cons, hp2, hp3]; rfl)), ?_⟩
  rw [evI] at ev
  obtain ⟨⟨a, s1⟩, e1, ev⟩ := bind_ok ev
  obtain ⟨⟨b, s2⟩, e2, ev⟩ := bind_ok (ev : R.bind _ _ = _)
  obtain ⟨⟨c, s3⟩, e3, ev⟩ := bind_ok (ev : R.bind _ _ = _)
  obtain ⟨d, e4, ev⟩ := bind_ok (ev : R.bind _ _ = _)
  obtain ⟨e, e5, ev⟩ := bind_ok (ev : R.bind _ _ = _)
  obtain ⟨f, e6, ev⟩ := bind_ok (ev : R.bind _ _ = _)
  cases d with
  | int i =>
    cases e with
    | int j =>
      cases f with
      | int k =>
        obtain ⟨hn, ev⟩ := req_ok (ev : req _ _ = _)
        cases ev
        simp only [Bool.and_eq_true, decide_eq_true_eq] at hn
        obtain ⟨⟨⟨n1, n2⟩, n3⟩, n4⟩ := hn
        refine ⟨F, G0, ios, G, s, P, a, s1, S, e1, fun v G1 H1 g1 S1 ok1 => ⟨F, G0, ios, G1, s1, _, b, s2, S1, e2, fun w G2 H2 g2 S2 ok2 => ⟨F, G0, ios, G2, s2, _, c, _, S2, e3, fun u G3 H3 g3 S3 ok3 => ?_⟩⟩⟩
        have c1 := S3.get (fun z hz => List.mem_append_right _ (List.mem_append_right _ (List.mem_append_left _ hz))) (ok1.mono (g2.trans g3)) e4
        have c2 := S3.get (fun z hz => List.mem_append_right _ (List.mem_append_left _ hz)) (ok2.mono g3) e5
        have c3 := S3.get (fun z hz => List.mem_append_left _ hz) ok3 e6
        have S4 : Sim X.K F G0 ios G3 H3 σ _ P := S3.drop.drop.drop
        refine ⟨i, j, k, _, by rw [show v = .int i from c1, show w = .int j from c2, show u = .int k from c3], ⟨n1, n2, n3, (Int.toNat_of_nonneg n4).symm⟩, q _ _ _ ((g1.trans g2).trans g3) S4 walk_rng3⟩
      | _ => cases ev
    | _ => cases f <;> cases ev
  | _ => cases e <;> cases f <;> cases ev
theorem q_enu (W : Wd T N C cal X sc) {a : IE} {x : Expr} {elts : List Expr} {kk : Nat} {tp : Pos} {r : Str} {p pos : Pos} (hr : r = Str.ofString "enumerate") (hg : glB sc r = true) (hp : plainX x = true) (h : PE X x (rdE X.K cal a)) : PI X (.Tuple elts kk tp) (.Call (.Name r p) [x] [] pos) (rdI X.K cal (.enu a)) := by
  subst hr
  refine ⟨fun pins s0 σ H Q I ⟨F, G0, ios, G, s, P, ds, s', S, ev, q⟩ => ?_⟩
  rw [evI] at ev
  obtain ⟨⟨b, s1⟩, e1, ev⟩ := bind_ok ev
  obtain ⟨⟨d, s2⟩, e2, ev⟩ := bind_ok (ev : R.bind _ _ = _)
  obtain ⟨ds', e3, ev⟩ := bind_ok (ev : R.bind _ _ = _)
  cases ev
  have pa : PA X [x] (tCons (rdE X.K cal a) tNil) := pa_cons h pa_nil (star_plain hp)
  refine Call_ (ld_blt I (W.gl hg) (W.blt _ rng_in.2.2) boot_enumerate (PyProof.Rows.callWith_type1 (thn (pa.run pos pins s0 σ H (fun xs H1 => ∃ v G2, xs = [v] ∧ Same G G2 ∧ Sim X.K F G0 ios G2 H1 σ s' P ∧ Dp X.K G2 v d) I ⟨F, G0, ios, G, s, P, b, s1, S, e1, fun v G1 H1 g1 S1 ok1 => ?_⟩) fun us s3 ⟨vs, H1, I1, r1, q1⟩ => ?_) (star_plain hp) rfl))
  · obtain ⟨G2, g2, S2, dp⟩ := S1.take ok1 e2
    exact ⟨v, G2, rfl, g1.trans g2, S2, dp⟩
  · obtain ⟨v, G2, rfl, g2, S2, dp⟩ := q1
    cases r1 with
    | cons r1 rr =>
      cases rr
      rw [seqL_eq] at e3
      exact it_enum I1 S2.gh (srcD_of dp e3) r1 fun J w => q J G2 H1 g2 S2 w
theorem q_zp (W : Wd T N C cal X sc) {a b : IE} {x y : Expr} {elts : List Expr} {kk : Nat} {tp : Pos} {r : Str} {p pos : Pos} (hr : r = Str.ofString "zip") (hg : glB sc r = true) (hp : plainX x = true) (hp2 : plainX y = true) (h : PE X x (rdE X.K cal a)) (h2 : PE X y (rdE X.K cal b)) :
    PI X (.Tuple elts kk tp) (.Call (.Name r p) [x, y] [] pos) (rdI X.K cal (.zp a b)) := by
  subst hr
  refine ⟨fun pins s0 σ H Q I ⟨F, G0, ios, G, s, P, ds, s', S, ev, q⟩ => ?_⟩
  rw [evI] at ev
  obtain ⟨⟨u, s1⟩, e1, ev⟩ := bind_ok ev
  obtain ⟨⟨w, s2⟩, e2, ev⟩ := bind_ok (ev : R.bind _ _ = _)
  obtain ⟨⟨dx, s3⟩, e3, ev⟩ := bind_ok (ev : R.bind _ _ = _)
  obtain ⟨⟨dy, s4⟩, e4, ev⟩ := bind_ok (ev : R.bind _ _ = _)
  obtain ⟨xs, e5, ev⟩ := bind_ok (ev : R.bind _ _ = _)
  obtain ⟨ys, e6, ev⟩ := bind_ok (ev : R.bind _ _ = _)
  cases ev
  have pa : PA X [x, y] (tCons (rdE X.K cal a) (tCons (rdE X.K cal b) tNil)) := pa_cons h (pa_cons h2 pa_nil (star_plain hp2)) (star_plain hp)
  refine Call_ (ld_blt I (W.gl hg) (W.blt _ rng_in.2.1) PyProof.Rows.boot_zip (PyProof.Rows.callWith_type1 (thn (pa.run pos pins s0 σ H (fun xs H1 => ∃ v v2 G2, xs = [v, v2] ∧ Same G G2 ∧ Sim X.K F G0 ios G2 H1 σ s' P ∧ Dp X.K G2 v dx ∧ Dp X.K G2 v2 dy) I
    ⟨F, G0, ios, G, s, P, u, s1, S, e1, fun v G1 H1 g1 S1 ok1 => ⟨F, G0, ios, G1, s1, _, w, s2, S1, e2, fun v2 G2 H2 g2 S2 ok2 => ?_⟩⟩) fun us s5 ⟨vs, H1, I1, r1, q1⟩ => ?_) (star_plain hp) (star_any (by rw [List.all_cons, hp2]; rfl))))
  · have S2' : Sim X.K F G0 ios G2 H2 σ s2 (pnd v u ++ (pnd v2 w ++ P)) := S2.perm (by
      rw [← List.append_assoc, ← List.append_assoc]
      exact List.Perm.append_right P List.perm_append_comm)
    obtain ⟨G3, g3, S3, d3⟩ := S2'.take (ok1.mono g2) e3
    obtain ⟨G4, g4, S4, d4⟩ := S3.take (ok2.mono g3) e4
    exact ⟨v, v2, G4, rfl, ((g1.trans g2).trans g3).trans g4, S4, d3.mono g4, d4⟩
  · obtain ⟨v, v2, G2, rfl, g2, S2, dp, dp2⟩ := q1
    cases r1 with
    | cons r1 rr =>
      cases rr with
      | cons r2 rr =>
        cases rr
        rw [seqL_eq] at e5 e6
        exact it_zip2 I1 S2.gh (srcD_of dp e5) (srcD_of dp2 e6) r1 r2 fun J w => q J G2 H1 g2 S2 w
/-! ### stores to names -/
def EqW : Option (List Nat) → St → St → Prop
  | some o, σ, σ' => L2.wipe σ' o = L2.wipe σ o
  | none, _, _ => True
theorem EqW.refl (ow : Option (List Nat)) (σ : St) : EqW ow σ σ := by cases ow <;> first | trivial | rfl
theorem EqW.trans {ow : Option (List Nat)} {σ σ' σ'' : St} (h : EqW ow σ σ') (h' : EqW ow σ' σ'') : EqW ow σ σ'' := by
  cases ow with
  | none => trivial
  | some o => exact Eq.trans h' h
theorem EqW.set {ow : Option (List Nat)} {σ : St} {i : Nat} {x : Option V} (h : (match ow with | some o => decide (i ∈ o) | none => true) = true) : EqW ow σ (σ.set i x) := by
  cases ow with
  | none => trivial
  | some o =>
    have hi : i ∈ o := of_decide_eq_true h
    refine List.ext_getElem? fun j => ?_
    rw [wipe_get, wipe_get, List.length_set, get_set]
    by_cases hj : j ∈ o ∧ j < σ.length
    · rw [if_pos hj, if_pos hj]
    · rw [if_neg hj, if_neg hj]
      by_cases hij : i = j ∧ i < σ.length
      · obtain ⟨rfl, hl⟩ := hij
        exact absurd ⟨hi, hl⟩ hj
      · rw [if_neg hij]
def rdP (K : PySem.W.Frag) (t : IT) (ow : Option (List Nat)) : TG := fun v σ H Q => ∃ F G0 ios G s P d s', Sim K F G0 ios G H σ s P ∧ Dp K G v d ∧ putT t d s = .ok s' ∧ ∀ σ', σ'.length = σ.length → EqW ow σ σ' → Sim K F G0 ios G H σ' s' P → Q σ' H
def rdPs (K : PySem.W.Frag) (ts : ITs) (ow : Option (List Nat)) : TGs := fun vs σ H Q => ∃ F G0 ios G s P ds s', Sim K F G0 ios G H σ s P ∧ DpAll K G vs ds ∧ putTs ts ds s = .ok s' ∧ ∀ σ', σ'.length = σ.length → EqW ow σ σ' → Sim K F G0 ios G H σ' s' P → Q σ' H
theorem setS_some {i : Nat} {v : Sv} {s s' : Sl} (h : setS i v s = .ok s') : ∃ x, s[i]? = some x ∧ s' = s.set i v := by
  unfold setS at h
  split at h
  · cases h
  · rename_i x _ e; cases h; exact ⟨x, e, rfl⟩
  · cases h
theorem assign_plain {e : Expr} {es : List Expr} {env : Env} (h : plainX e = true) : assignEach (e :: es) env = (false, assign e env) :: assignEach es env := by cases e <;> first | rfl | cases h
theorem assign_len {env : Env} : ∀ {es : List Expr}, (assignEach es env).length = es.length
  | [] => rfl
  | e :: es => by cases e <;> exact congrArg (· + 1) (assign_len (es := es))
theorem assign_find {env : Env} : ∀ {es : List Expr}, (es.all plainX = true) → List.findIdx? (·.1) (assignEach es env) = none
  | [], _ => rfl
  | e :: es, h => by
    rw [List.all_cons, Bool.and_eq_true] at h
    rw [assign_plain h.1, List.findIdx?_cons, assign_find h.2]
    rfl
theorem chkTs_plain : ∀ {ts : ITs} {es : List Expr} {ow : Option (List Nat)} {fb : Str → Bool} {T : List FD} {N : List Str} {C : List (String × D)} {sc : Scope}, chkTs T N C ts ow sc fb es = true → es.all plainX = true
  | .nil, es, ow, fb, T, N, C, sc, h => by
    unfold chkTs at h
    rw [List.isEmpty_iff.mp h]; rfl
  | .cons t ts, [], ow, fb, T, N, C, sc, h => by unfold chkTs at h; cases h
  | .cons t ts, e :: es, ow, fb, T, N, C, sc, h => by
    unfold chkTs at h
    simp only [Bool.and_eq_true] at h
    rw [List.all_cons, h.1.1, chkTs_plain h.2]; rfl
theorem putTs_nc {d : D} {ds : List D} {s : Sl} : putTs .nil (d :: ds) s = .no := by simp [putTs]
theorem putTs_cn {t : IT} {ts : ITs} {s : Sl} : putTs (.cons t ts) [] s = .no := by simp [putTs]
theorem putTs_len : ∀ {ts : ITs} {es : List Expr} {ds : List D} {s s' : Sl} {ow : Option (List Nat)} {fb : Str → Bool} {T : List FD} {N : List Str} {C : List (String × D)} {sc : Scope}, chkTs T N C ts ow sc fb es = true → putTs ts ds s = .ok s' → ds.length = es.length
  | .nil, es, [], s, s', ow, fb, T, N, C, sc, h, e => by
    unfold chkTs at h
    rw [List.isEmpty_iff.mp h]; rfl
  | .nil, es, _ :: _, s, s', ow, fb, T, N, C, sc, h, e => by rw [putTs_nc] at e; cases e
  | .cons t ts, [], ds, s, s', ow, fb, T, N, C, sc, h, e => by unfold chkTs at h; cases h
  | .cons t ts, e :: es, [], s, s', ow, fb, T, N, C, sc, h, ev => by rw [putTs_cn] at ev; cases ev
  | .cons t ts, e :: es, d :: ds, s, s', ow, fb, T, N, C, sc, h, ev => by
    unfold chkTs at h
    simp only [Bool.and_eq_true] at h
    rw [putTs] at ev
    obtain ⟨s1, e1, ev⟩ := bind_ok ev
    rw [List.length_cons, List.length_cons, putTs_len h.2 ev]
/-- a name's store, checked -/
theorem name_store (W : Wd T N C cal X sc) {fb : Str → Bool} (hf : ∀ x, fb x = true → X.fn x = true) {i : Nat} {x : Str} {p : Pos} (h1 : N[i]? = some x) (h2 : locB sc x = true) (h3 : (fb x || kindB sc x .local) = true) : PG X (.Name x p) (gName i) := by
  refine pg_name (by rw [W.hN]; exact W.nd) (by rw [W.hN]; exact h1) (by rw [W.hsc]; exact loc_of h2) ?_
  rw [Bool.or_eq_true] at h3
  rcases h3 with h3 | h3
  · exact .inl (hf _ h3)
  · exact .inr (by rw [W.hsc]; exact kind_of h3)
mutual
theorem q_put (W : Wd T N C cal X sc) {fb : Str → Bool} (hf : ∀ x, fb x = true → X.fn x = true) {ow : Option (List Nat)} : ∀ (t : IT) {e : Expr}, chkT T N C t ow sc fb e = true → PG X e (rdP X.K t ow)
  | .nm i, e, h => by
    cases e with
    | Name x p =>
      unfold chkT at h
      simp only [Bool.and_eq_true, decide_eq_true_eq] at h
      obtain ⟨⟨⟨h1, h2⟩, h3⟩, h4⟩ := h
      refine pg_of fun v σ H Q ⟨F, G0, ios, G, s, P, d, s', S, dp, ev, q⟩ => ⟨_, name_store W hf h1 h2 h3, ?_⟩
      rw [putT] at ev
      obtain ⟨x, e1, rfl⟩ := setS_some ev
      exact q _ (by rw [List.length_set]) (EqW.set h4) (S.setF e1 dp)
    | _ => unfold chkT at h; cases h
  | .tp ts, e, h => by
    cases e with
    | Tuple es k p =>
      unfold chkT at h
      refine pg_of fun v σ H Q ⟨F, G0, ios, G, s, P, d, s', S, dp, ev, q⟩ => ⟨_, pg_tup W.calm (q_puts W hf ts h) assign_len (assign_find (chkTs_plain h)), ?_⟩
      cases d with
      | tuple ds =>
        rw [putT] at ev
        cases dp with
        | tup ha da =>
          exact ⟨_, _, rfl, sqT_mono S.gh ha, by rw [da.length, putTs_len h ev], F, G0, ios, G, s, P, ds, s', S, da, ev, q⟩
      | _ => rw [putT] at ev <;> first | cases ev | (intro _ z; cases z)
    | _ => unfold chkT at h; cases h
theorem q_puts (W : Wd T N C cal X sc) {fb : Str → Bool} (hf : ∀ x, fb x = true → X.fn x = true) {ow : Option (List Nat)} : ∀ (ts : ITs) {es : List Expr}, chkTs T N C ts ow sc fb es = true → PGs X es (rdPs X.K ts ow)
  | .nil, es, h => by
    unfold chkTs at h
    rw [List.isEmpty_iff.mp h]
    refine ⟨fun pins s0 σ H vs us Q I r ⟨F, G0, ios, G, s, P, ds, s', S, da, ev, q⟩ => pgs_nil.run pins s0 σ H vs us Q I r ?_⟩
    cases da with
    | nil => rw [putTs] at ev; cases ev; exact ⟨rfl, q σ rfl (EqW.refl _ _) S⟩
    | cons _ _ => rw [putTs_nc] at ev; cases ev
  | .cons t ts, [], h => by unfold chkTs at h; cases h
  | .cons t ts, e :: es, h => by
    unfold chkTs at h
    simp only [Bool.and_eq_true] at h
    refine ⟨fun pins s0 σ H vs us Q I r ⟨F, G0, ios, G, s, P, ds, s', S, da, ev, q⟩ => (pgs_cons (q_put W hf t h.1.2) (q_puts W hf ts h.2) (by rw [assign_plain h.1.1]; rfl)).run pins s0 σ H vs us Q I r ?_⟩
    cases da with
    | nil => rw [putTs_cn] at ev; cases ev
    | cons d da =>
      rw [putTs] at ev
      obtain ⟨s1, e1, ev⟩ := bind_ok ev
      exact ⟨_, _, rfl, F, G0, ios, G, s, P, _, s1, S, d, e1, fun σ1 l1 w1 S1 => ⟨F, G0, ios, G, s1, P, _, s', S1, da, ev, fun σ2 l2 w2 S2 => q σ2 (l2.trans l1) (w1.trans w2) S2⟩⟩
end
end
end PX

set_option Elab.async false
set_option linter.all false
set_option maxRecDepth 100000
set_option maxHeartbeats 4000000
/-! PX, part N: comprehensions; all expressions. -/
namespace PX
open PySem PySem.Spec PyProof.Rows L2

theorem wipe_wipe (σ : St) (vs : List Nat) : L2.wipe (L2.wipe σ vs) vs = L2.wipe σ vs := by
  refine List.ext_getElem? fun j => ?_
  rw [wipe_get, wipe_get, wipe_length]
  by_cases h : j ∈ vs ∧ j < σ.length
  · rw [if_pos h, if_pos h]
  · rw [if_neg h, if_neg h]
section
variable {T : List FD} {N : List Str} {C : List (String × D)} {cal : Nat → List D → R CR} {X : Cx} {sc : Scope}
theorem comp_run {K : PySem.W.Frag} {it : II} {g : TG} {tt : TT} {te : TE} {own : List Nat} {step : D → Sl → R (Option D × Sl)} {F G0 G H : Hp} {ios : List (Nat × Addr)} {σ : St} {s s1 s2 : Sl} {P : List (V × D)} {ds r : List D} {Q : VK}
    (S : Sim K F G0 ios G H σ s P) (ev : evI cal it s = .ok (ds, s1)) (hl : ds.length ≤ sizeLine) (ec : compF step ds (wipeS s1 own) [] = .ok (r, s2)) (q : ∀ v G' H', Same G G' → Sim K F G0 ios G' H' σ (backS s1 s2 own) (pnd v (.own (.list r)) ++ P) → Q v H')
    (turn : ∀ (G H : Hp) (sl : Sl) (P' : List (V × D)) (x : D) (v : V) (s' : Sl) (o : Option D) (Nx : Hp → Prop) (D : Addr), Sim K F G0 ios G H (L2.wipe σ own) sl P' → Dp K G v x → step x sl = .ok (o, s') →
      (∀ G' H', o = none → Same G G' → Sim K F G0 ios G' H' (L2.wipe σ own) s' P' → Nx H') →
      (∀ G' H' y d, o = some d → Same G G' → Sim K F G0 ios G' H' (L2.wipe σ own) s' P' → Dp K G' y d → ∃ acc, H' D = some (.lst acc) ∧ acc.length < sizeLine ∧ Nx (upd H' D (.lst (acc ++ [y])))) →
      g v (L2.wipe σ own) H fun σ2 H2 => L2.wipe σ2 own = L2.wipe σ own ∧ tt σ2 H2 fun b H3 => if b = true then te σ2 H3 fun y H4 => ∃ acc, H4 D = some (.lst acc) ∧ acc.length < sizeLine ∧ Nx (upd H4 D (.lst (acc ++ [y]))) else Nx H3) :
    tLc (rdI K cal it) g tt te own σ H Q := by
  refine ⟨F, G0, ios, G, s, P, ds, s1, S, ev, fun J G1 H1 g1 S1 wd D hD => ?_⟩
  have S2 := S1.wipe own σ rfl rfl
  obtain ⟨S3, _⟩ := S2.new (NewV.lst S2.gh hD (K := K) (xs := []) (ds := []) .nil)
  have S3 : Sim K F G0 ios G1 (upd H1 D (.lst [])) (L2.wipe σ own) (wipeS s1 own) ((V.ref D, .list []) :: P) := S3
  refine ⟨fun i m H => m = ds.length - i ∧ i ≤ ds.length ∧ ∃ G sl acc, Same G1 G ∧ Sim K F G0 ios G H (L2.wipe σ own) sl ((V.ref D, .list acc) :: P) ∧ compF step (ds.drop i) sl acc = .ok (r, s2) ∧ acc.length ≤ i,
    ⟨ds.length, by simp, Nat.zero_le _, G1, _, [], Same.refl _, S3, ec, Nat.le_refl _⟩, ?_⟩
  rintro i m H2 ⟨rfl, hi, G2, sl, acc, g2, S4, e4, ha⟩
  by_cases hlt : i < ds.length
  · refine .inr ⟨wd.go i H2 hlt (g2.trans S4.gh), ?_⟩
    have hdr : ds.drop i = ds[i] :: ds.drop (i + 1) := List.drop_eq_getElem_cons hlt
    rw [hdr] at e4
    unfold compF at e4
    obtain ⟨⟨o, s'⟩, e5, e6⟩ := bind_ok e4
    refine ⟨fun H' => ∃ G sl acc, Same G1 G ∧ Sim K F G0 ios G H' (L2.wipe σ own) sl ((V.ref D, .list acc) :: P) ∧ compF step (ds.drop (i + 1)) sl acc = .ok (r, s2) ∧ acc.length ≤ i + 1, fun H' hN => ⟨ds.length - (i + 1), by omega, rfl, hlt, hN⟩, fun x H' hy => ?_⟩
    obtain ⟨G3, nv⟩ := wd.yld i G2 H2 x H' ds[i] (List.getElem?_eq_getElem hlt) g2 S4.gh hy
    obtain ⟨S5, dp⟩ := S4.new nv
    refine turn G3 H' sl _ ds[i] x s' o _ D S5 dp e5 (fun G4 H4 ho g4 S6 => ?_) (fun G4 H4 y d ho g4 S6 dy => ?_)
    · subst ho
      exact ⟨G4, s', acc, (g2.trans nv.gg).trans g4, S6, e6, Nat.le_succ_of_le ha⟩
    · subst ho
      obtain ⟨p, ep, o⟩ := S6.pe _ List.mem_cons_self
      cases ep
      obtain ⟨xs, hx, da⟩ := o.at_
      refine ⟨xs, hx, by rw [da.length]; omega, G4, s', acc ++ [d], (g2.trans nv.gg).trans g4, S6.changeP ⟨_, upd_same, da.append (.cons dy .nil)⟩, e6, by rw [List.length_append]; exact Nat.succ_le_succ ha⟩
  · have hi' : i = ds.length := by omega
    subst hi'
    refine .inl ⟨wd.stop H2 (g2.trans S4.gh), ?_⟩
    rw [List.drop_length] at e4
    unfold compF at e4
    cases e4
    refine q _ G2 H2 (g1.trans g2) (S4.back g2 ?_ fun j d hj => ?_)
    · have := S4.len
      rw [wipe_length] at this
      exact this
    · have z := S1.sl j
      rw [hj] at z
      exact z
theorem Wd.blk (W : Wd T N C cal X sc) {scope : Scope} (hk : scope.kind = .function) {s : Shared} {H : Hp} {D : Addr} {cl : List (Str × Addr)} {fp : List Addr} : Wd T N C cal (X.blk s H scope (compEnvC scope cl D X.env) fp) (relS scope sc) where
  calm := W.calm
  hN := W.hN
  nd := W.nd
  hsc := by show relS scope X.env.scope = _; rw [W.hsc]
  kind := hk
  xe := rfl
  un := W.un
  blt := W.blt
  cst := W.cst
  fns := W.fns
theorem blk_kind {N : List Str} {sc scope : Scope} {own : List (Str × Nat)} (h : blkC N sc scope own = true) : scope.kind = .function := (blkOk_by h).kind
/-- the turn of a comprehension without a test -/
theorem turn_cm {K : PySem.W.Frag} {t : IT} {elt : IE} {own : List Nat} {F G0 : Hp} {ios : List (Nat × Addr)} {σ : St} : ∀ (G H : Hp) (sl : Sl) (P' : List (V × D)) (x : D) (v : V) (s' : Sl) (o : Option D) (Nx : Hp → Prop) (D : Addr), Sim K F G0 ios G H (L2.wipe σ own) sl P' → Dp K G v x →
      ((putT t x sl).bind fun s2 => (evE cal elt s2).bind fun (a, s3) => (a.take s3).bind fun (d, s4) => .ok (some d, wipeS s4 own)) = .ok (o, s') →
      (∀ G' H', o = none → Same G G' → Sim K F G0 ios G' H' (L2.wipe σ own) s' P' → Nx H') →
      (∀ G' H' y d, o = some d → Same G G' → Sim K F G0 ios G' H' (L2.wipe σ own) s' P' → Dp K G' y d → ∃ acc, H' D = some (.lst acc) ∧ acc.length < sizeLine ∧ Nx (upd H' D (.lst (acc ++ [y])))) →
      rdP K t (some own) v (L2.wipe σ own) H fun σ2 H2 => L2.wipe σ2 own = L2.wipe σ own ∧ tYes σ2 H2 fun b H3 => if b = true then rdE K cal elt σ2 H3 fun y H4 => ∃ acc, H4 D = some (.lst acc) ∧ acc.length < sizeLine ∧ Nx (upd H4 D (.lst (acc ++ [y]))) else Nx H3 := by
  intro G H sl P' x v s' o Nx D S dp e hn hs
  obtain ⟨s2, e1, e⟩ := bind_ok e
  obtain ⟨⟨a, s3⟩, e2, e⟩ := bind_ok (e : R.bind _ _ = _)
  obtain ⟨⟨d, s4⟩, e3, e⟩ := bind_ok (e : R.bind _ _ = _)
  cases e
  refine ⟨F, G0, ios, G, sl, P', x, s2, S, dp, e1, fun σ2 l2 w2 S2 => ?_⟩
  have w2 : L2.wipe σ2 own = L2.wipe (L2.wipe σ own) own := w2
  rw [wipe_wipe] at w2
  refine ⟨w2, ?_⟩
  show rdE K cal elt σ2 H _
  refine ⟨F, G0, ios, G, s2, P', a, s3, S2, e2, fun y G3 H3 g3 S3 ok3 => ?_⟩
  obtain ⟨G4, g4, S4, dy⟩ := S3.take ok3 e3
  have S5 := S4.wipe own σ2 rfl rfl
  rw [w2] at S5
  exact hs G4 H3 y d rfl (g3.trans g4) S5 dy
theorem turn_cmi {K : PySem.W.Frag} {t : IT} {elt c : IE} {own : List Nat} {F G0 : Hp} {ios : List (Nat × Addr)} {σ : St} : ∀ (G H : Hp) (sl : Sl) (P' : List (V × D)) (x : D) (v : V) (s' : Sl) (o : Option D) (Nx : Hp → Prop) (D : Addr), Sim K F G0 ios G H (L2.wipe σ own) sl P' → Dp K G v x →
      ((putT t x sl).bind fun s2 => (evE cal c s2).bind fun (cv, s3) => (cv.get s3).bind fun cd => (truth cd).bind fun b =>
        if b then (evE cal elt s3).bind fun (a, s4) => (a.take s4).bind fun (d, s5) => .ok (some d, wipeS s5 own) else .ok (none, wipeS s3 own)) = .ok (o, s') →
      (∀ G' H', o = none → Same G G' → Sim K F G0 ios G' H' (L2.wipe σ own) s' P' → Nx H') →
      (∀ G' H' y d, o = some d → Same G G' → Sim K F G0 ios G' H' (L2.wipe σ own) s' P' → Dp K G' y d → ∃ acc, H' D = some (.lst acc) ∧ acc.length < sizeLine ∧ Nx (upd H' D (.lst (acc ++ [y])))) →
      rdP K t (some own) v (L2.wipe σ own) H fun σ2 H2 => L2.wipe σ2 own = L2.wipe σ own ∧ rdT K cal c σ2 H2 fun b H3 => if b = true then rdE K cal elt σ2 H3 fun y H4 => ∃ acc, H4 D = some (.lst acc) ∧ acc.length < sizeLine ∧ Nx (upd H4 D (.lst (acc ++ [y]))) else Nx H3 := by
  intro G H sl P' x v s' o Nx D S dp e hn hs
  obtain ⟨s2, e1, e⟩ := bind_ok e
  obtain ⟨⟨cv, s3⟩, e2, e⟩ := bind_ok (e : R.bind _ _ = _)
  obtain ⟨cd, e3, e⟩ := bind_ok (e : R.bind _ _ = _)
  obtain ⟨b, e4, e⟩ := bind_ok (e : R.bind _ _ = _)
  refine ⟨F, G0, ios, G, sl, P', x, s2, S, dp, e1, fun σ2 l2 w2 S2 => ?_⟩
  have w2 : L2.wipe σ2 own = L2.wipe (L2.wipe σ own) own := w2
  rw [wipe_wipe] at w2
  refine ⟨w2, F, G0, ios, G, s2, P', cv, s3, cd, b, S2, e2, e3, e4, fun G3 H3 g3 S3 => ?_⟩
  cases b with
  | true =>
    rw [if_pos rfl] at e ⊢
    obtain ⟨⟨a, s4⟩, e5, e⟩ := bind_ok (e : R.bind _ _ = _)
    obtain ⟨⟨d, s5⟩, e6, e⟩ := bind_ok (e : R.bind _ _ = _)
    cases e
    refine ⟨F, G0, ios, G3, s3, P', a, s4, S3, e5, fun y G4 H4 g4 S4 ok4 => ?_⟩
    obtain ⟨G5, g5, S5, dy⟩ := S4.take ok4 e6
    have S6 := S5.wipe own σ2 rfl rfl
    rw [w2] at S6
    exact hs G5 H4 y d rfl ((g3.trans g4).trans g5) S6 dy
  | false =>
    rw [if_neg (by simp)] at e ⊢
    cases e
    have S6 := S3.wipe own σ2 rfl rfl
    rw [w2] at S6
    exact hn G3 H3 rfl g3 S6
theorem cm_run {K : PySem.W.Frag} {elt : IE} {t : IT} {it : II} {own : List Nat} {σ : St} {H : Hp} {Q : VK} (h : rdE K cal (.cm elt t it own) σ H Q) : tLc (rdI K cal it) (rdP K t (some own)) tYes (rdE K cal elt) own σ H Q := by
  obtain ⟨F, G0, ios, G, s, P, a, s', S, ev, q⟩ := h
  rw [evE] at ev
  obtain ⟨⟨ds, s1⟩, e1, ev⟩ := bind_ok ev
  obtain ⟨hl, ev⟩ := req_ok (ev : req _ _ = _)
  obtain ⟨⟨r, s2⟩, e2, ev⟩ := bind_ok (ev : R.bind _ _ = _)
  cases ev
  exact comp_run S e1 (of_decide_eq_true hl) e2 (fun v G' H' g S' => q v G' H' g S' trivial) turn_cm
theorem cmi_run {K : PySem.W.Frag} {elt c : IE} {t : IT} {it : II} {own : List Nat} {σ : St} {H : Hp} {Q : VK} (h : rdE K cal (.cmi elt t it c own) σ H Q) : tLc (rdI K cal it) (rdP K t (some own)) (rdT K cal c) (rdE K cal elt) own σ H Q := by
  obtain ⟨F, G0, ios, G, s, P, a, s', S, ev, q⟩ := h
  rw [evE] at ev
  obtain ⟨⟨ds, s1⟩, e1, ev⟩ := bind_ok ev
  obtain ⟨hl, ev⟩ := req_ok (ev : req _ _ = _)
  obtain ⟨⟨r, s2⟩, e2, ev⟩ := bind_ok (ev : R.bind _ _ = _)
  cases ev
  exact comp_run S e1 (of_decide_eq_true hl) e2 (fun v G' H' g S' => q v G' H' g S' trivial) turn_cmi
end
section
variable {T : List FD} {N : List Str} {C : List (String × D)} {cal : Nat → List D → R CR}
theorem fn_blk {X : Cx} {s : Shared} {H : Hp} {scope : Scope} {env : Env} {fp : List Addr} : ∀ x, (fun x => scope.names.lookup x == some NameKind.cell) x = true → (X.blk s H scope env fp).fn x = true := fun x h => h

def isBool : Expr → Bool
  | .BoolOp _ _ _ => true
  | _ => false
/-- as a value, as a test, as a part of and/or -/
structure Both (K : PySem.W.Frag) (cal : Nat → List D → R CR) (X : Cx) (x : Expr) (ie : IE) : Prop where
  e : PE X x (rdE K cal ie)
  t : PT X x (rdT K cal ie)
  w : isBool x = true → PW X x (rdT K cal ie)
theorem Both.val {X : Cx} {e : Expr} {ie : IE} (h : PE X e (rdE X.K cal ie)) (hx : (∀ whole, isTrue e X.env whole = (do let v ← whole; standAt e.pos; holding [v] (truthy v))) ∧ isBool e = false) : Both X.K cal X e ie :=
  ⟨h, qt_val h hx.1, fun z => by rw [hx.2] at z; cases z⟩
theorem pe_bo1 {X : Cx} {o : BoolOp} {b : Expr} {p : Pos} {t : TE} (h : PE X b t) : PE X (.BoolOp o [b] p) t := by
  refine ⟨fun pins s σ H Q I ht => ?_⟩
  have e : eval (.BoolOp o [b] p) X.env = eval b X.env := by rfl
  rw [e]
  exact h.run pins s σ H Q I ht
theorem nameB_val {X : Cx} {N : List Str} {sc : Scope} {i : Nat} {e : Expr} (h : nameB N sc i e = true) : (∀ whole, isTrue e X.env whole = (do let v ← whole; standAt e.pos; holding [v] (truthy v))) ∧ isBool e = false := by
  cases e <;> first | exact ⟨fun _ => rfl, rfl⟩ | cases h
theorem cstB_val {X : Cx} {d : D} {e : Expr} (h : cstB d e = true) : (∀ whole, isTrue e X.env whole = (do let v ← whole; standAt e.pos; holding [v] (truthy v))) ∧ isBool e = false := by
  cases e <;> first | exact ⟨fun _ => rfl, rfl⟩ | (cases d <;> cases h)
mutual
theorem sE : ∀ (ie : IE) {X : Cx} {sc : Scope} {e : Expr}, Wd T N C cal X sc → chkE T N C ie sc e = true → Both X.K cal X e ie
  | .sl i, X, sc, e, W, h => by unfold chkE at h; exact .val (q_sl W h) (nameB_val h)
  | .cst d, X, sc, e, W, h => by unfold chkE at h; exact .val (q_cst h) (cstB_val h)
  | .gc x d, X, sc, e, W, h => by
    unfold chkE at h
    rw [Bool.and_eq_true] at h
    obtain ⟨h1, h2⟩ := h
    split at h1
    · simp only [Bool.and_eq_true, decide_eq_true_eq] at h1
      split at h2
      · rename_i d' hd
        rw [eqD_ok h2] at hd
        exact .val (q_gc W h1.1.1 h1.1.2 h1.2 hd) ⟨fun _ => rfl, rfl⟩
      · cases h2
    · cases h1
  | .tup es, X, sc, e, W, h => by
    unfold chkE at h
    split at h
    · exact .val (q_tup (sAs es W h)) ⟨fun _ => rfl, rfl⟩
    · cases h
  | .lst es, X, sc, e, W, h => by
    unfold chkE at h
    split at h
    · exact .val (q_lst (sAs es W h)) ⟨fun _ => rfl, rfl⟩
    · cases h
  | .bin op a b, X, sc, e, W, h => by
    unfold chkE at h
    split at h
    · simp only [Bool.and_eq_true] at h
      exact .val (q_bin h.1.1 (sE a W h.1.2).e (sE b W h.2).e) ⟨fun _ => rfl, rfl⟩
    · cases h
  | .neg a, X, sc, e, W, h => by
    unfold chkE at h
    split at h
    · exact .val (q_neg (sE a W h).e) ⟨fun _ => rfl, rfl⟩
    · cases h
  | .cmp op a b, X, sc, e, W, h => by
    unfold chkE at h
    split at h
    · simp only [Bool.and_eq_true] at h
      exact ⟨q_cmp W h.1.1.1 h.1.1.2 (sE a W h.1.2).e (sE b W h.2).e, qt_cmp W h.1.1.1 h.1.1.2 (sE a W h.1.2).e (sE b W h.2).e, fun z => nomatch z⟩
    · cases h
  | .ch2 o1 o2 a b c, X, sc, e, W, h => by
    unfold chkE at h
    split at h
    · simp only [Bool.and_eq_true] at h
      exact ⟨q_ch2 W h.1.1.1.1.1 h.1.1.1.1.2 h.1.1.1.2 (sE a W h.1.1.2).e (sE b W h.1.2).e (sE c W h.2).e, qt_ch2 W h.1.1.1.1.1 h.1.1.1.1.2 h.1.1.1.2 (sE a W h.1.1.2).e (sE b W h.1.2).e (sE c W h.2).e, fun z => nomatch z⟩
    · cases h
  | .and a b, X, sc, e, W, h => by
    unfold chkE at h
    split at h
    · simp only [Bool.and_eq_true] at h
      rename_i x y p
      have w := qw_and (p := p) (sE a W h.1).t (pw_and1 (sE b W h.2).t)
      exact ⟨q_and (sE a W h.1).e (pe_bo1 (sE b W h.2).e), w.pt, fun _ => w⟩
    · simp only [Bool.and_eq_true] at h
      rename_i x y z r p
      have w := qw_and (p := p) (sE a W h.1).t ((sE b W h.2).w rfl)
      exact ⟨q_and (sE a W h.1).e (sE b W h.2).e, w.pt, fun _ => w⟩
    · cases h
  | .or a b, X, sc, e, W, h => by
    unfold chkE at h
    split at h
    · simp only [Bool.and_eq_true] at h
      rename_i x y p
      have w := qw_or (p := p) (sE a W h.1).t (pw_or1 (sE b W h.2).t)
      exact ⟨q_or (sE a W h.1).e (pe_bo1 (sE b W h.2).e), w.pt, fun _ => w⟩
    · simp only [Bool.and_eq_true] at h
      rename_i x y z r p
      have w := qw_or (p := p) (sE a W h.1).t ((sE b W h.2).w rfl)
      exact ⟨q_or (sE a W h.1).e (sE b W h.2).e, w.pt, fun _ => w⟩
    · cases h
  | .not a, X, sc, e, W, h => by
    unfold chkE at h
    split at h
    · exact ⟨q_not (sE a W h).e, qt_not (sE a W h).t, fun z => nomatch z⟩
    · cases h
  | .ite c a b, X, sc, e, W, h => by
    unfold chkE at h
    split at h
    · simp only [Bool.and_eq_true] at h
      exact ⟨q_ite (sE c W h.1.1).t (sE a W h.1.2).e (sE b W h.2).e, qt_ite (sE c W h.1.1).t (sE a W h.1.2).t (sE b W h.2).t, fun z => nomatch z⟩
    · cases h
  | .ix a i, X, sc, e, W, h => by
    unfold chkE at h
    split at h
    · simp only [Bool.and_eq_true] at h
      exact .val (q_ix h.1.1 (sE a W h.1.2).e (sE i W h.2).e) ⟨fun _ => rfl, rfl⟩
    · cases h
  | .slc a lo hi, X, sc, e, W, h => by
    unfold chkE at h
    split at h
    · rename_i l l? h? p2 p
      simp only [Bool.and_eq_true] at h
      obtain ⟨⟨h1, h2⟩, h3⟩ := h
      refine .val (q_slc (sE a W h1).e ?_ ?_) ⟨fun _ => rfl, rfl⟩
      · cases l? with
        | none =>
          dsimp only at h2
          split at h2
          · exact .inl ⟨rfl, rfl⟩
          · cases h2
        | some x =>
          dsimp only at h2
          rw [Bool.and_eq_true] at h2
          refine .inr ⟨x, rfl, fun z => ?_, (sE lo W h2.2).e⟩
          have h2 := h2.1
          rw [z] at h2
          cases h2
      · cases h? with
        | none =>
          dsimp only at h3
          split at h3
          · exact .inl ⟨rfl, rfl⟩
          · cases h3
        | some x =>
          dsimp only at h3
          rw [Bool.and_eq_true] at h3
          refine .inr ⟨x, rfl, fun z => ?_, (sE hi W h3.2).e⟩
          have h3 := h3.1
          rw [z] at h3
          cases h3
    · cases h
  | .call f io es, X, sc, e, W, h => by
    unfold chkE at h
    split at h
    · rename_i x p as pos
      simp only [Bool.and_eq_true] at h
      obtain ⟨⟨⟨⟨h1, h2⟩, h3⟩, h4⟩, h5⟩ := h
      cases hT : T[f]? with
      | none => rw [hT] at h1; cases h1
      | some fd =>
        rw [hT] at h1
        simp only [Bool.and_eq_true, decide_eq_true_eq] at h1
        exact .val (q_call W hT h1.1.1 h1.1.2 h1.2 (of_decide_eq_true h2) h3 h4 h5 (sAs es W h5)) ⟨fun _ => rfl, rfl⟩
    · cases h
  | .bi b es, X, sc, e, W, h => by
    unfold chkE at h
    split at h
    · rename_i x p a as pos
      simp only [Bool.and_eq_true, decide_eq_true_eq] at h
      obtain ⟨⟨h1, h2⟩, h3⟩ := h
      by_cases hb : isIsi b = true
      · rw [if_pos hb] at h3
        split at h3
        · rename_i e1 y p2
          simp only [Bool.and_eq_true, decide_eq_true_eq] at h3
          exact .val (q_isi W h1 h2 hb h3.1.1.1 (sE e1 W h3.1.1.2).e h3.1.2 h3.2) ⟨fun _ => rfl, rfl⟩
        · cases h3
      · rw [if_neg hb] at h3
        exact .val (q_bi W h1 h2 (by simpa using hb) h3 (sAs es W h3)) ⟨fun _ => rfl, rfl⟩
    · cases h
  | .mtd m i es, X, sc, e, W, h => by
    unfold chkE at h
    split at h
    · simp only [Bool.and_eq_true, decide_eq_true_eq] at h
      exact .val (q_mtd W h.1.1.1.1 h.1.1.1.2 h.1.1.2 h.1.2 h.2 (sAs es W h.2)) ⟨fun _ => rfl, rfl⟩
    · cases h
  | .cm elt t it own, X, sc, e, W, h => by
    unfold chkE at h
    split at h
    · rename_i el tg itx scope p
      simp only [Bool.and_eq_true, decide_eq_true_eq] at h
      obtain ⟨⟨⟨⟨⟨h1, h2⟩, h3⟩, h4⟩, h5⟩, h6⟩ := h
      refine .val (pe_of fun σ H Q hq => ⟨_, pe_lc (te := rdE X.K cal elt) (g := rdP X.K t (some own)) (tt := tYes) (wi := rdI X.K cal it) W.calm (by rw [W.hN]; exact W.nd) (sI it W h5) (by rw [W.hN, W.hsc]; exact blkOk_by h1) (fun s H D cl fp => q_put (W.blk (blk_kind h1)) fn_blk t h4) (fun s H D cl fp => pts_nil) (fun s H D cl fp => (sE elt (W.blk (blk_kind h1)) h3).e) (plain_set h6), ?_⟩) ⟨fun _ => rfl, rfl⟩
      rw [show List.map (fun x => x.2) (ownOf N own) = own from h2]
      exact cm_run hq
    · cases h
  | .cmi elt t it c own, X, sc, e, W, h => by
    unfold chkE at h
    split at h
    · rename_i el tg itx cx scope p
      simp only [Bool.and_eq_true, decide_eq_true_eq] at h
      obtain ⟨⟨⟨⟨⟨⟨h1, h2⟩, h3⟩, h7⟩, h4⟩, h5⟩, h6⟩ := h
      refine .val (pe_of fun σ H Q hq => ⟨_, pe_lc (te := rdE X.K cal elt) (g := rdP X.K t (some own)) (tt := rdT X.K cal c) (wi := rdI X.K cal it) W.calm (by rw [W.hN]; exact W.nd) (sI it W h5) (by rw [W.hN, W.hsc]; exact blkOk_by h1) (fun s H D cl fp => q_put (W.blk (blk_kind h1)) fn_blk t h4) (fun s H D cl fp => pts_one (sE c (W.blk (blk_kind h1)) h7).t) (fun s H D cl fp => (sE elt (W.blk (blk_kind h1)) h3).e) (plain_set h6), ?_⟩) ⟨fun _ => rfl, rfl⟩
      rw [show List.map (fun x => x.2) (ownOf N own) = own from h2]
      exact cmi_run hq
    · cases h
  | .srtk _ _, X, sc, e, W, h => by unfold chkE at h; cases h
  | .ofi _ _, X, sc, e, W, h => by unfold chkE at h; cases h
theorem sAs : ∀ (es : IEs) {X : Cx} {sc : Scope} {as : List Expr}, Wd T N C cal X sc → chkEs T N C es sc as = true → PA X as (rdAs X.K cal es)
  | .nil, X, sc, as, W, h => by
    unfold chkEs at h
    rw [List.isEmpty_iff.mp h]
    exact q_nil
  | .cons e es, X, sc, [], W, h => by unfold chkEs at h; cases h
  | .cons e es, X, sc, a :: as, W, h => by
    unfold chkEs at h
    simp only [Bool.and_eq_true] at h
    exact q_cons h.1.1 (sE e W h.1.2).e (sAs es W h.2)
theorem sI : ∀ (it : II) {X : Cx} {sc : Scope} {x tg : Expr}, Wd T N C cal X sc → chkI T N C it sc x tg = true → PI X tg x (rdI X.K cal it)
  | .seq e, X, sc, x, tg, W, h => by unfold chkI at h; exact q_seq (sE e W h).e
  | .r1 a, X, sc, x, tg, W, h => by
    unfold chkI at h
    split at h
    · simp only [Bool.and_eq_true, decide_eq_true_eq] at h
      exact q_r1 W h.1.1.1 h.1.1.2 h.1.2 (sE a W h.2).e
    · cases h
  | .r2 a b, X, sc, x, tg, W, h => by
    unfold chkI at h
    split at h
    · simp only [Bool.and_eq_true, decide_eq_true_eq] at h
      exact q_r2 W h.1.1.1.1.1 h.1.1.1.1.2 h.1.1.1.2 h.1.1.2 (sE a W h.1.2).e (sE b W h.2).e
    · cases h
  | .r3 a b c, X, sc, x, tg, W, h => by
    unfold chkI at h
    split at h
    · simp only [Bool.and_eq_true, decide_eq_true_eq] at h
      exact q_r3 W h.1.1.1.1.1.1.1 h.1.1.1.1.1.1.2 h.1.1.1.1.1.2 h.1.1.1.1.2 h.1.1.1.2 (sE a W h.1.1.2).e (sE b W h.1.2).e (sE c W h.2).e
    · cases h
  | .enu a, X, sc, x, tg, W, h => by
    unfold chkI at h
    split at h
    · simp only [Bool.and_eq_true, decide_eq_true_eq] at h
      exact q_enu W h.1.1.1 h.1.1.2 h.1.2 (sE a W h.2).e
    · cases h
  | .zp a b, X, sc, x, tg, W, h => by
    unfold chkI at h
    split at h
    · simp only [Bool.and_eq_true, decide_eq_true_eq] at h
      exact q_zp W h.1.1.1.1.1 h.1.1.1.1.2 h.1.1.1.2 h.1.1.2 (sE a W h.1.2).e (sE b W h.2).e
    · cases h
  | .zp3 _ _ _, X, sc, x, tg, W, h => by unfold chkI at h; cases h
end
end
end PX

set_option Elab.async false
set_option linter.all false
set_option maxRecDepth 100000
set_option maxHeartbeats 4000000
/-! PX, part O: statements. -/
namespace PX
open PySem PySem.Spec PyProof.Rows L2

def onOut (K : PySem.W.Frag) (F G0 : Hp) (ios : List (Nat × Addr)) (G : Hp) (E : Ends) : Out → Prop
  | .nx s => ∀ G' H' σ', Same G G' → Sim K F G0 ios G' H' σ' s [] → E.nx σ' H'
  | .bk s => ∀ G' H' σ', Same G G' → Sim K F G0 ios G' H' σ' s [] → E.bk σ' H'
  | .ct s => ∀ G' H' σ', Same G G' → Sim K F G0 ios G' H' σ' s [] → E.ct σ' H'
  | .rt own d s => ∀ G' H' σ' v, Same G G' → Sim K F G0 ios G' H' σ' s (if own = true then [(v, d)] else []) → (own = false → Dp K G' v d) → E.rt v H'
theorem onOut.mono {K : PySem.W.Frag} {F G0 G G1 : Hp} {ios : List (Nat × Addr)} {E : Ends} (g : Same G G1) : ∀ {o : Out}, onOut K F G0 ios G E o → onOut K F G0 ios G1 E o
  | .nx s, h => fun G' H' σ' g' S => h G' H' σ' (g.trans g') S
  | .bk s, h => fun G' H' σ' g' S => h G' H' σ' (g.trans g') S
  | .ct s, h => fun G' H' σ' g' S => h G' H' σ' (g.trans g') S
  | .rt own d s, h => fun G' H' σ' v g' S r => h G' H' σ' v (g.trans g') S r
section
variable (K : PySem.W.Frag) (cal : Nat → List D → R CR)
def rdS (st : IS) : TS := fun E σ H => ∃ F G0 ios G s o, Sim K F G0 ios G H σ s [] ∧ evS cal st s = .ok o ∧ onOut K F G0 ios G E o
def rdSs (st : ISs) : TS := fun E σ H => ∃ F G0 ios G s o, Sim K F G0 ios G H σ s [] ∧ evSs cal st s = .ok o ∧ onOut K F G0 ios G E o
def rdQ (t : IT) : TG := fun v σ H Q => ∃ F G0 ios G s P a s', Sim K F G0 ios G H σ s (pnd v a ++ P) ∧ ArOk K G σ v a ∧ asgT t a s = .ok s' ∧ ∀ G' σ', Same G G' → Sim K F G0 ios G' H σ' s' P → Q σ' H
def noSl : Ar → Bool
  | .sl _ => false
  | _ => true
def rdQs (ts : ITs) : TGs := fun vs σ H Q => ∃ F G0 ios G s P as s', Sim K F G0 ios G H σ s (pnds vs as ++ P) ∧ AsOk K G σ vs as ∧ as.all noSl = true ∧ asgTs ts as s = .ok s' ∧ ∀ G' σ', Same G G' → Sim K F G0 ios G' H σ' s' P → Q σ' H
end
section
variable {K : PySem.W.Frag} {F G0 G H : Hp} {ios : List (Nat × Addr)} {σ σ' : St} {s s' : Sl} {P : List (V × D)} {v : V} {a : Ar} {i : Nat}
theorem asg_own {d : D} : asgT (.nm i) (.own d) s = setS i (.own d) s := by unfold asgT; rfl
theorem asg_else {t : IT} (h : ∀ d, ¬ (a = .own d ∧ ∃ i, t = .nm i)) : asgT t a s = (a.take s).bind fun (d, s1) => putT t d s1 := by
  cases t with
  | nm i => cases a with
    | own d => exact absurd ⟨rfl, i, rfl⟩ (h d)
    | frz d => unfold asgT; rfl
    | sl j => unfold asgT; rfl
  | tp ts => unfold asgT; rfl
theorem asg_nm (S : Sim K F G0 ios G H σ s (pnd v a ++ P)) (ok : ArOk K G σ v a) (e : asgT (.nm i) a s = .ok s') : ∃ G', Same G G' ∧ Sim K F G0 ios G' H (σ.set i (some v)) s' P := by
  by_cases h : ∃ d, a = .own d
  · obtain ⟨d, rfl⟩ := h
    rw [asg_own] at e
    obtain ⟨x, hx, rfl⟩ := setS_some e
    exact ⟨G, Same.refl _, S.setO hx⟩
  · rw [asg_else fun d z => h ⟨d, z.1⟩] at e
    obtain ⟨⟨d, s1⟩, e1, e⟩ := bind_ok e
    obtain ⟨G1, g1, S1, dp⟩ := S.take ok e1
    have e : putT (.nm i) d s1 = .ok s' := e
    rw [putT] at e
    obtain ⟨x, hx, rfl⟩ := setS_some e
    exact ⟨G1, g1, S1.setF hx dp⟩
theorem AsOk.away {vs : List V} {as : List Ar} {G' : Hp} (g : Same G G') (h : AsOk K G σ vs as) (hn : as.all noSl = true) : AsOk K G' σ' vs as := by
  induction h with
  | nil => exact .nil
  | cons r t ih =>
    rw [List.all_cons, Bool.and_eq_true] at hn
    refine .cons ?_ (ih hn.2)
    rename_i v a _ _
    cases a with
    | frz d => exact Dp.mono g r
    | own d => trivial
    | sl j => cases hn.1
theorem out_all : ∀ {as : List Ar} {vs : List V} {s : Sl} {bs : List Ar} {s' : Sl} {G : Hp} {P : List (V × D)}, Sim K F G0 ios G H σ s (pnds vs as ++ P) → AsOk K G σ vs as → outAs as s = .ok (bs, s') → ∃ G', Same G G' ∧ Sim K F G0 ios G' H σ s' (pnds vs bs ++ P) ∧ AsOk K G' σ vs bs ∧ bs.all noSl = true
  | [], vs, s, bs, s', G, P, S, ok, e => by
    cases ok
    unfold outAs at e
    cases e
    exact ⟨G, Same.refl _, S, .nil, rfl⟩
  | a :: as, [], s, bs, s', G, P, S, ok, e => nomatch ok
  | a :: as, v :: vs, s, bs, s', G, P, S, ok, e => by
    have h : ArOk K G σ v a := by cases ok; assumption
    have t : AsOk K G σ vs as := by cases ok; assumption
    unfold outAs at e
    obtain ⟨⟨b, s1⟩, e1, e⟩ := bind_ok e
    obtain ⟨⟨bs', s2⟩, e2, e⟩ := bind_ok (e : R.bind _ _ = _)
    cases e
    have S' : Sim K F G0 ios G H σ s (pnds vs as ++ (pnd v a ++ P)) := by rw [← List.append_assoc]; exact S
    have key : ∃ G1, Same G G1 ∧ Sim K F G0 ios G1 H σ s1 (pnds vs as ++ (pnd v b ++ P)) ∧ ArOk K G1 σ v b ∧ noSl b = true := by
      cases a with
      | frz d => cases e1; exact ⟨G, Same.refl _, S', h, rfl⟩
      | own d => cases e1; exact ⟨G, Same.refl _, S', h, rfl⟩
      | sl j =>
        obtain ⟨⟨d, s3⟩, e3, e1⟩ := bind_ok (e1 : R.bind _ _ = _)
        cases e1
        have S2 : Sim K F G0 ios G H σ s (pnd v (.sl j) ++ (pnds vs as ++ P)) := S'
        obtain ⟨G1, g1, S3, dp⟩ := S2.take h e3
        exact ⟨G1, g1, S3, dp, rfl⟩
    obtain ⟨G1, g1, S1, ok1, n1⟩ := key
    obtain ⟨G2, g2, S2, ok2, n2⟩ := out_all S1 (AsOk.mono g1 t) e2
    refine ⟨G2, g1.trans g2, ?_, .cons (ok1.mono g2) ok2, by rw [List.all_cons, n1, n2]; rfl⟩
    show Sim K F G0 ios G2 H σ _ ((pnds vs bs' ++ pnd v b) ++ P)
    rw [List.append_assoc]
    exact S2
end
/-! ### the text's shapes -/
theorem swap_eq {env : Env} {el : Expr} {gs : List Comprehension} {scope : Scope} {p pos : Pos} {t : Str} {l : Nat} : swapsWith (.ListComp el gs scope p) (some (.Name t pos)) l env = pure (env.blockKind == .function && env.kindOf t == some .local && pos.line == p.line && !(scope.names.any fun (n, k) => n == t && (k == .local || k == .cell))) := rfl
theorem swap_no {e : Expr} {t : Option Expr} {l : Nat} {env : Env} (h : noComp e = true) : swapsWith e t l env = pure false := by cases e <;> first | rfl | cases h
theorem sw_unf {env : Env} {ts vs : List Expr} {k k2 : Nat} {p p2 : Pos} : swappedStores [.Tuple ts k p] (.Tuple vs k2 p2) env = (do
    if !(ts.length == 2 || ts.length == 3) || vs.length != ts.length || env.blockKind != .function then return none
    if vs.any isStar then return none
    if (swN env.scope ts).length != ts.length || (swN env.scope ts).eraseDups.length != (swN env.scope ts).length then return none
    if vs.all (foldedForSure 8) then return none
    if vs.all (constantsAlone 8) then unsupported "assign.tuple-of-constant-expressions:order-of-the-stores"
    return some (swN env.scope ts)) := rfl
theorem sw_of {env : Env} {ts vs : List Expr} {k k2 : Nat} {p p2 : Pos} {r : Option (List Str)} (hk : env.blockKind = .function) (h : swB env.scope ts vs = some r) : swappedStores [.Tuple ts k p] (.Tuple vs k2 p2) env = pure r := by
  rw [sw_unf, hk]
  unfold swB at h
  have e0 : (ScopeKind.function != ScopeKind.function) = false := by decide
  rw [e0, Bool.or_false]
  by_cases c1 : (!(ts.length == 2 || ts.length == 3) || vs.length != ts.length) = true
  · rw [if_pos c1] at h ⊢; cases h; rfl
  rw [if_neg c1] at h ⊢
  by_cases c2 : (vs.any isStar) = true
  · rw [if_pos c2] at h ⊢; cases h; rfl
  rw [if_neg c2] at h ⊢
  by_cases c3 : ((swN env.scope ts).length != ts.length || (swN env.scope ts).eraseDups.length != (swN env.scope ts).length) = true
  · rw [if_pos c3] at h ⊢; cases h; rfl
  rw [if_neg c3] at h ⊢
  by_cases c4 : (vs.all (foldedForSure 8)) = true
  · rw [if_pos c4] at h ⊢; cases h; rfl
  rw [if_neg c4] at h ⊢
  by_cases c5 : (vs.all (constantsAlone 8)) = true
  · rw [if_pos c5] at h; cases h
  rw [if_neg c5] at h ⊢
  cases h
  rfl
end PX

set_option Elab.async false
set_option linter.all false
set_option maxRecDepth 100000
set_option maxHeartbeats 4000000
/-! PX, part P: all statements. -/
namespace PX
open PySem PySem.Spec PyProof.Rows L2

section
variable {T : List FD} {N : List Str} {C : List (String × D)} {cal : Nat → List D → R CR} {X : Cx} {sc : Scope}
theorem Wd.bk (W : Wd T N C cal X sc) : X.env.blockKind = .function := by
  unfold Env.blockKind
  rw [W.hsc, W.kind]
  rfl
theorem Wd.po (W : Wd T N C cal X sc) : PassesOwn (model X.prog X.w) X.A X.env X.xe := by rw [W.xe]; exact PassesOwn.never
theorem q_asgT (W : Wd T N C cal X sc) (hf : ∀ x, X.fn x = true) {t : IT} {e : Expr} (h : chkT T N C t none sc (fun _ => true) e = true) : PG X e (rdQ X.K t) := by
  cases t with
  | nm i =>
    cases e with
    | Name x p =>
      unfold chkT at h
      simp only [Bool.and_eq_true, decide_eq_true_eq] at h
      obtain ⟨⟨⟨h1, h2⟩, h3⟩, h4⟩ := h
      refine pg_of fun v σ H Q ⟨F, G0, ios, G, s, P, a, s', S, ok, ev, q⟩ => ⟨_, name_store W (fb := fun _ => true) (fun x _ => hf x) h1 h2 h3, ?_⟩
      obtain ⟨G1, g1, S1⟩ := asg_nm S ok ev
      exact q G1 _ g1 S1
    | _ => unfold chkT at h; cases h
  | tp ts =>
    refine pg_of fun v σ H Q ⟨F, G0, ios, G, s, P, a, s', S, ok, ev, q⟩ => ⟨_, q_put W (fun x _ => hf x) (.tp ts) h, ?_⟩
    rw [asg_else fun d z => by obtain ⟨_, i, z⟩ := z; cases z] at ev
    obtain ⟨⟨d, s1⟩, e1, ev⟩ := bind_ok ev
    obtain ⟨G1, g1, S1, dp⟩ := S.take ok e1
    exact ⟨F, G0, ios, G1, s1, P, d, s', S1, dp, ev, fun σ' _ _ S2 => q G1 σ' g1 S2⟩
theorem q_asgTs (W : Wd T N C cal X sc) (hf : ∀ x, X.fn x = true) : ∀ {ts : ITs} {es : List Expr}, chkTs T N C ts none sc (fun _ => true) es = true → PGs X es (rdQs X.K ts)
  | .nil, es, h => by
    unfold chkTs at h
    rw [List.isEmpty_iff.mp h]
    refine ⟨fun pins s0 σ H vs us Q I r ⟨F, G0, ios, G, s, P, as, s', S, ok, hn, ev, q⟩ => pgs_nil.run pins s0 σ H vs us Q I r ?_⟩
    cases ok with
    | nil => unfold asgTs at ev; cases ev; exact ⟨rfl, q G σ (Same.refl _) S⟩
    | cons _ _ => unfold asgTs at ev; cases ev
  | .cons t ts, [], h => by unfold chkTs at h; cases h
  | .cons t ts, e :: es, h => by
    unfold chkTs at h
    simp only [Bool.and_eq_true] at h
    refine ⟨fun pins s0 σ H vs us Q I r ⟨F, G0, ios, G, s, P, as, s', S, ok, hn, ev, q⟩ => (pgs_cons (q_asgT W hf h.1.2) (q_asgTs W hf h.2) (by rw [assign_plain h.1.1]; rfl)).run pins s0 σ H vs us Q I r ?_⟩
    cases ok with
    | nil => unfold asgTs at ev; cases ev
    | @cons v a vs as ok1 ok2 =>
      unfold asgTs at ev
      obtain ⟨s1, e1, ev⟩ := bind_ok ev
      rw [List.all_cons, Bool.and_eq_true] at hn
      have S' : Sim X.K F G0 ios G H σ s (pnd v a ++ (pnds vs as ++ P)) := S.perm (by
        show ((pnds vs as ++ pnd v a) ++ P).Perm _
        rw [← List.append_assoc]
        exact List.Perm.append_right P List.perm_append_comm)
      exact ⟨v, vs, rfl, F, G0, ios, G, s, _, a, s1, S', ok1, e1, fun G1 σ1 g1 S1 => ⟨F, G0, ios, G1, s1, P, as, s', S1, AsOk.away g1 ok2 hn.2, hn.2, ev, fun G2 σ2 g2 S2 => q G2 σ2 (g1.trans g2) S2⟩⟩
/-- a name's store: what is stored -/
theorem asg_run {F G0 G H : Hp} {ios : List (Nat × Addr)} {σ : St} {s : Sl} {i : Nat} {e : IE} {E : Ends} {o : Out} (S : Sim X.K F G0 ios G H σ s []) (ev : evS cal (.asg (.nm i) e) s = .ok o) (q : onOut X.K F G0 ios G E o) : rdE X.K cal e σ H fun v H1 => E.nx (σ.set i (some v)) H1 := by
  rw [evS] at ev
  obtain ⟨⟨a, s1⟩, e1, ev⟩ := bind_ok ev
  obtain ⟨s2, e2, ev⟩ := bind_ok (ev : R.bind _ _ = _)
  cases ev
  refine ⟨F, G0, ios, G, s, [], a, s1, S, e1, fun v G1 H1 g1 S1 ok1 => ?_⟩
  obtain ⟨G2, g2, S2⟩ := asg_nm S1 ok1 e2
  exact q G2 H1 _ (g1.trans g2) S2
theorem q_setName (W : Wd T N C cal X sc) (hf : ∀ x, X.fn x = true) {i : Nat} {e : IE} {x : Str} {p pos : Pos} {v : Expr} (h1 : N[i]? = some x) (h2 : locB sc x = true) (hc : chkE T N C e sc v = true) (hv : noSD v = true) : PS X (.Assign [.Name x p] v pos) (rdS X.K cal (.asg (.nm i) e)) := by
  have plain : swapsWith v (some (.Name x p)) pos.line X.env = pure false → PS X (.Assign [.Name x p] v pos) (rdS X.K cal (.asg (.nm i) e)) := fun hs =>
    ps_of fun E σ H ⟨F, G0, ios, G, s, o, S, ev, q⟩ => ⟨_, ps_set (by rw [W.hN]; exact W.nd) (by rw [W.hN]; exact h1) (by rw [W.hsc]; exact loc_of h2) (sE e W hc).e hs (.inl (hf x)), asg_run S ev q⟩
  by_cases hl : noComp v = true
  · exact plain (swap_no hl)
  cases v with
  | ListComp el gs scope p2 =>
    cases hb : (X.env.blockKind == .function && X.env.kindOf x == some .local && p.line == p2.line && !(scope.names.any fun (n, k) => n == x && (k == .local || k == .cell))) with
    | false => exact plain (by rw [swap_eq, hb])
    | true =>
      have hs : swapsWith (.ListComp el gs scope p2) (some (.Name x p)) pos.line X.env = pure true := by rw [swap_eq, hb]
      have hloc : X.env.scope.names.lookup x = some .local := by
        simp only [Bool.and_eq_true] at hb
        exact eq_of_beq hb.1.1.2
      cases e with
      | cm elt t it own =>
        unfold chkE at hc
        split at hc
        · rename_i heq
          cases heq
          simp only [Bool.and_eq_true, decide_eq_true_eq] at hc
          obtain ⟨⟨⟨⟨⟨c1, c2⟩, c3⟩, c4⟩, c5⟩, c6⟩ := hc
          refine ps_of fun E σ H ⟨F, G0, ios, G, s, o, S, ev, q⟩ => ⟨_, ps_setLc (te := rdE X.K cal elt) (g := rdP X.K t (some own)) (tt := tYes) (wi := rdI X.K cal it) W.calm (by rw [W.hN]; exact W.nd) (by rw [W.hN]; exact h1) hloc hs (sI it W c5) (by rw [W.hN, W.hsc]; exact blkOk_by c1) (fun s H D cl fp => q_put (W.blk (blk_kind c1)) fn_blk t c4) (fun s H D cl fp => pts_nil) (fun s H D cl fp => (sE elt (W.blk (blk_kind c1)) c3).e) (plain_set c6), ?_⟩
          rw [show List.map (fun x => x.2) (ownOf N own) = own from c2]
          exact cm_run (asg_run S ev q)
        · cases hc
      | cmi elt t it c own =>
        unfold chkE at hc
        split at hc
        · rename_i heq
          cases heq
          simp only [Bool.and_eq_true, decide_eq_true_eq] at hc
          obtain ⟨⟨⟨⟨⟨⟨c1, c2⟩, c3⟩, c7⟩, c4⟩, c5⟩, c6⟩ := hc
          refine ps_of fun E σ H ⟨F, G0, ios, G, s, o, S, ev, q⟩ => ⟨_, ps_setLc (te := rdE X.K cal elt) (g := rdP X.K t (some own)) (tt := rdT X.K cal c) (wi := rdI X.K cal it) W.calm (by rw [W.hN]; exact W.nd) (by rw [W.hN]; exact h1) hloc hs (sI it W c5) (by rw [W.hN, W.hsc]; exact blkOk_by c1) (fun s H D cl fp => q_put (W.blk (blk_kind c1)) fn_blk t c4) (fun s H D cl fp => pts_one (sE c (W.blk (blk_kind c1)) c7).t) (fun s H D cl fp => (sE elt (W.blk (blk_kind c1)) c3).e) (plain_set c6), ?_⟩
          rw [show List.map (fun x => x.2) (ownOf N own) = own from c2]
          exact cmi_run (asg_run S ev q)
        · cases hc
      | sl i => unfold chkE at hc; cases hc
      | cst d => unfold chkE at hc; cases d <;> cases hc
      | gc x d => unfold chkE at hc; rw [Bool.and_eq_true] at hc; cases hc.1
      | _ => unfold chkE at hc; cases hc
  | SetComp _ _ _ _ => cases hv
  | DictComp _ _ _ _ _ => cases hv
  | _ => exact absurd rfl hl
theorem sole_no {t v : Expr} {l : Nat} {env : Env} (h : noComp v = true) : swapsWithSole [t] v l env = pure false := by cases v <;> first | rfl | cases h
theorem q_setTup (W : Wd T N C cal X sc) (hf : ∀ x, X.fn x = true) {t : IT} {e : IE} {tgs : List Expr} {k : Nat} {p pos : Pos} {v : Expr} (ht : chkT T N C t none sc (fun _ => true) (.Tuple tgs k p) = true) (hc : chkE T N C e sc v = true) (hv : noComp v = true) (hv2 : noTup v = true) :
    PS X (.Assign [.Tuple tgs k p] v pos) (rdS X.K cal (.asg t e)) := by
  refine ps_of fun E σ H ⟨F, G0, ios, G, s, o, S, ev, q⟩ => ⟨_, ps_asg (sE e W hc).e (q_asgT W hf ht) (sole_no hv) (by cases v <;> first | rfl | cases hv2) rfl, ?_⟩
  rw [evS] at ev
  obtain ⟨⟨a, s1⟩, e1, ev⟩ := bind_ok ev
  obtain ⟨s2, e2, ev⟩ := bind_ok (ev : R.bind _ _ = _)
  cases ev
  exact ⟨F, G0, ios, G, s, [], a, s1, S, e1, fun v G1 H1 g1 S1 ok1 => ⟨F, G0, ios, G1, s1, [], a, _, S1, ok1, e2, fun G2 σ2 g2 S2 => q G2 H1 σ2 (g1.trans g2) S2⟩⟩
/-- two or more values at once: what stands behind the values -/
theorem pas_run {F G0 G H : Hp} {ios : List (Nat × Addr)} {σ : St} {s : Sl} {ts : ITs} {es : IEs} {E : Ends} {o : Out} {Q : List V → Hp → Prop} (S : Sim X.K F G0 ios G H σ s []) (ev : evS cal (.pas ts es) s = .ok o) (q : onOut X.K F G0 ios G E o)
    (h : ∀ vs as G1 H1 s1 s2, Same G G1 → Sim X.K F G0 ios G1 H1 σ s1 (pnds vs as ++ []) → AsOk X.K G1 σ vs as → as.all noSl = true → asgTs ts as s1 = .ok s2 → (∀ G2 H2 σ2, Same G1 G2 → Sim X.K F G0 ios G2 H2 σ2 s2 [] → E.nx σ2 H2) → Q vs H1) : rdAs X.K cal es σ H Q := by
  rw [evS] at ev
  obtain ⟨⟨as, s1⟩, e1, ev⟩ := bind_ok ev
  obtain ⟨⟨bs, s2⟩, e2, ev⟩ := bind_ok (ev : R.bind _ _ = _)
  obtain ⟨s3, e3, ev⟩ := bind_ok (ev : R.bind _ _ = _)
  cases ev
  refine ⟨F, G0, ios, G, s, [], as, s1, S, e1, fun vs G1 H1 g1 S1 ok1 => ?_⟩
  obtain ⟨G2, g2, S2, ok2, hn⟩ := out_all S1 ok1 e2
  exact h vs bs G2 H1 s2 s3 (g1.trans g2) S2 ok2 hn e3 fun G3 H3 σ3 g3 S3 => q G3 H3 σ3 ((g1.trans g2).trans g3) S3
theorem asgTs_len : ∀ {ts : ITs} {es : List Expr} {as : List Ar} {s s' : Sl} {sc : Scope} {T : List FD} {N : List Str} {C : List (String × D)}, chkTs T N C ts none sc (fun _ => true) es = true → asgTs ts as s = .ok s' → as.length = es.length
  | .nil, es, [], s, s', sc, T, N, C, h, e => by
    unfold chkTs at h
    rw [List.isEmpty_iff.mp h]; rfl
  | .nil, es, a :: as, s, s', sc, T, N, C, h, e => by unfold asgTs at e; cases e
  | .cons t ts, [], as, s, s', sc, T, N, C, h, e => by unfold chkTs at h; cases h
  | .cons t ts, x :: es, [], s, s', sc, T, N, C, h, e => by unfold asgTs at e; cases e
  | .cons t ts, x :: es, a :: as, s, s', sc, T, N, C, h, e => by
    unfold chkTs at h
    simp only [Bool.and_eq_true] at h
    unfold asgTs at e
    obtain ⟨s1, e1, e⟩ := bind_ok e
    rw [List.length_cons, List.length_cons, asgTs_len h.2 e]
theorem q_pasTup (W : Wd T N C cal X sc) (hf : ∀ x, X.fn x = true) {ts : ITs} {es : IEs} {tgs vs : List Expr} {k k2 : Nat} {p p2 pos : Pos} (ht : chkTs T N C ts none sc (fun _ => true) tgs = true) (hc : chkEs T N C es sc vs = true) (hl : vs.length ≤ 1000) (hsw : swB sc tgs vs = some none) :
    PS X (.Assign [.Tuple tgs k p] (.Tuple vs k2 p2) pos) (rdS X.K cal (.pas ts es)) := by
  refine ps_of fun E σ H ⟨F, G0, ios, G, s, o, S, ev, q⟩ => ⟨_, ps_asg (pe_tup (sAs es W hc)) (pg_tup W.calm (q_asgTs W hf ht) assign_len (assign_find (chkTs_plain ht))) rfl (sw_of W.bk (by rw [W.hsc]; exact hsw)) rfl, ?_⟩
  refine pas_run S ev q fun ws as G1 H1 s1 s2 g1 S1 ok1 hn e2 q2 => ?_
  have l1 := (paired_at ok1).1
  have l2 := asgTs_len ht e2
  have lv : as.length = vs.length := by
    have ev' := ev
    rw [evS] at ev'
    obtain ⟨⟨as', s3⟩, e3, ev'⟩ := bind_ok ev'
    obtain ⟨⟨bs', s4⟩, e4, ev'⟩ := bind_ok (ev' : R.bind _ _ = _)
    obtain ⟨s5, e5, ev'⟩ := bind_ok (ev' : R.bind _ _ = _)
    have l3 := evAs_len hc e3
    have l4 := asgTs_len ht e5
    have l5 : ∀ {as bs : List Ar} {s s' : Sl}, outAs as s = .ok (bs, s') → bs.length = as.length := fun {as} => by
      induction as with
      | nil => intro bs s s' h; unfold outAs at h; cases h; rfl
      | cons a as ih =>
        intro bs s s' h
        unfold outAs at h
        obtain ⟨⟨b, s1⟩, _, h⟩ := bind_ok h
        obtain ⟨⟨bs', s2⟩, h2, h⟩ := bind_ok (h : R.bind _ _ = _)
        cases h
        rw [List.length_cons, List.length_cons, ih h2]
    have := l5 e4
    omega
  have big : 1000 ≤ sizeLine := by decide
  refine ⟨by rw [l1, lv]; omega, fun d hd => ⟨d, ws, rfl, SqT.of upd_same, by rw [l1, l2], F, G0, ios, G1, s1, [], as, s2, S1.laid hd, ok1, hn, e2, fun G2 σ2 g2 S2 => q2 G2 _ σ2 g2 S2⟩⟩
theorem set_nm {t : IT} : True := trivial
theorem q_pas2 (W : Wd T N C cal X sc) {i j : Nat} {es : IEs} {x y : Str} {px py pt pos : Pos} {kt k2 : Nat} {pt2 : Pos} {vs : List Expr} (ht : chkTs T N C (.cons (.nm i) (.cons (.nm j) .nil)) none sc (fun _ => true) [.Name x px, .Name y py] = true) (hc : chkEs T N C es sc vs = true) (hij : i ≠ j) (hx : kindB sc x .local = true) (hy : kindB sc y .local = true)
    (hsw : swB sc [.Name x px, .Name y py] vs = some (some [x, y])) (hl : vs.length = 2) : PS X (.Assign [.Tuple [.Name x px, .Name y py] kt pt] (.Tuple vs k2 pt2) pos) (rdS X.K cal (.pas (.cons (.nm i) (.cons (.nm j) .nil)) es)) := by
  match vs, hl with
  | [a, b], _ =>
    simp only [chkTs, chkT, Bool.and_eq_true, decide_eq_true_eq] at ht
    have n1 := ht.1.2.1.1.1
    have n2 := ht.2.1.2.1.1.1
    refine ps_of fun E σ H ⟨F, G0, ios, G, s, o, S, ev, q⟩ => ⟨_, ps_par W.calm (by rw [W.hN]; exact W.nd) (by rw [W.hN]; exact n1) (by rw [W.hN]; exact n2) hij (by rw [W.hsc]; exact kind_of hx) (by rw [W.hsc]; exact kind_of hy) (sAs es W hc) (sw_of W.bk (by rw [W.hsc]; exact hsw)) rfl, ?_⟩
    refine pas_run S ev q fun ws as G1 H1 s1 s2 g1 S1 ok1 hn e2 q2 => ?_
    cases ok1 with
    | nil => unfold asgTs at e2; cases e2
    | @cons v a' vs' as' o1 t1 =>
      cases t1 with
      | nil => unfold asgTs at e2; obtain ⟨_, _, e2⟩ := bind_ok e2; unfold asgTs at e2; cases e2
      | @cons w b' vs2 as2 o2 t2 =>
        unfold asgTs at e2
        obtain ⟨s3, e3, e2⟩ := bind_ok e2
        unfold asgTs at e2
        obtain ⟨s4, e4, e2⟩ := bind_ok e2
        cases t2 with
        | cons _ _ => unfold asgTs at e2; cases e2
        | nil =>
          unfold asgTs at e2
          cases e2
          have S1' : Sim X.K F G0 ios G1 H1 σ s1 (pnd v a' ++ (pnd w b' ++ [])) := S1.perm (by
            show (((([] : List (V × D)) ++ pnd w b') ++ pnd v a') ++ []).Perm _
            rw [List.append_nil, List.append_nil, List.nil_append]
            exact List.perm_append_comm)
          obtain ⟨G2, g2, S2⟩ := asg_nm S1' o1 e3
          simp only [List.all_cons, Bool.and_eq_true] at hn
          have o2' : ArOk X.K G2 (σ.set i (some v)) w b' := by
            have z : AsOk X.K G2 (σ.set i (some v)) [w] [b'] := AsOk.away g2 (show AsOk X.K G1 σ [w] [b'] from .cons o2 .nil) (by simp [hn.2.1])
            cases z; assumption
          obtain ⟨G3, g3, S3⟩ := asg_nm S2 o2' e4
          exact ⟨v, w, rfl, q2 G3 H1 _ (g2.trans g3) S3⟩
theorem q_pas3 (W : Wd T N C cal X sc) {i j l : Nat} {es : IEs} {x y z : Str} {px py pz pt pos : Pos} {kt k2 : Nat} {pt2 : Pos} {vs : List Expr} (ht : chkTs T N C (.cons (.nm i) (.cons (.nm j) (.cons (.nm l) .nil))) none sc (fun _ => true) [.Name x px, .Name y py, .Name z pz] = true) (hc : chkEs T N C es sc vs = true) (hij : i ≠ j) (hil : i ≠ l) (hjl : j ≠ l)
    (hx : kindB sc x .local = true) (hy : kindB sc y .local = true) (hz : kindB sc z .local = true)
    (hsw : swB sc [.Name x px, .Name y py, .Name z pz] vs = some (some [x, y, z])) (hl : vs.length = 3) : PS X (.Assign [.Tuple [.Name x px, .Name y py, .Name z pz] kt pt] (.Tuple vs k2 pt2) pos) (rdS X.K cal (.pas (.cons (.nm i) (.cons (.nm j) (.cons (.nm l) .nil))) es)) := by
  match vs, hl with
  | [a, b, c], _ =>
    simp only [chkTs, chkT, Bool.and_eq_true, decide_eq_true_eq] at ht
    have n1 := ht.1.2.1.1.1
    have n2 := ht.2.1.2.1.1.1
    have n3 := ht.2.2.1.2.1.1.1
    refine ps_of fun E σ H ⟨F, G0, ios, G, s, o, S, ev, q⟩ => ⟨_, ps_par3 W.calm (by rw [W.hN]; exact W.nd) (by rw [W.hN]; exact n1) (by rw [W.hN]; exact n2) (by rw [W.hN]; exact n3) hij hil hjl (by rw [W.hsc]; exact kind_of hx) (by rw [W.hsc]; exact kind_of hy) (by rw [W.hsc]; exact kind_of hz) (sAs es W hc) (sw_of W.bk (by rw [W.hsc]; exact hsw)) rfl, ?_⟩
    refine pas_run S ev q fun ws as G1 H1 s1 s2 g1 S1 ok1 hn e2 q2 => ?_
    have l1 := (paired_at ok1).1
    have l2 : as.length = 3 := by
      cases as with
      | nil => unfold asgTs at e2; cases e2
      | cons a1 as => cases as with
        | nil => unfold asgTs at e2; obtain ⟨_, _, e2⟩ := bind_ok e2; unfold asgTs at e2; cases e2
        | cons a2 as => cases as with
          | nil => unfold asgTs at e2; obtain ⟨_, _, e2⟩ := bind_ok e2; unfold asgTs at e2; obtain ⟨_, _, e2⟩ := bind_ok e2; unfold asgTs at e2; cases e2
          | cons a3 as => cases as with
            | nil => rfl
            | cons _ _ => unfold asgTs at e2; obtain ⟨_, _, e2⟩ := bind_ok e2; unfold asgTs at e2; obtain ⟨_, _, e2⟩ := bind_ok e2; unfold asgTs at e2; obtain ⟨_, _, e2⟩ := bind_ok e2; unfold asgTs at e2; cases e2
    match as, ws, l2, l1, ok1, hn, S1, e2 with
    | [a1, a2, a3], [u, v, w], _, _, ok1, hn, S1, e2 =>
      unfold asgTs at e2
      obtain ⟨s3, e3, e2⟩ := bind_ok e2
      unfold asgTs at e2
      obtain ⟨s4, e4, e2⟩ := bind_ok e2
      unfold asgTs at e2
      obtain ⟨s5, e5, e2⟩ := bind_ok e2
      unfold asgTs at e2
      cases e2
      have S1' : Sim X.K F G0 ios G1 H1 σ s1 (pnd u a1 ++ (pnd v a2 ++ (pnd w a3 ++ []))) := S1.perm (by
        show ((((([] : List (V × D)) ++ pnd w a3) ++ pnd v a2) ++ pnd u a1) ++ []).Perm _
        rw [List.append_nil, List.append_nil, List.nil_append]
        refine List.perm_append_comm.trans ?_
        exact List.Perm.append_left _ List.perm_append_comm)
      simp only [List.all_cons, Bool.and_eq_true] at hn
      have p1 : ArOk X.K G1 σ u a1 := by cases ok1; assumption
      have t1 : AsOk X.K G1 σ [v, w] [a2, a3] := by cases ok1; assumption
      obtain ⟨G2, g2, S2⟩ := asg_nm S1' p1 e3
      have t2 : AsOk X.K G2 (σ.set i (some u)) [v, w] [a2, a3] := AsOk.away g2 t1 (by simp [hn.2.1, hn.2.2.1])
      have p2 : ArOk X.K G2 (σ.set i (some u)) v a2 := by cases t2; assumption
      have t3 : AsOk X.K G2 (σ.set i (some u)) [w] [a3] := by cases t2; assumption
      obtain ⟨G3, g3, S3⟩ := asg_nm S2 p2 e4
      have t4 : AsOk X.K G3 ((σ.set i (some u)).set j (some v)) [w] [a3] := AsOk.away g3 t3 (by simp [hn.2.2.1])
      have p3 : ArOk X.K G3 ((σ.set i (some u)).set j (some v)) w a3 := by cases t4; assumption
      obtain ⟨G4, g4, S4⟩ := asg_nm S3 p3 e5
      exact ⟨u, v, w, rfl, q2 G4 H1 _ ((g2.trans g3).trans g4) S4⟩
end
end PX

set_option Elab.async false
set_option linter.all false
set_option maxRecDepth 100000
set_option maxHeartbeats 4000000
/-! PX, part Q: all statements, a def. -/
namespace PX
open PySem PySem.Spec PyProof.Rows L2

section
variable {T : List FD} {N : List Str} {C : List (String × D)} {cal : Nat → List D → R CR} {X : Cx} {sc : Scope}
theorem sub_shape {o kx : Expr} {p : Pos} {env : Env} (h : plainX kx = true) : ∀ v : Value, assign (.Subscript o kx p) env v = (do
    let ov ← holding [v] (eval o env)
    let iv ← holding [v, ov] (eval kx env)
    standAt p
    holding [v, ov, iv] (setItem ov iv v)
    release [v, ov, iv] []) := by
  intro v
  cases kx <;> first | rfl | cases h
theorem q_sto (W : Wd T N C cal X sc) {i : Nat} {k e : IE} {o kx v : Expr} {p pos : Pos} (hn : nameB N sc i o = true) (hp : plainX kx = true) (hk : chkE T N C k sc kx = true) (he : chkE T N C e sc v = true) (hv : noComp v = true) : PS X (.Assign [.Subscript o kx p] v pos) (rdS X.K cal (.sto i k e)) := by
  refine ps_of fun E σ H ⟨F, G0, ios, G, s, o', S, ev, q⟩ => ⟨_, ps_asg (sE e W he).e (pg_sub (pe_name W hn) (sE k W hk).e pset_store (sub_shape hp)) (sole_no hv) (by cases v <;> rfl) rfl, ?_⟩
  rw [evS] at ev
  obtain ⟨⟨a, s1⟩, e1, ev⟩ := bind_ok ev
  obtain ⟨hio, ev⟩ := req_ok (ev : req _ _ = _)
  obtain ⟨⟨y, s2⟩, e2, ev⟩ := bind_ok (ev : R.bind _ _ = _)
  obtain ⟨⟨d, s3⟩, e3, ev⟩ := bind_ok (ev : R.bind _ _ = _)
  obtain ⟨dk, e4, ev⟩ := bind_ok (ev : R.bind _ _ = _)
  refine ⟨F, G0, ios, G, s, [], a, s1, S, e1, fun v G1 H1 g1 S1 ok1 => ?_⟩
  obtain ⟨pp, d0, hσ, o3, _⟩ := (S1.sl i).ref hio
  refine ⟨.ref pp, hσ, F, G0, ios, G1, s1, _, y, s2, S1, e2, fun w G2 H2 g2 S2 ok2 => ?_⟩
  have S2' : Sim X.K F G0 ios G2 H2 σ s2 (pnd v a ++ (pnd w y ++ [])) := S2.perm (by
    rw [List.append_nil, List.append_nil]
    exact List.perm_append_comm)
  obtain ⟨G3, g3, S3, dv⟩ := S2'.take (ok1.mono g2) e3
  have ck := S3.get (fun z hz => List.mem_append_left _ hz) (ok2.mono g3) e4
  have S4 : Sim X.K F G0 ios G3 H2 σ s3 [] := S3.drop
  cases hs : s3[i]? with
  | none => rw [hs] at ev; cases ev
  | some x =>
    rw [hs] at ev
    cases x with
    | un => cases ev
    | frz _ => cases ev
    | own l =>
      obtain ⟨l', e5, ev⟩ := bind_ok (ev : R.bind _ _ = _)
      cases ev
      obtain ⟨p', e', o4⟩ := S4.at_ hs (.inl rfl)
      rw [hσ] at e'; cases e'
      exact ⟨G3, pp, l, dk, d, l', rfl, S4.gh, o4.at_, ck, dv, e5, fun u ow => q G3 _ σ ((g1.trans g2).trans g3) (S4.change (.inl ⟨hs, rfl⟩) hσ ow)⟩
    | io l =>
      obtain ⟨l', e5, ev⟩ := bind_ok (ev : R.bind _ _ = _)
      cases ev
      obtain ⟨p', e', o4⟩ := S4.at_ hs (.inr rfl)
      rw [hσ] at e'; cases e'
      exact ⟨G3, pp, l, dk, d, l', rfl, S4.gh, o4.at_, ck, dv, e5, fun u ow => q G3 _ σ ((g1.trans g2).trans g3) (S4.change (.inr ⟨hs, rfl⟩) hσ ow)⟩
theorem q_ex (W : Wd T N C cal X sc) {e : IE} {v : Expr} {pos : Pos} (he : chkE T N C e sc v = true) (hv : noComp v = true) : PS X (.Expr v pos) (rdS X.K cal (.ex e)) := by
  refine ps_of fun E σ H ⟨F, G0, ios, G, s, o', S, ev, q⟩ => ⟨_, ps_expr (sE e W he).e (swap_no hv), ?_⟩
  rw [evS] at ev
  obtain ⟨⟨a, s1⟩, e1, ev⟩ := bind_ok ev
  cases ev
  exact ⟨F, G0, ios, G, s, [], a, _, S, e1, fun v G1 H1 g1 S1 ok1 => q G1 H1 σ g1 S1.drop⟩
theorem q_ifs (W : Wd T N C cal X sc) {c : IE} {a b : ISs} {x : Expr} {y z : List Stmt} {pos : Pos} (hc : chkE T N C c sc x = true) (ha : PSs X y (rdSs X.K cal a)) (hb : PSs X z (rdSs X.K cal b)) : PS X (.If x y z pos) (rdS X.K cal (.ite c a b)) := by
  refine ps_of fun E σ H ⟨F, G0, ios, G, s, o', S, ev, q⟩ => ⟨_, ps_if (sE c W hc).t ha hb, ?_⟩
  rw [evS] at ev
  obtain ⟨⟨x, s1⟩, e1, ev⟩ := bind_ok ev
  obtain ⟨d, e2, ev⟩ := bind_ok (ev : R.bind _ _ = _)
  obtain ⟨t, e3, ev⟩ := bind_ok (ev : R.bind _ _ = _)
  refine ⟨F, G0, ios, G, s, [], x, _, d, t, S, e1, e2, e3, fun G1 H1 g1 S1 => ?_⟩
  cases t with
  | true => exact ⟨F, G0, ios, G1, s1, o', S1, ev, q.mono g1⟩
  | false => exact ⟨F, G0, ios, G1, s1, o', S1, ev, q.mono g1⟩
theorem q_for (W : Wd T N C cal X sc) (hf : ∀ x, X.fn x = true) {t : IT} {it : II} {body : ISs} {tg x : Expr} {b : List Stmt} {pos : Pos} (hi : chkI T N C it sc x tg = true) (hp : plainX x = true) (ht : chkT T N C t none sc (fun _ => true) tg = true) (hb : PSs X b (rdSs X.K cal body)) : PS X (.For tg x b [] pos) (rdS X.K cal (.for_ t it body)) := by
  refine ps_of fun E σ H ⟨F, G0, ios, G, s, o', S, ev, q⟩ => ⟨_, ps_for W.po W.calm (sI it W hi) (q_put W (fun x _ => hf x) t ht) hb (plain_set hp), ?_⟩
  rw [evS] at ev
  obtain ⟨⟨ds, s1⟩, e1, ev⟩ := bind_ok ev
  have ev : loopF (fun x s => (putT t x s).bind fun s2 => evSs cal body s2) ds s1 = .ok o' := ev
  refine ⟨F, G0, ios, G, s, [], ds, s1, S, e1, fun J G1 H1 g1 S1 wd => ?_⟩
  refine ⟨fun i m σ H => m = ds.length - i ∧ i ≤ ds.length ∧ ∃ G2 sl, Same G1 G2 ∧ Sim X.K F G0 ios G2 H σ sl [] ∧ loopF (fun x s => (putT t x s).bind fun s2 => evSs cal body s2) (ds.drop i) sl = .ok o',
    ⟨ds.length, by simp, Nat.zero_le _, G1, s1, Same.refl _, S1, ev⟩, ?_⟩
  rintro i m σ1 H2 ⟨rfl, hi, G2, sl, g2, S2, e2⟩
  by_cases hlt : i < ds.length
  · refine .inr ⟨wd.go i H2 hlt (g2.trans S2.gh), ?_⟩
    have hdr : ds.drop i = ds[i] :: ds.drop (i + 1) := List.drop_eq_getElem_cons hlt
    rw [hdr] at e2
    unfold loopF at e2
    obtain ⟨o1, e3, e4⟩ := bind_ok e2
    obtain ⟨s2, e5, e6⟩ := bind_ok (e3 : R.bind _ _ = _)
    refine ⟨fun σ' H' => ∃ G2 sl, Same G1 G2 ∧ Sim X.K F G0 ios G2 H' σ' sl [] ∧ loopF (fun x s => (putT t x s).bind fun s2 => evSs cal body s2) (ds.drop (i + 1)) sl = .ok o', fun σ' H' hN => ⟨ds.length - (i + 1), by omega, rfl, hlt, hN⟩, fun x H' hy => ?_⟩
    obtain ⟨G3, nv⟩ := wd.yld i G2 H2 x H' ds[i] (List.getElem?_eq_getElem hlt) g2 S2.gh hy
    obtain ⟨S3, dp⟩ := S2.new nv
    refine ⟨F, G0, ios, G3, sl, [], ds[i], s2, S3, dp, e5, fun σ2 _ _ S4 => ⟨F, G0, ios, G3, s2, o1, S4, e6, ?_⟩⟩
    have g3 : Same G1 G3 := g2.trans nv.gg
    cases o1 with
    | nx s' => exact fun G' H' σ' g' S' => ⟨G', s', g3.trans g', S', e4⟩
    | ct s' => exact fun G' H' σ' g' S' => ⟨G', s', g3.trans g', S', e4⟩
    | bk s' => cases e4; exact fun G' H' σ' g' S' => q G' H' σ' ((g1.trans g3).trans g') S'
    | rt own d s' => cases e4; exact fun G' H' σ' v g' S' r => q G' H' σ' v ((g1.trans g3).trans g') S' r
  · have hi' : i = ds.length := by omega
    subst hi'
    rw [List.drop_length] at e2
    unfold loopF at e2
    cases e2
    exact .inl ⟨wd.stop H2 (g2.trans S2.gh), q G2 H2 σ1 (g1.trans g2) S2⟩
theorem q_wh (W : Wd T N C cal X sc) {c : IE} {body : ISs} {x : Expr} {b : List Stmt} {pos : Pos} (hc : chkE T N C c sc x = true) (hb : PSs X b (rdSs X.K cal body)) : PS X (.While x b [] pos) (rdS X.K cal (.wh c body)) := by
  refine ps_of fun E σ H ⟨F, G0, ios, G, s, o', S, ev, q⟩ => ⟨_, ps_while W.po (sE c W hc).t hb, ?_⟩
  rw [evS] at ev
  refine ⟨fun m σ H => ∃ G2 sl, Same G G2 ∧ Sim X.K F G0 ios G2 H σ sl [] ∧ whileF (fun s => (evE cal c s).bind fun (x, s1) => (x.get s1).bind fun d => (truth d).bind fun t => .ok (t, s1)) (fun s => evSs cal body s) m sl = .ok o', ⟨WF, G, s, Same.refl _, S, ev⟩, ?_⟩
  rintro m σ1 H2 ⟨G2, sl, g2, S2, e2⟩
  cases m with
  | zero => unfold whileF at e2; cases e2
  | succ m =>
    unfold whileF at e2
    obtain ⟨⟨t, s1⟩, e3, e4⟩ := bind_ok e2
    obtain ⟨⟨a, s2⟩, e5, e6⟩ := bind_ok (e3 : R.bind _ _ = _)
    obtain ⟨d, e7, e6⟩ := bind_ok (e6 : R.bind _ _ = _)
    obtain ⟨t', e8, e6⟩ := bind_ok (e6 : R.bind _ _ = _)
    cases e6
    refine ⟨F, G0, ios, G2, sl, [], a, _, d, t, S2, e5, e7, e8, fun G3 H3 g3 S3 => ?_⟩
    cases t with
    | false => cases e4; exact q G3 H3 σ1 (g2.trans g3) S3
    | true =>
      obtain ⟨o1, e9, e10⟩ := bind_ok (e4 : R.bind _ _ = _)
      refine ⟨fun σ' H' => ∃ G2 sl, Same G G2 ∧ Sim X.K F G0 ios G2 H' σ' sl [] ∧ whileF (fun s => (evE cal c s).bind fun (x, s1) => (x.get s1).bind fun d => (truth d).bind fun t => .ok (t, s1)) (fun s => evSs cal body s) m sl = .ok o', fun σ' H' hN => ⟨m, Nat.lt_succ_self _, hN⟩, F, G0, ios, G3, s1, o1, S3, e9, ?_⟩
      have g4 : Same G G3 := g2.trans g3
      cases o1 with
      | nx s' => exact fun G' H' σ' g' S' => ⟨G', s', g4.trans g', S', e10⟩
      | ct s' => exact fun G' H' σ' g' S' => ⟨G', s', g4.trans g', S', e10⟩
      | bk s' => cases e10; exact fun G' H' σ' g' S' => q G' H' σ' (g4.trans g') S'
      | rt own d s' => cases e10; exact fun G' H' σ' v g' S' r => q G' H' σ' v (g4.trans g') S' r
theorem q_ret (W : Wd T N C cal X sc) {e : IE} {v : Expr} {pos : Pos} (he : chkE T N C e sc v = true) : PS X (.Return (some v) pos) (rdS X.K cal (.ret e)) := by
  refine ps_of fun E σ H ⟨F, G0, ios, G, s, o', S, ev, q⟩ => ⟨_, ps_ret (sE e W he).e, ?_⟩
  rw [evS] at ev
  obtain ⟨⟨a, s1⟩, e1, ev⟩ := bind_ok ev
  refine ⟨F, G0, ios, G, s, [], a, s1, S, e1, fun v G1 H1 g1 S1 ok1 => ?_⟩
  cases a with
  | frz d =>
    cases ev
    exact q G1 H1 σ v g1 S1 fun _ => ok1
  | own d =>
    cases ev
    exact q G1 H1 σ v g1 S1 fun z => nomatch z
  | sl i =>
    have ev : (match s1[i]? with | some (.own d) => R.ok (Out.rt true d (s1.set i .un)) | _ => .no) = .ok o' := ev
    cases hs : s1[i]? with
    | none => rw [hs] at ev; cases ev
    | some x =>
      rw [hs] at ev
      cases x with
      | own d =>
        cases ev
        obtain ⟨p, e2, S2⟩ := Sim.unown (show Sim X.K F G0 ios G1 H1 σ s1 [] from S1) hs
        have ok1 : σ[i]? = some (some v) := ok1
        rw [e2] at ok1
        cases ok1
        exact q G1 H1 σ _ g1 S2 fun z => nomatch z
      | _ => cases ev
mutual
theorem sS (W : Wd T N C cal X sc) (hf : ∀ x, X.fn x = true) : ∀ (st : IS) {x : Stmt}, chkS T N C st sc x = true → PS X x (rdS X.K cal st)
  | .asg t e, x, h => by
    unfold chkS at h
    split at h
    · rename_i tg v pos
      simp only [Bool.and_eq_true] at h
      obtain ⟨⟨h1, h2⟩, h3⟩ := h
      cases tg with
      | Name y p =>
        cases t with
        | nm i =>
          unfold chkT at h2
          simp only [Bool.and_eq_true, decide_eq_true_eq] at h2
          exact q_setName W hf h2.1.1.1 h2.1.1.2 h1 h3
        | tp ts => unfold chkT at h2; cases h2
      | Tuple tgs k p =>
        simp only [Bool.and_eq_true] at h3
        exact q_setTup W hf h2 h1 h3.1 h3.2
      | _ => cases h3
    · cases h
  | .pas ts es, x, h => by
    unfold chkS at h
    split at h
    · rename_i tgs k p vs k2 p2 pos
      simp only [Bool.and_eq_true, decide_eq_true_eq] at h
      obtain ⟨⟨⟨h1, h2⟩, h3⟩, h4⟩ := h
      cases hs : swB sc tgs vs with
      | none => rw [hs] at h4; cases h4
      | some r =>
        rw [hs] at h4
        cases r with
        | none => exact q_pasTup W hf h2 h1 h3 hs
        | some names =>
          have len : vs.length = tgs.length := by
            unfold swB at hs
            split at hs
            · cases hs
            · rename_i hn
              simp only [Bool.or_eq_true, Bool.not_eq_true', not_or, bne_iff_ne, ne_eq, Decidable.not_not] at hn
              exact hn.2
          have nm : names = swN sc tgs := by
            unfold swB at hs
            repeat' split at hs
            all_goals first | (cases hs; rfl) | cases hs
          dsimp only at h4
          split at h4
          · simp only [Bool.and_eq_true, decide_eq_true_eq] at h4
            rw [nm, h4.2] at hs
            exact q_pas2 W h2 h1 h4.1.1.1 h4.1.1.2 h4.1.2 hs len
          · simp only [Bool.and_eq_true, decide_eq_true_eq] at h4
            rw [nm, h4.2] at hs
            exact q_pas3 W h2 h1 h4.1.1.1.1.1.1 h4.1.1.1.1.1.2 h4.1.1.1.1.2 h4.1.1.1.2 h4.1.1.2 h4.1.2 hs len
          · cases h4
    · cases h
  | .sto i k e, x, h => by
    unfold chkS at h
    split at h
    · simp only [Bool.and_eq_true] at h
      exact q_sto W h.1.1.1.1 h.1.1.1.2 h.1.1.2 h.1.2 h.2
    · cases h
  | .ex e, x, h => by
    unfold chkS at h
    split at h
    · rw [Bool.and_eq_true] at h
      exact q_ex W h.1 h.2
    · cases h
  | .ite c a b, x, h => by
    unfold chkS at h
    split at h
    · simp only [Bool.and_eq_true] at h
      exact q_ifs W h.1.1 (sSs W hf a h.1.2) (sSs W hf b h.2)
    · cases h
  | .for_ t it body, x, h => by
    unfold chkS at h
    split at h
    · simp only [Bool.and_eq_true] at h
      exact q_for W hf h.1.1.1 h.1.1.2 h.1.2 (sSs W hf body h.2)
    · cases h
  | .wh c body, x, h => by
    unfold chkS at h
    split at h
    · rw [Bool.and_eq_true] at h
      exact q_wh W h.1 (sSs W hf body h.2)
    · cases h
  | .ret e, x, h => by
    unfold chkS at h
    split at h
    · exact q_ret W h
    · cases h
  | .retn, x, h => by
    unfold chkS at h
    split at h
    · refine ps_of fun E σ H ⟨F, G0, ios, G, s, o', S, ev, q⟩ => ⟨_, ps_retN, ?_⟩
      rw [evS] at ev
      cases ev
      exact q G H σ .non (Same.refl _) S fun _ => .non
    · cases h
  | .brk, x, h => by
    unfold chkS at h
    split at h
    · refine ps_of fun E σ H ⟨F, G0, ios, G, s, o', S, ev, q⟩ => ⟨_, ps_break, ?_⟩
      rw [evS] at ev
      cases ev
      exact q G H σ (Same.refl _) S
    · cases h
  | .cnt, x, h => by
    unfold chkS at h
    split at h
    · refine ps_of fun E σ H ⟨F, G0, ios, G, s, o', S, ev, q⟩ => ⟨_, ps_continue, ?_⟩
      rw [evS] at ev
      cases ev
      exact q G H σ (Same.refl _) S
    · cases h
  | .pass, x, h => by
    unfold chkS at h
    split at h
    · refine ps_of fun E σ H ⟨F, G0, ios, G, s, o', S, ev, q⟩ => ⟨_, ps_pass, ?_⟩
      rw [evS] at ev
      cases ev
      exact q G H σ (Same.refl _) S
    · cases h
  | .raise, x, h => ps_of fun E σ H ⟨F, G0, ios, G, s, o', S, ev, q⟩ => by rw [evS] at ev; cases ev
theorem sSs (W : Wd T N C cal X sc) (hf : ∀ x, X.fn x = true) : ∀ (ss : ISs) {xs : List Stmt}, chkSs T N C ss sc xs = true → PSs X xs (rdSs X.K cal ss)
  | .nil, xs, h => by
    unfold chkSs at h
    rw [List.isEmpty_iff.mp h]
    refine ⟨fun pins s0 σ H E I ⟨F, G0, ios, G, s, o', S, ev, q⟩ => pss_nil.run pins s0 σ H E I ?_⟩
    rw [evSs] at ev
    cases ev
    exact q G H σ (Same.refl _) S
  | .cons st ss, [], h => by unfold chkSs at h; cases h
  | .cons st ss, x :: xs, h => by
    unfold chkSs at h
    rw [Bool.and_eq_true] at h
    refine ⟨fun pins s0 σ H E I ⟨F, G0, ios, G, s, o', S, ev, q⟩ => (pss_cons (sS W hf st h.1) (sSs W hf ss h.2)).run pins s0 σ H E I ?_⟩
    rw [evSs] at ev
    obtain ⟨o1, e1, ev⟩ := bind_ok ev
    refine ⟨F, G0, ios, G, s, o1, S, e1, ?_⟩
    cases o1 with
    | nx s' => exact fun G' H' σ' g' S' => ⟨F, G0, ios, G', s', o', S', ev, q.mono g'⟩
    | ct s' => cases ev; exact q
    | bk s' => cases ev; exact q
    | rt own d s' => cases ev; exact q
end
end
end PX

set_option Elab.async false
set_option linter.all false
set_option maxRecDepth 100000
set_option maxHeartbeats 4000000
/-! PX, part R: a def keeps its promise; a program of defs. -/
namespace PX
open PySem PySem.Spec PyProof.Rows L2

def Nm (fd : FD) : List Str := fd.N.map Str.ofString
def Pm (fd : FD) : List Str := (Nm fd).take fd.np
def chkFn (T : List FD) (C : List (String × D)) (fd : FD) (st : Stmt) : Bool :=
  chkSs T (Nm fd) C fd.body (defScope st) (defBody st) && (match (defScope st).kind with | .function => true | _ => false) && !(defScope st).isCoroutine && !(defScope st).isGenerator && decide (Nm fd).Nodup && ((Pm fd).all fun x => locB (defScope st) x) && ((defScope st).names.all fun y => match y.2 with | .free => false | _ => true) &&
    decide (fd.np ≤ fd.N.length) && decide fd.io.Nodup && fd.io.all fun j => decide (j < fd.np)
structure FnChk (T : List FD) (C : List (String × D)) (fd : FD) (st : Stmt) : Prop where
  body : chkSs T (Nm fd) C fd.body (defScope st) (defBody st) = true
  sc : FnScope (Nm fd) (Pm fd) (defScope st)
  np : fd.np ≤ fd.N.length
  nd : fd.io.Nodup
  io : ∀ j ∈ fd.io, j < fd.np
theorem chkFn_ok {T : List FD} {C : List (String × D)} {fd : FD} {st : Stmt} (h : chkFn T C fd st = true) : FnChk T C fd st := by
  unfold chkFn at h
  simp only [Bool.and_eq_true, Bool.not_eq_true', decide_eq_true_eq, List.all_eq_true] at h
  obtain ⟨⟨⟨⟨⟨⟨⟨⟨⟨h1, h2⟩, h3⟩, h4⟩, h5⟩, h6⟩, h7⟩, h8⟩, h9⟩, h10⟩ := h
  refine ⟨h1, ⟨?_, h3, h4, h5, ?_, fun x hx => loc_of (h6 x hx), fun y hy e => ?_⟩, h8, h9, h10⟩
  · split at h2
    · assumption
    · cases h2
  · show (Nm fd).take (Pm fd).length = Pm fd
    unfold Pm
    rw [List.length_take, List.take_eq_take_iff]
    omega
  · have q := h7 y hy
    rw [e] at q
    cases q
theorem start0_get (io : List Nat) : ∀ (ds : List D) (p j : Nat), (start0 io p ds)[j]? = ds[j]?.map (slot0 io (p + j))
  | [], p, j => by simp [start0]
  | d :: ds, p, 0 => by simp [start0]
  | d :: ds, p, j + 1 => by
    show (start0 io (p + 1) ds)[j]? = _
    rw [start0_get io ds (p + 1) j, show p + 1 + j = p + (j + 1) by omega]
    rfl
theorem start0_len (io : List Nat) : ∀ (ds : List D) (p : Nat), (start0 io p ds).length = ds.length
  | [], _ => rfl
  | d :: ds, p => congrArg (· + 1) (start0_len io ds (p + 1))
theorem outs_at {s : Sl} : ∀ {io : List Nat} {os : List D}, outs s io = .ok os → os.length = io.length ∧ ∀ (k j : Nat), io[k]? = some j → ∃ d, os[k]? = some d ∧ s[j]? = some (.io d)
  | [], os, h => by cases h; exact ⟨rfl, fun k j e => by simp at e⟩
  | p :: ps, os, h => by
    unfold outs at h
    split at h
    · rename_i d hs
      obtain ⟨ds, e1, h⟩ := bind_ok h
      cases h
      obtain ⟨l, q⟩ := outs_at e1
      refine ⟨by simp [l], fun k j e => ?_⟩
      cases k with
      | zero => simp at e; subst e; exact ⟨d, rfl, hs⟩
      | succ k =>
        obtain ⟨d', h1, h2⟩ := q k j (by simpa using e)
        exact ⟨d', by simpa using h1, h2⟩
    · cases h
def refV : Option V → Option Addr
  | some (V.ref p) => some p
  | _ => none
theorem refV_ok {v : Option V} {p : Addr} (h : refV v = some p) : v = some (V.ref p) := by
  cases v with
  | none => cases h
  | some v => cases v <;> first | (cases h; rfl) | cases h
def iosOf (io : List Nat) (vs : List V) : List (Nat × Addr) := io.filterMap fun (i : Nat) => (refV vs[i]?).map fun p => (i, p)
theorem mem_ios {io : List Nat} {vs : List V} {i : Nat} {p : Addr} : (i, p) ∈ iosOf io vs ↔ i ∈ io ∧ vs[i]? = some (.ref p) := by
  unfold iosOf
  rw [List.mem_filterMap]
  constructor
  · rintro ⟨j, hj, h⟩
    cases e : refV vs[j]? with
    | none => rw [e] at h; cases h
    | some q =>
      rw [e] at h
      cases h
      exact ⟨hj, refV_ok e⟩
  · rintro ⟨h1, h2⟩
    exact ⟨i, h1, by rw [h2]; rfl⟩
section
variable {K : PySem.W.Frag}
theorem start_sim {fd : FD} {vs : List V} {ds : List D} {G H : Hp} (hp : fd.np ≤ fd.N.length) (hv : vs.length = fd.np) (hd : ds.length = fd.np) (gh : Same G H)
    (h1 : ∀ (i : Nat) d, ds[i]? = some d → i ∉ fd.io → ∃ v, vs[i]? = some v ∧ Dp K G v d) (h2 : ∀ (i : Nat) d, ds[i]? = some d → i ∈ fd.io → ∃ p, vs[i]? = some (V.ref p) ∧ G p = none ∧ OwnAt K G H p d)
    (h3 : ∀ (i j : Nat) v, i ∈ fd.io → j ∈ fd.io → vs[i]? = some v → vs[j]? = some v → i = j) :
    ∃ F : Hp, (∀ a, (∃ i ∈ fd.io, vs[i]? = some (.ref a)) → F a = none) ∧ (∀ a, (∀ i ∈ fd.io, vs[i]? ≠ some (.ref a)) → F a = H a) ∧ Sim K F G (iosOf fd.io vs) G H (L2.start (Nm fd) vs) (start0 fd.io 0 ds ++ List.replicate (fd.N.length - fd.np) .un) [] := by
  classical
  have nl : (Nm fd).length = fd.N.length := List.length_map _
  refine ⟨fun a => if ∃ i ∈ fd.io, vs[i]? = some (.ref a) then none else H a, fun a h => if_pos h, fun a h => if_neg (fun ⟨i, hi, e⟩ => h i hi e), ?_⟩
  have sget : ∀ j d, ds[j]? = some d → (start0 fd.io 0 ds ++ List.replicate (fd.N.length - fd.np) Sv.un)[j]? = some (slot0 fd.io j d) := fun j d e => by
    rw [List.getElem?_append_left (by rw [start0_len]; exact lt_of_get e), start0_get, e, Nat.zero_add]
    rfl
  have snone : ∀ j : Nat, ds[j]? = none → (start0 fd.io 0 ds ++ List.replicate (fd.N.length - fd.np) Sv.un)[j]? = some .un ∨ (start0 fd.io 0 ds ++ List.replicate (fd.N.length - fd.np) Sv.un)[j]? = none := fun j e => by
    rw [List.getElem?_append_right (by rw [start0_len]; exact List.getElem?_eq_none_iff.mp e), List.getElem?_replicate]
    split
    · exact .inl rfl
    · exact .inr rfl
  have vget : ∀ j v, vs[j]? = some v → (L2.start (Nm fd) vs)[j]? = some (some v) := fun j v e => by
    unfold L2.start
    rw [List.getElem?_append_left (by rw [List.length_map]; exact lt_of_get e), List.getElem?_map, e]
    rfl
  have own : ∀ (j : Nat) v, isOwn (start0 fd.io 0 ds ++ List.replicate (fd.N.length - fd.np) Sv.un)[j]? = true → (L2.start (Nm fd) vs)[j]? = some (some v) → j ∈ fd.io ∧ vs[j]? = some v := fun j v ho hv' => by
    cases e : ds[j]? with
    | none => rcases snone j e with z | z <;> (rw [z] at ho; cases ho)
    | some d =>
      rw [sget j d e] at ho
      by_cases hj : j ∈ fd.io
      · obtain ⟨p, h4, _⟩ := h2 j d e hj
        rw [vget j _ h4] at hv'
        cases hv'
        exact ⟨hj, h4⟩
      · unfold slot0 at ho
        rw [if_neg hj] at ho
        cases ho
  refine ⟨?_, fun a o e => ?_, gh, fun a o e => .inl e, fun j => ?_, fun x hx => by simp at hx, fun i j v a b c d => ?_, fun i v a b x hx => by simp at hx, .nil⟩
  · unfold L2.start
    rw [List.length_append, List.length_append, List.length_map, List.length_replicate, List.length_replicate, start0_len, hv, hd, nl]
  · split at e
    · cases e
    · exact e
  · cases e : ds[j]? with
    | none => rcases snone j e with z | z <;> (rw [z]; trivial)
    | some d =>
      rw [sget j d e]
      unfold slot0
      by_cases hj : j ∈ fd.io
      · rw [if_pos hj]
        obtain ⟨p, h4, h5, h6⟩ := h2 j d e hj
        exact ⟨p, vget j _ h4, mem_ios.mpr ⟨hj, h4⟩, if_pos ⟨j, hj, h4⟩, h5, h6⟩
      · rw [if_neg hj]
        obtain ⟨v, h4, h5⟩ := h1 j d e hj
        exact ⟨v, vget j _ h4, h5⟩
  · obtain ⟨a1, a2⟩ := own i v a c
    obtain ⟨b1, b2⟩ := own j v b d
    exact h3 i j v a1 b1 a2 b2
/-- behind the body -/
theorem end_run {F G G' H H' : Hp} {io : List Nat} {vs : List V} {σ' : St} {s : Sl} {P : List (V × D)} {os : List D} (f1 : ∀ a, (∃ i ∈ io, vs[i]? = some (.ref a)) → F a = none) (f2 : ∀ a, (∀ i ∈ io, vs[i]? ≠ some (.ref a)) → F a = H a) (S : Sim K F G (iosOf io vs) G' H' σ' s P) (ho : outs s io = .ok os) :
    (∀ a o, H a = some o → (∀ i ∈ io, vs[i]? ≠ some (V.ref a)) → H' a = some o) ∧ (∀ a, H a ≠ none → G a = none → G' a = none) ∧ os.length = io.length ∧ (∀ (k j : Nat), io[k]? = some j → ∃ p d, vs[j]? = some (V.ref p) ∧ os[k]? = some d ∧ OwnAt K G' H' p d) ∧ (∀ x ∈ P, ∃ p, x.1 = V.ref p ∧ H p = none ∧ G' p = none ∧ OwnAt K G' H' p x.2) := by
  obtain ⟨l, q⟩ := outs_at ho
  have slot : ∀ (j : Nat), j ∈ io → ∃ p d, vs[j]? = some (V.ref p) ∧ s[j]? = some (.io d) ∧ σ'[j]? = some (some (.ref p)) ∧ OwnP K F G' H' p d := fun j hj => by
    obtain ⟨k, hk⟩ := List.getElem?_of_mem hj
    obtain ⟨d, _, e⟩ := q k j hk
    have z := S.sl j
    rw [e] at z
    obtain ⟨p, e1, m, o⟩ := z
    exact ⟨p, d, (mem_ios.mp m).2, e, e1, o⟩
  refine ⟨fun a o e h => S.fh a o ((f2 a h).trans e), fun a h g => ?_, l, fun k j hk => ?_, fun x hx => ?_⟩
  · by_cases hio : ∃ i ∈ io, vs[i]? = some (.ref a)
    · obtain ⟨i, hi, e⟩ := hio
      obtain ⟨p, d, e1, _, _, o⟩ := slot i hi
      rw [e] at e1; cases e1
      exact o.g
    · cases e : G' a with
      | none => rfl
      | some u =>
        rcases S.g0 a u e with z | z
        · rw [g] at z; cases z
        · rw [f2 a fun i hi z => hio ⟨i, hi, z⟩] at z; exact absurd z h
  · obtain ⟨d, h1, h2⟩ := q k j hk
    obtain ⟨p, d', e1, e2, _, o⟩ := slot j (List.mem_of_getElem? hk)
    rw [h2] at e2; cases e2
    exact ⟨p, d, e1, h1, o.at_⟩
  · obtain ⟨p, e, o⟩ := S.pe x hx
    refine ⟨p, e, ?_, o.g, o.at_⟩
    rw [← f2 p fun i hi z => ?_]
    · exact o.f
    · obtain ⟨p', d, e1, e2, e3, _⟩ := slot i hi
      rw [z] at e1; cases e1
      exact S.sp i (.ref p) (by rw [e2]; rfl) e3 x hx e
end
/-- a program of defs: where they stand, and that the text is as the syntax says -/
structure Tab (T : List FD) (C : List (String × D)) (st : Nat → Stmt) (K : PySem.W.Frag) (mg : Str → Option Value) : Prop where
  blt : ∀ b ∈ bltNames, mg (Str.ofString b) = none
  cst : ∀ x d, C.lookup x = some d → ∃ v u, mg (Str.ofString x) = some u ∧ RelV v u ∧ Dp K (fun _ => none) v d
  fn : ∀ (i : Nat) fd, T[i]? = some fd → ∃ f fdt, Fun K (Str.ofString fd.name) (Str.ofString fd.name) (st i) f fdt ∧ mg (Str.ofString fd.name) = some (.ref f) ∧ L2.Binds K fdt (Pm fd) []
  chk : ∀ (i : Nat) fd, T[i]? = some fd → chkFn T C fd (st i) = true
theorem evC_succ {T : List FD} {n i : Nat} {fd : FD} (h : T[i]? = some fd) (ds : List D) : evC T (n + 1) i ds = evD (evC T n) fd ds := by
  rw [evC, h]
theorem fn_ok {T : List FD} {C : List (String × D)} {st : Nat → Stmt} {P : Program} {w : World} {K : PySem.W.Frag} {mg : Str → Option Value} {base : Heap} (B : Tab T C st K mg) : ∀ (n : Nat) (i : Nat) (fd : FD), T[i]? = some fd → ∀ (f : Addr) (fdt : FuncData), Fun K (Str.ofString fd.name) (Str.ofString fd.name) (st i) f fdt →
    FnOk P w K mg base CX0 n f fdt (Pm fd) (spF K fd.io fd.np (evC T n i))
  | 0, i, fd, hT, f, fdt, hF => by
    have no : ∀ vs H Q E, ¬ spF K fd.io fd.np (evC T 0 i) vs H Q E := fun vs H Q E ⟨G, ds, r, e, _⟩ => by rw [evC] at e; cases e
    exact ⟨fun vs H Q E h => absurd h (no vs H Q E), fun A outer s H args us vs Q E _ _ _ _ h => absurd h (no vs H Q E)⟩
  | n + 1, i, fd, hT, f, fdt, hF => by
    have ck := chkFn_ok (B.chk i fd hT)
    have pl : (Pm fd).length = fd.np := by
      unfold Pm Nm
      rw [List.length_take, List.length_map]
      have := ck.np
      omega
    refine hF.ok ck.sc (fun vs H Q E ⟨G, ds, r, _, h, _⟩ => by rw [h, pl]) (fun cdv A outer s H vs Q E hr h => ?_)
    obtain ⟨G, ds, r, hm, hv, hd, gh, h1, h2, h3, k⟩ := h
    have W : Wd T (Nm fd) C (evC T n) (cxOf CX0 P w K mg base (Nm fd) (Str.ofString fd.name) (defScope (st i)) f cdv A outer s H E).nox (defScope (st i)) := by
      refine ⟨rfl, rfl, ck.sc.nd, rfl, ck.sc.kind, rfl, ?_, B.blt, B.cst, fun j fj ds' r' hj _ => ?_⟩
      · have := hr.un
        show (A.deeper _).units + 200 < cLine
        omega
      · obtain ⟨g, gd, hg, hm', hb⟩ := B.fn j fj hj
        exact ⟨g, gd, Pm fj, n, fn_ok B n j fj hj g gd hg, hr, hm', hg.kp, hb⟩
    refine ⟨_, sSs W (fun x => rfl) fd.body ck.body, ?_⟩
    obtain ⟨F, f1, f2, S⟩ := start_sim (K := K) ck.np hv hd gh h1 h2 h3
    rw [evC_succ hT] at hm
    unfold evD at hm
    obtain ⟨_, hm⟩ := req_ok hm
    obtain ⟨o, e1, hm⟩ := bind_ok hm
    refine ⟨F, G, _, G, _, o, S, e1, ?_⟩
    cases o with
    | nx s' =>
      obtain ⟨os, e2, hm⟩ := bind_ok (hm : R.bind _ _ = _)
      cases hm
      intro G' H' σ' g' S'
      obtain ⟨k1, k2, k3, k4, _⟩ := end_run f1 f2 S' e2
      exact k G' H' .non g' S'.gh k1 k2 .non k3 k4
    | bk s' => cases hm
    | ct s' => cases hm
    | rt own d s' =>
      obtain ⟨os, e2, hm⟩ := bind_ok (hm : R.bind _ _ = _)
      cases hm
      intro G' H' σ' v g' S' hd
      obtain ⟨k1, k2, k3, k4, k5⟩ := end_run f1 f2 S' e2
      refine k G' H' v g' S'.gh k1 k2 ?_ k3 k4
      unfold RetOk
      cases own with
      | true =>
        rw [if_pos rfl]
        exact k5 (v, d) (by simp)
      | false =>
        rw [if_neg (by simp)]
        exact hd rfl
/-- the law's own promise: script in, True out -/
def spLaw (K : PySem.W.Frag) : Sp := fun vs H Q _ => ∃ (a : Addr) (ns : List Int), vs = [.ref a] ∧ SqL K H a (ns.map V.int) ∧ ns.length ≤ 63 ∧ ∀ H', Q (.bl true) H'
theorem dp_ints {K : PySem.W.Frag} {G : Hp} : ∀ ns : List Int, DpAll K G (ns.map V.int) (ns.map PyData.int)
  | [] => .nil
  | n :: ns => .cons (.int n) (dp_ints ns)
theorem law_ok {T : List FD} {C : List (String × D)} {st : Nat → Stmt} {P : Program} {w : World} {K : PySem.W.Frag} {mg : Str → Option Value} {base : Heap} (B : Tab T C st K mg) {n i : Nat} {fd : FD} (hT : T[i]? = some fd) (hio : fd.io = []) (hnp : fd.np = 1) {f : Addr} {fdt : FuncData} (hF : Fun K (Str.ofString fd.name) (Str.ofString fd.name) (st i) f fdt)
    (hl : ∀ ns : List Int, ns.length ≤ 63 → evC T n i [.list (ns.map .int)] = .ok ⟨false, .bool true, []⟩) : FnOk P w K mg base CX0 n f fdt (Pm fd) (spLaw K) := by
  have g := fn_ok (P := P) (w := w) (base := base) B n i fd hT f fdt hF
  have imp : ∀ vs H Q E, spLaw K vs H Q E → spF K fd.io fd.np (evC T n i) vs H Q E := fun vs H Q E ⟨a, ns, e, hS, h63, q⟩ => by
    subst e
    refine ⟨H, [.list (ns.map .int)], _, hl ns h63, by rw [hnp]; rfl, by rw [hnp]; rfl, Same.refl _, fun j d hd _ => ?_, fun (j : Nat) d hd (hj : j ∈ fd.io) => (by rw [hio] at hj; cases hj), fun (j k : Nat) v (hj : j ∈ fd.io) => (by rw [hio] at hj; cases hj), fun G' H' v _ _ _ _ ret _ _ => ?_⟩
    · cases j with
      | zero => simp at hd; subst hd; exact ⟨_, rfl, .lst hS (dp_ints ns)⟩
      | succ j => simp at hd
    · have ret : Dp K G' v (.bool true) := ret
      cases ret
      exact q H'
  exact ⟨fun vs H Q E h => g.len vs H Q E (imp vs H Q E h), fun A outer s H args us vs Q E h1 h2 h3 h4 h5 => g.run A outer s H args us vs Q E h1 h2 h3 h4 (imp vs H Q E h5)⟩
end PX
namespace PX
theorem look_mem {α : Type} : ∀ {l : List (String × α)} {x : String} {d : α}, l.lookup x = some d → (x, d) ∈ l
  | (k, v) :: r, x, d, h => by
    rw [List.lookup_cons] at h
    cases hb : x == k with
    | true =>
      rw [hb] at h
      cases h
      rw [eq_of_beq hb]
      exact List.mem_cons_self
    | false =>
      rw [hb] at h
      exact List.mem_cons_of_mem _ (look_mem h)
end PX

set_option Elab.async false
set_option linter.all false
set_option maxRecDepth 100000
/-! PX, part S: rows by which the evaluator is run. -/
namespace PX
open PySem L2
theorem bnd_ok {α β : Type} (a : α) (f : α → R β) : (R.ok a).bind f = f a := rfl
theorem bind_eq {α β : Type} (x : R α) (f : α → R β) : (x >>= f) = x.bind f := rfl
theorem pure_eq {α : Type} (a : α) : (pure a : R α) = R.ok a := rfl
theorem req_t {α : Type} (x : R α) : req true x = x := rfl
theorem req_f {α : Type} (x : R α) : req false x = .no := rfl
theorem e_bi_min (i j : Int) : bi .min [.int i, .int j] = .ok (.frz (.int (if j < i then j else i))) := rfl
theorem e_bi_max (i j : Int) : bi .max [.int i, .int j] = .ok (.frz (.int (if j > i then j else i))) := rfl
theorem e_bi_lenL (xs : List D) : bi .len [.list xs] = .ok (.frz (.int xs.length)) := rfl
theorem e_bi_lenT (xs : List D) : bi .len [.tuple xs] = .ok (.frz (.int xs.length)) := rfl
theorem e_bi_abs (i : Int) : bi .abs [.int i] = .ok (.frz (.int (if i < 0 then -i else i))) := rfl
theorem e_bi_int (i : Int) : bi .int [.int i] = .ok (.frz (.int i)) := rfl
theorem e_bi_tupL (xs : List D) : bi .tuple [.list xs] = .ok (.frz (.tuple xs)) := rfl
theorem e_bi_tupT (xs : List D) : bi .tuple [.tuple xs] = .ok (.frz (.tuple xs)) := rfl
theorem e_bi_lstL (xs : List D) : bi .list [.list xs] = .ok (.own (.list xs)) := rfl
theorem e_bi_lstT (xs : List D) : bi .list [.tuple xs] = .ok (.own (.list xs)) := rfl
theorem e_bi_all (xs : List D) : bi .all [.list xs] = (match boolsD xs with | some bs => okB (bs.all id) | none => .no) := rfl
theorem e_bi_any (xs : List D) : bi .any [.list xs] = (match boolsD xs with | some bs => okB (bs.any id) | none => .no) := rfl
theorem e_isI (i : Int) : bi .isI [.int i] = .ok (.frz (.bool true)) := rfl
theorem e_isIt (xs : List D) : bi .isI [.tuple xs] = .ok (.frz (.bool false)) := rfl
theorem e_isIl (xs : List D) : bi .isI [.list xs] = .ok (.frz (.bool false)) := rfl
theorem e_isB (i : Int) : bi .isB [.int i] = .ok (.frz (.bool false)) := rfl
theorem e_isT (i : Int) : bi .isT [.int i] = .ok (.frz (.bool false)) := rfl
theorem e_isTt (xs : List D) : bi .isT [.tuple xs] = .ok (.frz (.bool true)) := rfl
theorem e_isTl (xs : List D) : bi .isT [.list xs] = .ok (.frz (.bool false)) := rfl
theorem e_isL (i : Int) : bi .isL [.int i] = .ok (.frz (.bool false)) := rfl
theorem e_isLt (xs : List D) : bi .isL [.tuple xs] = .ok (.frz (.bool false)) := rfl
theorem e_isLl (xs : List D) : bi .isL [.list xs] = .ok (.frz (.bool true)) := rfl
theorem e_add (i j : Int) : bop .add (.int i) (.int j) = .ok (.frz (.int (i + j))) := rfl
theorem e_sub (i j : Int) : bop .sub (.int i) (.int j) = .ok (.frz (.int (i - j))) := rfl
theorem e_mul (i j : Int) : bop .mul (.int i) (.int j) = req (small64 i || small64 j) (.ok (.frz (.int (i * j)))) := rfl
theorem e_div (i j : Int) : bop .fdiv (.int i) (.int j) = req (decide (0 < j) && decide (j < 1073741824)) (.ok (.frz (.int (i / j)))) := rfl
theorem e_mod (i j : Int) : bop .mod (.int i) (.int j) = req (decide (0 < j)) (.ok (.frz (.int (i % j)))) := rfl
theorem e_pow (i j : Int) : bop .pow (.int i) (.int j) = req (decide (0 ≤ j) && decide (j ≤ 1000000) && decide (i.natAbs < 2 ^ 64)) (.ok (.frz (.int (i ^ j.toNat)))) := rfl
theorem e_catL (xs ys : List D) : bop .add (.list xs) (.list ys) = req (decide (xs.length + ys.length ≤ sizeLine)) (.ok (.own (.list (xs ++ ys)))) := rfl
theorem e_catT (xs ys : List D) : bop .add (.tuple xs) (.tuple ys) = req (decide (xs.length + ys.length ≤ sizeLine)) (.ok (.frz (.tuple (xs ++ ys)))) := rfl
theorem e_repT (xs : List D) (k : Int) : bop .mul (.tuple xs) (.int k) = req (!xs.isEmpty && decide (2 ≤ k) && decide (k ≤ 1000) && decide (xs.length ≤ 1000)) (.ok (.frz (.tuple (List.replicate k.toNat xs).flatten))) := rfl
theorem e_eq (i j : Int) : cop .eq (.int i) (.int j) = .ok (decide (i = j)) := rfl
theorem e_ne (i j : Int) : cop .ne (.int i) (.int j) = .ok (!decide (i = j)) := rfl
theorem e_lt (i j : Int) : cop .lt (.int i) (.int j) = .ok (decide (i < j)) := rfl
theorem e_le (i j : Int) : cop .le (.int i) (.int j) = .ok (decide (i ≤ j)) := rfl
theorem e_gt (i j : Int) : cop .gt (.int i) (.int j) = .ok (decide (j < i)) := rfl
theorem e_ge (i j : Int) : cop .ge (.int i) (.int j) = .ok (decide (j ≤ i)) := rfl
theorem e_issI (i : Int) : cop .iss (.int i) .none = .ok false := rfl
theorem e_issN : cop .iss .none .none = .ok true := rfl
theorem e_isnI (i : Int) : cop .isn (.int i) .none = .ok true := rfl
theorem e_isnN : cop .isn .none .none = .ok false := rfl
theorem e_inL (x : D) (ds : List D) (h : ∀ z, x ≠ .str z) : cop .inn x (.list ds) = inData x ds := by cases x <;> first | rfl | exact absurd rfl (h _)
theorem tr_n : truth .none = .ok false := rfl
theorem tr_b (b : Bool) : truth (.bool b) = .ok b := rfl
theorem tr_i (i : Int) : truth (.int i) = .ok (i != 0) := rfl
theorem tr_l (xs : List D) : truth (.list xs) = .ok (!xs.isEmpty) := rfl
theorem tr_t (xs : List D) : truth (.tuple xs) = .ok (!xs.isEmpty) := rfl
theorem it_l (xs : List D) (i : Int) : item (.list xs) (.int i) = (match L2.atI xs i with | some d => .ok d | none => .no) := rfl
theorem it_t (xs : List D) (i : Int) : item (.tuple xs) (.int i) = (match L2.atI xs i with | some d => .ok d | none => .no) := rfl
theorem at_ok {α : Type} {xs : List α} {i : Int} {d : α} (h0 : 0 ≤ i) (h : xs[i.toNat]? = some d) : L2.atI xs i = some d := by
  have hl := lt_of_get h
  unfold L2.atI L2.ixN
  rw [if_pos h0, if_pos (by omega)]
  exact h
theorem it_lk {xs : List D} {i : Int} {d : D} (h0 : 0 ≤ i) (h : xs[i.toNat]? = some d) : item (.list xs) (.int i) = .ok d := by rw [it_l, at_ok h0 h]
theorem it_tk {xs : List D} {i : Int} {d : D} (h0 : 0 ≤ i) (h : xs[i.toNat]? = some d) : item (.tuple xs) (.int i) = .ok d := by rw [it_t, at_ok h0 h]
theorem mu_app (xs : List D) (d : D) : mutD .append (.list xs) [d] = req (decide (xs.length < sizeLine)) (.ok (.none, .list (xs ++ [d]))) := rfl
theorem sto_l (xs : List D) (k : Int) (v : D) : store (.list xs) (.int k) v = (match L2.ixN xs.length k with | some j => .ok (.list (xs.set j v)) | none => .no) := rfl
theorem ta_nil (s : Sl) : takeAll [] s = .ok ([], s) := rfl
theorem ta_cons (a : Ar) (as : List Ar) (s : Sl) : takeAll (a :: as) s = (a.take s).bind fun (d, s1) => (takeAll as s1).bind fun (ds, s2) => .ok (d :: ds, s2) := rfl
theorem ga_nil (s : Sl) : getAll s [] = .ok [] := rfl
theorem ga_cons (a : Ar) (as : List Ar) (s : Sl) : getAll s (a :: as) = (a.get s).bind fun d => (getAll s as).bind fun ds => .ok (d :: ds) := rfl
theorem ce_eq (io : List Nat) (as : List Ar) (r : CR) (s : Sl) : callEnd io as r s = (putIo as io r.outs s).bind fun s1 => (if nlR r then R.ok s1 else freezeAs io 0 as s1).bind fun s2 => .ok (if r.own then .own r.d else .frz r.d, s2) := rfl
theorem q_dl (xs : List D) : seqD (.list xs) = .ok xs := rfl
theorem q_dt (xs : List D) : seqD (.tuple xs) = .ok xs := rfl
theorem q_ll (xs : List D) : seqL (.list xs) = .ok xs := rfl
theorem q_lt (xs : List D) : seqL (.tuple xs) = .ok xs := rfl
theorem nlR_f (d : D) (os : List D) : nlR ⟨false, d, os⟩ = (nl d && os.all nlL) := rfl
theorem nlR_t (d : D) (os : List D) : nlR ⟨true, d, os⟩ = (nlL d && os.all nlL) := rfl
theorem nlL_l (xs : List D) : nlL (.list xs) = nls xs := rfl
theorem nl_n : nl .none = true := rfl
theorem nl_b (b : Bool) : nl (.bool b) = true := rfl
theorem nl_i (i : Int) : nl (.int i) = true := rfl
theorem nl_s (x : Str) : nl (.str x) = true := rfl
theorem nl_t (xs : List D) : nl (.tuple xs) = nls xs := by rw [nl]
theorem nl_l (xs : List D) : nl (.list xs) = false := rfl
theorem nls_n : nls [] = true := rfl
theorem nls_c (x : D) (xs : List D) : nls (x :: xs) = (nl x && nls xs) := by rw [nls]
theorem nls_ints : ∀ is : List Int, nls (is.map .int) = true
  | [] => rfl
  | i :: is => by rw [List.map_cons, nls_c, nl_i, nls_ints is]; rfl
theorem aT_o (i : Nat) (d : D) (s : Sl) : asgT (.nm i) (.own d) s = setS i (.own d) s := by unfold asgT; rfl
theorem aT_f (i : Nat) (d : D) (s : Sl) : asgT (.nm i) (.frz d) s = setS i (.frz d) s := by unfold asgT; simp [Ar.take, R.bind, putT]
theorem aT_s (i j : Nat) (s : Sl) : asgT (.nm i) (.sl j) s = ((Ar.sl j).take s).bind fun (d, s1) => putT (.nm i) d s1 := by unfold asgT; rfl
theorem aT_t (ts : ITs) (a : Ar) (s : Sl) : asgT (.tp ts) a s = (a.take s).bind fun (d, s1) => putT (.tp ts) d s1 := by unfold asgT; rfl
theorem pT_nm (i : Nat) (d : D) (s : Sl) : putT (.nm i) d s = setS i (.frz d) s := by rw [putT]
theorem pT_tp (ts : ITs) (ds : List D) (s : Sl) : putT (.tp ts) (.tuple ds) s = putTs ts ds s := by rw [putT]
theorem pTs_n (s : Sl) : putTs .nil [] s = .ok s := by rw [putTs]
theorem pTs_c (t : IT) (ts : ITs) (d : D) (ds : List D) (s : Sl) : putTs (.cons t ts) (d :: ds) s = (putT t d s).bind fun s1 => putTs ts ds s1 := by rw [putTs]
theorem slc_l (xs : List D) (lo hi : D) : slice (.list xs) lo hi = (match optI lo, optI hi with | some a, some b => .ok (.own (.list (cutD xs a b))) | _, _ => .no) := rfl
theorem slc_t (xs : List D) (lo hi : D) : slice (.tuple xs) lo hi = (match optI lo, optI hi with | some a, some b => .ok (.frz (.tuple (cutD xs a b))) | _, _ => .no) := rfl
/-! the evaluator's rows; loops stand under their own words -/
def forF (cal : Nat → List D → R CR) (t : IT) (b : ISs) (ds : List D) (s : Sl) : R Out := loopF (fun x s => (putT t x s).bind fun s2 => evSs cal b s2) ds s
def condF (cal : Nat → List D → R CR) (c : IE) (s : Sl) : R (Bool × Sl) := (evE cal c s).bind fun (x, s1) => (x.get s1).bind fun d => (truth d).bind fun t => .ok (t, s1)
def whF (cal : Nat → List D → R CR) (c : IE) (b : ISs) (n : Nat) (s : Sl) : R Out := whileF (condF cal c) (fun s => evSs cal b s) n s
def cmStep (cal : Nat → List D → R CR) (elt : IE) (t : IT) (own : List Nat) (x : D) (s : Sl) : R (Option D × Sl) := (putT t x s).bind fun s2 => (evE cal elt s2).bind fun (a, s3) => (a.take s3).bind fun (d, s4) => .ok (some d, wipeS s4 own)
def cmiStep (cal : Nat → List D → R CR) (elt : IE) (t : IT) (c : IE) (own : List Nat) (x : D) (s : Sl) : R (Option D × Sl) := (putT t x s).bind fun s2 => (evE cal c s2).bind fun (cv, s3) => (cv.get s3).bind fun cd => (truth cd).bind fun b =>
  if b then (evE cal elt s3).bind fun (a, s4) => (a.take s4).bind fun (d, s5) => .ok (some d, wipeS s5 own) else .ok (none, wipeS s3 own)
section
variable (cal : Nat → List D → R CR)
theorem E_sl (i : Nat) (s : Sl) : evE cal (.sl i) s = (match s[i]? with | none => .no | some .un => .no | some (.frz d) => .ok (.frz d, s) | some _ => .ok (.sl i, s)) := by rw [evE] <;> rfl
theorem E_cst (d : D) (s : Sl) : evE cal (.cst d) s = .ok (.frz d, s) := by rw [evE]
theorem E_gc (x : String) (d : D) (s : Sl) : evE cal (.gc x d) s = .ok (.frz d, s) := by rw [evE]
theorem E_tup (es : IEs) (s : Sl) : evE cal (.tup es) s = (evAs cal es s).bind fun (as, s1) => (takeAll as s1).bind fun (ds, s2) => req (decide (ds.length ≤ sizeLine)) (.ok (.frz (.tuple ds), s2)) := by rw [evE]
theorem E_lst (es : IEs) (s : Sl) : evE cal (.lst es) s = (evAs cal es s).bind fun (as, s1) => (takeAll as s1).bind fun (ds, s2) => req (decide (ds.length ≤ sizeLine)) (.ok (.own (.list ds), s2)) := by rw [evE]
theorem E_bin (op : Bop) (a b : IE) (s : Sl) : evE cal (.bin op a b) s = (evE cal a s).bind fun (x, s1) => (evE cal b s1).bind fun (y, s2) => (x.get s2).bind fun dx => (y.get s2).bind fun dy => (bop op dx dy).bind fun r => .ok (r, s2) := by rw [evE]
theorem E_neg (a : IE) (s : Sl) : evE cal (.neg a) s = (evE cal a s).bind fun (x, s1) => (x.get s1).bind fun d => match d with | .int i => .ok (.frz (.int (-i)), s1) | _ => .no := by rw [evE] <;> rfl
theorem E_cmp (op : Cop) (a b : IE) (s : Sl) : evE cal (.cmp op a b) s = (evE cal a s).bind fun (x, s1) => (evE cal b s1).bind fun (y, s2) => (x.get s2).bind fun dx => (y.get s2).bind fun dy => (cop op dx dy).bind fun r => .ok (.frz (.bool r), s2) := by rw [evE]
theorem E_ch2 (o1 o2 : Cop) (a b c : IE) (s : Sl) : evE cal (.ch2 o1 o2 a b c) s = (evE cal a s).bind fun (x, s1) => (evE cal b s1).bind fun (y, s2) => (x.get s2).bind fun dx => (y.get s2).bind fun dy => (cop o1 dx dy).bind fun r =>
      if r then (evE cal c s2).bind fun (z, s3) => (y.get s3).bind fun dy' => (z.get s3).bind fun dz => (cop o2 dy' dz).bind fun r2 => .ok (.frz (.bool r2), s3) else .ok (.frz (.bool false), s2) := by rw [evE]
theorem E_and (a b : IE) (s : Sl) : evE cal (.and a b) s = (evE cal a s).bind fun (x, s1) => (x.get s1).bind fun d => (truth d).bind fun t => if t then evE cal b s1 else .ok (x, s1) := by rw [evE]
theorem E_or (a b : IE) (s : Sl) : evE cal (.or a b) s = (evE cal a s).bind fun (x, s1) => (x.get s1).bind fun d => (truth d).bind fun t => if t then .ok (x, s1) else evE cal b s1 := by rw [evE]
theorem E_not (a : IE) (s : Sl) : evE cal (.not a) s = (evE cal a s).bind fun (x, s1) => (x.get s1).bind fun d => (truth d).bind fun t => .ok (.frz (.bool (!t)), s1) := by rw [evE]
theorem E_ite (c a b : IE) (s : Sl) : evE cal (.ite c a b) s = (evE cal c s).bind fun (x, s1) => (x.get s1).bind fun d => (truth d).bind fun t => if t then evE cal a s1 else evE cal b s1 := by rw [evE]
theorem E_ix (a i : IE) (s : Sl) : evE cal (.ix a i) s = (evE cal a s).bind fun (x, s1) => (evE cal i s1).bind fun (y, s2) => (x.get s2).bind fun dx => (y.get s2).bind fun dy => (item dx dy).bind fun d => .ok (.frz d, s2) := by rw [evE]
theorem E_slc (a lo hi : IE) (s : Sl) : evE cal (.slc a lo hi) s = (evE cal a s).bind fun (x, s1) => (evE cal lo s1).bind fun (l, s2) => (l.get s2).bind fun dl => (evE cal hi s2).bind fun (h, s3) => (x.get s3).bind fun dx => (h.get s3).bind fun dh => req (partB lo dl && partB hi dh) ((slice dx dl dh).bind fun r => .ok (r, s3)) := by rw [evE]
theorem E_call (f : Nat) (io : List Nat) (es : IEs) (s : Sl) : evE cal (.call f io es) s = (evAs cal es s).bind fun (as, s1) => req (okIo as s1 io) ((getAll s1 as).bind fun ds => (cal f ds).bind fun r => callEnd io as r s1) := by rw [evE]
theorem E_bi (b : Bi) (es : IEs) (s : Sl) : evE cal (.bi b es) s = (evAs cal es s).bind fun (as, s1) => (getAll s1 as).bind fun ds => (bi b ds).bind fun r => .ok (r, s1) := by rw [evE]
theorem E_mtd (m : Mut) (i : Nat) (es : IEs) (s : Sl) : evE cal (.mtd m i es) s = req (isOwn s[i]?) ((evAs cal es s).bind fun (as, s1) => (takeAll as s1).bind fun (ds, s2) => match s2[i]? with
    | some (.own d) => (mutD m d ds).bind fun (r, d') => .ok (.frz r, s2.set i (.own d'))
    | some (.io d) => (mutD m d ds).bind fun (r, d') => .ok (.frz r, s2.set i (.io d'))
    | _ => .no) := by rw [evE] <;> rfl
theorem E_cm (elt : IE) (t : IT) (it : II) (own : List Nat) (s : Sl) : evE cal (.cm elt t it own) s = (evI cal it s).bind fun (ds, s1) => req (decide (ds.length ≤ sizeLine)) ((compF (cmStep cal elt t own) ds (wipeS s1 own) []).bind fun (r, s2) => .ok (.own (.list r), backS s1 s2 own)) := by rw [evE] <;> rfl
theorem E_cmi (elt : IE) (t : IT) (it : II) (c : IE) (own : List Nat) (s : Sl) : evE cal (.cmi elt t it c own) s = (evI cal it s).bind fun (ds, s1) => req (decide (ds.length ≤ sizeLine)) ((compF (cmiStep cal elt t c own) ds (wipeS s1 own) []).bind fun (r, s2) => .ok (.own (.list r), backS s1 s2 own)) := by rw [evE] <;> rfl
theorem A_nil (s : Sl) : evAs cal .nil s = .ok ([], s) := by rw [evAs]
theorem A_cons (e : IE) (es : IEs) (s : Sl) : evAs cal (.cons e es) s = (evE cal e s).bind fun (a, s1) => (evAs cal es s1).bind fun (as, s2) => .ok (a :: as, s2) := by rw [evAs]
theorem S_asg (t : IT) (e : IE) (s : Sl) : evS cal (.asg t e) s = (evE cal e s).bind fun (a, s1) => (asgT t a s1).bind fun s2 => .ok (.nx s2) := by rw [evS]
theorem S_pas (ts : ITs) (es : IEs) (s : Sl) : evS cal (.pas ts es) s = (evAs cal es s).bind fun (as, s1) => (outAs as s1).bind fun (bs, s2) => (asgTs ts bs s2).bind fun s3 => .ok (.nx s3) := by rw [evS]
theorem S_sto (i : Nat) (k e : IE) (s : Sl) : evS cal (.sto i k e) s = (evE cal e s).bind fun (a, s1) => req (isOwn s1[i]?) ((evE cal k s1).bind fun (y, s2) => (a.take s2).bind fun (d, s3) => (y.get s3).bind fun dk => match s3[i]? with
    | some (.own l) => (store l dk d).bind fun l' => .ok (.nx (s3.set i (.own l')))
    | some (.io l) => (store l dk d).bind fun l' => .ok (.nx (s3.set i (.io l')))
    | _ => .no) := by rw [evS] <;> rfl
theorem S_ex (e : IE) (s : Sl) : evS cal (.ex e) s = (evE cal e s).bind fun (_, s1) => .ok (.nx s1) := by rw [evS]
theorem S_ite (c : IE) (a b : ISs) (s : Sl) : evS cal (.ite c a b) s = (evE cal c s).bind fun (x, s1) => (x.get s1).bind fun d => (truth d).bind fun t => if t then evSs cal a s1 else evSs cal b s1 := by rw [evS]
theorem S_for (t : IT) (it : II) (b : ISs) (s : Sl) : evS cal (.for_ t it b) s = (evI cal it s).bind fun (ds, s1) => forF cal t b ds s1 := by rw [evS] <;> rfl
theorem S_wh (c : IE) (b : ISs) (s : Sl) : evS cal (.wh c b) s = whF cal c b WF s := by rw [evS] <;> rfl
theorem S_ret (e : IE) (s : Sl) : evS cal (.ret e) s = (evE cal e s).bind fun (a, s1) => match a with
    | .frz d => .ok (.rt false d s1)
    | .own d => .ok (.rt true d s1)
    | .sl i => match s1[i]? with
      | some (.own d) => .ok (.rt true d (s1.set i .un))
      | _ => .no := by rw [evS] <;> rfl
theorem S_retn (s : Sl) : evS cal .retn s = .ok (.rt false .none s) := by rw [evS]
theorem S_brk (s : Sl) : evS cal .brk s = .ok (.bk s) := by rw [evS]
theorem S_cnt (s : Sl) : evS cal .cnt s = .ok (.ct s) := by rw [evS]
theorem S_pass (s : Sl) : evS cal .pass s = .ok (.nx s) := by rw [evS]
theorem S_raise (s : Sl) : evS cal .raise s = .no := by rw [evS]
theorem Ss_nil (s : Sl) : evSs cal .nil s = .ok (.nx s) := by rw [evSs]
theorem Ss_cons (st : IS) (ss : ISs) (s : Sl) : evSs cal (.cons st ss) s = (evS cal st s).bind fun o => match o with
    | .nx s1 => evSs cal ss s1
    | o => .ok o := by rw [evSs] <;> rfl
end
def isIo : Sv → Bool
  | .io _ => true
  | _ => false
def ioAt (s : Sl) (i : Nat) : Bool := (s[i]?.map isIo).getD false
theorem setS_at {i : Nat} {v : Sv} {s : Sl} (h : ioAt s i = false) (hl : i < s.length) : setS i v s = .ok (s.set i v) := by
  unfold ioAt at h
  unfold setS
  rw [List.getElem?_eq_getElem hl] at h ⊢
  cases e : s[i]'hl with
  | io d => rw [e] at h; cases h
  | _ => rfl
theorem bk_n (s0 s : Sl) : backS s0 s [] = s := rfl
theorem bk_c (s0 s : Sl) (v : Nat) (vs : List Nat) : backS s0 s (v :: vs) = (backS s0 s vs).set v (backV s0 v) := rfl
theorem io_bk (s : Sl) (v : Nat) : isIo (backV s v) = false := by unfold backV; split <;> rfl
theorem io_f (d : D) : isIo (.frz d) = false := rfl
theorem io_o (d : D) : isIo (.own d) = false := rfl
theorem io_u : isIo .un = false := rfl
/-! ### loops -/
/-- a comprehension that yields at every item and leaves the slots -/
theorem compF_map {step : D → Sl → R (Option D × Sl)} {s : Sl} {g : D → D} : ∀ {ds : List D} {acc : List D}, (∀ x ∈ ds, step x s = .ok (some (g x), s)) → compF step ds s acc = .ok (acc ++ ds.map g, s)
  | [], acc, _ => by rw [compF]; simp
  | x :: ds, acc, h => by
    rw [compF, h x List.mem_cons_self]
    show compF step ds s (acc ++ [g x]) = _
    rw [compF_map fun y hy => h y (List.mem_cons_of_mem _ hy)]
    simp
/-- .. that yields at some -/
theorem compF_filter {step : D → Sl → R (Option D × Sl)} {s : Sl} {p : D → Bool} {g : D → D} : ∀ {ds : List D} {acc : List D}, (∀ x ∈ ds, step x s = .ok (if p x then some (g x) else none, s)) → compF step ds s acc = .ok (acc ++ (ds.filter p).map g, s)
  | [], acc, _ => by rw [compF]; simp
  | x :: ds, acc, h => by
    rw [compF, h x List.mem_cons_self]
    have ih := fun acc => compF_filter (acc := acc) fun y hy => h y (List.mem_cons_of_mem x hy)
    cases hp : p x with
    | true =>
      show compF step ds s (acc ++ [g x]) = _
      rw [ih]
      simp [hp]
    | false =>
      show compF step ds s acc = _
      rw [ih]
      simp [hp]
/-- a for by its invariant -/
theorem loopF_inv {body : D → Sl → R Out} (I : Nat → Sl → Prop) : ∀ {ds : List D} {s : Sl} {i : Nat}, I i s → (∀ (j : Nat) x s, ds[j]? = some x → I (i + j) s → ∃ s', (body x s = .ok (.nx s') ∨ body x s = .ok (.ct s')) ∧ I (i + j + 1) s') → ∃ s', loopF body ds s = .ok (.nx s') ∧ I (i + ds.length) s'
  | [], s, i, h, _ => ⟨s, rfl, h⟩
  | x :: ds, s, i, h, step => by
    obtain ⟨s1, e, h1⟩ := step 0 x s rfl h
    obtain ⟨s2, e2, h2⟩ := loopF_inv (ds := ds) (i := i + 1) I h1 fun j y t hj ht => by
      obtain ⟨t', e', ht'⟩ := step (j + 1) y t (by simpa using hj) (by rw [show i + (j + 1) = i + 1 + j by omega]; exact ht)
      exact ⟨t', e', by rw [show i + 1 + j + 1 = i + (j + 1) + 1 by omega]; exact ht'⟩
    refine ⟨s2, ?_, by rw [List.length_cons, show i + (ds.length + 1) = i + 1 + ds.length by omega]; exact h2⟩
    rw [loopF]
    rcases e with e | e <;> (rw [e]; exact e2)
/-- a while by its invariant and a measure -/
theorem whileF_inv {c : Sl → R (Bool × Sl)} {body : Sl → R Out} (I : Sl → Prop) (m : Sl → Nat) (step : ∀ s, I s → ∃ b s1, c s = .ok (b, s1) ∧ (b = false → True) ∧ (b = true → ∃ s', (body s1 = .ok (.nx s') ∨ body s1 = .ok (.ct s')) ∧ I s' ∧ m s' < m s)) : ∀ (n : Nat) (s : Sl), I s → m s < n → ∃ s1 s', whileF c body n s = .ok (.nx s') ∧ I s1 ∧ c s1 = .ok (false, s')
  | 0, s, _, h => absurd h (Nat.not_lt_zero _)
  | n + 1, s, hI, hm => by
    obtain ⟨b, s1, e, _, hb⟩ := step s hI
    rw [whileF, e]
    cases b with
    | false => exact ⟨s, s1, rfl, hI, e⟩
    | true =>
      obtain ⟨s', e2, hI', hlt⟩ := hb rfl
      obtain ⟨t1, t', e3, h3⟩ := whileF_inv I m step n s' hI' (by omega)
      refine ⟨t1, t', ?_, h3⟩
      show (body s1).bind _ = _
      rcases e2 with e2 | e2 <;> (rw [e2]; exact e3)
end PX

namespace PX
open PySem
def f_is_integer : FD := ⟨"is_integer", 1, [], ["thing"], (.cons (.ret (.and (.bi .isI (.cons (.sl 0) .nil)) (.not (.bi .isB (.cons (.sl 0) .nil))))) .nil)⟩
def f_is_within : FD := ⟨"is_within", 3, [], ["thing", "least", "most"], (.cons (.ret (.and (.call 0 [] (.cons (.sl 0) .nil)) (.ch2 .le .le (.sl 1) (.sl 0) (.sl 2)))) .nil)⟩
def f_is_tuple : FD := ⟨"is_tuple", 3, [], ["thing", "least", "most"], (.cons (.ret (.and (.bi .isT (.cons (.sl 0) .nil)) (.ch2 .le .le (.sl 1) (.bi .len (.cons (.sl 0) .nil)) (.sl 2)))) .nil)⟩
def e0_are_numbers : IE := (.call 1 [] (.cons (.sl 4) (.cons (.cst (.int 0)) (.cons (.sl 3) .nil))))
def f_are_numbers : FD := ⟨"are_numbers", 4, [], ["thing", "least", "most", "greatest", "one"], (.cons (.ret (.and (.call 2 [] (.cons (.sl 0) (.cons (.sl 1) (.cons (.sl 2) .nil)))) (.bi .all (.cons (.cm e0_are_numbers (.nm 4) (.seq (.sl 0)) [4]) .nil)))) .nil)⟩
def f_check_bucket : FD := ⟨"check_bucket", 1, [], ["bucket"], (.cons (.ite (.or (.not (.call 2 [] (.cons (.sl 0) (.cons (.cst (.int 2)) (.cons (.cst (.int 2)) .nil))))) (.or (.not (.call 1 [] (.cons (.ix (.sl 0) (.cst (.int 0))) (.cons (.cst (.int 0)) (.cons (.gc "MOST_RATE" (.int 5)) .nil))))) (.not (.call 1 [] (.cons (.ix (.sl 0) (.cst (.int 1))) (.cons (.cst (.int 1)) (.cons (.gc "MOST_SIZE" (.int 20)) .nil))))))) (.cons .raise .nil) .nil) .nil)⟩
def e0_check_times : IE := (.cmp .le (.sl 2) (.sl 3))
def f_check_times : FD := ⟨"check_times", 2, [], ["bucket", "times", "one", "other"], (.cons (.ex (.call 4 [] (.cons (.sl 0) .nil))) (.cons (.ite (.not (.call 3 [] (.cons (.sl 1) (.cons (.cst (.int 0)) (.cons (.gc "MOST_TIMES" (.int 12)) (.cons (.gc "LAST_TIME" (.int 40)) .nil)))))) (.cons .raise .nil) .nil) (.cons (.ite (.not (.bi .all (.cons (.cm e0_check_times (.tp (.cons (.nm 2) (.cons (.nm 3) .nil))) (.zp (.sl 1) (.slc (.sl 1) (.cst (.int 1)) (.cst .none))) [2, 3]) .nil))) (.cons .raise .nil) .nil) .nil)))⟩
def f_filled : FD := ⟨"filled", 3, [], ["bucket", "tokens", "by"], (.cons (.ret (.bi .min (.cons (.ix (.sl 0) (.cst (.int 1))) (.cons (.bin .add (.sl 1) (.bin .mul (.ix (.sl 0) (.cst (.int 0))) (.sl 2))) .nil)))) .nil)⟩
def b0_poured : ISs := (.cons (.pas (.cons (.nm 2) (.cons (.nm 3) .nil)) (.cons (.call 6 [] (.cons (.sl 0) (.cons (.sl 2) (.cons (.bin .sub (.sl 5) (.sl 3)) .nil)))) (.cons (.sl 5) .nil))) (.cons (.ite (.cmp .gt (.sl 2) (.cst (.int 0))) (.cons (.asg (.nm 2) (.bin .sub (.sl 2) (.cst (.int 1)))) (.cons (.ex (.mtd .append 4 (.cons (.sl 2) .nil))) .nil)) (.cons (.ex (.mtd .append 4 (.cons (.cst .none) .nil))) .nil)) .nil))
def f_poured : FD := ⟨"poured", 2, [], ["bucket", "times", "tokens", "moment", "found", "time"], (.cons (.pas (.cons (.nm 2) (.cons (.nm 3) (.cons (.nm 4) .nil))) (.cons (.ix (.sl 0) (.cst (.int 1))) (.cons (.cst (.int 0)) (.cons (.lst .nil) .nil)))) (.cons (.for_ (.nm 5) (.seq (.sl 1)) b0_poured) (.cons (.ret (.sl 4)) .nil)))⟩
def e0_raw_let_in : IE := (.sl 2)
def k1_raw_let_in : IE := (.cmp .isn (.sl 3) (.cst .none))
def f_raw_let_in : FD := ⟨"raw_let_in", 2, [], ["bucket", "times", "number", "left"], (.cons (.ret (.bi .tuple (.cons (.cmi e0_raw_let_in (.tp (.cons (.nm 2) (.cons (.nm 3) .nil))) (.enu (.call 7 [] (.cons (.sl 0) (.cons (.sl 1) .nil)))) k1_raw_let_in [2, 3]) .nil))) .nil)⟩
def f_let_in : FD := ⟨"let_in", 2, [], ["bucket", "times"], (.cons (.ex (.call 5 [] (.cons (.sl 0) (.cons (.sl 1) .nil)))) (.cons (.ret (.call 8 [] (.cons (.sl 0) (.cons (.sl 1) .nil)))) .nil))⟩
def c0_least_size : IE := (.cmp .inn (.cst .none) (.call 7 [] (.cons (.tup (.cons (.sl 0) (.cons (.sl 2) .nil))) (.cons (.sl 1) .nil))))
def b1_least_size : ISs := (.cons (.asg (.nm 2) (.bin .add (.sl 2) (.cst (.int 1)))) .nil)
def f_least_size : FD := ⟨"least_size", 2, [], ["rate", "times", "found"], (.cons (.ex (.call 5 [] (.cons (.tup (.cons (.sl 0) (.cons (.cst (.int 1)) .nil))) (.cons (.sl 1) .nil)))) (.cons (.asg (.nm 2) (.cst (.int 1))) (.cons (.wh c0_least_size b1_least_size) (.cons (.ret (.sl 2)) .nil))))⟩
def c0_delayed : IE := (.cmp .eq (.call 6 [] (.cons (.sl 0) (.cons (.sl 2) (.cons (.sl 6) .nil)))) (.cst (.int 0)))
def b1_delayed : ISs := (.cons (.asg (.nm 6) (.bin .add (.sl 6) (.cst (.int 1)))) .nil)
def b2_delayed : ISs := (.cons (.asg (.nm 6) (.bi .max (.cons (.cst (.int 0)) (.cons (.bin .sub (.sl 5) (.sl 3)) .nil)))) (.cons (.wh c0_delayed b1_delayed) (.cons (.pas (.cons (.nm 2) (.cons (.nm 3) .nil)) (.cons (.bin .sub (.call 6 [] (.cons (.sl 0) (.cons (.sl 2) (.cons (.sl 6) .nil)))) (.cst (.int 1))) (.cons (.bin .add (.sl 3) (.sl 6)) .nil))) (.cons (.ex (.mtd .append 4 (.cons (.sl 3) .nil))) .nil))))
def f_delayed : FD := ⟨"delayed", 2, [], ["bucket", "times", "tokens", "moment", "found", "time", "by"], (.cons (.ex (.call 4 [] (.cons (.sl 0) .nil))) (.cons (.ite (.cmp .eq (.ix (.sl 0) (.cst (.int 0))) (.cst (.int 0))) (.cons .raise .nil) .nil) (.cons (.ex (.call 5 [] (.cons (.sl 0) (.cons (.sl 1) .nil)))) (.cons (.pas (.cons (.nm 2) (.cons (.nm 3) (.cons (.nm 4) .nil))) (.cons (.ix (.sl 0) (.cst (.int 1))) (.cons (.cst (.int 0)) (.cons (.lst .nil) .nil)))) (.cons (.for_ (.nm 5) (.seq (.sl 1)) b2_delayed) (.cons (.ret (.bi .tuple (.cons (.sl 4) .nil))) .nil))))))⟩
def e0_through_both : IE := (.ix (.sl 3) (.sl 4))
def e1_through_both : IE := (.ix (.sl 2) (.sl 5))
def f_through_both : FD := ⟨"through_both", 3, [], ["bucket", "other", "times", "first", "at", "number"], (.cons (.ex (.call 4 [] (.cons (.sl 0) .nil))) (.cons (.ex (.call 5 [] (.cons (.sl 1) (.cons (.sl 2) .nil)))) (.cons (.asg (.nm 3) (.call 8 [] (.cons (.sl 0) (.cons (.sl 2) .nil)))) (.cons (.ret (.bi .tuple (.cons (.cm e0_through_both (.nm 4) (.seq (.call 8 [] (.cons (.sl 1) (.cons (.cm e1_through_both (.nm 5) (.seq (.sl 3)) [5]) .nil)))) [4]) .nil))) .nil))))⟩
def b0_tokens_at : ISs := (.cons (.ite (.cmp .le (.ix (.sl 1) (.sl 5)) (.sl 2)) (.cons (.pas (.cons (.nm 3) (.cons (.nm 4) .nil)) (.cons (.bin .sub (.call 6 [] (.cons (.sl 0) (.cons (.sl 3) (.cons (.bin .sub (.ix (.sl 1) (.sl 5)) (.sl 4)) .nil)))) (.cst (.int 1))) (.cons (.ix (.sl 1) (.sl 5)) .nil))) .nil) .nil) .nil)
def f_tokens_at : FD := ⟨"tokens_at", 3, [], ["bucket", "times", "moment", "tokens", "here", "number"], (.cons (.ex (.call 5 [] (.cons (.sl 0) (.cons (.sl 1) .nil)))) (.cons (.ite (.not (.call 1 [] (.cons (.sl 2) (.cons (.cst (.int 0)) (.cons (.gc "LAST_MOMENT" (.int 60)) .nil))))) (.cons .raise .nil) .nil) (.cons (.pas (.cons (.nm 3) (.cons (.nm 4) .nil)) (.cons (.ix (.sl 0) (.cst (.int 1))) (.cons (.cst (.int 0)) .nil))) (.cons (.for_ (.nm 5) (.seq (.call 8 [] (.cons (.sl 0) (.cons (.sl 1) .nil)))) b0_tokens_at) (.cons (.ret (.call 6 [] (.cons (.sl 0) (.cons (.sl 3) (.cons (.bin .sub (.sl 2) (.sl 4)) .nil))))) .nil)))))⟩
def e0__law_hand : IE := (.bi .abs (.cons (.bi .int (.cons (.sl 2) .nil)) .nil))
def f__law_hand : FD := ⟨"_law_hand", 1, [], ["script", "cells", "cell"], (.cons (.asg (.nm 1) (.cm e0__law_hand (.nm 2) (.seq (.slc (.sl 0) (.cst .none) (.cst (.int 63)))) [2])) (.cons (.ret (.lst (.cons (.sl 1) (.cons (.cst (.int 0)) (.cons (.cst (.int 0)) (.cons (.bin .add (.cst (.int 32957)) (.bin .mul (.cst (.int 17)) (.bi .len (.cons (.sl 1) .nil)))) (.cons (.cst (.int 0)) .nil))))))) .nil))⟩
def f__law_draw : FD := ⟨"_law_draw", 2, [0], ["hand", "many", "cell", "digit", "number"], (.cons (.ite (.and (.cmp .eq (.ix (.sl 0) (.cst (.int 2))) (.cst (.int 0))) (.cmp .lt (.ix (.sl 0) (.cst (.int 1))) (.bi .len (.cons (.ix (.sl 0) (.cst (.int 0))) .nil)))) (.cons (.asg (.nm 2) (.ix (.ix (.sl 0) (.cst (.int 0))) (.ix (.sl 0) (.cst (.int 1))))) (.cons (.sto 0 (.cst (.int 1)) (.bin .add (.ix (.sl 0) (.cst (.int 1))) (.cst (.int 1)))) (.cons (.sto 0 (.cst (.int 3)) (.bin .mod (.bi .int (.cons (.bin .add (.bin .add (.bin .mul (.ix (.sl 0) (.cst (.int 3))) (.cst (.int 48271))) (.sl 2)) (.cst (.int 101))) .nil)) (.cst (.int 2147483647)))) (.cons (.ite (.cmp .ge (.sl 2) (.bin .pow (.cst (.int 10)) (.cst (.int 18)))) (.cons (.sto 0 (.cst (.int 2)) (.sl 2)) .nil) .nil) .nil)))) .nil) (.cons (.ite (.cmp .gt (.ix (.sl 0) (.cst (.int 2))) (.cst (.int 0))) (.cons (.asg (.nm 3) (.bin .mod (.bi .int (.cons (.ix (.sl 0) (.cst (.int 2))) .nil)) (.sl 1))) (.cons (.sto 0 (.cst (.int 2)) (.bin .fdiv (.ix (.sl 0) (.cst (.int 2))) (.sl 1))) (.cons (.ret (.sl 3)) .nil))) .nil) (.cons (.sto 0 (.cst (.int 4)) (.bin .add (.ix (.sl 0) (.cst (.int 4))) (.cst (.int 1)))) (.cons (.asg (.nm 4) (.bin .mod (.bi .int (.cons (.bin .mul (.bi .int (.cons (.bin .add (.ix (.sl 0) (.cst (.int 3))) (.bin .mul (.cst (.int 7703)) (.ix (.sl 0) (.cst (.int 4))))) .nil)) (.cst (.int 69621))) .nil)) (.cst (.int 2147483629)))) (.cons (.asg (.nm 4) (.bin .mod (.bi .int (.cons (.bin .mul (.sl 4) (.bin .add (.bin .fdiv (.sl 4) (.cst (.int 1019))) (.cst (.int 48271)))) .nil)) (.cst (.int 2147483647)))) (.cons (.asg (.nm 4) (.bin .mod (.bi .int (.cons (.bin .mul (.sl 4) (.bin .add (.bin .fdiv (.sl 4) (.cst (.int 2017))) (.cst (.int 16807)))) .nil)) (.cst (.int 2147483587)))) (.cons (.ret (.bin .mod (.bi .int (.cons (.bin .fdiv (.sl 4) (.cst (.int 32))) .nil)) (.sl 1))) .nil)))))))⟩
def f__law_some : FD := ⟨"_law_some", 2, [0], ["hand", "things"], (.cons (.ret (.ix (.sl 1) (.call 15 [0] (.cons (.sl 0) (.cons (.bi .len (.cons (.sl 1) .nil)) .nil))))) .nil)⟩
def e0__law_kept : IE := (.call 17 [] (.cons (.sl 2) (.cons (.sl 3) .nil)))
def f__law_kept : FD := ⟨"_law_kept", 2, [], ["thing", "due", "one", "its"], (.cons (.ite (.or (.bi .isT (.cons (.sl 1) .nil)) (.bi .isL (.cons (.sl 1) .nil))) (.cons (.ite (.or (.cmp .ne (.bi .isT (.cons (.sl 0) .nil)) (.bi .isT (.cons (.sl 1) .nil))) (.cmp .ne (.bi .isL (.cons (.sl 0) .nil)) (.bi .isL (.cons (.sl 1) .nil)))) (.cons (.ret (.cst (.bool false))) .nil) .nil) (.cons (.ret (.and (.cmp .eq (.bi .len (.cons (.sl 0) .nil)) (.bi .len (.cons (.sl 1) .nil))) (.bi .all (.cons (.cm e0__law_kept (.tp (.cons (.nm 2) (.cons (.nm 3) .nil))) (.zp (.sl 0) (.sl 1)) [2, 3]) .nil)))) .nil)) .nil) (.cons (.ite (.cmp .iss (.sl 1) (.cst .none)) (.cons (.ret (.cmp .iss (.sl 0) (.cst .none))) .nil) .nil) (.cons (.ite (.bi .isB (.cons (.sl 1) .nil)) (.cons (.ret (.ite (.sl 1) (.cmp .iss (.sl 0) (.cst (.bool true))) (.cmp .iss (.sl 0) (.cst (.bool false))))) .nil) .nil) (.cons (.ite (.bi .isI (.cons (.sl 1) .nil)) (.cons (.ret (.and (.bi .isI (.cons (.sl 0) .nil)) (.and (.not (.bi .isB (.cons (.sl 0) .nil))) (.cmp .eq (.sl 0) (.sl 1))))) .nil) .nil) (.cons (.ret (.and (.bi .isS (.cons (.sl 0) .nil)) (.cmp .eq (.sl 0) (.sl 1)))) .nil)))))⟩
def f__law_bucket : FD := ⟨"_law_bucket", 1, [0], ["hand", "rate", "size"], (.cons (.pas (.cons (.nm 1) (.cons (.nm 2) .nil)) (.cons (.call 16 [0] (.cons (.sl 0) (.cons (.lst (.cons (.cst (.int 0)) (.cons (.cst (.int 1)) (.cons (.cst (.int 1)) (.cons (.cst (.int 2)) (.cons (.cst (.int 5)) (.cons (.call 15 [0] (.cons (.sl 0) (.cons (.cst (.int 6)) .nil))) .nil))))))) .nil))) (.cons (.bin .add (.cst (.int 1)) (.call 15 [0] (.cons (.sl 0) (.cons (.cst (.int 20)) .nil)))) .nil))) (.cons (.ret (.tup (.cons (.sl 1) (.cons (.call 16 [0] (.cons (.sl 0) (.cons (.lst (.cons (.cst (.int 1)) (.cons (.cst (.int 2)) (.cons (.cst (.int 3)) (.cons (.cst (.int 20)) (.cons (.sl 2) .nil)))))) .nil))) .nil)))) .nil))⟩
def b0__law_times : ISs := (.cons (.ex (.mtd .append 1 (.cons (.sl 2) .nil))) (.cons (.asg (.nm 2) (.bi .min (.cons (.cst (.int 40)) (.cons (.bin .add (.sl 2) (.call 16 [0] (.cons (.sl 0) (.cons (.lst (.cons (.cst (.int 0)) (.cons (.cst (.int 0)) (.cons (.call 15 [0] (.cons (.sl 0) (.cons (.bin .add (.sl 3) (.cst (.int 1))) .nil))) .nil)))) .nil)))) .nil)))) .nil))
def f__law_times : FD := ⟨"_law_times", 1, [0], ["hand", "found", "at", "far", "ask"], (.cons (.pas (.cons (.nm 1) (.cons (.nm 2) (.cons (.nm 3) .nil))) (.cons (.lst .nil) (.cons (.call 15 [0] (.cons (.sl 0) (.cons (.cst (.int 4)) .nil))) (.cons (.call 16 [0] (.cons (.sl 0) (.cons (.lst (.cons (.cst (.int 1)) (.cons (.cst (.int 2)) (.cons (.cst (.int 3)) (.cons (.cst (.int 6)) .nil))))) .nil))) .nil)))) (.cons (.for_ (.nm 4) (.r1 (.call 16 [0] (.cons (.sl 0) (.cons (.lst (.cons (.cst (.int 12)) (.cons (.cst (.int 9)) (.cons (.cst (.int 5)) (.cons (.call 15 [0] (.cons (.sl 0) (.cons (.cst (.int 13)) .nil))) .nil))))) .nil)))) b0__law_times) (.cons (.ret (.bi .tuple (.cons (.sl 1) .nil))) .nil)))⟩
def b0__law_let : ISs := (.cons (.pas (.cons (.nm 4) (.cons (.nm 5) .nil)) (.cons (.bi .min (.cons (.sl 3) (.cons (.bin .add (.sl 4) (.bin .mul (.sl 2) (.bin .sub (.sl 9) (.sl 5)))) .nil))) (.cons (.sl 9) .nil))) (.cons (.ite (.cmp .gt (.sl 4) (.cst (.int 0))) (.cons (.asg (.nm 4) (.bin .sub (.sl 4) (.cst (.int 1)))) (.cons (.ex (.mtd .append 6 (.cons (.sl 8) .nil))) (.cons (.ex (.mtd .append 7 (.cons (.sl 4) .nil))) .nil))) .nil) .nil))
def f__law_let : FD := ⟨"_law_let", 2, [], ["bucket", "times", "rate", "size", "tokens", "ahead", "found", "left", "number", "time"], (.cons (.asg (.tp (.cons (.nm 2) (.cons (.nm 3) .nil))) (.sl 0)) (.cons (.pas (.cons (.nm 4) (.cons (.nm 5) (.cons (.nm 6) (.cons (.nm 7) .nil)))) (.cons (.sl 3) (.cons (.cst (.int 0)) (.cons (.lst .nil) (.cons (.lst .nil) .nil))))) (.cons (.for_ (.tp (.cons (.nm 8) (.cons (.nm 9) .nil))) (.enu (.sl 1)) b0__law_let) (.cons (.ret (.tup (.cons (.sl 6) (.cons (.sl 7) (.cons (.tup (.cons (.sl 4) (.cons (.sl 5) .nil))) .nil))))) .nil))))⟩
def c0__law_line : IE := (.cmp .lt (.bi .len (.cons (.sl 6) .nil)) (.bi .len (.cons (.sl 1) .nil)))
def c1__law_line : IE := (.and (.cmp .lt (.bi .len (.cons (.sl 6) .nil)) (.bi .len (.cons (.sl 1) .nil))) (.and (.cmp .le (.ix (.sl 1) (.bi .len (.cons (.sl 6) .nil))) (.sl 5)) (.cmp .gt (.sl 4) (.cst (.int 0)))))
def b2__law_line : ISs := (.cons (.ex (.mtd .append 6 (.cons (.sl 5) .nil))) (.cons (.asg (.nm 4) (.bin .sub (.sl 4) (.cst (.int 1)))) .nil))
def b3__law_line : ISs := (.cons (.wh c1__law_line b2__law_line) (.cons (.pas (.cons (.nm 5) (.cons (.nm 4) .nil)) (.cons (.bin .add (.sl 5) (.cst (.int 1))) (.cons (.bi .min (.cons (.sl 3) (.cons (.bin .add (.sl 4) (.sl 2)) .nil))) .nil))) .nil))
def f__law_line : FD := ⟨"_law_line", 2, [], ["bucket", "times", "rate", "size", "tokens", "moment", "found"], (.cons (.asg (.tp (.cons (.nm 2) (.cons (.nm 3) .nil))) (.sl 0)) (.cons (.pas (.cons (.nm 4) (.cons (.nm 5) (.cons (.nm 6) .nil))) (.cons (.sl 3) (.cons (.cst (.int 0)) (.cons (.lst .nil) .nil)))) (.cons (.wh c0__law_line b3__law_line) (.cons (.ret (.bi .tuple (.cons (.sl 6) .nil))) .nil))))⟩
def e0__law_tokens : IE := (.sl 6)
def k1__law_tokens : IE := (.cmp .le (.sl 6) (.sl 2))
def f__law_tokens : FD := ⟨"_law_tokens", 3, [], ["bucket", "times", "moment", "rate", "size", "some", "time", "tokens", "ahead"], (.cons (.asg (.tp (.cons (.nm 3) (.cons (.nm 4) .nil))) (.sl 0)) (.cons (.asg (.nm 5) (.cmi e0__law_tokens (.nm 6) (.seq (.sl 1)) k1__law_tokens [6])) (.cons (.asg (.tp (.cons (.nm 7) (.cons (.nm 8) .nil))) (.ix (.call 20 [] (.cons (.sl 0) (.cons (.sl 5) .nil))) (.cst (.int 2)))) (.cons (.ret (.bi .min (.cons (.sl 4) (.cons (.bin .add (.sl 7) (.bin .mul (.sl 3) (.bin .sub (.sl 2) (.sl 8)))) .nil)))) .nil))))⟩
def b0_law : ISs := (.cons (.ite (.not (.call 17 [] (.cons (.call 13 [] (.cons (.sl 3) (.cons (.sl 5) (.cons (.sl 12) .nil)))) (.cons (.call 22 [] (.cons (.sl 3) (.cons (.sl 5) (.cons (.sl 12) .nil)))) .nil)))) (.cons (.ret (.cst (.bool false))) .nil) .nil) .nil)
def e1_law : IE := (.sl 11)
def k2_law : IE := (.cmp .eq (.bi .len (.cons (.ix (.call 20 [] (.cons (.tup (.cons (.ix (.sl 3) (.cst (.int 0))) (.cons (.sl 11) .nil))) (.cons (.sl 5) .nil))) (.cst (.int 0))) .nil)) (.bi .len (.cons (.sl 5) .nil)))
def e3_law : IE := (.ix (.sl 6) (.sl 8))
def e4_law : IE := (.ix (.sl 5) (.sl 8))
def b5_law : ISs := (.cons (.pas (.cons (.nm 3) (.cons (.nm 4) (.cons (.nm 5) .nil))) (.cons (.call 18 [0] (.cons (.sl 1) .nil)) (.cons (.call 18 [0] (.cons (.sl 1) .nil)) (.cons (.call 19 [0] (.cons (.sl 1) .nil)) .nil)))) (.cons (.ite (.and (.cmp .gt (.ix (.sl 3) (.cst (.int 0))) (.cst (.int 0))) (.not (.call 17 [] (.cons (.call 11 [] (.cons (.sl 3) (.cons (.sl 5) .nil))) (.cons (.call 21 [] (.cons (.sl 3) (.cons (.sl 5) .nil))) .nil))))) (.cons (.ret (.cst (.bool false))) .nil) .nil) (.cons (.asg (.nm 6) (.ix (.call 20 [] (.cons (.sl 3) (.cons (.sl 5) .nil))) (.cst (.int 0)))) (.cons (.asg (.nm 7) (.ix (.call 20 [] (.cons (.sl 4) (.cons (.cm e4_law (.nm 8) (.seq (.sl 6)) [8]) .nil))) (.cst (.int 0)))) (.cons (.asg (.nm 9) (.bi .tuple (.cons (.cm e3_law (.nm 8) (.seq (.sl 7)) [8]) .nil))) (.cons (.ite (.not (.call 17 [] (.cons (.lst (.cons (.call 12 [] (.cons (.sl 3) (.cons (.sl 4) (.cons (.sl 5) .nil)))) (.cons (.call 9 [] (.cons (.sl 3) (.cons (.sl 5) .nil))) .nil))) (.cons (.lst (.cons (.sl 9) (.cons (.bi .tuple (.cons (.sl 6) .nil)) .nil))) .nil)))) (.cons (.ret (.cst (.bool false))) .nil) .nil) (.cons (.asg (.nm 10) (.cmi e1_law (.nm 11) (.r2 (.cst (.int 1)) (.cst (.int 14))) k2_law [11])) (.cons (.ite (.not (.call 17 [] (.cons (.call 10 [] (.cons (.ix (.sl 3) (.cst (.int 0))) (.cons (.sl 5) .nil))) (.cons (.ix (.sl 10) (.cst (.int 0))) .nil)))) (.cons (.ret (.cst (.bool false))) .nil) .nil) (.cons (.for_ (.nm 12) (.seq (.tup (.cons (.cst (.int 60)) (.cons (.call 15 [0] (.cons (.sl 1) (.cons (.cst (.int 61)) .nil))) (.cons (.call 16 [0] (.cons (.sl 1) (.cons (.bin .add (.bi .list (.cons (.sl 5) .nil)) (.lst (.cons (.cst (.int 0)) .nil))) .nil))) .nil))))) b0_law) .nil)))))))))
def f_law : FD := ⟨"law", 1, [], ["script", "hand", "turn", "bucket", "other", "times", "first", "second", "number", "due", "sizes", "size", "moment"], (.cons (.asg (.nm 1) (.call 14 [] (.cons (.sl 0) .nil))) (.cons (.for_ (.nm 2) (.r1 (.cst (.int 8))) b5_law) (.cons (.ret (.and (.cmp .eq (.call 11 [] (.cons (.tup (.cons (.cst (.int 1)) (.cons (.cst (.int 1)) .nil))) (.cons (.tup (.cons (.cst (.int 0)) (.cons (.cst (.int 0)) (.cons (.cst (.int 0)) .nil)))) .nil))) (.tup (.cons (.cst (.int 0)) (.cons (.cst (.int 1)) (.cons (.cst (.int 2)) .nil))))) (.cmp .eq (.call 10 [] (.cons (.cst (.int 0)) (.cons (.bin .mul (.tup (.cons (.cst (.int 0)) .nil)) (.cst (.int 12))) .nil))) (.cst (.int 12))))) .nil)))⟩
def tb : List FD := [f_is_integer, f_is_within, f_is_tuple, f_are_numbers, f_check_bucket, f_check_times, f_filled, f_poured, f_raw_let_in, f_let_in, f_least_size, f_delayed, f_through_both, f_tokens_at, f__law_hand, f__law_draw, f__law_some, f__law_kept, f__law_bucket, f__law_times, f__law_let, f__law_line, f__law_tokens, f_law]

end PX
set_option Elab.async false
set_option linter.all false
set_option maxRecDepth 100000
namespace PX
open PySem L2
theorem tb6 : tb[6]? = some f_filled := rfl
theorem s_filled (n : Nat) (r s t b : Int) (hr : small64 r = true) : evC tb (n + 1) 6 [.tuple [.int r, .int s], .int t, .int b] = .ok ⟨false, .int (if t + r * b < s then t + r * b else s), []⟩ := by
  rw [evC_succ tb6]
  unfold f_filled
  simp [evD, E_sl, E_cst, E_gc, E_tup, E_lst, E_bin, E_neg, E_cmp, E_ch2, E_and, E_or, E_not, E_ite, E_ix, E_slc, E_call, E_bi, E_mtd, E_cm, E_cmi, A_nil, A_cons, S_asg, S_pas, S_sto, S_ex, S_ite, S_for, S_wh, S_ret,
        S_retn, S_brk, S_cnt, S_pass, S_raise, Ss_nil, Ss_cons, evI, wipeS, bnd_ok, bind_eq, pure_eq, req_t, start0, slot0, outs, Ar.get, Ar.take, ta_nil, ta_cons, ga_nil, ga_cons, ce_eq, pT_nm, pT_tp, pTs_n, pTs_c,
        aT_o, aT_f, aT_s, aT_t, outA, outAs, asgTs, okIo, putIo, freezeAs, nlR_f, nlR_t, nlL_l, nl_n, nl_b, nl_i, nl_s, nl_t, nl_l, nls_n, nls_c, nls_ints, isSl, isOwn,   e_bi_min, e_bi_max, e_bi_lenL, e_bi_lenT,
        e_bi_abs, e_bi_int, e_bi_tupL, e_bi_tupT, e_bi_lstL, e_bi_lstT, e_isI, e_isIt, e_isIl, e_isB, e_isT, e_isTt, e_isTl, e_isL, e_isLt, e_isLl, e_add, e_sub, e_mul, e_div, e_mod, e_pow, e_catL, e_catT, e_repT,
        e_eq, e_ne, e_lt, e_le, e_gt, e_ge, e_issI, e_issN, e_isnI, e_isnN, tr_n, tr_b, tr_i, tr_l, tr_t, mu_app, sto_l, slc_l, slc_t, q_dl, q_dt, q_ll, q_lt, partB, optI, setS, backS, it_l, it_t, L2.atI, L2.ixN,
        hr]
end PX

set_option Elab.async false
set_option linter.all false
set_option maxRecDepth 100000
set_option maxHeartbeats 4000000
namespace PX
open PySem L2
def hnd (cells : List Int) (a b c e : Int) : D := .list [.list (cells.map .int), .int a, .int b, .int c, .int e]
structure HandOk (cells : List Int) (a b c e : Int) : Prop where
  a : 0 ≤ a
  b : 0 ≤ b
  c : 0 ≤ c
  e : 0 ≤ e
  cells : ∀ x ∈ cells, 0 ≤ x
theorem tb15 : tb[15]? = some f__law_draw := rfl
def mixA (c e : Int) : Int := (c + 7703 * e) * 69621 % 2147483629
def mixB (c e : Int) : Int := mixA c e * (mixA c e / 1019 + 48271) % 2147483647
def mixC (c e : Int) : Int := mixB c e * (mixB c e / 2017 + 16807) % 2147483587
theorem sm_a (x : Int) : small64 (x % 2147483629) = true := by unfold small64; simp; omega
theorem sm_b (x : Int) : small64 (x % 2147483647) = true := by unfold small64; simp; omega
theorem s_draw (n : Nat) {cells : List Int} {a b c e many : Int} (H : HandOk cells a b c e) (h0 : 0 < many) (h1 : many < 1073741824) :
    ∃ a' b' c' e' k, evC tb (n + 1) 15 [hnd cells a b c e, .int many] = .ok ⟨false, .int k, [hnd cells a' b' c' e']⟩ ∧ HandOk cells a' b' c' e' ∧ 0 ≤ k ∧ k < many := by
  obtain ⟨ha, hb, hc, he, hx⟩ := H
  have s1 : small64 48271 = true := by decide
  have s2 : small64 7703 = true := by decide
  have s3 : small64 69621 = true := by decide
  have nm : many ≠ 0 := by omega
  have hn : ∀ x m : Int, 0 < m → 0 ≤ x % m ∧ x % m < m := fun x m h => ⟨Int.emod_nonneg _ (by omega), Int.emod_lt_of_pos _ h⟩
  -- the tail: what is drawn where nothing is at hand
  by_cases c1 : b = 0 ∧ a < cells.length
  · obtain ⟨rfl, ca⟩ := c1
    have hlt : a.toNat < cells.length := by omega
    obtain ⟨cell, hcell'⟩ : ∃ x, cells[a.toNat]'hlt = x := ⟨_, rfl⟩
    have hcell : cells[a.toNat]? = some cell := by rw [List.getElem?_eq_getElem hlt, hcell']
    have hc0 := hx cell (List.mem_of_getElem? hcell)
    by_cases c2 : 1000000000000000000 ≤ cell
    · refine ⟨a + 1, cell / many, (c * 48271 + cell + 101) % 2147483647, e, cell % many, ?_, ⟨by omega, Int.ediv_nonneg hc0 (by omega), (hn _ _ (by decide)).1, he, hx⟩, (hn cell many h0).1, (hn cell many h0).2⟩
      rw [evC_succ tb15]
      unfold f__law_draw hnd
      have c3 : 0 < cell := by omega
      simp [evD, E_sl, E_cst, E_gc, E_tup, E_lst, E_bin, E_neg, E_cmp, E_ch2, E_and, E_or, E_not, E_ite, E_ix, E_slc, E_call, E_bi, E_mtd, E_cm, E_cmi, A_nil, A_cons, S_asg, S_pas, S_sto, S_ex, S_ite, S_for, S_wh, S_ret,
        S_retn, S_brk, S_cnt, S_pass, S_raise, Ss_nil, Ss_cons, evI, wipeS, bnd_ok, bind_eq, pure_eq, req_t, start0, slot0, outs, Ar.get, Ar.take, ta_nil, ta_cons, ga_nil, ga_cons, ce_eq, pT_nm, pT_tp, pTs_n, pTs_c,
        aT_o, aT_f, aT_s, aT_t, outA, outAs, asgTs, okIo, putIo, freezeAs, nlR_f, nlR_t, nlL_l, nl_n, nl_b, nl_i, nl_s, nl_t, nl_l, nls_n, nls_c, nls_ints, isSl, isOwn,   e_bi_min, e_bi_max, e_bi_lenL, e_bi_lenT,
        e_bi_abs, e_bi_int, e_bi_tupL, e_bi_tupT, e_bi_lstL, e_bi_lstT, e_isI, e_isIt, e_isIl, e_isB, e_isT, e_isTt, e_isTl, e_isL, e_isLt, e_isLl, e_add, e_sub, e_mul, e_div, e_mod, e_pow, e_catL, e_catT, e_repT,
        e_eq, e_ne, e_lt, e_le, e_gt, e_ge, e_issI, e_issN, e_isnI, e_isnN, tr_n, tr_b, tr_i, tr_l, tr_t, mu_app, sto_l, slc_l, slc_t, q_dl, q_dt, q_ll, q_lt, partB, optI, setS, backS, it_l, it_t, L2.atI, L2.ixN,
        s1, s2, s3, h0, h1, ca, ha, hcell, hcell', c2, c3]
    · refine ⟨a + 1, 0, (c * 48271 + cell + 101) % 2147483647, e + 1, mixC ((c * 48271 + cell + 101) % 2147483647) (e + 1) / 32 % many, ?_, ⟨by omega, hb, (hn _ _ (by decide)).1, by omega, hx⟩, (hn _ many h0).1, (hn _ many h0).2⟩
      rw [evC_succ tb15]
      unfold f__law_draw hnd mixC mixB mixA
      simp [evD, E_sl, E_cst, E_gc, E_tup, E_lst, E_bin, E_neg, E_cmp, E_ch2, E_and, E_or, E_not, E_ite, E_ix, E_slc, E_call, E_bi, E_mtd, E_cm, E_cmi, A_nil, A_cons, S_asg, S_pas, S_sto, S_ex, S_ite, S_for, S_wh, S_ret,
        S_retn, S_brk, S_cnt, S_pass, S_raise, Ss_nil, Ss_cons, evI, wipeS, bnd_ok, bind_eq, pure_eq, req_t, start0, slot0, outs, Ar.get, Ar.take, ta_nil, ta_cons, ga_nil, ga_cons, ce_eq, pT_nm, pT_tp, pTs_n, pTs_c,
        aT_o, aT_f, aT_s, aT_t, outA, outAs, asgTs, okIo, putIo, freezeAs, nlR_f, nlR_t, nlL_l, nl_n, nl_b, nl_i, nl_s, nl_t, nl_l, nls_n, nls_c, nls_ints, isSl, isOwn,   e_bi_min, e_bi_max, e_bi_lenL, e_bi_lenT,
        e_bi_abs, e_bi_int, e_bi_tupL, e_bi_tupT, e_bi_lstL, e_bi_lstT, e_isI, e_isIt, e_isIl, e_isB, e_isT, e_isTt, e_isTl, e_isL, e_isLt, e_isLl, e_add, e_sub, e_mul, e_div, e_mod, e_pow, e_catL, e_catT, e_repT,
        e_eq, e_ne, e_lt, e_le, e_gt, e_ge, e_issI, e_issN, e_isnI, e_isnN, tr_n, tr_b, tr_i, tr_l, tr_t, mu_app, sto_l, slc_l, slc_t, q_dl, q_dt, q_ll, q_lt, partB, optI, setS, backS, it_l, it_t, L2.atI, L2.ixN,
        s1, s2, s3, h0, h1, ca, ha, hcell, hcell', c2, sm_a, sm_b]
  · by_cases c2 : 0 < b
    · refine ⟨a, b / many, c, e, b % many, ?_, ⟨ha, Int.ediv_nonneg hb (by omega), hc, he, hx⟩, (hn b many h0).1, (hn b many h0).2⟩
      rw [evC_succ tb15]
      unfold f__law_draw hnd
      have c3 : b ≠ 0 := by omega
      simp [evD, E_sl, E_cst, E_gc, E_tup, E_lst, E_bin, E_neg, E_cmp, E_ch2, E_and, E_or, E_not, E_ite, E_ix, E_slc, E_call, E_bi, E_mtd, E_cm, E_cmi, A_nil, A_cons, S_asg, S_pas, S_sto, S_ex, S_ite, S_for, S_wh, S_ret,
        S_retn, S_brk, S_cnt, S_pass, S_raise, Ss_nil, Ss_cons, evI, wipeS, bnd_ok, bind_eq, pure_eq, req_t, start0, slot0, outs, Ar.get, Ar.take, ta_nil, ta_cons, ga_nil, ga_cons, ce_eq, pT_nm, pT_tp, pTs_n, pTs_c,
        aT_o, aT_f, aT_s, aT_t, outA, outAs, asgTs, okIo, putIo, freezeAs, nlR_f, nlR_t, nlL_l, nl_n, nl_b, nl_i, nl_s, nl_t, nl_l, nls_n, nls_c, nls_ints, isSl, isOwn,   e_bi_min, e_bi_max, e_bi_lenL, e_bi_lenT,
        e_bi_abs, e_bi_int, e_bi_tupL, e_bi_tupT, e_bi_lstL, e_bi_lstT, e_isI, e_isIt, e_isIl, e_isB, e_isT, e_isTt, e_isTl, e_isL, e_isLt, e_isLl, e_add, e_sub, e_mul, e_div, e_mod, e_pow, e_catL, e_catT, e_repT,
        e_eq, e_ne, e_lt, e_le, e_gt, e_ge, e_issI, e_issN, e_isnI, e_isnN, tr_n, tr_b, tr_i, tr_l, tr_t, mu_app, sto_l, slc_l, slc_t, q_dl, q_dt, q_ll, q_lt, partB, optI, setS, backS, it_l, it_t, L2.atI, L2.ixN,
        s1, s2, s3, h0, h1, c2, c3]
    · have c3 : b = 0 := by omega
      subst c3
      have c4 : ¬ a < cells.length := fun z => c1 ⟨rfl, z⟩
      refine ⟨a, 0, c, e + 1, mixC c (e + 1) / 32 % many, ?_, ⟨ha, hb, hc, by omega, hx⟩, (hn _ many h0).1, (hn _ many h0).2⟩
      rw [evC_succ tb15]
      unfold f__law_draw hnd mixC mixB mixA
      simp [evD, E_sl, E_cst, E_gc, E_tup, E_lst, E_bin, E_neg, E_cmp, E_ch2, E_and, E_or, E_not, E_ite, E_ix, E_slc, E_call, E_bi, E_mtd, E_cm, E_cmi, A_nil, A_cons, S_asg, S_pas, S_sto, S_ex, S_ite, S_for, S_wh, S_ret,
        S_retn, S_brk, S_cnt, S_pass, S_raise, Ss_nil, Ss_cons, evI, wipeS, bnd_ok, bind_eq, pure_eq, req_t, start0, slot0, outs, Ar.get, Ar.take, ta_nil, ta_cons, ga_nil, ga_cons, ce_eq, pT_nm, pT_tp, pTs_n, pTs_c,
        aT_o, aT_f, aT_s, aT_t, outA, outAs, asgTs, okIo, putIo, freezeAs, nlR_f, nlR_t, nlL_l, nl_n, nl_b, nl_i, nl_s, nl_t, nl_l, nls_n, nls_c, nls_ints, isSl, isOwn,   e_bi_min, e_bi_max, e_bi_lenL, e_bi_lenT,
        e_bi_abs, e_bi_int, e_bi_tupL, e_bi_tupT, e_bi_lstL, e_bi_lstT, e_isI, e_isIt, e_isIl, e_isB, e_isT, e_isTt, e_isTl, e_isL, e_isLt, e_isLl, e_add, e_sub, e_mul, e_div, e_mod, e_pow, e_catL, e_catT, e_repT,
        e_eq, e_ne, e_lt, e_le, e_gt, e_ge, e_issI, e_issN, e_isnI, e_isnN, tr_n, tr_b, tr_i, tr_l, tr_t, mu_app, sto_l, slc_l, slc_t, q_dl, q_dt, q_ll, q_lt, partB, optI, setS, backS, it_l, it_t, L2.atI, L2.ixN,
        s1, s2, s3, h0, h1, c4, sm_a, sm_b]
theorem tb16 : tb[16]? = some f__law_some := rfl
theorem s_some (n : Nat) {cells : List Int} {a b c e : Int} {xs : List D} (H : HandOk cells a b c e) (h0 : xs ≠ []) (h1 : xs.length < 1073741824) (hx : ∀ d ∈ xs, nl d = true) :
    ∃ a' b' c' e' d, evC tb (n + 2) 16 [hnd cells a b c e, .list xs] = .ok ⟨false, d, [hnd cells a' b' c' e']⟩ ∧ HandOk cells a' b' c' e' ∧ d ∈ xs := by
  have hl : (0 : Int) < xs.length := by
    cases xs with
    | nil => exact absurd rfl h0
    | cons x xs => simp
  obtain ⟨a', b', c', e', k, hd, H', k0, k1⟩ := s_draw n H hl (by omega)
  have hlt : k.toNat < xs.length := by omega
  obtain ⟨d, hk'⟩ : ∃ x, xs[k.toNat]'hlt = x := ⟨_, rfl⟩
  have hk : xs[k.toNat]? = some d := by rw [List.getElem?_eq_getElem hlt, hk']
  refine ⟨a', b', c', e', d, ?_, H', List.mem_of_getElem? hk⟩
  rw [evC_succ tb16]
  unfold f__law_some
  simp [evD, E_sl, E_cst, E_gc, E_tup, E_lst, E_bin, E_neg, E_cmp, E_ch2, E_and, E_or, E_not, E_ite, E_ix, E_slc, E_call, E_bi, E_mtd, E_cm, E_cmi, A_nil, A_cons, S_asg, S_pas, S_sto, S_ex, S_ite, S_for, S_wh, S_ret,
        S_retn, S_brk, S_cnt, S_pass, S_raise, Ss_nil, Ss_cons, evI, wipeS, bnd_ok, bind_eq, pure_eq, req_t, start0, slot0, outs, Ar.get, Ar.take, ta_nil, ta_cons, ga_nil, ga_cons, ce_eq, pT_nm, pT_tp, pTs_n, pTs_c,
        aT_o, aT_f, aT_s, aT_t, outA, outAs, asgTs, okIo, putIo, freezeAs, nlR_f, nlR_t, nlL_l, nl_n, nl_b, nl_i, nl_s, nl_t, nl_l, nls_n, nls_c, nls_ints, isSl, isOwn,   e_bi_min, e_bi_max, e_bi_lenL, e_bi_lenT,
        e_bi_abs, e_bi_int, e_bi_tupL, e_bi_tupT, e_bi_lstL, e_bi_lstT, e_isI, e_isIt, e_isIl, e_isB, e_isT, e_isTt, e_isTl, e_isL, e_isLt, e_isLl, e_add, e_sub, e_mul, e_div, e_mod, e_pow, e_catL, e_catT, e_repT,
        e_eq, e_ne, e_lt, e_le, e_gt, e_ge, e_issI, e_issN, e_isnI, e_isnN, tr_n, tr_b, tr_i, tr_l, tr_t, mu_app, sto_l, slc_l, slc_t, q_dl, q_dt, q_ll, q_lt, partB, optI, setS, backS, it_l, it_t, L2.atI, L2.ixN,
        hd, k0, k1, hk, hk']
end PX

set_option Elab.async false
set_option linter.all false
set_option maxRecDepth 100000
set_option maxHeartbeats 4000000
namespace PX
open PySem L2
def bkt (r s : Int) : D := .tuple [.int r, .int s]
structure BktOk (r s : Int) : Prop where
  r0 : 0 ≤ r
  r5 : r ≤ 5
  s1 : 1 ≤ s
  s20 : s ≤ 20
def tms (ts : List Int) : D := .tuple (ts.map .int)
structure TmsOk (ts : List Int) : Prop where
  so : ts.Pairwise (· ≤ ·)
  bd : ∀ t ∈ ts, 0 ≤ t ∧ t ≤ 40
  ln : ts.length ≤ 12
theorem sl1000 {n : Nat} (h : n ≤ 1000) : n ≤ sizeLine := Nat.le_of_lt (L2.small1000 h)
theorem sz (n : Nat) (h : n ≤ 1000 := by decide) : n ≤ sizeLine := sl1000 h
/-- one of some whole numbers -/
theorem s_pick (n : Nat) {cells : List Int} {a b c e : Int} {is : List Int} (H : HandOk cells a b c e) (h0 : is ≠ []) (h1 : is.length < 1000) :
    ∃ a' b' c' e' i, evC tb (n + 2) 16 [hnd cells a b c e, .list (is.map .int)] = .ok ⟨false, .int i, [hnd cells a' b' c' e']⟩ ∧ HandOk cells a' b' c' e' ∧ i ∈ is := by
  obtain ⟨a', b', c', e', d, h, H', hd⟩ := s_some n (xs := is.map .int) H (by simpa using h0) (by rw [List.length_map]; omega) fun d hd => by
    obtain ⟨i, _, rfl⟩ := List.mem_map.mp hd
    rfl
  obtain ⟨i, hi, rfl⟩ := List.mem_map.mp hd
  exact ⟨a', b', c', e', i, h, H', hi⟩
theorem tb18 : tb[18]? = some f__law_bucket := rfl
theorem s_bucket (n : Nat) {cells : List Int} {a b c e : Int} (H : HandOk cells a b c e) :
    ∃ a' b' c' e' r s, evC tb (n + 3) 18 [hnd cells a b c e] = .ok ⟨false, bkt r s, [hnd cells a' b' c' e']⟩ ∧ HandOk cells a' b' c' e' ∧ BktOk r s := by
  obtain ⟨a1, b1, c1, e1, k1, h1, H1, k10, k11⟩ := s_draw (n + 1) (many := 6) H (by decide) (by decide)
  obtain ⟨a2, b2, c2, e2, r, h2, H2, hr⟩ := s_pick n (is := [0, 1, 1, 2, 5, k1]) H1 (by simp) (by simp)
  obtain ⟨a3, b3, c3, e3, k3, h3, H3, k30, k31⟩ := s_draw (n + 1) (many := 20) H2 (by decide) (by decide)
  obtain ⟨a4, b4, c4, e4, s, h4, H4, hs⟩ := s_pick n (is := [1, 2, 3, 20, 1 + k3]) H3 (by simp) (by simp)
  have h1 : evC tb (n + 2) 15 _ = _ := h1
  have h3 : evC tb (n + 2) 15 _ = _ := h3
  simp only [List.map_cons, List.map_nil] at h2 h4
  refine ⟨a4, b4, c4, e4, r, s, ?_, H4, ?_, ?_, ?_, ?_⟩
  · rw [evC_succ tb18]
    unfold f__law_bucket bkt
    unfold hnd at *
    simp [evD, E_sl, E_cst, E_gc, E_tup, E_lst, E_bin, E_neg, E_cmp, E_ch2, E_and, E_or, E_not, E_ite, E_ix, E_slc, E_call, E_bi, E_mtd, E_cm, E_cmi, A_nil, A_cons, S_asg, S_pas, S_sto, S_ex, S_ite, S_for, S_wh, S_ret,
        S_retn, S_brk, S_cnt, S_pass, S_raise, Ss_nil, Ss_cons, evI, wipeS, bnd_ok, bind_eq, pure_eq, req_t, start0, slot0, outs, Ar.get, Ar.take, ta_nil, ta_cons, ga_nil, ga_cons, ce_eq, pT_nm, pT_tp, pTs_n, pTs_c,
        aT_o, aT_f, aT_s, aT_t, outA, outAs, asgTs, okIo, putIo, freezeAs, nlR_f, nlR_t, nlL_l, nl_n, nl_b, nl_i, nl_s, nl_t, nl_l, nls_n, nls_c, nls_ints, isSl, isOwn,   e_bi_min, e_bi_max, e_bi_lenL, e_bi_lenT,
        e_bi_abs, e_bi_int, e_bi_tupL, e_bi_tupT, e_bi_lstL, e_bi_lstT, e_isI, e_isIt, e_isIl, e_isB, e_isT, e_isTt, e_isTl, e_isL, e_isLt, e_isLl, e_add, e_sub, e_mul, e_div, e_mod, e_pow, e_catL, e_catT, e_repT,
        e_eq, e_ne, e_lt, e_le, e_gt, e_ge, e_issI, e_issN, e_isnI, e_isnN, tr_n, tr_b, tr_i, tr_l, tr_t, mu_app, sto_l, slc_l, slc_t, q_dl, q_dt, q_ll, q_lt, partB, optI, setS, backS, it_l, it_t, L2.atI, L2.ixN,
        h1, h2, h3, h4, sz]
  all_goals (simp only [List.mem_cons, List.not_mem_nil, or_false] at hr hs; omega)
/-! the times -/
theorem tb19 : tb[19]? = some f__law_times := rfl
def tI (cells : List Int) (far : Int) (j : Nat) (s : Sl) : Prop := ∃ (a b c e : Int) (ts : List Int) (at_ : Int) (x : Sv), s = [.io (hnd cells a b c e), .own (.list (ts.map .int)), .frz (.int at_), .frz (.int far), x] ∧ HandOk cells a b c e ∧ ts.length = j ∧ ts.Pairwise (· ≤ ·) ∧ (∀ t ∈ ts, 0 ≤ t ∧ t ≤ at_) ∧ 0 ≤ at_ ∧ at_ ≤ 40 ∧ (∀ d, x ≠ .io d)
theorem t_step (n : Nat) {cells : List Int} {far : Int} (hf : 1 ≤ far ∧ far ≤ 6) {j : Nat} (hj : j ≤ 20) {i : Int} {s : Sl} (h : tI cells far j s) :
    ∃ s', ((putT (.nm 4) (.int i) s).bind fun s2 => evSs (evC tb (n + 2)) b0__law_times s2) = .ok (.nx s') ∧ tI cells far (j + 1) s' := by
  obtain ⟨a, b, c, e, ts, at_, x, rfl, H, hl, so, bd, a0, a40, hx⟩ := h
  obtain ⟨a1, b1, c1, e1, k1, h1, H1, k10, k11⟩ := s_draw (n + 1) (many := far + 1) H (by omega) (by omega)
  obtain ⟨a2, b2, c2, e2, r, h2, H2, hr⟩ := s_pick n (is := [0, 0, k1]) H1 (by simp) (by simp)
  have h1 : evC tb (n + 2) 15 _ = _ := h1
  simp only [List.map_cons, List.map_nil] at h2
  have hr0 : 0 ≤ r := by simp only [List.mem_cons, List.not_mem_nil, or_false] at hr; omega
  have hlt : j < sizeLine := L2.small1000 (by omega)
  refine ⟨[.io (hnd cells a2 b2 c2 e2), .own (.list ((ts ++ [at_]).map .int)), .frz (.int (if at_ + r < 40 then at_ + r else 40)), .frz (.int far), .frz (.int i)], ?_, a2, b2, c2, e2, ts ++ [at_], _, _, rfl, H2, by simp [hl], ?_, ?_, ?_, ?_, fun d z => nomatch z⟩
  · unfold b0__law_times
    unfold hnd at *
    cases x with
    | io d => exact absurd rfl (hx d)
    | _ => simp [evD, E_sl, E_cst, E_gc, E_tup, E_lst, E_bin, E_neg, E_cmp, E_ch2, E_and, E_or, E_not, E_ite, E_ix, E_slc, E_call, E_bi, E_mtd, E_cm, E_cmi, A_nil, A_cons, S_asg, S_pas, S_sto, S_ex, S_ite, S_for, S_wh, S_ret,
        S_retn, S_brk, S_cnt, S_pass, S_raise, Ss_nil, Ss_cons, evI, wipeS, bnd_ok, bind_eq, pure_eq, req_t, start0, slot0, outs, Ar.get, Ar.take, ta_nil, ta_cons, ga_nil, ga_cons, ce_eq, pT_nm, pT_tp, pTs_n, pTs_c,
        aT_o, aT_f, aT_s, aT_t, outA, outAs, asgTs, okIo, putIo, freezeAs, nlR_f, nlR_t, nlL_l, nl_n, nl_b, nl_i, nl_s, nl_t, nl_l, nls_n, nls_c, nls_ints, isSl, isOwn,   e_bi_min, e_bi_max, e_bi_lenL, e_bi_lenT,
        e_bi_abs, e_bi_int, e_bi_tupL, e_bi_tupT, e_bi_lstL, e_bi_lstT, e_isI, e_isIt, e_isIl, e_isB, e_isT, e_isTt, e_isTl, e_isL, e_isLt, e_isLl, e_add, e_sub, e_mul, e_div, e_mod, e_pow, e_catL, e_catT, e_repT,
        e_eq, e_ne, e_lt, e_le, e_gt, e_ge, e_issI, e_issN, e_isnI, e_isnN, tr_n, tr_b, tr_i, tr_l, tr_t, mu_app, sto_l, slc_l, slc_t, q_dl, q_dt, q_ll, q_lt, partB, optI, setS, backS, it_l, it_t, L2.atI, L2.ixN,
        h1, h2, sz, hl, hlt]
  · rw [List.pairwise_append]
    exact ⟨so, by simp, fun x hx y hy => by simp at hy; subst hy; exact (bd x hx).2⟩
  · intro t ht
    rcases List.mem_append.mp ht with ht | ht
    · have := bd t ht
      refine ⟨this.1, ?_⟩
      split <;> omega
    · simp at ht; subst ht
      refine ⟨a0, ?_⟩
      split <;> omega
  · split <;> omega
  · split <;> omega
theorem rangeD_get {lo : Int} {n j : Nat} {c : Int} {x : D} (h : (rangeD lo n c)[j]? = some x) : x = .int (lo + (j : Nat) * c) ∧ j < n := by
  unfold rangeD at h
  rw [List.getElem?_map] at h
  cases e : (List.range n)[j]? with
  | none => rw [e] at h; cases h
  | some k =>
    rw [e] at h
    cases h
    obtain ⟨hl, e⟩ := List.getElem?_eq_some_iff.mp e
    rw [List.getElem_range] at e
    subst e
    exact ⟨rfl, by simpa using hl⟩
theorem rangeD_len (lo : Int) (n : Nat) (c : Int) : (rangeD lo n c).length = n := by simp [rangeD]
theorem s_times (n : Nat) {cells : List Int} {a b c e : Int} (H : HandOk cells a b c e) :
    ∃ a' b' c' e' ts, evC tb (n + 3) 19 [hnd cells a b c e] = .ok ⟨false, tms ts, [hnd cells a' b' c' e']⟩ ∧ HandOk cells a' b' c' e' ∧ TmsOk ts := by
  obtain ⟨a1, b1, c1, e1, k1, h1, H1, k10, k11⟩ := s_draw (n + 1) (many := 4) H (by decide) (by decide)
  obtain ⟨a2, b2, c2, e2, far, h2, H2, hfar⟩ := s_pick n (is := [1, 2, 3, 6]) H1 (by simp) (by simp)
  obtain ⟨a3, b3, c3, e3, k3, h3, H3, k30, k31⟩ := s_draw (n + 1) (many := 13) H2 (by decide) (by decide)
  obtain ⟨a4, b4, c4, e4, m, h4, H4, hm⟩ := s_pick n (is := [12, 9, 5, k3]) H3 (by simp) (by simp)
  have h1 : evC tb (n + 2) 15 _ = _ := h1
  have h3 : evC tb (n + 2) 15 _ = _ := h3
  simp only [List.map_cons, List.map_nil] at h2 h4
  have hm' : 0 ≤ m ∧ m ≤ 12 := by simp only [List.mem_cons, List.not_mem_nil, or_false] at hm; omega
  have hf' : 1 ≤ far ∧ far ≤ 6 := by simp only [List.mem_cons, List.not_mem_nil, or_false] at hfar; omega
  obtain ⟨s', he, a5, b5, c5, e5, ts, at_, x, rfl, H5, hl, so, bd, q1, q2, q3⟩ := loopF_inv (body := fun x s => (putT (.nm 4) x s).bind fun s2 => evSs (evC tb (n + 2)) b0__law_times s2) (tI cells far) (ds := rangeD 0 m.toNat 1) (s := [.io (hnd cells a4 b4 c4 e4), .own (.list (([] : List Int).map .int)), .frz (.int k1), .frz (.int far), .un]) (i := 0)
    ⟨a4, b4, c4, e4, [], k1, .un, rfl, H4, rfl, .nil, fun t ht => by simp at ht, k10, by omega, fun d z => nomatch z⟩ fun j x s hx hs => by
      obtain ⟨rfl, hj⟩ := rangeD_get hx
      obtain ⟨s', h1, h2⟩ := t_step n hf' (j := 0 + j) (by omega) (i := 0 + (j : Nat) * 1) hs
      exact ⟨s', .inl h1, h2⟩
  rw [rangeD_len] at hl
  refine ⟨a5, b5, c5, e5, ts, ?_, H5, so, fun t ht => ⟨(bd t ht).1, by have := (bd t ht).2; omega⟩, by omega⟩
  have he : forF (evC tb (n + 2)) (.nm 4) b0__law_times (rangeD 0 m.toNat 1) [.io (hnd cells a4 b4 c4 e4), .own (.list []), .frz (.int k1), .frz (.int far), .un] = _ := he
  have sm : small62 m = true := by unfold small62; simp; omega
  rw [evC_succ tb19]
  unfold f__law_times tms
  unfold hnd at *
  simp [evD, E_sl, E_cst, E_gc, E_tup, E_lst, E_bin, E_neg, E_cmp, E_ch2, E_and, E_or, E_not, E_ite, E_ix, E_slc, E_call, E_bi, E_mtd, E_cm, E_cmi, A_nil, A_cons, S_asg, S_pas, S_sto, S_ex, S_ite, S_for, S_wh, S_ret,
        S_retn, S_brk, S_cnt, S_pass, S_raise, Ss_nil, Ss_cons, evI, wipeS, bnd_ok, bind_eq, pure_eq, req_t, start0, slot0, outs, Ar.get, Ar.take, ta_nil, ta_cons, ga_nil, ga_cons, ce_eq, pT_nm, pT_tp, pTs_n, pTs_c,
        aT_o, aT_f, aT_s, aT_t, outA, outAs, asgTs, okIo, putIo, freezeAs, nlR_f, nlR_t, nlL_l, nl_n, nl_b, nl_i, nl_s, nl_t, nl_l, nls_n, nls_c, nls_ints, isSl, isOwn,   e_bi_min, e_bi_max, e_bi_lenL, e_bi_lenT,
        e_bi_abs, e_bi_int, e_bi_tupL, e_bi_tupT, e_bi_lstL, e_bi_lstT, e_isI, e_isIt, e_isIl, e_isB, e_isT, e_isTt, e_isTl, e_isL, e_isLt, e_isLl, e_add, e_sub, e_mul, e_div, e_mod, e_pow, e_catL, e_catT, e_repT,
        e_eq, e_ne, e_lt, e_le, e_gt, e_ge, e_issI, e_issN, e_isnI, e_isnN, tr_n, tr_b, tr_i, tr_l, tr_t, mu_app, sto_l, slc_l, slc_t, q_dl, q_dt, q_ll, q_lt, partB, optI, setS, backS, it_l, it_t, L2.atI, L2.ixN,
        h1, h2, h3, h4, sz, he, sm]
end PX

set_option Elab.async false
set_option linter.all false
set_option maxRecDepth 100000
set_option maxHeartbeats 4000000
namespace PX
open PySem L2
theorem tb0 : tb[0]? = some f_is_integer := rfl
theorem tb1 : tb[1]? = some f_is_within := rfl
theorem tb2 : tb[2]? = some f_is_tuple := rfl
theorem tb3 : tb[3]? = some f_are_numbers := rfl
theorem tb4 : tb[4]? = some f_check_bucket := rfl
theorem tb5 : tb[5]? = some f_check_times := rfl
theorem s_isint (n : Nat) (i : Int) : evC tb (n + 1) 0 [.int i] = .ok ⟨false, .bool true, []⟩ := by
  rw [evC_succ tb0]
  unfold f_is_integer
  simp [evD, E_sl, E_cst, E_gc, E_tup, E_lst, E_bin, E_neg, E_cmp, E_ch2, E_and, E_or, E_not, E_ite, E_ix, E_slc, E_call, E_bi, E_mtd, E_cm, E_cmi, A_nil, A_cons, S_asg, S_pas, S_sto, S_ex, S_ite, S_for, S_wh, S_ret,
        S_retn, S_brk, S_cnt, S_pass, S_raise, Ss_nil, Ss_cons, evI, wipeS, bnd_ok, bind_eq, pure_eq, req_t, start0, slot0, outs, Ar.get, Ar.take, ta_nil, ta_cons, ga_nil, ga_cons, ce_eq, pT_nm, pT_tp, pTs_n, pTs_c,
        aT_o, aT_f, aT_s, aT_t, outA, outAs, asgTs, okIo, putIo, freezeAs, nlR_f, nlR_t, nlL_l, nl_n, nl_b, nl_i, nl_s, nl_t, nl_l, nls_n, nls_c, nls_ints, isSl, isOwn,   e_bi_min, e_bi_max, e_bi_lenL, e_bi_lenT,
        e_bi_abs, e_bi_int, e_bi_tupL, e_bi_tupT, e_bi_lstL, e_bi_lstT, e_isI, e_isIt, e_isIl, e_isB, e_isT, e_isTt, e_isTl, e_isL, e_isLt, e_isLl, e_add, e_sub, e_mul, e_div, e_mod, e_pow, e_catL, e_catT, e_repT,
        e_eq, e_ne, e_lt, e_le, e_gt, e_ge, e_issI, e_issN, e_isnI, e_isnN, tr_n, tr_b, tr_i, tr_l, tr_t, mu_app, sto_l, slc_l, slc_t, q_dl, q_dt, q_ll, q_lt, partB, optI, setS, backS, it_l, it_t, L2.atI, L2.ixN]
theorem s_within (n : Nat) {i lo hi : Int} (h1 : lo ≤ i) (h2 : i ≤ hi) : evC tb (n + 2) 1 [.int i, .int lo, .int hi] = .ok ⟨false, .bool true, []⟩ := by
  rw [evC_succ tb1]
  unfold f_is_within
  simp [evD, E_sl, E_cst, E_gc, E_tup, E_lst, E_bin, E_neg, E_cmp, E_ch2, E_and, E_or, E_not, E_ite, E_ix, E_slc, E_call, E_bi, E_mtd, E_cm, E_cmi, A_nil, A_cons, S_asg, S_pas, S_sto, S_ex, S_ite, S_for, S_wh, S_ret,
        S_retn, S_brk, S_cnt, S_pass, S_raise, Ss_nil, Ss_cons, evI, wipeS, bnd_ok, bind_eq, pure_eq, req_t, start0, slot0, outs, Ar.get, Ar.take, ta_nil, ta_cons, ga_nil, ga_cons, ce_eq, pT_nm, pT_tp, pTs_n, pTs_c,
        aT_o, aT_f, aT_s, aT_t, outA, outAs, asgTs, okIo, putIo, freezeAs, nlR_f, nlR_t, nlL_l, nl_n, nl_b, nl_i, nl_s, nl_t, nl_l, nls_n, nls_c, nls_ints, isSl, isOwn,   e_bi_min, e_bi_max, e_bi_lenL, e_bi_lenT,
        e_bi_abs, e_bi_int, e_bi_tupL, e_bi_tupT, e_bi_lstL, e_bi_lstT, e_isI, e_isIt, e_isIl, e_isB, e_isT, e_isTt, e_isTl, e_isL, e_isLt, e_isLl, e_add, e_sub, e_mul, e_div, e_mod, e_pow, e_catL, e_catT, e_repT,
        e_eq, e_ne, e_lt, e_le, e_gt, e_ge, e_issI, e_issN, e_isnI, e_isnN, tr_n, tr_b, tr_i, tr_l, tr_t, mu_app, sto_l, slc_l, slc_t, q_dl, q_dt, q_ll, q_lt, partB, optI, setS, backS, it_l, it_t, L2.atI, L2.ixN,
        s_isint, h1, h2]
theorem s_istup (n : Nat) {xs : List D} {lo hi : Int} (h1 : lo ≤ xs.length) (h2 : xs.length ≤ hi) : evC tb (n + 1) 2 [.tuple xs, .int lo, .int hi] = .ok ⟨false, .bool true, []⟩ := by
  rw [evC_succ tb2]
  unfold f_is_tuple
  simp [evD, E_sl, E_cst, E_gc, E_tup, E_lst, E_bin, E_neg, E_cmp, E_ch2, E_and, E_or, E_not, E_ite, E_ix, E_slc, E_call, E_bi, E_mtd, E_cm, E_cmi, A_nil, A_cons, S_asg, S_pas, S_sto, S_ex, S_ite, S_for, S_wh, S_ret,
        S_retn, S_brk, S_cnt, S_pass, S_raise, Ss_nil, Ss_cons, evI, wipeS, bnd_ok, bind_eq, pure_eq, req_t, start0, slot0, outs, Ar.get, Ar.take, ta_nil, ta_cons, ga_nil, ga_cons, ce_eq, pT_nm, pT_tp, pTs_n, pTs_c,
        aT_o, aT_f, aT_s, aT_t, outA, outAs, asgTs, okIo, putIo, freezeAs, nlR_f, nlR_t, nlL_l, nl_n, nl_b, nl_i, nl_s, nl_t, nl_l, nls_n, nls_c, nls_ints, isSl, isOwn,   e_bi_min, e_bi_max, e_bi_lenL, e_bi_lenT,
        e_bi_abs, e_bi_int, e_bi_tupL, e_bi_tupT, e_bi_lstL, e_bi_lstT, e_isI, e_isIt, e_isIl, e_isB, e_isT, e_isTt, e_isTl, e_isL, e_isLt, e_isLl, e_add, e_sub, e_mul, e_div, e_mod, e_pow, e_catL, e_catT, e_repT,
        e_eq, e_ne, e_lt, e_le, e_gt, e_ge, e_issI, e_issN, e_isnI, e_isnN, tr_n, tr_b, tr_i, tr_l, tr_t, mu_app, sto_l, slc_l, slc_t, q_dl, q_dt, q_ll, q_lt, partB, optI, setS, backS, it_l, it_t, L2.atI, L2.ixN,
        h1, h2]
theorem all_true (n : Nat) : bi .all [.list (List.replicate n (.bool true))] = .ok (.frz (.bool true)) := by
    have : ∀ n : Nat, boolsD (List.replicate n (PyData.bool true)) = some (List.replicate n true) := by
      intro n
      induction n with
      | zero => rfl
      | succ n ih => rw [List.replicate_succ, boolsD, ih]; rfl
    rw [e_bi_all, this]
    have h2 : (List.replicate n true).all id = true := by
      rw [List.all_eq_true]
      intro x hx
      rw [(List.mem_replicate.mp hx).2]; rfl
    show okB _ = _
    rw [h2]; rfl
theorem map_const {α β : Type} (f : α → β) (b : β) (h : ∀ x, f x = b) : ∀ l : List α, l.map f = List.replicate l.length b
  | [] => rfl
  | x :: l => by rw [List.map_cons, h, map_const f b h l]; rfl
theorem s_numbers (n : Nat) {ts : List Int} {lo hi g : Int} (h1 : lo ≤ ts.length) (h2 : ts.length ≤ hi) (hb : ∀ t ∈ ts, 0 ≤ t ∧ t ≤ g) (hl : ts.length ≤ 1000) : evC tb (n + 3) 3 [tms ts, .int lo, .int hi, .int g] = .ok ⟨false, .bool true, []⟩ := by
  have hc : compF (cmStep (evC tb (n + 2)) e0_are_numbers (.nm 4) [4]) (ts.map .int) [.frz (tms ts), .frz (.int lo), .frz (.int hi), .frz (.int g), .un] [] = .ok (List.replicate ts.length (.bool true), [.frz (tms ts), .frz (.int lo), .frz (.int hi), .frz (.int g), .un]) := by
    rw [compF_map (g := fun _ => .bool true) fun x hx => ?_, map_const _ _ fun _ => rfl, List.length_map]
    · simp
    · obtain ⟨t, ht, rfl⟩ := List.mem_map.mp hx
      unfold cmStep e0_are_numbers
      simp [evD, E_sl, E_cst, E_gc, E_tup, E_lst, E_bin, E_neg, E_cmp, E_ch2, E_and, E_or, E_not, E_ite, E_ix, E_slc, E_call, E_bi, E_mtd, E_cm, E_cmi, A_nil, A_cons, S_asg, S_pas, S_sto, S_ex, S_ite, S_for, S_wh, S_ret,
        S_retn, S_brk, S_cnt, S_pass, S_raise, Ss_nil, Ss_cons, evI, wipeS, bnd_ok, bind_eq, pure_eq, req_t, start0, slot0, outs, Ar.get, Ar.take, ta_nil, ta_cons, ga_nil, ga_cons, ce_eq, pT_nm, pT_tp, pTs_n, pTs_c,
        aT_o, aT_f, aT_s, aT_t, outA, outAs, asgTs, okIo, putIo, freezeAs, nlR_f, nlR_t, nlL_l, nl_n, nl_b, nl_i, nl_s, nl_t, nl_l, nls_n, nls_c, nls_ints, isSl, isOwn,   e_bi_min, e_bi_max, e_bi_lenL, e_bi_lenT,
        e_bi_abs, e_bi_int, e_bi_tupL, e_bi_tupT, e_bi_lstL, e_bi_lstT, e_isI, e_isIt, e_isIl, e_isB, e_isT, e_isTt, e_isTl, e_isL, e_isLt, e_isLl, e_add, e_sub, e_mul, e_div, e_mod, e_pow, e_catL, e_catT, e_repT,
        e_eq, e_ne, e_lt, e_le, e_gt, e_ge, e_issI, e_issN, e_isnI, e_isnN, tr_n, tr_b, tr_i, tr_l, tr_t, mu_app, sto_l, slc_l, slc_t, q_dl, q_dt, q_ll, q_lt, partB, optI, setS, backS, it_l, it_t, L2.atI, L2.ixN,
        s_within n (hb t ht).1 (hb t ht).2]
  have hh := s_istup (n + 1) (xs := ts.map .int) (lo := lo) (hi := hi) (by rw [List.length_map]; exact h1) (by rw [List.length_map]; exact h2)
  have hh : evC tb (n + 2) 2 _ = _ := hh
  rw [evC_succ tb3]
  unfold f_are_numbers
  unfold tms at *
  simp [evD, E_sl, E_cst, E_gc, E_tup, E_lst, E_bin, E_neg, E_cmp, E_ch2, E_and, E_or, E_not, E_ite, E_ix, E_slc, E_call, E_bi, E_mtd, E_cm, E_cmi, A_nil, A_cons, S_asg, S_pas, S_sto, S_ex, S_ite, S_for, S_wh, S_ret,
        S_retn, S_brk, S_cnt, S_pass, S_raise, Ss_nil, Ss_cons, evI, wipeS, bnd_ok, bind_eq, pure_eq, req_t, start0, slot0, outs, Ar.get, Ar.take, ta_nil, ta_cons, ga_nil, ga_cons, ce_eq, pT_nm, pT_tp, pTs_n, pTs_c,
        aT_o, aT_f, aT_s, aT_t, outA, outAs, asgTs, okIo, putIo, freezeAs, nlR_f, nlR_t, nlL_l, nl_n, nl_b, nl_i, nl_s, nl_t, nl_l, nls_n, nls_c, nls_ints, isSl, isOwn,   e_bi_min, e_bi_max, e_bi_lenL, e_bi_lenT,
        e_bi_abs, e_bi_int, e_bi_tupL, e_bi_tupT, e_bi_lstL, e_bi_lstT, e_isI, e_isIt, e_isIl, e_isB, e_isT, e_isTt, e_isTl, e_isL, e_isLt, e_isLl, e_add, e_sub, e_mul, e_div, e_mod, e_pow, e_catL, e_catT, e_repT,
        e_eq, e_ne, e_lt, e_le, e_gt, e_ge, e_issI, e_issN, e_isnI, e_isnN, tr_n, tr_b, tr_i, tr_l, tr_t, mu_app, sto_l, slc_l, slc_t, q_dl, q_dt, q_ll, q_lt, partB, optI, setS, backS, it_l, it_t, L2.atI, L2.ixN,
        hh, hc, all_true, sl1000 hl]
theorem s_ckb (n : Nat) {r s : Int} (B : BktOk r s) : evC tb (n + 3) 4 [bkt r s] = .ok ⟨false, .none, []⟩ := by
  obtain ⟨b1, b2, b3, b4⟩ := B
  have h1 : evC tb (n + 2) 2 _ = _ := s_istup (n + 1) (xs := [.int r, .int s]) (lo := 2) (hi := 2) (by simp) (by simp)
  rw [evC_succ tb4]
  unfold f_check_bucket bkt
  simp [evD, E_sl, E_cst, E_gc, E_tup, E_lst, E_bin, E_neg, E_cmp, E_ch2, E_and, E_or, E_not, E_ite, E_ix, E_slc, E_call, E_bi, E_mtd, E_cm, E_cmi, A_nil, A_cons, S_asg, S_pas, S_sto, S_ex, S_ite, S_for, S_wh, S_ret,
        S_retn, S_brk, S_cnt, S_pass, S_raise, Ss_nil, Ss_cons, evI, wipeS, bnd_ok, bind_eq, pure_eq, req_t, start0, slot0, outs, Ar.get, Ar.take, ta_nil, ta_cons, ga_nil, ga_cons, ce_eq, pT_nm, pT_tp, pTs_n, pTs_c,
        aT_o, aT_f, aT_s, aT_t, outA, outAs, asgTs, okIo, putIo, freezeAs, nlR_f, nlR_t, nlL_l, nl_n, nl_b, nl_i, nl_s, nl_t, nl_l, nls_n, nls_c, nls_ints, isSl, isOwn,   e_bi_min, e_bi_max, e_bi_lenL, e_bi_lenT,
        e_bi_abs, e_bi_int, e_bi_tupL, e_bi_tupT, e_bi_lstL, e_bi_lstT, e_isI, e_isIt, e_isIl, e_isB, e_isT, e_isTt, e_isTl, e_isL, e_isLt, e_isLl, e_add, e_sub, e_mul, e_div, e_mod, e_pow, e_catL, e_catT, e_repT,
        e_eq, e_ne, e_lt, e_le, e_gt, e_ge, e_issI, e_issN, e_isnI, e_isnN, tr_n, tr_b, tr_i, tr_l, tr_t, mu_app, sto_l, slc_l, slc_t, q_dl, q_dt, q_ll, q_lt, partB, optI, setS, backS, it_l, it_t, L2.atI, L2.ixN,
        h1, s_within n b1 b2, s_within n b3 b4]
/-- each beside the next -/
theorem zip_le : ∀ ts : List Int, ts.Pairwise (· ≤ ·) → ∀ x ∈ zip2 (ts.map PyData.int) ((ts.map PyData.int).tail), ∃ a b : Int, x = .tuple [.int a, .int b] ∧ a ≤ b
  | [], _, x, hx => by simp [zip2] at hx
  | [a], _, x, hx => by simp [zip2] at hx
  | a :: b :: ts, so, x, hx => by
    simp only [List.map_cons, List.tail_cons, zip2, List.mem_cons] at hx
    have so' := List.pairwise_cons.mp so
    rcases hx with rfl | hx
    · exact ⟨a, b, rfl, so'.1 b List.mem_cons_self⟩
    · exact zip_le (b :: ts) so'.2 x hx
theorem cut_tail (ts : List Int) : cutD (ts.map PyData.int) (some 1) none = (ts.map PyData.int).tail := by
  unfold cutD
  cases ts with
  | nil => simp
  | cons a ts =>
    have e1 : HT.sIx (List.map PyData.int (a :: ts)).length 0 (some 1) = 1 := by
      simp [HT.sIx]
      try omega
    have e2 : HT.sIx (List.map PyData.int (a :: ts)).length (List.map PyData.int (a :: ts)).length none = ts.length + 1 := by simp [HT.sIx]
    rw [e1, e2]
    simp
    exact List.take_of_length_le (by simp)
theorem zip2_len1 (xs ys : List D) : (zip2 xs ys).length ≤ xs.length := by rw [zip2_length]; exact Nat.min_le_left _ _
theorem s_ckt (n : Nat) {r s : Int} {ts : List Int} (B : BktOk r s) (W : TmsOk ts) : evC tb (n + 4) 5 [bkt r s, tms ts] = .ok ⟨false, .none, []⟩ := by
  obtain ⟨so, bd, ln⟩ := W
  have h1 : evC tb (n + 3) 4 _ = _ := s_ckb n B
  have h2 : evC tb (n + 3) 3 _ = _ := s_numbers n (ts := ts) (lo := 0) (hi := 12) (g := 40) (by omega) (by omega) bd (by omega)
  have hz : (zip2 (ts.map PyData.int) ((ts.map PyData.int).tail)).length ≤ 1000 := Nat.le_trans (zip2_len1 _ _) (by rw [List.length_map]; omega)
  have hc : compF (cmStep (evC tb (n + 3)) e0_check_times (.tp (.cons (.nm 2) (.cons (.nm 3) .nil))) [2, 3]) (zip2 (ts.map .int) ((ts.map PyData.int).tail)) [.frz (bkt r s), .frz (tms ts), .un, .un] [] = .ok (List.replicate (zip2 (ts.map PyData.int) ((ts.map PyData.int).tail)).length (.bool true), [.frz (bkt r s), .frz (tms ts), .un, .un]) := by
    rw [compF_map (g := fun _ => .bool true) fun x hx => ?_, map_const _ _ fun _ => rfl]
    · simp
    · obtain ⟨a, b, rfl, hab⟩ := zip_le ts so x hx
      unfold cmStep e0_check_times
      simp [evD, E_sl, E_cst, E_gc, E_tup, E_lst, E_bin, E_neg, E_cmp, E_ch2, E_and, E_or, E_not, E_ite, E_ix, E_slc, E_call, E_bi, E_mtd, E_cm, E_cmi, A_nil, A_cons, S_asg, S_pas, S_sto, S_ex, S_ite, S_for, S_wh, S_ret,
        S_retn, S_brk, S_cnt, S_pass, S_raise, Ss_nil, Ss_cons, evI, wipeS, bnd_ok, bind_eq, pure_eq, req_t, start0, slot0, outs, Ar.get, Ar.take, ta_nil, ta_cons, ga_nil, ga_cons, ce_eq, pT_nm, pT_tp, pTs_n, pTs_c,
        aT_o, aT_f, aT_s, aT_t, outA, outAs, asgTs, okIo, putIo, freezeAs, nlR_f, nlR_t, nlL_l, nl_n, nl_b, nl_i, nl_s, nl_t, nl_l, nls_n, nls_c, nls_ints, isSl, isOwn,   e_bi_min, e_bi_max, e_bi_lenL, e_bi_lenT,
        e_bi_abs, e_bi_int, e_bi_tupL, e_bi_tupT, e_bi_lstL, e_bi_lstT, e_isI, e_isIt, e_isIl, e_isB, e_isT, e_isTt, e_isTl, e_isL, e_isLt, e_isLl, e_add, e_sub, e_mul, e_div, e_mod, e_pow, e_catL, e_catT, e_repT,
        e_eq, e_ne, e_lt, e_le, e_gt, e_ge, e_issI, e_issN, e_isnI, e_isnN, tr_n, tr_b, tr_i, tr_l, tr_t, mu_app, sto_l, slc_l, slc_t, q_dl, q_dt, q_ll, q_lt, partB, optI, setS, backS, it_l, it_t, L2.atI, L2.ixN,
        hab]
  rw [evC_succ tb5]
  unfold f_check_times
  unfold tms bkt at *
  simp [evD, E_sl, E_cst, E_gc, E_tup, E_lst, E_bin, E_neg, E_cmp, E_ch2, E_and, E_or, E_not, E_ite, E_ix, E_slc, E_call, E_bi, E_mtd, E_cm, E_cmi, A_nil, A_cons, S_asg, S_pas, S_sto, S_ex, S_ite, S_for, S_wh, S_ret,
        S_retn, S_brk, S_cnt, S_pass, S_raise, Ss_nil, Ss_cons, evI, wipeS, bnd_ok, bind_eq, pure_eq, req_t, start0, slot0, outs, Ar.get, Ar.take, ta_nil, ta_cons, ga_nil, ga_cons, ce_eq, pT_nm, pT_tp, pTs_n, pTs_c,
        aT_o, aT_f, aT_s, aT_t, outA, outAs, asgTs, okIo, putIo, freezeAs, nlR_f, nlR_t, nlL_l, nl_n, nl_b, nl_i, nl_s, nl_t, nl_l, nls_n, nls_c, nls_ints, isSl, isOwn,   e_bi_min, e_bi_max, e_bi_lenL, e_bi_lenT,
        e_bi_abs, e_bi_int, e_bi_tupL, e_bi_tupT, e_bi_lstL, e_bi_lstT, e_isI, e_isIt, e_isIl, e_isB, e_isT, e_isTt, e_isTl, e_isL, e_isLt, e_isLl, e_add, e_sub, e_mul, e_div, e_mod, e_pow, e_catL, e_catT, e_repT,
        e_eq, e_ne, e_lt, e_le, e_gt, e_ge, e_issI, e_issN, e_isnI, e_isnN, tr_n, tr_b, tr_i, tr_l, tr_t, mu_app, sto_l, slc_l, slc_t, q_dl, q_dt, q_ll, q_lt, partB, optI, setS, backS, it_l, it_t, L2.atI, L2.ixN,
        h1, h2, hc, cut_tail, all_true, sl1000 hz]
end PX

set_option Elab.async false
set_option linter.all false
set_option maxRecDepth 100000
set_option maxHeartbeats 4000000
namespace PX
open PySem L2
def fill (r s t b : Int) : Int := if t + r * b < s then t + r * b else s
def pour (r s : Int) : Int → Int → List Int → List (Option Int)
  | _, _, [] => []
  | tk, m, t :: ts => if 0 < fill r s tk (t - m) then some (fill r s tk (t - m) - 1) :: pour r s (fill r s tk (t - m) - 1) t ts else none :: pour r s (fill r s tk (t - m)) t ts
def endSt (r s : Int) : Int → Int → List Int → Int × Int
  | tk, m, [] => (tk, m)
  | tk, m, t :: ts => if 0 < fill r s tk (t - m) then endSt r s (fill r s tk (t - m) - 1) t ts else endSt r s (fill r s tk (t - m)) t ts
def optD : Option Int → D
  | none => .none
  | some i => .int i
def idx : Nat → List (Option Int) → List Int
  | _, [] => []
  | n, some _ :: r => n :: idx (n + 1) r
  | n, none :: r => idx (n + 1) r
theorem pour_len (r s : Int) : ∀ (ts : List Int) (tk m : Int), (pour r s tk m ts).length = ts.length
  | [], _, _ => rfl
  | t :: ts, tk, m => by
    unfold pour
    split <;> simp [pour_len r s ts]
theorem sm_r {r : Int} (h0 : 0 ≤ r) (h5 : r ≤ 5) : small64 r = true := by unfold small64; simp; omega
theorem s_fill (n : Nat) {r s : Int} (hr : small64 r = true) (t b : Int) : evC tb (n + 1) 6 [bkt r s, .int t, .int b] = .ok ⟨false, .int (fill r s t b), []⟩ := s_filled n r s t b hr
theorem tb7 : tb[7]? = some f_poured := rfl
theorem pour_loop (n : Nat) {r s : Int} (hr : small64 r = true) (D0 : D) : ∀ (ts : List Int) (tk m : Int) (acc : List D) (x : Sv), (∀ d, x ≠ .io d) → acc.length + ts.length ≤ 1000 →
    ∃ tk' m' x', forF (evC tb (n + 1)) (.nm 5) b0_poured (ts.map .int) [.frz (bkt r s), .frz D0, .frz (.int tk), .frz (.int m), .own (.list acc), x] = .ok (.nx [.frz (bkt r s), .frz D0, .frz (.int tk'), .frz (.int m'), .own (.list (acc ++ (pour r s tk m ts).map optD)), x'])
  | [], tk, m, acc, x, _, _ => ⟨tk, m, x, by unfold forF loopF; simp [pour]⟩
  | t :: ts, tk, m, acc, x, hx, hl => by
    rw [List.length_cons] at hl
    have hlt : acc.length < sizeLine := L2.small1000 (by omega)
    by_cases hk : 0 < fill r s tk (t - m)
    · obtain ⟨tk', m', x', ih⟩ := pour_loop n hr D0 ts (fill r s tk (t - m) - 1) t (acc ++ [.int (fill r s tk (t - m) - 1)]) (.frz (.int t)) (fun d z => nomatch z) (by simp; omega)
      refine ⟨tk', m', x', ?_⟩
      have st : ((putT (.nm 5) (.int t) [.frz (bkt r s), .frz D0, .frz (.int tk), .frz (.int m), .own (.list acc), x]).bind fun s2 => evSs (evC tb (n + 1)) b0_poured s2) = .ok (.nx [.frz (bkt r s), .frz D0, .frz (.int (fill r s tk (t - m) - 1)), .frz (.int t), .own (.list (acc ++ [.int (fill r s tk (t - m) - 1)])), .frz (.int t)]) := by
        unfold b0_poured
        cases x with
        | io d => exact absurd rfl (hx d)
        | _ => simp [evD, E_sl, E_cst, E_gc, E_tup, E_lst, E_bin, E_neg, E_cmp, E_ch2, E_and, E_or, E_not, E_ite, E_ix, E_slc, E_call, E_bi, E_mtd, E_cm, E_cmi, A_nil, A_cons, S_asg, S_pas, S_sto, S_ex, S_ite, S_for, S_wh, S_ret,
        S_retn, S_brk, S_cnt, S_pass, S_raise, Ss_nil, Ss_cons, evI, wipeS, bnd_ok, bind_eq, pure_eq, req_t, start0, slot0, outs, Ar.get, Ar.take, ta_nil, ta_cons, ga_nil, ga_cons, ce_eq, pT_nm, pT_tp, pTs_n, pTs_c,
        aT_o, aT_f, aT_s, aT_t, outA, outAs, asgTs, okIo, putIo, freezeAs, nlR_f, nlR_t, nlL_l, nl_n, nl_b, nl_i, nl_s, nl_t, nl_l, nls_n, nls_c, nls_ints, isSl, isOwn,   e_bi_min, e_bi_max, e_bi_lenL, e_bi_lenT,
        e_bi_abs, e_bi_int, e_bi_tupL, e_bi_tupT, e_bi_lstL, e_bi_lstT, e_isI, e_isIt, e_isIl, e_isB, e_isT, e_isTt, e_isTl, e_isL, e_isLt, e_isLl, e_add, e_sub, e_mul, e_div, e_mod, e_pow, e_catL, e_catT, e_repT,
        e_eq, e_ne, e_lt, e_le, e_gt, e_ge, e_issI, e_issN, e_isnI, e_isnN, tr_n, tr_b, tr_i, tr_l, tr_t, mu_app, sto_l, slc_l, slc_t, q_dl, q_dt, q_ll, q_lt, partB, optI, setS, backS, it_l, it_t, L2.atI, L2.ixN,
        s_fill n hr, hk, hlt]
      unfold forF at ih ⊢
      rw [List.map_cons, loopF, st, bnd_ok]
      refine ih.trans ?_
      rw [pour, if_pos hk]
      simp [optD]
    · obtain ⟨tk', m', x', ih⟩ := pour_loop n hr D0 ts (fill r s tk (t - m)) t (acc ++ [.none]) (.frz (.int t)) (fun d z => nomatch z) (by simp; omega)
      refine ⟨tk', m', x', ?_⟩
      have st : ((putT (.nm 5) (.int t) [.frz (bkt r s), .frz D0, .frz (.int tk), .frz (.int m), .own (.list acc), x]).bind fun s2 => evSs (evC tb (n + 1)) b0_poured s2) = .ok (.nx [.frz (bkt r s), .frz D0, .frz (.int (fill r s tk (t - m))), .frz (.int t), .own (.list (acc ++ [.none])), .frz (.int t)]) := by
        unfold b0_poured
        cases x with
        | io d => exact absurd rfl (hx d)
        | _ => simp [evD, E_sl, E_cst, E_gc, E_tup, E_lst, E_bin, E_neg, E_cmp, E_ch2, E_and, E_or, E_not, E_ite, E_ix, E_slc, E_call, E_bi, E_mtd, E_cm, E_cmi, A_nil, A_cons, S_asg, S_pas, S_sto, S_ex, S_ite, S_for, S_wh, S_ret,
        S_retn, S_brk, S_cnt, S_pass, S_raise, Ss_nil, Ss_cons, evI, wipeS, bnd_ok, bind_eq, pure_eq, req_t, start0, slot0, outs, Ar.get, Ar.take, ta_nil, ta_cons, ga_nil, ga_cons, ce_eq, pT_nm, pT_tp, pTs_n, pTs_c,
        aT_o, aT_f, aT_s, aT_t, outA, outAs, asgTs, okIo, putIo, freezeAs, nlR_f, nlR_t, nlL_l, nl_n, nl_b, nl_i, nl_s, nl_t, nl_l, nls_n, nls_c, nls_ints, isSl, isOwn,   e_bi_min, e_bi_max, e_bi_lenL, e_bi_lenT,
        e_bi_abs, e_bi_int, e_bi_tupL, e_bi_tupT, e_bi_lstL, e_bi_lstT, e_isI, e_isIt, e_isIl, e_isB, e_isT, e_isTt, e_isTl, e_isL, e_isLt, e_isLl, e_add, e_sub, e_mul, e_div, e_mod, e_pow, e_catL, e_catT, e_repT,
        e_eq, e_ne, e_lt, e_le, e_gt, e_ge, e_issI, e_issN, e_isnI, e_isnN, tr_n, tr_b, tr_i, tr_l, tr_t, mu_app, sto_l, slc_l, slc_t, q_dl, q_dt, q_ll, q_lt, partB, optI, setS, backS, it_l, it_t, L2.atI, L2.ixN,
        s_fill n hr, hk, hlt]
      unfold forF at ih ⊢
      rw [List.map_cons, loopF, st, bnd_ok]
      refine ih.trans ?_
      rw [pour, if_neg hk]
      simp [optD]
theorem s_poured (n : Nat) {r s : Int} (hr : small64 r = true) {d : D} {ts : List Int} (hd : seqD d = .ok (ts.map .int)) (hl : ts.length ≤ 1000) : evC tb (n + 2) 7 [bkt r s, d] = .ok ⟨true, .list ((pour r s s 0 ts).map optD), []⟩ := by
  obtain ⟨tk', m', x', h⟩ := pour_loop n hr (s := s) d ts s 0 [] .un (fun d z => nomatch z) (by simpa using hl)
  rw [evC_succ tb7]
  unfold f_poured
  unfold bkt at *
  simp [evD, E_sl, E_cst, E_gc, E_tup, E_lst, E_bin, E_neg, E_cmp, E_ch2, E_and, E_or, E_not, E_ite, E_ix, E_slc, E_call, E_bi, E_mtd, E_cm, E_cmi, A_nil, A_cons, S_asg, S_pas, S_sto, S_ex, S_ite, S_for, S_wh, S_ret,
        S_retn, S_brk, S_cnt, S_pass, S_raise, Ss_nil, Ss_cons, evI, wipeS, bnd_ok, bind_eq, pure_eq, req_t, start0, slot0, outs, Ar.get, Ar.take, ta_nil, ta_cons, ga_nil, ga_cons, ce_eq, pT_nm, pT_tp, pTs_n, pTs_c,
        aT_o, aT_f, aT_s, aT_t, outA, outAs, asgTs, okIo, putIo, freezeAs, nlR_f, nlR_t, nlL_l, nl_n, nl_b, nl_i, nl_s, nl_t, nl_l, nls_n, nls_c, nls_ints, isSl, isOwn,   e_bi_min, e_bi_max, e_bi_lenL, e_bi_lenT,
        e_bi_abs, e_bi_int, e_bi_tupL, e_bi_tupT, e_bi_lstL, e_bi_lstT, e_isI, e_isIt, e_isIl, e_isB, e_isT, e_isTt, e_isTl, e_isL, e_isLt, e_isLl, e_add, e_sub, e_mul, e_div, e_mod, e_pow, e_catL, e_catT, e_repT,
        e_eq, e_ne, e_lt, e_le, e_gt, e_ge, e_issI, e_issN, e_isnI, e_isnN, tr_n, tr_b, tr_i, tr_l, tr_t, mu_app, sto_l, slc_l, slc_t, q_dl, q_dt, q_ll, q_lt, partB, optI, setS, backS, it_l, it_t, L2.atI, L2.ixN,
        hd, h, sz]
def isLet : D → Bool
  | .tuple [_, .none] => false
  | _ => true
def fstD : D → D
  | .tuple (x :: _) => x
  | d => d
theorem idx_eq : ∀ (os : List (Option Int)) (n : Nat), ((enuF n (os.map optD)).filter isLet).map fstD = (idx n os).map .int
  | [], n => rfl
  | none :: r, n => by
    simp only [List.map_cons, optD, enuF, idx]
    rw [List.filter_cons_of_neg (by simp [isLet]), idx_eq r (n + 1)]
  | some i :: r, n => by
    simp only [List.map_cons, optD, enuF, idx]
    rw [List.filter_cons_of_pos (by simp [isLet]), List.map_cons, idx_eq r (n + 1)]
    rfl
theorem enu_mem : ∀ (os : List (Option Int)) (n : Nat) (x : D), x ∈ enuF n (os.map optD) → ∃ (k : Nat) (o : Option Int), x = .tuple [.int k, optD o]
  | [], n, x, h => by simp [enuF] at h
  | o :: r, n, x, h => by
    simp only [List.map_cons, enuF, List.mem_cons] at h
    rcases h with rfl | h
    · exact ⟨n, o, rfl⟩
    · exact enu_mem r (n + 1) x h
theorem tb8 : tb[8]? = some f_raw_let_in := rfl
theorem s_rawlet (n : Nat) {r s : Int} (hr : small64 r = true) {d : D} {ts : List Int} (hd : seqD d = .ok (ts.map .int)) (hl : ts.length ≤ 1000) : evC tb (n + 3) 8 [bkt r s, d] = .ok ⟨false, tms (idx 0 (pour r s s 0 ts)), []⟩ := by
  have h1 : evC tb (n + 2) 7 _ = _ := s_poured n hr (s := s) hd hl
  have hc : compF (cmiStep (evC tb (n + 2)) e0_raw_let_in (.tp (.cons (.nm 2) (.cons (.nm 3) .nil))) k1_raw_let_in [2, 3]) (enuF 0 ((pour r s s 0 ts).map optD)) [.frz (bkt r s), .frz d, .un, .un] [] = .ok ((idx 0 (pour r s s 0 ts)).map .int, [.frz (bkt r s), .frz d, .un, .un]) := by
    rw [compF_filter (p := isLet) (g := fstD) fun x hx => ?_, idx_eq]
    · simp
    · obtain ⟨k, o, rfl⟩ := enu_mem _ _ _ hx
      unfold cmiStep e0_raw_let_in k1_raw_let_in
      cases o with
      | none => simp [evD, E_sl, E_cst, E_gc, E_tup, E_lst, E_bin, E_neg, E_cmp, E_ch2, E_and, E_or, E_not, E_ite, E_ix, E_slc, E_call, E_bi, E_mtd, E_cm, E_cmi, A_nil, A_cons, S_asg, S_pas, S_sto, S_ex, S_ite, S_for, S_wh, S_ret,
        S_retn, S_brk, S_cnt, S_pass, S_raise, Ss_nil, Ss_cons, evI, wipeS, bnd_ok, bind_eq, pure_eq, req_t, start0, slot0, outs, Ar.get, Ar.take, ta_nil, ta_cons, ga_nil, ga_cons, ce_eq, pT_nm, pT_tp, pTs_n, pTs_c,
        aT_o, aT_f, aT_s, aT_t, outA, outAs, asgTs, okIo, putIo, freezeAs, nlR_f, nlR_t, nlL_l, nl_n, nl_b, nl_i, nl_s, nl_t, nl_l, nls_n, nls_c, nls_ints, isSl, isOwn,   e_bi_min, e_bi_max, e_bi_lenL, e_bi_lenT,
        e_bi_abs, e_bi_int, e_bi_tupL, e_bi_tupT, e_bi_lstL, e_bi_lstT, e_isI, e_isIt, e_isIl, e_isB, e_isT, e_isTt, e_isTl, e_isL, e_isLt, e_isLl, e_add, e_sub, e_mul, e_div, e_mod, e_pow, e_catL, e_catT, e_repT,
        e_eq, e_ne, e_lt, e_le, e_gt, e_ge, e_issI, e_issN, e_isnI, e_isnN, tr_n, tr_b, tr_i, tr_l, tr_t, mu_app, sto_l, slc_l, slc_t, q_dl, q_dt, q_ll, q_lt, partB, optI, setS, backS, it_l, it_t, L2.atI, L2.ixN,
        optD, isLet, fstD]
      | some i => simp [evD, E_sl, E_cst, E_gc, E_tup, E_lst, E_bin, E_neg, E_cmp, E_ch2, E_and, E_or, E_not, E_ite, E_ix, E_slc, E_call, E_bi, E_mtd, E_cm, E_cmi, A_nil, A_cons, S_asg, S_pas, S_sto, S_ex, S_ite, S_for, S_wh, S_ret,
        S_retn, S_brk, S_cnt, S_pass, S_raise, Ss_nil, Ss_cons, evI, wipeS, bnd_ok, bind_eq, pure_eq, req_t, start0, slot0, outs, Ar.get, Ar.take, ta_nil, ta_cons, ga_nil, ga_cons, ce_eq, pT_nm, pT_tp, pTs_n, pTs_c,
        aT_o, aT_f, aT_s, aT_t, outA, outAs, asgTs, okIo, putIo, freezeAs, nlR_f, nlR_t, nlL_l, nl_n, nl_b, nl_i, nl_s, nl_t, nl_l, nls_n, nls_c, nls_ints, isSl, isOwn,   e_bi_min, e_bi_max, e_bi_lenL, e_bi_lenT,
        e_bi_abs, e_bi_int, e_bi_tupL, e_bi_tupT, e_bi_lstL, e_bi_lstT, e_isI, e_isIt, e_isIl, e_isB, e_isT, e_isTt, e_isTl, e_isL, e_isLt, e_isLl, e_add, e_sub, e_mul, e_div, e_mod, e_pow, e_catL, e_catT, e_repT,
        e_eq, e_ne, e_lt, e_le, e_gt, e_ge, e_issI, e_issN, e_isnI, e_isnN, tr_n, tr_b, tr_i, tr_l, tr_t, mu_app, sto_l, slc_l, slc_t, q_dl, q_dt, q_ll, q_lt, partB, optI, setS, backS, it_l, it_t, L2.atI, L2.ixN,
        optD, isLet, fstD]
  have hz : (enuF 0 ((pour r s s 0 ts).map optD)).length ≤ sizeLine := by rw [enuF_length, List.length_map, pour_len]; exact sl1000 hl
  rw [evC_succ tb8]
  unfold f_raw_let_in tms
  unfold bkt at *
  simp [evD, E_sl, E_cst, E_gc, E_tup, E_lst, E_bin, E_neg, E_cmp, E_ch2, E_and, E_or, E_not, E_ite, E_ix, E_slc, E_call, E_bi, E_mtd, E_cm, E_cmi, A_nil, A_cons, S_asg, S_pas, S_sto, S_ex, S_ite, S_for, S_wh, S_ret,
        S_retn, S_brk, S_cnt, S_pass, S_raise, Ss_nil, Ss_cons, evI, wipeS, bnd_ok, bind_eq, pure_eq, req_t, start0, slot0, outs, Ar.get, Ar.take, ta_nil, ta_cons, ga_nil, ga_cons, ce_eq, pT_nm, pT_tp, pTs_n, pTs_c,
        aT_o, aT_f, aT_s, aT_t, outA, outAs, asgTs, okIo, putIo, freezeAs, nlR_f, nlR_t, nlL_l, nl_n, nl_b, nl_i, nl_s, nl_t, nl_l, nls_n, nls_c, nls_ints, isSl, isOwn,   e_bi_min, e_bi_max, e_bi_lenL, e_bi_lenT,
        e_bi_abs, e_bi_int, e_bi_tupL, e_bi_tupT, e_bi_lstL, e_bi_lstT, e_isI, e_isIt, e_isIl, e_isB, e_isT, e_isTt, e_isTl, e_isL, e_isLt, e_isLl, e_add, e_sub, e_mul, e_div, e_mod, e_pow, e_catL, e_catT, e_repT,
        e_eq, e_ne, e_lt, e_le, e_gt, e_ge, e_issI, e_issN, e_isnI, e_isnN, tr_n, tr_b, tr_i, tr_l, tr_t, mu_app, sto_l, slc_l, slc_t, q_dl, q_dt, q_ll, q_lt, partB, optI, setS, backS, it_l, it_t, L2.atI, L2.ixN,
        h1, hc, hz]
theorem tb9 : tb[9]? = some f_let_in := rfl
theorem s_letin (n : Nat) {r s : Int} {ts : List Int} (B : BktOk r s) (W : TmsOk ts) : evC tb (n + 5) 9 [bkt r s, tms ts] = .ok ⟨false, tms (idx 0 (pour r s s 0 ts)), []⟩ := by
  have h1 : evC tb (n + 4) 5 _ = _ := s_ckt n B W
  have h2 : evC tb (n + 4) 8 _ = _ := s_rawlet (n + 1) (s := s) (sm_r B.r0 B.r5) (d := tms ts) (ts := ts) rfl (by have := W.ln; omega)
  rw [evC_succ tb9]
  unfold f_let_in
  unfold bkt tms at *
  simp [evD, E_sl, E_cst, E_gc, E_tup, E_lst, E_bin, E_neg, E_cmp, E_ch2, E_and, E_or, E_not, E_ite, E_ix, E_slc, E_call, E_bi, E_mtd, E_cm, E_cmi, A_nil, A_cons, S_asg, S_pas, S_sto, S_ex, S_ite, S_for, S_wh, S_ret,
        S_retn, S_brk, S_cnt, S_pass, S_raise, Ss_nil, Ss_cons, evI, wipeS, bnd_ok, bind_eq, pure_eq, req_t, start0, slot0, outs, Ar.get, Ar.take, ta_nil, ta_cons, ga_nil, ga_cons, ce_eq, pT_nm, pT_tp, pTs_n, pTs_c,
        aT_o, aT_f, aT_s, aT_t, outA, outAs, asgTs, okIo, putIo, freezeAs, nlR_f, nlR_t, nlL_l, nl_n, nl_b, nl_i, nl_s, nl_t, nl_l, nls_n, nls_c, nls_ints, isSl, isOwn,   e_bi_min, e_bi_max, e_bi_lenL, e_bi_lenT,
        e_bi_abs, e_bi_int, e_bi_tupL, e_bi_tupT, e_bi_lstL, e_bi_lstT, e_isI, e_isIt, e_isIl, e_isB, e_isT, e_isTt, e_isTl, e_isL, e_isLt, e_isLl, e_add, e_sub, e_mul, e_div, e_mod, e_pow, e_catL, e_catT, e_repT,
        e_eq, e_ne, e_lt, e_le, e_gt, e_ge, e_issI, e_issN, e_isnI, e_isnN, tr_n, tr_b, tr_i, tr_l, tr_t, mu_app, sto_l, slc_l, slc_t, q_dl, q_dt, q_ll, q_lt, partB, optI, setS, backS, it_l, it_t, L2.atI, L2.ixN,
        h1, h2]
end PX

set_option Elab.async false
set_option linter.all false
set_option maxRecDepth 100000
set_option maxHeartbeats 4000000
namespace PX
open PySem L2
def lefts : List (Option Int) → List Int
  | [] => []
  | some i :: r => i :: lefts r
  | none :: r => lefts r
theorem tb20 : tb[20]? = some f__law_let := rfl
theorem let_loop (cal : Nat → List D → R CR) {r s : Int} (hr : small64 r = true) (B0 D0 : D) : ∀ (ts : List Int) (k : Nat) (tk m : Int) (found left : List D) (x y : Sv), (∀ d, x ≠ .io d) → (∀ d, y ≠ .io d) → found.length + ts.length ≤ 1000 → left.length + ts.length ≤ 1000 →
    ∃ x' y', forF cal (.tp (.cons (.nm 8) (.cons (.nm 9) .nil))) b0__law_let (enuF k (ts.map .int)) [.frz B0, .frz D0, .frz (.int r), .frz (.int s), .frz (.int tk), .frz (.int m), .own (.list found), .own (.list left), x, y] =
      .ok (.nx [.frz B0, .frz D0, .frz (.int r), .frz (.int s), .frz (.int (endSt r s tk m ts).1), .frz (.int (endSt r s tk m ts).2), .own (.list (found ++ (idx k (pour r s tk m ts)).map .int)), .own (.list (left ++ (lefts (pour r s tk m ts)).map .int)), x', y'])
  | [], k, tk, m, found, left, x, y, _, _, _, _ => ⟨x, y, by unfold forF; simp [enuF, loopF, pour, endSt, idx, lefts]⟩
  | t :: ts, k, tk, m, found, left, x, y, hx, hy, hl, hl2 => by
    rw [List.length_cons] at hl hl2
    have hlt : found.length < sizeLine := L2.small1000 (by omega)
    have hlt2 : left.length < sizeLine := L2.small1000 (by omega)
    by_cases hk : 0 < fill r s tk (t - m)
    · obtain ⟨x', y', ih⟩ := let_loop cal hr B0 D0 ts (k + 1) (fill r s tk (t - m) - 1) t (found ++ [.int k]) (left ++ [.int (fill r s tk (t - m) - 1)]) (.frz (.int k)) (.frz (.int t)) (fun d z => nomatch z) (fun d z => nomatch z) (by simp; omega) (by simp; omega)
      refine ⟨x', y', ?_⟩
      have st : ((putT (.tp (.cons (.nm 8) (.cons (.nm 9) .nil))) (.tuple [.int k, .int t]) [.frz B0, .frz D0, .frz (.int r), .frz (.int s), .frz (.int tk), .frz (.int m), .own (.list found), .own (.list left), x, y]).bind fun s2 => evSs cal b0__law_let s2) =
          .ok (.nx [.frz B0, .frz D0, .frz (.int r), .frz (.int s), .frz (.int (fill r s tk (t - m) - 1)), .frz (.int t), .own (.list (found ++ [.int k])), .own (.list (left ++ [.int (fill r s tk (t - m) - 1)])), .frz (.int k), .frz (.int t)]) := by
        unfold b0__law_let
        unfold fill at hk ⊢
        cases x with
        | io d => exact absurd rfl (hx d)
        | _ => cases y with
          | io d => exact absurd rfl (hy d)
          | _ => simp [evD, E_sl, E_cst, E_gc, E_tup, E_lst, E_bin, E_neg, E_cmp, E_ch2, E_and, E_or, E_not, E_ite, E_ix, E_slc, E_call, E_bi, E_mtd, E_cm, E_cmi, A_nil, A_cons, S_asg, S_pas, S_sto, S_ex, S_ite, S_for, S_wh, S_ret,
        S_retn, S_brk, S_cnt, S_pass, S_raise, Ss_nil, Ss_cons, evI, wipeS, bnd_ok, bind_eq, pure_eq, req_t, start0, slot0, outs, Ar.get, Ar.take, ta_nil, ta_cons, ga_nil, ga_cons, ce_eq, pT_nm, pT_tp, pTs_n, pTs_c,
        aT_o, aT_f, aT_s, aT_t, outA, outAs, asgTs, okIo, putIo, freezeAs, nlR_f, nlR_t, nlL_l, nl_n, nl_b, nl_i, nl_s, nl_t, nl_l, nls_n, nls_c, nls_ints, isSl, isOwn,   e_bi_min, e_bi_max, e_bi_lenL, e_bi_lenT,
        e_bi_abs, e_bi_int, e_bi_tupL, e_bi_tupT, e_bi_lstL, e_bi_lstT, e_isI, e_isIt, e_isIl, e_isB, e_isT, e_isTt, e_isTl, e_isL, e_isLt, e_isLl, e_add, e_sub, e_mul, e_div, e_mod, e_pow, e_catL, e_catT, e_repT,
        e_eq, e_ne, e_lt, e_le, e_gt, e_ge, e_issI, e_issN, e_isnI, e_isnN, tr_n, tr_b, tr_i, tr_l, tr_t, mu_app, sto_l, slc_l, slc_t, q_dl, q_dt, q_ll, q_lt, partB, optI, setS, backS, it_l, it_t, L2.atI, L2.ixN,
        hr, hk, hlt, hlt2]
      unfold forF at ih ⊢
      rw [List.map_cons, enuF, loopF, st, bnd_ok]
      refine ih.trans ?_
      rw [pour, endSt, if_pos hk, if_pos hk]
      simp [idx, lefts]
    · obtain ⟨x', y', ih⟩ := let_loop cal hr B0 D0 ts (k + 1) (fill r s tk (t - m)) t found left (.frz (.int k)) (.frz (.int t)) (fun d z => nomatch z) (fun d z => nomatch z) (by omega) (by omega)
      refine ⟨x', y', ?_⟩
      have st : ((putT (.tp (.cons (.nm 8) (.cons (.nm 9) .nil))) (.tuple [.int k, .int t]) [.frz B0, .frz D0, .frz (.int r), .frz (.int s), .frz (.int tk), .frz (.int m), .own (.list found), .own (.list left), x, y]).bind fun s2 => evSs cal b0__law_let s2) =
          .ok (.nx [.frz B0, .frz D0, .frz (.int r), .frz (.int s), .frz (.int (fill r s tk (t - m))), .frz (.int t), .own (.list found), .own (.list left), .frz (.int k), .frz (.int t)]) := by
        unfold b0__law_let
        unfold fill at hk ⊢
        cases x with
        | io d => exact absurd rfl (hx d)
        | _ => cases y with
          | io d => exact absurd rfl (hy d)
          | _ => simp [evD, E_sl, E_cst, E_gc, E_tup, E_lst, E_bin, E_neg, E_cmp, E_ch2, E_and, E_or, E_not, E_ite, E_ix, E_slc, E_call, E_bi, E_mtd, E_cm, E_cmi, A_nil, A_cons, S_asg, S_pas, S_sto, S_ex, S_ite, S_for, S_wh, S_ret,
        S_retn, S_brk, S_cnt, S_pass, S_raise, Ss_nil, Ss_cons, evI, wipeS, bnd_ok, bind_eq, pure_eq, req_t, start0, slot0, outs, Ar.get, Ar.take, ta_nil, ta_cons, ga_nil, ga_cons, ce_eq, pT_nm, pT_tp, pTs_n, pTs_c,
        aT_o, aT_f, aT_s, aT_t, outA, outAs, asgTs, okIo, putIo, freezeAs, nlR_f, nlR_t, nlL_l, nl_n, nl_b, nl_i, nl_s, nl_t, nl_l, nls_n, nls_c, nls_ints, isSl, isOwn,   e_bi_min, e_bi_max, e_bi_lenL, e_bi_lenT,
        e_bi_abs, e_bi_int, e_bi_tupL, e_bi_tupT, e_bi_lstL, e_bi_lstT, e_isI, e_isIt, e_isIl, e_isB, e_isT, e_isTt, e_isTl, e_isL, e_isLt, e_isLl, e_add, e_sub, e_mul, e_div, e_mod, e_pow, e_catL, e_catT, e_repT,
        e_eq, e_ne, e_lt, e_le, e_gt, e_ge, e_issI, e_issN, e_isnI, e_isnN, tr_n, tr_b, tr_i, tr_l, tr_t, mu_app, sto_l, slc_l, slc_t, q_dl, q_dt, q_ll, q_lt, partB, optI, setS, backS, it_l, it_t, L2.atI, L2.ixN,
        hr, hk, hlt, hlt2]
      unfold forF at ih ⊢
      rw [List.map_cons, enuF, loopF, st, bnd_ok]
      refine ih.trans ?_
      rw [pour, endSt, if_neg hk, if_neg hk]
      simp [idx, lefts]
def letD (r s : Int) (ts : List Int) : D := .tuple [.list ((idx 0 (pour r s s 0 ts)).map .int), .list ((lefts (pour r s s 0 ts)).map .int), .tuple [.int (endSt r s s 0 ts).1, .int (endSt r s s 0 ts).2]]
theorem s_let (n : Nat) {r s : Int} (hr : small64 r = true) {d : D} {ts : List Int} (hd : seqD d = .ok (ts.map .int)) (hl : ts.length ≤ 1000) : evC tb (n + 1) 20 [bkt r s, d] = .ok ⟨false, letD r s ts, []⟩ := by
  obtain ⟨x', y', h⟩ := let_loop (evC tb n) hr (s := s) (bkt r s) d ts 0 s 0 [] [] .un .un (fun d z => nomatch z) (fun d z => nomatch z) (by simpa using hl) (by simpa using hl)
  rw [← seqL_eq] at hd
  rw [evC_succ tb20]
  unfold f__law_let letD
  unfold bkt at *
  simp [evD, E_sl, E_cst, E_gc, E_tup, E_lst, E_bin, E_neg, E_cmp, E_ch2, E_and, E_or, E_not, E_ite, E_ix, E_slc, E_call, E_bi, E_mtd, E_cm, E_cmi, A_nil, A_cons, S_asg, S_pas, S_sto, S_ex, S_ite, S_for, S_wh, S_ret,
        S_retn, S_brk, S_cnt, S_pass, S_raise, Ss_nil, Ss_cons, evI, wipeS, bnd_ok, bind_eq, pure_eq, req_t, start0, slot0, outs, Ar.get, Ar.take, ta_nil, ta_cons, ga_nil, ga_cons, ce_eq, pT_nm, pT_tp, pTs_n, pTs_c,
        aT_o, aT_f, aT_s, aT_t, outA, outAs, asgTs, okIo, putIo, freezeAs, nlR_f, nlR_t, nlL_l, nl_n, nl_b, nl_i, nl_s, nl_t, nl_l, nls_n, nls_c, nls_ints, isSl, isOwn,   e_bi_min, e_bi_max, e_bi_lenL, e_bi_lenT,
        e_bi_abs, e_bi_int, e_bi_tupL, e_bi_tupT, e_bi_lstL, e_bi_lstT, e_isI, e_isIt, e_isIl, e_isB, e_isT, e_isTt, e_isTl, e_isL, e_isLt, e_isLl, e_add, e_sub, e_mul, e_div, e_mod, e_pow, e_catL, e_catT, e_repT,
        e_eq, e_ne, e_lt, e_le, e_gt, e_ge, e_issI, e_issN, e_isnI, e_isnN, tr_n, tr_b, tr_i, tr_l, tr_t, mu_app, sto_l, slc_l, slc_t, q_dl, q_dt, q_ll, q_lt, partB, optI, setS, backS, it_l, it_t, L2.atI, L2.ixN,
        hd, h, sz]
theorem idx_mem : ∀ (os : List (Option Int)) (n : Nat) (i : Int), i ∈ idx n os → (n : Int) ≤ i ∧ i < n + os.length
  | [], n, i, h => by simp [idx] at h
  | some j :: r, n, i, h => by
    simp only [idx, List.mem_cons] at h
    rcases h with rfl | h
    · simp; omega
    · have := idx_mem r (n + 1) i h
      simp at this ⊢; omega
  | none :: r, n, i, h => by
    simp only [idx] at h
    have := idx_mem r (n + 1) i h
    simp at this ⊢; omega
theorem idx_len : ∀ (os : List (Option Int)) (n : Nat), (idx n os).length ≤ os.length
  | [], n => by simp [idx]
  | some j :: r, n => by simp [idx]; exact idx_len r (n + 1)
  | none :: r, n => by simp [idx]; have := idx_len r (n + 1); omega
/-- what stands at places -/
def pick (xs : List Int) (is : List Int) : List Int := is.map fun i => xs.getD i.toNat 0
theorem item_pick {xs : List Int} {i : Int} (h0 : 0 ≤ i) (h1 : i < xs.length) : item (tms xs) (.int i) = .ok (.int (xs.getD i.toNat 0)) ∧ item (.list (xs.map .int)) (.int i) = .ok (.int (xs.getD i.toNat 0)) := by
  have hl : i.toNat < xs.length := by omega
  have e : (xs.map PyData.int)[i.toNat]? = some (.int (xs.getD i.toNat 0)) := by
    rw [List.getElem?_map, List.getElem?_eq_getElem hl, List.getD_eq_getElem?_getD, List.getElem?_eq_getElem hl]
    rfl
  exact ⟨it_tk h0 e, it_lk h0 e⟩
def letIn (r s : Int) (ts : List Int) : List Int := idx 0 (pour r s s 0 ts)
theorem letIn_mem {r s : Int} {ts : List Int} {i : Int} (h : i ∈ letIn r s ts) : 0 ≤ i ∧ i < ts.length := by
  have := idx_mem _ 0 i h
  rw [pour_len] at this
  simp at this; omega
theorem letIn_len (r s : Int) (ts : List Int) : (letIn r s ts).length ≤ ts.length := by
  have := idx_len (pour r s s 0 ts) 0
  rw [pour_len] at this
  exact this
theorem tb12 : tb[12]? = some f_through_both := rfl
theorem pick_len (xs is : List Int) : (pick xs is).length = is.length := by simp [pick]
theorem s_both (n : Nat) {r s r2 s2 : Int} {ts : List Int} (B : BktOk r s) (B2 : BktOk r2 s2) (W : TmsOk ts) : evC tb (n + 5) 12 [bkt r s, bkt r2 s2, tms ts] = .ok ⟨false, tms (pick (letIn r s ts) (letIn r2 s2 (pick ts (letIn r s ts)))), []⟩ := by
  have ln := W.ln
  have l1 := letIn_len r s ts
  have h1 : evC tb (n + 4) 4 _ = _ := s_ckb (n + 1) B
  have h2 : evC tb (n + 4) 5 _ = _ := s_ckt n B2 W
  have h3 : evC tb (n + 4) 8 _ = _ := s_rawlet (n + 1) (s := s) (sm_r B.r0 B.r5) (d := tms ts) (ts := ts) rfl (by omega)
  have h4 : evC tb (n + 4) 8 _ = _ := s_rawlet (n + 1) (s := s2) (sm_r B2.r0 B2.r5) (d := .list ((pick ts (letIn r s ts)).map .int)) (ts := pick ts (letIn r s ts)) rfl (by rw [pick_len]; omega)
  have h3 : evC tb (n + 4) 8 [bkt r s, tms ts] = .ok ⟨false, tms (letIn r s ts), []⟩ := h3
  have h4 : evC tb (n + 4) 8 [bkt r2 s2, .list ((pick ts (letIn r s ts)).map .int)] = .ok ⟨false, tms (letIn r2 s2 (pick ts (letIn r s ts))), []⟩ := h4
  generalize hA : letIn r s ts = A at *
  have hAm : ∀ i ∈ A, 0 ≤ i ∧ i < ts.length := fun i hi => letIn_mem (by rw [hA]; exact hi)
  generalize hB : letIn r2 s2 (pick ts A) = Bs at *
  have hBm : ∀ i ∈ Bs, 0 ≤ i ∧ i < A.length := fun i hi => by
    have := letIn_mem (r := r2) (s := s2) (ts := pick ts A) (i := i) (by rw [hB]; exact hi)
    rw [pick_len] at this
    exact this
  have hBl : Bs.length ≤ A.length := by
    have := letIn_len r2 s2 (pick ts A)
    rw [hB, pick_len] at this
    exact this
  have c1 : compF (cmStep (evC tb (n + 4)) e1_through_both (.nm 5) [5]) (A.map .int) [.frz (bkt r s), .frz (bkt r2 s2), .frz (tms ts), .frz (tms A), .un, .un] [] = .ok ((pick ts A).map .int, [.frz (bkt r s), .frz (bkt r2 s2), .frz (tms ts), .frz (tms A), .un, .un]) := by
    rw [compF_map (g := fun d => match d with | .int i => .int (ts.getD i.toNat 0) | d => d) fun x hx => ?_]
    · simp [pick, Function.comp_def]
    · obtain ⟨i, hi, rfl⟩ := List.mem_map.mp hx
      unfold cmStep e1_through_both
      simp [evD, E_sl, E_cst, E_gc, E_tup, E_lst, E_bin, E_neg, E_cmp, E_ch2, E_and, E_or, E_not, E_ite, E_ix, E_slc, E_call, E_bi, E_mtd, E_cm, E_cmi, A_nil, A_cons, S_asg, S_pas, S_sto, S_ex, S_ite, S_for, S_wh, S_ret,
        S_retn, S_brk, S_cnt, S_pass, S_raise, Ss_nil, Ss_cons, evI, wipeS, bnd_ok, bind_eq, pure_eq, req_t, start0, slot0, outs, Ar.get, Ar.take, ta_nil, ta_cons, ga_nil, ga_cons, ce_eq, pT_nm, pT_tp, pTs_n, pTs_c,
        aT_o, aT_f, aT_s, aT_t, outA, outAs, asgTs, okIo, putIo, freezeAs, nlR_f, nlR_t, nlL_l, nl_n, nl_b, nl_i, nl_s, nl_t, nl_l, nls_n, nls_c, nls_ints, isSl, isOwn,   e_bi_min, e_bi_max, e_bi_lenL, e_bi_lenT,
        e_bi_abs, e_bi_int, e_bi_tupL, e_bi_tupT, e_bi_lstL, e_bi_lstT, e_isI, e_isIt, e_isIl, e_isB, e_isT, e_isTt, e_isTl, e_isL, e_isLt, e_isLl, e_add, e_sub, e_mul, e_div, e_mod, e_pow, e_catL, e_catT, e_repT,
        e_eq, e_ne, e_lt, e_le, e_gt, e_ge, e_issI, e_issN, e_isnI, e_isnN, tr_n, tr_b, tr_i, tr_l, tr_t, mu_app, sto_l, slc_l, slc_t, q_dl, q_dt, q_ll, q_lt, partB, optI, setS, backS,
        (item_pick (hAm i hi).1 (hAm i hi).2).1]
  have c2 : compF (cmStep (evC tb (n + 4)) e0_through_both (.nm 4) [4]) (Bs.map .int) [.frz (bkt r s), .frz (bkt r2 s2), .frz (tms ts), .frz (tms A), .un, .un] [] = .ok ((pick A Bs).map .int, [.frz (bkt r s), .frz (bkt r2 s2), .frz (tms ts), .frz (tms A), .un, .un]) := by
    rw [compF_map (g := fun d => match d with | .int i => .int (A.getD i.toNat 0) | d => d) fun x hx => ?_]
    · simp [pick, Function.comp_def]
    · obtain ⟨i, hi, rfl⟩ := List.mem_map.mp hx
      unfold cmStep e0_through_both
      simp [evD, E_sl, E_cst, E_gc, E_tup, E_lst, E_bin, E_neg, E_cmp, E_ch2, E_and, E_or, E_not, E_ite, E_ix, E_slc, E_call, E_bi, E_mtd, E_cm, E_cmi, A_nil, A_cons, S_asg, S_pas, S_sto, S_ex, S_ite, S_for, S_wh, S_ret,
        S_retn, S_brk, S_cnt, S_pass, S_raise, Ss_nil, Ss_cons, evI, wipeS, bnd_ok, bind_eq, pure_eq, req_t, start0, slot0, outs, Ar.get, Ar.take, ta_nil, ta_cons, ga_nil, ga_cons, ce_eq, pT_nm, pT_tp, pTs_n, pTs_c,
        aT_o, aT_f, aT_s, aT_t, outA, outAs, asgTs, okIo, putIo, freezeAs, nlR_f, nlR_t, nlL_l, nl_n, nl_b, nl_i, nl_s, nl_t, nl_l, nls_n, nls_c, nls_ints, isSl, isOwn,   e_bi_min, e_bi_max, e_bi_lenL, e_bi_lenT,
        e_bi_abs, e_bi_int, e_bi_tupL, e_bi_tupT, e_bi_lstL, e_bi_lstT, e_isI, e_isIt, e_isIl, e_isB, e_isT, e_isTt, e_isTl, e_isL, e_isLt, e_isLl, e_add, e_sub, e_mul, e_div, e_mod, e_pow, e_catL, e_catT, e_repT,
        e_eq, e_ne, e_lt, e_le, e_gt, e_ge, e_issI, e_issN, e_isnI, e_isnN, tr_n, tr_b, tr_i, tr_l, tr_t, mu_app, sto_l, slc_l, slc_t, q_dl, q_dt, q_ll, q_lt, partB, optI, setS, backS,
        (item_pick (hBm i hi).1 (hBm i hi).2).1]
  have z1 : A.length ≤ sizeLine := sl1000 (by omega)
  have z2 : Bs.length ≤ sizeLine := sl1000 (by omega)
  rw [evC_succ tb12]
  unfold f_through_both
  unfold bkt tms at *
  simp [evD, E_sl, E_cst, E_gc, E_tup, E_lst, E_bin, E_neg, E_cmp, E_ch2, E_and, E_or, E_not, E_ite, E_ix, E_slc, E_call, E_bi, E_mtd, E_cm, E_cmi, A_nil, A_cons, S_asg, S_pas, S_sto, S_ex, S_ite, S_for, S_wh, S_ret,
        S_retn, S_brk, S_cnt, S_pass, S_raise, Ss_nil, Ss_cons, evI, wipeS, bnd_ok, bind_eq, pure_eq, req_t, start0, slot0, outs, Ar.get, Ar.take, ta_nil, ta_cons, ga_nil, ga_cons, ce_eq, pT_nm, pT_tp, pTs_n, pTs_c,
        aT_o, aT_f, aT_s, aT_t, outA, outAs, asgTs, okIo, putIo, freezeAs, nlR_f, nlR_t, nlL_l, nl_n, nl_b, nl_i, nl_s, nl_t, nl_l, nls_n, nls_c, nls_ints, isSl, isOwn,   e_bi_min, e_bi_max, e_bi_lenL, e_bi_lenT,
        e_bi_abs, e_bi_int, e_bi_tupL, e_bi_tupT, e_bi_lstL, e_bi_lstT, e_isI, e_isIt, e_isIl, e_isB, e_isT, e_isTt, e_isTl, e_isL, e_isLt, e_isLl, e_add, e_sub, e_mul, e_div, e_mod, e_pow, e_catL, e_catT, e_repT,
        e_eq, e_ne, e_lt, e_le, e_gt, e_ge, e_issI, e_issN, e_isnI, e_isnN, tr_n, tr_b, tr_i, tr_l, tr_t, mu_app, sto_l, slc_l, slc_t, q_dl, q_dt, q_ll, q_lt, partB, optI, setS, backS, it_l, it_t, L2.atI, L2.ixN,
        h1, h2, h3, h4, c1, c2, z1, z2]
end PX

set_option Elab.async false
set_option linter.all false
set_option maxRecDepth 100000
set_option maxHeartbeats 4000000
namespace PX
open PySem L2
theorem e_neb (a b : Bool) : cop .ne (.bool a) (.bool b) = .ok (!decide (a = b)) := by cases a <;> cases b <;> rfl
theorem tb17 : tb[17]? = some f__law_kept := rfl
theorem k_int (n : Nat) (i : Int) : evC tb (n + 1) 17 [.int i, .int i] = .ok ⟨false, .bool true, []⟩ := by
  rw [evC_succ tb17]
  unfold f__law_kept
  simp [evD, E_sl, E_cst, E_gc, E_tup, E_lst, E_bin, E_neg, E_cmp, E_ch2, E_and, E_or, E_not, E_ite, E_ix, E_slc, E_call, E_bi, E_mtd, E_cm, E_cmi, A_nil, A_cons, S_asg, S_pas, S_sto, S_ex, S_ite, S_for, S_wh, S_ret,
        S_retn, S_brk, S_cnt, S_pass, S_raise, Ss_nil, Ss_cons, evI, wipeS, bnd_ok, bind_eq, pure_eq, req_t, start0, slot0, outs, Ar.get, Ar.take, ta_nil, ta_cons, ga_nil, ga_cons, ce_eq, pT_nm, pT_tp, pTs_n, pTs_c,
        aT_o, aT_f, aT_s, aT_t, outA, outAs, asgTs, okIo, putIo, freezeAs, nlR_f, nlR_t, nlL_l, nl_n, nl_b, nl_i, nl_s, nl_t, nl_l, nls_n, nls_c, nls_ints, isSl, isOwn,   e_bi_min, e_bi_max, e_bi_lenL, e_bi_lenT,
        e_bi_abs, e_bi_int, e_bi_tupL, e_bi_tupT, e_bi_lstL, e_bi_lstT, e_isI, e_isIt, e_isIl, e_isB, e_isT, e_isTt, e_isTl, e_isL, e_isLt, e_isLl, e_add, e_sub, e_mul, e_div, e_mod, e_pow, e_catL, e_catT, e_repT,
        e_eq, e_ne, e_lt, e_le, e_gt, e_ge, e_issI, e_issN, e_isnI, e_isnN, tr_n, tr_b, tr_i, tr_l, tr_t, mu_app, sto_l, slc_l, slc_t, q_dl, q_dt, q_ll, q_lt, partB, optI, setS, backS, it_l, it_t, L2.atI, L2.ixN,
        e_neb]
theorem zip_self : ∀ (xs : List D) (x : D), x ∈ zip2 xs xs → ∃ d ∈ xs, x = .tuple [d, d]
  | [], x, h => by simp [zip2] at h
  | d :: xs, x, h => by
    simp only [zip2, List.mem_cons] at h
    rcases h with rfl | h
    · exact ⟨d, List.mem_cons_self, rfl⟩
    · obtain ⟨e, he, q⟩ := zip_self xs x h
      exact ⟨e, List.mem_cons_of_mem _ he, q⟩
theorem kept_cm (n : Nat) {xs : List D} {A B : D} (h : ∀ d ∈ xs, evC tb n 17 [d, d] = .ok ⟨false, .bool true, []⟩) : compF (cmStep (evC tb n) e0__law_kept (.tp (.cons (.nm 2) (.cons (.nm 3) .nil))) [2, 3]) (zip2 xs xs) [.frz A, .frz B, .un, .un] [] = .ok (List.replicate (zip2 xs xs).length (.bool true), [.frz A, .frz B, .un, .un]) := by
  rw [compF_map (g := fun _ => .bool true) fun x hx => ?_, map_const _ _ fun _ => rfl]
  · simp
  · obtain ⟨d, hd, rfl⟩ := zip_self xs x hx
    unfold cmStep e0__law_kept
    simp [evD, E_sl, E_cst, E_gc, E_tup, E_lst, E_bin, E_neg, E_cmp, E_ch2, E_and, E_or, E_not, E_ite, E_ix, E_slc, E_call, E_bi, E_mtd, E_cm, E_cmi, A_nil, A_cons, S_asg, S_pas, S_sto, S_ex, S_ite, S_for, S_wh, S_ret,
        S_retn, S_brk, S_cnt, S_pass, S_raise, Ss_nil, Ss_cons, evI, wipeS, bnd_ok, bind_eq, pure_eq, req_t, start0, slot0, outs, Ar.get, Ar.take, ta_nil, ta_cons, ga_nil, ga_cons, ce_eq, pT_nm, pT_tp, pTs_n, pTs_c,
        aT_o, aT_f, aT_s, aT_t, outA, outAs, asgTs, okIo, putIo, freezeAs, nlR_f, nlR_t, nlL_l, nl_n, nl_b, nl_i, nl_s, nl_t, nl_l, nls_n, nls_c, nls_ints, isSl, isOwn,   e_bi_min, e_bi_max, e_bi_lenL, e_bi_lenT,
        e_bi_abs, e_bi_int, e_bi_tupL, e_bi_tupT, e_bi_lstL, e_bi_lstT, e_isI, e_isIt, e_isIl, e_isB, e_isT, e_isTt, e_isTl, e_isL, e_isLt, e_isLl, e_add, e_sub, e_mul, e_div, e_mod, e_pow, e_catL, e_catT, e_repT,
        e_eq, e_ne, e_lt, e_le, e_gt, e_ge, e_issI, e_issN, e_isnI, e_isnN, tr_n, tr_b, tr_i, tr_l, tr_t, mu_app, sto_l, slc_l, slc_t, q_dl, q_dt, q_ll, q_lt, partB, optI, setS, backS, it_l, it_t, L2.atI, L2.ixN,
        h d hd]
theorem k_tup (n : Nat) {xs : List D} (hl : xs.length ≤ 1000) (h : ∀ d ∈ xs, evC tb n 17 [d, d] = .ok ⟨false, .bool true, []⟩) : evC tb (n + 1) 17 [.tuple xs, .tuple xs] = .ok ⟨false, .bool true, []⟩ := by
  have hc := kept_cm n (A := .tuple xs) (B := .tuple xs) h
  have hz : (zip2 xs xs).length ≤ sizeLine := sl1000 (Nat.le_trans (zip2_len1 _ _) hl)
  rw [evC_succ tb17]
  unfold f__law_kept
  simp [evD, E_sl, E_cst, E_gc, E_tup, E_lst, E_bin, E_neg, E_cmp, E_ch2, E_and, E_or, E_not, E_ite, E_ix, E_slc, E_call, E_bi, E_mtd, E_cm, E_cmi, A_nil, A_cons, S_asg, S_pas, S_sto, S_ex, S_ite, S_for, S_wh, S_ret,
        S_retn, S_brk, S_cnt, S_pass, S_raise, Ss_nil, Ss_cons, evI, wipeS, bnd_ok, bind_eq, pure_eq, req_t, start0, slot0, outs, Ar.get, Ar.take, ta_nil, ta_cons, ga_nil, ga_cons, ce_eq, pT_nm, pT_tp, pTs_n, pTs_c,
        aT_o, aT_f, aT_s, aT_t, outA, outAs, asgTs, okIo, putIo, freezeAs, nlR_f, nlR_t, nlL_l, nl_n, nl_b, nl_i, nl_s, nl_t, nl_l, nls_n, nls_c, nls_ints, isSl, isOwn,   e_bi_min, e_bi_max, e_bi_lenL, e_bi_lenT,
        e_bi_abs, e_bi_int, e_bi_tupL, e_bi_tupT, e_bi_lstL, e_bi_lstT, e_isI, e_isIt, e_isIl, e_isB, e_isT, e_isTt, e_isTl, e_isL, e_isLt, e_isLl, e_add, e_sub, e_mul, e_div, e_mod, e_pow, e_catL, e_catT, e_repT,
        e_eq, e_ne, e_lt, e_le, e_gt, e_ge, e_issI, e_issN, e_isnI, e_isnN, tr_n, tr_b, tr_i, tr_l, tr_t, mu_app, sto_l, slc_l, slc_t, q_dl, q_dt, q_ll, q_lt, partB, optI, setS, backS, it_l, it_t, L2.atI, L2.ixN,
        e_neb, hc, hz, all_true]
theorem k_lst (n : Nat) {xs : List D} (hl : xs.length ≤ 1000) (h : ∀ d ∈ xs, evC tb n 17 [d, d] = .ok ⟨false, .bool true, []⟩) : evC tb (n + 1) 17 [.list xs, .list xs] = .ok ⟨false, .bool true, []⟩ := by
  have hc := kept_cm n (A := .list xs) (B := .list xs) h
  have hz : (zip2 xs xs).length ≤ sizeLine := sl1000 (Nat.le_trans (zip2_len1 _ _) hl)
  rw [evC_succ tb17]
  unfold f__law_kept
  simp [evD, E_sl, E_cst, E_gc, E_tup, E_lst, E_bin, E_neg, E_cmp, E_ch2, E_and, E_or, E_not, E_ite, E_ix, E_slc, E_call, E_bi, E_mtd, E_cm, E_cmi, A_nil, A_cons, S_asg, S_pas, S_sto, S_ex, S_ite, S_for, S_wh, S_ret,
        S_retn, S_brk, S_cnt, S_pass, S_raise, Ss_nil, Ss_cons, evI, wipeS, bnd_ok, bind_eq, pure_eq, req_t, start0, slot0, outs, Ar.get, Ar.take, ta_nil, ta_cons, ga_nil, ga_cons, ce_eq, pT_nm, pT_tp, pTs_n, pTs_c,
        aT_o, aT_f, aT_s, aT_t, outA, outAs, asgTs, okIo, putIo, freezeAs, nlR_f, nlR_t, nlL_l, nl_n, nl_b, nl_i, nl_s, nl_t, nl_l, nls_n, nls_c, nls_ints, isSl, isOwn,   e_bi_min, e_bi_max, e_bi_lenL, e_bi_lenT,
        e_bi_abs, e_bi_int, e_bi_tupL, e_bi_tupT, e_bi_lstL, e_bi_lstT, e_isI, e_isIt, e_isIl, e_isB, e_isT, e_isTt, e_isTl, e_isL, e_isLt, e_isLl, e_add, e_sub, e_mul, e_div, e_mod, e_pow, e_catL, e_catT, e_repT,
        e_eq, e_ne, e_lt, e_le, e_gt, e_ge, e_issI, e_issN, e_isnI, e_isnN, tr_n, tr_b, tr_i, tr_l, tr_t, mu_app, sto_l, slc_l, slc_t, q_dl, q_dt, q_ll, q_lt, partB, optI, setS, backS, it_l, it_t, L2.atI, L2.ixN,
        e_neb, hc, hz, all_true]
theorem k_tms (n : Nat) {is : List Int} (hl : is.length ≤ 1000) : evC tb (n + 2) 17 [tms is, tms is] = .ok ⟨false, .bool true, []⟩ :=
  k_tup (n + 1) (by rw [List.length_map]; exact hl) fun d hd => by
    obtain ⟨i, _, rfl⟩ := List.mem_map.mp hd
    exact k_int n i
theorem tb14 : tb[14]? = some f__law_hand := rfl
theorem s_hand (n : Nat) {ns : List Int} (hl : ns.length ≤ 63) : ∃ cells c, evC tb (n + 1) 14 [.list (ns.map .int)] = .ok ⟨true, hnd cells 0 0 c 0, []⟩ ∧ HandOk cells 0 0 c 0 := by
  have hcut : cutD (ns.map PyData.int) none (some 63) = ns.map .int := by
    unfold cutD
    have e1 : HT.sIx (ns.map PyData.int).length 0 none = 0 := by simp [HT.sIx]
    have e2 : HT.sIx (ns.map PyData.int).length (ns.map PyData.int).length (some 63) = ns.length := by
      simp [HT.sIx]
      omega
    rw [e1, e2]
    simp
    exact List.take_of_length_le (by simp)
  have hc : compF (cmStep (evC tb n) e0__law_hand (.nm 2) [2]) (ns.map .int) [.frz (.list (ns.map .int)), .un, .un] [] = .ok ((ns.map fun i => if i < 0 then -i else i).map .int, [.frz (.list (ns.map .int)), .un, .un]) := by
    rw [compF_map (g := fun d => match d with | .int i => .int (if i < 0 then -i else i) | d => d) fun x hx => ?_]
    · simp [Function.comp_def]
    · obtain ⟨i, hi, rfl⟩ := List.mem_map.mp hx
      unfold cmStep e0__law_hand
      simp [evD, E_sl, E_cst, E_gc, E_tup, E_lst, E_bin, E_neg, E_cmp, E_ch2, E_and, E_or, E_not, E_ite, E_ix, E_slc, E_call, E_bi, E_mtd, E_cm, E_cmi, A_nil, A_cons, S_asg, S_pas, S_sto, S_ex, S_ite, S_for, S_wh, S_ret,
        S_retn, S_brk, S_cnt, S_pass, S_raise, Ss_nil, Ss_cons, evI, wipeS, bnd_ok, bind_eq, pure_eq, req_t, start0, slot0, outs, Ar.get, Ar.take, ta_nil, ta_cons, ga_nil, ga_cons, ce_eq, pT_nm, pT_tp, pTs_n, pTs_c,
        aT_o, aT_f, aT_s, aT_t, outA, outAs, asgTs, okIo, putIo, freezeAs, nlR_f, nlR_t, nlL_l, nl_n, nl_b, nl_i, nl_s, nl_t, nl_l, nls_n, nls_c, nls_ints, isSl, isOwn,   e_bi_min, e_bi_max, e_bi_lenL, e_bi_lenT,
        e_bi_abs, e_bi_int, e_bi_tupL, e_bi_tupT, e_bi_lstL, e_bi_lstT, e_isI, e_isIt, e_isIl, e_isB, e_isT, e_isTt, e_isTl, e_isL, e_isLt, e_isLl, e_add, e_sub, e_mul, e_div, e_mod, e_pow, e_catL, e_catT, e_repT,
        e_eq, e_ne, e_lt, e_le, e_gt, e_ge, e_issI, e_issN, e_isnI, e_isnN, tr_n, tr_b, tr_i, tr_l, tr_t, mu_app, sto_l, slc_l, slc_t, q_dl, q_dt, q_ll, q_lt, partB, optI, setS, backS, it_l, it_t, L2.atI, L2.ixN]
  have s1 : small64 17 = true := by decide
  refine ⟨ns.map fun i => if i < 0 then -i else i, 32957 + 17 * (ns.length : Int), ?_, ⟨by decide, by decide, by omega, by decide, fun x hx => ?_⟩⟩
  · rw [evC_succ tb14]
    unfold f__law_hand hnd
    simp [evD, E_sl, E_cst, E_gc, E_tup, E_lst, E_bin, E_neg, E_cmp, E_ch2, E_and, E_or, E_not, E_ite, E_ix, E_slc, E_call, E_bi, E_mtd, E_cm, E_cmi, A_nil, A_cons, S_asg, S_pas, S_sto, S_ex, S_ite, S_for, S_wh, S_ret,
        S_retn, S_brk, S_cnt, S_pass, S_raise, Ss_nil, Ss_cons, evI, wipeS, bnd_ok, bind_eq, pure_eq, req_t, start0, slot0, outs, Ar.get, Ar.take, ta_nil, ta_cons, ga_nil, ga_cons, ce_eq, pT_nm, pT_tp, pTs_n, pTs_c,
        aT_o, aT_f, aT_s, aT_t, outA, outAs, asgTs, okIo, putIo, freezeAs, nlR_f, nlR_t, nlL_l, nl_n, nl_b, nl_i, nl_s, nl_t, nl_l, nls_n, nls_c, nls_ints, isSl, isOwn,   e_bi_min, e_bi_max, e_bi_lenL, e_bi_lenT,
        e_bi_abs, e_bi_int, e_bi_tupL, e_bi_tupT, e_bi_lstL, e_bi_lstT, e_isI, e_isIt, e_isIl, e_isB, e_isT, e_isTt, e_isTl, e_isL, e_isLt, e_isLl, e_add, e_sub, e_mul, e_div, e_mod, e_pow, e_catL, e_catT, e_repT,
        e_eq, e_ne, e_lt, e_le, e_gt, e_ge, e_issI, e_issN, e_isnI, e_isnN, tr_n, tr_b, tr_i, tr_l, tr_t, mu_app, sto_l, slc_l, slc_t, q_dl, q_dt, q_ll, q_lt, partB, optI, setS, backS, it_l, it_t, L2.atI, L2.ixN,
        hcut, hc, sl1000 (show ns.length ≤ 1000 by omega), s1, sz]
  · obtain ⟨i, _, rfl⟩ := List.mem_map.mp hx
    split <;> omega
/-! tokens at a moment -/
theorem fill_le (r s t b : Int) : fill r s t b ≤ s := by unfold fill; split <;> omega
theorem fill_comp {r s t a b : Int} (hr : 0 ≤ r) (hb : 0 ≤ b) : fill r s (fill r s t a) b = fill r s t (a + b) := by
  unfold fill
  rw [Int.mul_add]
  have := Int.mul_nonneg hr hb
  generalize r * a = x at *
  generalize r * b = y at *
  split <;> split <;> split <;> omega
theorem fill_zero {r s t : Int} (h : t ≤ s) : fill r s t 0 = t := by
  unfold fill
  rw [Int.mul_zero]
  split <;> omega
/-- the times at which one was let in -/
def lets (r s : Int) : Int → Int → List Int → List Int
  | _, _, [] => []
  | tk, m, t :: ts => if 0 < fill r s tk (t - m) then t :: lets r s (fill r s tk (t - m) - 1) t ts else lets r s (fill r s tk (t - m)) t ts
theorem pick_lets (r s : Int) (full : List Int) : ∀ (ts : List Int) (tk m : Int) (k : Nat), full.drop k = ts → pick full (idx k (pour r s tk m ts)) = lets r s tk m ts
  | [], _, _, _, _ => rfl
  | t :: ts, tk, m, k, h => by
    have h' : full.drop (k + 1) = ts := by
      rw [← List.drop_drop (i := 1) (j := k), h]; rfl
    have hk : full.getD k 0 = t := by
      have e : full[k]? = some t := by
        have := congrArg (fun l => l[0]?) h
        simpa using this
      rw [List.getD_eq_getElem?_getD, e]; rfl
    unfold pour lets
    by_cases hc : 0 < fill r s tk (t - m)
    · rw [if_pos hc, if_pos hc]
      simp only [idx, pick, List.map_cons, Int.toNat_natCast, hk]
      have ih := pick_lets r s full ts (fill r s tk (t - m) - 1) t (k + 1) h'
      unfold pick at ih
      rw [ih]
    · rw [if_neg hc, if_neg hc]
      simp only [idx]
      exact pick_lets r s full ts (fill r s tk (t - m)) t (k + 1) h'
def runT (r s mo : Int) : Int → Int → List Int → Int × Int
  | tk, h, [] => (tk, h)
  | tk, h, t :: us => if t ≤ mo then runT r s mo (fill r s tk (t - h) - 1) t us else runT r s mo tk h us
theorem runT_skip (r s mo : Int) : ∀ (us : List Int) (tk h : Int), (∀ t ∈ us, mo < t) → runT r s mo tk h us = (tk, h)
  | [], _, _, _ => rfl
  | t :: us, tk, h, ht => by
    unfold runT
    rw [if_neg (by have := ht t List.mem_cons_self; omega)]
    exact runT_skip r s mo us tk h fun x hx => ht x (List.mem_cons_of_mem _ hx)
theorem lets_mem (r s : Int) : ∀ (ts : List Int) (tk m : Int) (t : Int), t ∈ lets r s tk m ts → t ∈ ts
  | [], _, _, t, h => by simp [lets] at h
  | x :: ts, tk, m, t, h => by
    unfold lets at h
    split at h
    · rcases List.mem_cons.mp h with rfl | h
      · exact List.mem_cons_self
      · exact List.mem_cons_of_mem _ (lets_mem r s ts _ _ t h)
    · exact List.mem_cons_of_mem _ (lets_mem r s ts _ _ t h)
theorem tok_eq {r s mo : Int} (hr : 0 ≤ r) : ∀ (ts : List Int) (tk h tk' m : Int), ts.Pairwise (· ≤ ·) → (∀ t ∈ ts, m ≤ t) → h ≤ m → m ≤ mo → tk' = fill r s tk (m - h) →
    fill r s (runT r s mo tk h (lets r s tk' m ts)).1 (mo - (runT r s mo tk h (lets r s tk' m ts)).2) = fill r s (endSt r s tk' m (ts.filter fun t => decide (t ≤ mo))).1 (mo - (endSt r s tk' m (ts.filter fun t => decide (t ≤ mo))).2)
  | [], tk, h, tk', m, _, _, hm, hmo, e => by
    simp only [lets, runT, List.filter_nil, endSt]
    rw [e, fill_comp hr (by omega)]
    congr 1
    omega
  | t :: ts, tk, h, tk', m, so, hge, hm, hmo, e => by
    have so' := List.pairwise_cons.mp so
    have ht := hge t List.mem_cons_self
    have k : fill r s tk' (t - m) = fill r s tk (t - h) := by
      rw [e, fill_comp hr (by omega)]
      congr 1
      omega
    by_cases hc : t ≤ mo
    · rw [List.filter_cons_of_pos (by simpa using hc)]
      unfold lets endSt
      by_cases hk : 0 < fill r s tk' (t - m)
      · rw [if_pos hk, if_pos hk]
        unfold runT
        rw [if_pos hc, ← k]
        refine tok_eq hr ts _ t _ t so'.2 so'.1 (Int.le_refl _) hc ?_
        rw [Int.sub_self, fill_zero]
        have := fill_le r s tk' (t - m)
        omega
      · rw [if_neg hk, if_neg hk]
        exact tok_eq hr ts tk h _ t so'.2 so'.1 (by omega) hc k
    · have big : ∀ x ∈ t :: ts, mo < x := fun x hx => by
        rcases List.mem_cons.mp hx with rfl | hx
        · omega
        · have := so'.1 x hx; omega
      rw [runT_skip r s mo _ tk h fun x hx => big x (lets_mem r s _ _ _ x hx), List.filter_eq_nil_iff.mpr fun x hx => by have := big x hx; simp; omega]
      simp only [endSt]
      rw [e, fill_comp hr (by omega)]
      congr 1
      omega
theorem tb13 : tb[13]? = some f_tokens_at := rfl
theorem tok_loop (n : Nat) {r s mo : Int} (hr : small64 r = true) {ts : List Int} : ∀ (is : List Int) (tk h : Int) (x : Sv), (∀ d, x ≠ .io d) → (∀ i ∈ is, 0 ≤ i ∧ i < ts.length) →
    ∃ x', forF (evC tb (n + 1)) (.nm 5) b0_tokens_at (is.map .int) [.frz (bkt r s), .frz (tms ts), .frz (.int mo), .frz (.int tk), .frz (.int h), x] = .ok (.nx [.frz (bkt r s), .frz (tms ts), .frz (.int mo), .frz (.int (runT r s mo tk h (pick ts is)).1), .frz (.int (runT r s mo tk h (pick ts is)).2), x'])
  | [], tk, h, x, _, _ => ⟨x, rfl⟩
  | i :: is, tk, h, x, hx, hi => by
    have hi0 := hi i List.mem_cons_self
    have hit := (item_pick hi0.1 hi0.2).1
    generalize ht : ts.getD i.toNat 0 = t at hit
    by_cases hc : t ≤ mo
    · obtain ⟨x', ih⟩ := tok_loop n hr is (fill r s tk (t - h) - 1) t (.frz (.int i)) (fun d z => nomatch z) fun j hj => hi j (List.mem_cons_of_mem _ hj)
      refine ⟨x', ?_⟩
      have st : ((putT (.nm 5) (.int i) [.frz (bkt r s), .frz (tms ts), .frz (.int mo), .frz (.int tk), .frz (.int h), x]).bind fun s2 => evSs (evC tb (n + 1)) b0_tokens_at s2) = .ok (.nx [.frz (bkt r s), .frz (tms ts), .frz (.int mo), .frz (.int (fill r s tk (t - h) - 1)), .frz (.int t), .frz (.int i)]) := by
        unfold b0_tokens_at
        cases x with
        | io d => exact absurd rfl (hx d)
        | _ => simp [evD, E_sl, E_cst, E_gc, E_tup, E_lst, E_bin, E_neg, E_cmp, E_ch2, E_and, E_or, E_not, E_ite, E_ix, E_slc, E_call, E_bi, E_mtd, E_cm, E_cmi, A_nil, A_cons, S_asg, S_pas, S_sto, S_ex, S_ite, S_for, S_wh, S_ret,
        S_retn, S_brk, S_cnt, S_pass, S_raise, Ss_nil, Ss_cons, evI, wipeS, bnd_ok, bind_eq, pure_eq, req_t, start0, slot0, outs, Ar.get, Ar.take, ta_nil, ta_cons, ga_nil, ga_cons, ce_eq, pT_nm, pT_tp, pTs_n, pTs_c,
        aT_o, aT_f, aT_s, aT_t, outA, outAs, asgTs, okIo, putIo, freezeAs, nlR_f, nlR_t, nlL_l, nl_n, nl_b, nl_i, nl_s, nl_t, nl_l, nls_n, nls_c, nls_ints, isSl, isOwn,   e_bi_min, e_bi_max, e_bi_lenL, e_bi_lenT,
        e_bi_abs, e_bi_int, e_bi_tupL, e_bi_tupT, e_bi_lstL, e_bi_lstT, e_isI, e_isIt, e_isIl, e_isB, e_isT, e_isTt, e_isTl, e_isL, e_isLt, e_isLl, e_add, e_sub, e_mul, e_div, e_mod, e_pow, e_catL, e_catT, e_repT,
        e_eq, e_ne, e_lt, e_le, e_gt, e_ge, e_issI, e_issN, e_isnI, e_isnN, tr_n, tr_b, tr_i, tr_l, tr_t, mu_app, sto_l, slc_l, slc_t, q_dl, q_dt, q_ll, q_lt, partB, optI, setS, backS,
        hit, hc, s_fill n hr]
      unfold forF at ih ⊢
      rw [List.map_cons, loopF, st, bnd_ok]
      refine ih.trans ?_
      simp only [pick, List.map_cons, ht, runT, if_pos hc]
    · obtain ⟨x', ih⟩ := tok_loop n hr is tk h (.frz (.int i)) (fun d z => nomatch z) fun j hj => hi j (List.mem_cons_of_mem _ hj)
      refine ⟨x', ?_⟩
      have st : ((putT (.nm 5) (.int i) [.frz (bkt r s), .frz (tms ts), .frz (.int mo), .frz (.int tk), .frz (.int h), x]).bind fun s2 => evSs (evC tb (n + 1)) b0_tokens_at s2) = .ok (.nx [.frz (bkt r s), .frz (tms ts), .frz (.int mo), .frz (.int tk), .frz (.int h), .frz (.int i)]) := by
        unfold b0_tokens_at
        cases x with
        | io d => exact absurd rfl (hx d)
        | _ => simp [evD, E_sl, E_cst, E_gc, E_tup, E_lst, E_bin, E_neg, E_cmp, E_ch2, E_and, E_or, E_not, E_ite, E_ix, E_slc, E_call, E_bi, E_mtd, E_cm, E_cmi, A_nil, A_cons, S_asg, S_pas, S_sto, S_ex, S_ite, S_for, S_wh, S_ret,
        S_retn, S_brk, S_cnt, S_pass, S_raise, Ss_nil, Ss_cons, evI, wipeS, bnd_ok, bind_eq, pure_eq, req_t, start0, slot0, outs, Ar.get, Ar.take, ta_nil, ta_cons, ga_nil, ga_cons, ce_eq, pT_nm, pT_tp, pTs_n, pTs_c,
        aT_o, aT_f, aT_s, aT_t, outA, outAs, asgTs, okIo, putIo, freezeAs, nlR_f, nlR_t, nlL_l, nl_n, nl_b, nl_i, nl_s, nl_t, nl_l, nls_n, nls_c, nls_ints, isSl, isOwn,   e_bi_min, e_bi_max, e_bi_lenL, e_bi_lenT,
        e_bi_abs, e_bi_int, e_bi_tupL, e_bi_tupT, e_bi_lstL, e_bi_lstT, e_isI, e_isIt, e_isIl, e_isB, e_isT, e_isTt, e_isTl, e_isL, e_isLt, e_isLl, e_add, e_sub, e_mul, e_div, e_mod, e_pow, e_catL, e_catT, e_repT,
        e_eq, e_ne, e_lt, e_le, e_gt, e_ge, e_issI, e_issN, e_isnI, e_isnN, tr_n, tr_b, tr_i, tr_l, tr_t, mu_app, sto_l, slc_l, slc_t, q_dl, q_dt, q_ll, q_lt, partB, optI, setS, backS,
        hit, hc, s_fill n hr]
      unfold forF at ih ⊢
      rw [List.map_cons, loopF, st, bnd_ok]
      refine ih.trans ?_
      simp only [pick, List.map_cons, ht, runT, if_neg hc]
def tokA (r s mo : Int) (ts : List Int) : Int := fill r s (runT r s mo s 0 (lets r s s 0 ts)).1 (mo - (runT r s mo s 0 (lets r s s 0 ts)).2)
theorem s_tokat (n : Nat) {r s mo : Int} {ts : List Int} (B : BktOk r s) (W : TmsOk ts) (h0 : 0 ≤ mo) (h1 : mo ≤ 60) : evC tb (n + 5) 13 [bkt r s, tms ts, .int mo] = .ok ⟨false, .int (tokA r s mo ts), []⟩ := by
  have hr := sm_r B.r0 B.r5
  have ln := W.ln
  have e1 : evC tb (n + 4) 5 _ = _ := s_ckt n B W
  have e2 : evC tb (n + 4) 8 [bkt r s, tms ts] = .ok ⟨false, tms (letIn r s ts), []⟩ := s_rawlet (n + 1) (s := s) hr (d := tms ts) (ts := ts) rfl (by omega)
  have e3 : evC tb (n + 4) 1 _ = _ := s_within (n + 2) h0 h1
  obtain ⟨x', e4⟩ := tok_loop (n + 3) hr (s := s) (mo := mo) (ts := ts) (letIn r s ts) s 0 .un (fun d z => nomatch z) fun i hi => letIn_mem hi
  have e4 : forF (evC tb (n + 4)) _ _ _ _ = _ := e4
  rw [show pick ts (letIn r s ts) = lets r s s 0 ts from pick_lets r s ts ts s 0 0 rfl] at e4
  have e5 : ∀ t b, evC tb (n + 4) 6 [bkt r s, .int t, .int b] = .ok ⟨false, .int (fill r s t b), []⟩ := fun t b => s_fill (n + 3) hr t b
  rw [evC_succ tb13]
  unfold f_tokens_at tokA
  unfold bkt tms at *
  simp [evD, E_sl, E_cst, E_gc, E_tup, E_lst, E_bin, E_neg, E_cmp, E_ch2, E_and, E_or, E_not, E_ite, E_ix, E_slc, E_call, E_bi, E_mtd, E_cm, E_cmi, A_nil, A_cons, S_asg, S_pas, S_sto, S_ex, S_ite, S_for, S_wh, S_ret,
        S_retn, S_brk, S_cnt, S_pass, S_raise, Ss_nil, Ss_cons, evI, wipeS, bnd_ok, bind_eq, pure_eq, req_t, start0, slot0, outs, Ar.get, Ar.take, ta_nil, ta_cons, ga_nil, ga_cons, ce_eq, pT_nm, pT_tp, pTs_n, pTs_c,
        aT_o, aT_f, aT_s, aT_t, outA, outAs, asgTs, okIo, putIo, freezeAs, nlR_f, nlR_t, nlL_l, nl_n, nl_b, nl_i, nl_s, nl_t, nl_l, nls_n, nls_c, nls_ints, isSl, isOwn,   e_bi_min, e_bi_max, e_bi_lenL, e_bi_lenT,
        e_bi_abs, e_bi_int, e_bi_tupL, e_bi_tupT, e_bi_lstL, e_bi_lstT, e_isI, e_isIt, e_isIl, e_isB, e_isT, e_isTt, e_isTl, e_isL, e_isLt, e_isLl, e_add, e_sub, e_mul, e_div, e_mod, e_pow, e_catL, e_catT, e_repT,
        e_eq, e_ne, e_lt, e_le, e_gt, e_ge, e_issI, e_issN, e_isnI, e_isnN, tr_n, tr_b, tr_i, tr_l, tr_t, mu_app, sto_l, slc_l, slc_t, q_dl, q_dt, q_ll, q_lt, partB, optI, setS, backS, it_l, it_t, L2.atI, L2.ixN,
        e1, e2, e3, e4, e5]
theorem tb22 : tb[22]? = some f__law_tokens := rfl
theorem s_lawtok (n : Nat) {r s mo : Int} {ts : List Int} (hr : small64 r = true) (hl : ts.length ≤ 1000) : evC tb (n + 2) 22 [bkt r s, tms ts, .int mo] = .ok ⟨false, .int (fill r s (endSt r s s 0 (ts.filter fun t => decide (t ≤ mo))).1 (mo - (endSt r s s 0 (ts.filter fun t => decide (t ≤ mo))).2)), []⟩ := by
  have hf : (ts.filter fun t => decide (t ≤ mo)).length ≤ 1000 := Nat.le_trans (List.length_filter_le _ _) hl
  have e1 := s_let n hr (s := s) (d := .list ((ts.filter fun t => decide (t ≤ mo)).map .int)) (ts := ts.filter fun t => decide (t ≤ mo)) rfl hf
  have hc : compF (cmiStep (evC tb (n + 1)) e0__law_tokens (.nm 6) k1__law_tokens [6]) (ts.map .int) [.frz (bkt r s), .frz (tms ts), .frz (.int mo), .frz (.int r), .frz (.int s), .un, .un, .un, .un] [] = .ok ((ts.filter fun t => decide (t ≤ mo)).map .int, [.frz (bkt r s), .frz (tms ts), .frz (.int mo), .frz (.int r), .frz (.int s), .un, .un, .un, .un]) := by
    rw [compF_filter (p := fun d => match d with | .int t => decide (t ≤ mo) | _ => false) (g := id) fun x hx => ?_]
    · simp [List.filter_map, Function.comp_def]
    · obtain ⟨i, hi, rfl⟩ := List.mem_map.mp hx
      unfold cmiStep e0__law_tokens k1__law_tokens
      by_cases hc : i ≤ mo
      · simp [evD, E_sl, E_cst, E_gc, E_tup, E_lst, E_bin, E_neg, E_cmp, E_ch2, E_and, E_or, E_not, E_ite, E_ix, E_slc, E_call, E_bi, E_mtd, E_cm, E_cmi, A_nil, A_cons, S_asg, S_pas, S_sto, S_ex, S_ite, S_for, S_wh, S_ret,
        S_retn, S_brk, S_cnt, S_pass, S_raise, Ss_nil, Ss_cons, evI, wipeS, bnd_ok, bind_eq, pure_eq, req_t, start0, slot0, outs, Ar.get, Ar.take, ta_nil, ta_cons, ga_nil, ga_cons, ce_eq, pT_nm, pT_tp, pTs_n, pTs_c,
        aT_o, aT_f, aT_s, aT_t, outA, outAs, asgTs, okIo, putIo, freezeAs, nlR_f, nlR_t, nlL_l, nl_n, nl_b, nl_i, nl_s, nl_t, nl_l, nls_n, nls_c, nls_ints, isSl, isOwn,   e_bi_min, e_bi_max, e_bi_lenL, e_bi_lenT,
        e_bi_abs, e_bi_int, e_bi_tupL, e_bi_tupT, e_bi_lstL, e_bi_lstT, e_isI, e_isIt, e_isIl, e_isB, e_isT, e_isTt, e_isTl, e_isL, e_isLt, e_isLl, e_add, e_sub, e_mul, e_div, e_mod, e_pow, e_catL, e_catT, e_repT,
        e_eq, e_ne, e_lt, e_le, e_gt, e_ge, e_issI, e_issN, e_isnI, e_isnN, tr_n, tr_b, tr_i, tr_l, tr_t, mu_app, sto_l, slc_l, slc_t, q_dl, q_dt, q_ll, q_lt, partB, optI, setS, backS, it_l, it_t, L2.atI, L2.ixN,
        hc]
      · simp [evD, E_sl, E_cst, E_gc, E_tup, E_lst, E_bin, E_neg, E_cmp, E_ch2, E_and, E_or, E_not, E_ite, E_ix, E_slc, E_call, E_bi, E_mtd, E_cm, E_cmi, A_nil, A_cons, S_asg, S_pas, S_sto, S_ex, S_ite, S_for, S_wh, S_ret,
        S_retn, S_brk, S_cnt, S_pass, S_raise, Ss_nil, Ss_cons, evI, wipeS, bnd_ok, bind_eq, pure_eq, req_t, start0, slot0, outs, Ar.get, Ar.take, ta_nil, ta_cons, ga_nil, ga_cons, ce_eq, pT_nm, pT_tp, pTs_n, pTs_c,
        aT_o, aT_f, aT_s, aT_t, outA, outAs, asgTs, okIo, putIo, freezeAs, nlR_f, nlR_t, nlL_l, nl_n, nl_b, nl_i, nl_s, nl_t, nl_l, nls_n, nls_c, nls_ints, isSl, isOwn,   e_bi_min, e_bi_max, e_bi_lenL, e_bi_lenT,
        e_bi_abs, e_bi_int, e_bi_tupL, e_bi_tupT, e_bi_lstL, e_bi_lstT, e_isI, e_isIt, e_isIl, e_isB, e_isT, e_isTt, e_isTl, e_isL, e_isLt, e_isLl, e_add, e_sub, e_mul, e_div, e_mod, e_pow, e_catL, e_catT, e_repT,
        e_eq, e_ne, e_lt, e_le, e_gt, e_ge, e_issI, e_issN, e_isnI, e_isnN, tr_n, tr_b, tr_i, tr_l, tr_t, mu_app, sto_l, slc_l, slc_t, q_dl, q_dt, q_ll, q_lt, partB, optI, setS, backS, it_l, it_t, L2.atI, L2.ixN,
        hc]
  have hz : ts.length ≤ sizeLine := sl1000 hl
  rw [evC_succ tb22]
  unfold f__law_tokens
  unfold bkt tms letD fill at *
  simp [evD, E_sl, E_cst, E_gc, E_tup, E_lst, E_bin, E_neg, E_cmp, E_ch2, E_and, E_or, E_not, E_ite, E_ix, E_slc, E_call, E_bi, E_mtd, E_cm, E_cmi, A_nil, A_cons, S_asg, S_pas, S_sto, S_ex, S_ite, S_for, S_wh, S_ret,
        S_retn, S_brk, S_cnt, S_pass, S_raise, Ss_nil, Ss_cons, evI, wipeS, bnd_ok, bind_eq, pure_eq, req_t, start0, slot0, outs, Ar.get, Ar.take, ta_nil, ta_cons, ga_nil, ga_cons, ce_eq, pT_nm, pT_tp, pTs_n, pTs_c,
        aT_o, aT_f, aT_s, aT_t, outA, outAs, asgTs, okIo, putIo, freezeAs, nlR_f, nlR_t, nlL_l, nl_n, nl_b, nl_i, nl_s, nl_t, nl_l, nls_n, nls_c, nls_ints, isSl, isOwn,   e_bi_min, e_bi_max, e_bi_lenL, e_bi_lenT,
        e_bi_abs, e_bi_int, e_bi_tupL, e_bi_tupT, e_bi_lstL, e_bi_lstT, e_isI, e_isIt, e_isIl, e_isB, e_isT, e_isTt, e_isTl, e_isL, e_isLt, e_isLl, e_add, e_sub, e_mul, e_div, e_mod, e_pow, e_catL, e_catT, e_repT,
        e_eq, e_ne, e_lt, e_le, e_gt, e_ge, e_issI, e_issN, e_isnI, e_isnN, tr_n, tr_b, tr_i, tr_l, tr_t, mu_app, sto_l, slc_l, slc_t, q_dl, q_dt, q_ll, q_lt, partB, optI, setS, backS, it_l, it_t, L2.atI, L2.ixN,
        e1, hc, hz, hr]
theorem tok_same {r s mo : Int} {ts : List Int} (B : BktOk r s) (W : TmsOk ts) (h0 : 0 ≤ mo) : tokA r s mo ts = fill r s (endSt r s s 0 (ts.filter fun t => decide (t ≤ mo))).1 (mo - (endSt r s s 0 (ts.filter fun t => decide (t ≤ mo))).2) :=
  tok_eq B.r0 ts s 0 s 0 W.so (fun t ht => (W.bd t ht).1) (Int.le_refl _) h0 (by rw [Int.sub_self, fill_zero (Int.le_refl _)])
end PX

set_option Elab.async false
set_option linter.all false
set_option maxRecDepth 100000
set_option maxHeartbeats 4000000
namespace PX
open PySem L2
/-! delayed -/
def b0 (m t : Int) : Int := if m < t then t - m else 0
def dst (r s tk m t : Int) : Int := if fill r s tk (b0 m t) = 0 then b0 m t + 1 else b0 m t
def delF (r s : Int) : Int → Int → List Int → List Int
  | _, _, [] => []
  | tk, m, t :: ts => (m + dst r s tk m t) :: delF r s (fill r s tk (dst r s tk m t) - 1) (m + dst r s tk m t) ts
theorem b0_ge (m t : Int) : 0 ≤ b0 m t ∧ t ≤ m + b0 m t := by unfold b0; split <;> omega
theorem fill_nn {r s t b : Int} (hr : 0 ≤ r) (hb : 0 ≤ b) (ht : 0 ≤ t) (hs : 0 ≤ s) : 0 ≤ fill r s t b := by
  unfold fill
  have := Int.mul_nonneg hr hb
  split <;> omega
theorem fill_pos {r s t b : Int} (hr : 0 < r) (hb : 0 < b) (ht : 0 ≤ t) (hs : 0 < s) : 0 < fill r s t b := by
  unfold fill
  have := Int.mul_pos hr hb
  split <;> omega
theorem dst_ge {r s tk m t : Int} : 0 ≤ dst r s tk m t ∧ t ≤ m + dst r s tk m t := by
  have := b0_ge m t
  unfold dst
  split <;> omega
theorem dst_pos {r s tk m t : Int} (hr : 0 < r) (ht : 0 ≤ tk) (hs : 0 < s) : 0 < fill r s tk (dst r s tk m t) := by
  have h := b0_ge m t
  unfold dst
  by_cases e : fill r s tk (b0 m t) = 0
  · rw [if_pos e]
    exact fill_pos hr (by omega) ht hs
  · rw [if_neg e]
    have := fill_nn (r := r) (s := s) (t := tk) (b := b0 m t) (by omega) h.1 ht (by omega)
    omega
theorem tb11 : tb[11]? = some f_delayed := rfl
theorem wf_succ : WF = 999998 + 1 + 1 := rfl
theorem del_wh (n : Nat) {r s : Int} (hr : small64 r = true) (r0 : 0 < r) (s0 : 0 < s) (D0 : D) {tk m t : Int} (ht : 0 ≤ tk) {found : List D} :
    whF (evC tb (n + 1)) c0_delayed b1_delayed WF [.frz (bkt r s), .frz D0, .frz (.int tk), .frz (.int m), .own (.list found), .frz (.int t), .frz (.int (b0 m t))] = .ok (.nx [.frz (bkt r s), .frz D0, .frz (.int tk), .frz (.int m), .own (.list found), .frz (.int t), .frz (.int (dst r s tk m t))]) := by
  have hb := b0_ge m t
  have nz : ∀ b, 0 < fill r s tk b → fill r s tk b ≠ 0 := fun b h => by omega
  unfold whF
  rw [wf_succ]
  by_cases e : fill r s tk (b0 m t) = 0
  · have hd : dst r s tk m t = b0 m t + 1 := by unfold dst; rw [if_pos e]
    have h2 : fill r s tk (b0 m t + 1) ≠ 0 := nz _ (fill_pos r0 (by omega) ht s0)
    have c1 : condF (evC tb (n + 1)) c0_delayed [.frz (bkt r s), .frz D0, .frz (.int tk), .frz (.int m), .own (.list found), .frz (.int t), .frz (.int (b0 m t))] = .ok (true, [.frz (bkt r s), .frz D0, .frz (.int tk), .frz (.int m), .own (.list found), .frz (.int t), .frz (.int (b0 m t))]) := by
      unfold condF c0_delayed
      simp [evD, E_sl, E_cst, E_gc, E_tup, E_lst, E_bin, E_neg, E_cmp, E_ch2, E_and, E_or, E_not, E_ite, E_ix, E_slc, E_call, E_bi, E_mtd, E_cm, E_cmi, A_nil, A_cons, S_asg, S_pas, S_sto, S_ex, S_ite, S_for, S_wh, S_ret,
        S_retn, S_brk, S_cnt, S_pass, S_raise, Ss_nil, Ss_cons, evI, wipeS, bnd_ok, bind_eq, pure_eq, req_t, start0, slot0, outs, Ar.get, Ar.take, ta_nil, ta_cons, ga_nil, ga_cons, ce_eq, pT_nm, pT_tp, pTs_n, pTs_c,
        aT_o, aT_f, aT_s, aT_t, outA, outAs, asgTs, okIo, putIo, freezeAs, nlR_f, nlR_t, nlL_l, nl_n, nl_b, nl_i, nl_s, nl_t, nl_l, nls_n, nls_c, nls_ints, isSl, isOwn,   e_bi_min, e_bi_max, e_bi_lenL, e_bi_lenT,
        e_bi_abs, e_bi_int, e_bi_tupL, e_bi_tupT, e_bi_lstL, e_bi_lstT, e_isI, e_isIt, e_isIl, e_isB, e_isT, e_isTt, e_isTl, e_isL, e_isLt, e_isLl, e_add, e_sub, e_mul, e_div, e_mod, e_pow, e_catL, e_catT, e_repT,
        e_eq, e_ne, e_lt, e_le, e_gt, e_ge, e_issI, e_issN, e_isnI, e_isnN, tr_n, tr_b, tr_i, tr_l, tr_t, mu_app, sto_l, slc_l, slc_t, q_dl, q_dt, q_ll, q_lt, partB, optI, setS, backS, it_l, it_t, L2.atI, L2.ixN,
        s_fill n hr, e]
    have c2 : condF (evC tb (n + 1)) c0_delayed [.frz (bkt r s), .frz D0, .frz (.int tk), .frz (.int m), .own (.list found), .frz (.int t), .frz (.int (b0 m t + 1))] = .ok (false, [.frz (bkt r s), .frz D0, .frz (.int tk), .frz (.int m), .own (.list found), .frz (.int t), .frz (.int (b0 m t + 1))]) := by
      unfold condF c0_delayed
      simp [evD, E_sl, E_cst, E_gc, E_tup, E_lst, E_bin, E_neg, E_cmp, E_ch2, E_and, E_or, E_not, E_ite, E_ix, E_slc, E_call, E_bi, E_mtd, E_cm, E_cmi, A_nil, A_cons, S_asg, S_pas, S_sto, S_ex, S_ite, S_for, S_wh, S_ret,
        S_retn, S_brk, S_cnt, S_pass, S_raise, Ss_nil, Ss_cons, evI, wipeS, bnd_ok, bind_eq, pure_eq, req_t, start0, slot0, outs, Ar.get, Ar.take, ta_nil, ta_cons, ga_nil, ga_cons, ce_eq, pT_nm, pT_tp, pTs_n, pTs_c,
        aT_o, aT_f, aT_s, aT_t, outA, outAs, asgTs, okIo, putIo, freezeAs, nlR_f, nlR_t, nlL_l, nl_n, nl_b, nl_i, nl_s, nl_t, nl_l, nls_n, nls_c, nls_ints, isSl, isOwn,   e_bi_min, e_bi_max, e_bi_lenL, e_bi_lenT,
        e_bi_abs, e_bi_int, e_bi_tupL, e_bi_tupT, e_bi_lstL, e_bi_lstT, e_isI, e_isIt, e_isIl, e_isB, e_isT, e_isTt, e_isTl, e_isL, e_isLt, e_isLl, e_add, e_sub, e_mul, e_div, e_mod, e_pow, e_catL, e_catT, e_repT,
        e_eq, e_ne, e_lt, e_le, e_gt, e_ge, e_issI, e_issN, e_isnI, e_isnN, tr_n, tr_b, tr_i, tr_l, tr_t, mu_app, sto_l, slc_l, slc_t, q_dl, q_dt, q_ll, q_lt, partB, optI, setS, backS, it_l, it_t, L2.atI, L2.ixN,
        s_fill n hr, h2]
    have st : evSs (evC tb (n + 1)) b1_delayed [.frz (bkt r s), .frz D0, .frz (.int tk), .frz (.int m), .own (.list found), .frz (.int t), .frz (.int (b0 m t))] = .ok (.nx [.frz (bkt r s), .frz D0, .frz (.int tk), .frz (.int m), .own (.list found), .frz (.int t), .frz (.int (b0 m t + 1))]) := by
      unfold b1_delayed
      simp [evD, E_sl, E_cst, E_gc, E_tup, E_lst, E_bin, E_neg, E_cmp, E_ch2, E_and, E_or, E_not, E_ite, E_ix, E_slc, E_call, E_bi, E_mtd, E_cm, E_cmi, A_nil, A_cons, S_asg, S_pas, S_sto, S_ex, S_ite, S_for, S_wh, S_ret,
        S_retn, S_brk, S_cnt, S_pass, S_raise, Ss_nil, Ss_cons, evI, wipeS, bnd_ok, bind_eq, pure_eq, req_t, start0, slot0, outs, Ar.get, Ar.take, ta_nil, ta_cons, ga_nil, ga_cons, ce_eq, pT_nm, pT_tp, pTs_n, pTs_c,
        aT_o, aT_f, aT_s, aT_t, outA, outAs, asgTs, okIo, putIo, freezeAs, nlR_f, nlR_t, nlL_l, nl_n, nl_b, nl_i, nl_s, nl_t, nl_l, nls_n, nls_c, nls_ints, isSl, isOwn,   e_bi_min, e_bi_max, e_bi_lenL, e_bi_lenT,
        e_bi_abs, e_bi_int, e_bi_tupL, e_bi_tupT, e_bi_lstL, e_bi_lstT, e_isI, e_isIt, e_isIl, e_isB, e_isT, e_isTt, e_isTl, e_isL, e_isLt, e_isLl, e_add, e_sub, e_mul, e_div, e_mod, e_pow, e_catL, e_catT, e_repT,
        e_eq, e_ne, e_lt, e_le, e_gt, e_ge, e_issI, e_issN, e_isnI, e_isnN, tr_n, tr_b, tr_i, tr_l, tr_t, mu_app, sto_l, slc_l, slc_t, q_dl, q_dt, q_ll, q_lt, partB, optI, setS, backS, it_l, it_t, L2.atI, L2.ixN]
    rw [whileF, c1, bnd_ok]
    simp only [if_true]
    rw [st, bnd_ok]
    simp only []
    rw [whileF, c2, bnd_ok, hd]
    simp
  · have hd : dst r s tk m t = b0 m t := by unfold dst; rw [if_neg e]
    have c1 : condF (evC tb (n + 1)) c0_delayed [.frz (bkt r s), .frz D0, .frz (.int tk), .frz (.int m), .own (.list found), .frz (.int t), .frz (.int (b0 m t))] = .ok (false, [.frz (bkt r s), .frz D0, .frz (.int tk), .frz (.int m), .own (.list found), .frz (.int t), .frz (.int (b0 m t))]) := by
      unfold condF c0_delayed
      simp [evD, E_sl, E_cst, E_gc, E_tup, E_lst, E_bin, E_neg, E_cmp, E_ch2, E_and, E_or, E_not, E_ite, E_ix, E_slc, E_call, E_bi, E_mtd, E_cm, E_cmi, A_nil, A_cons, S_asg, S_pas, S_sto, S_ex, S_ite, S_for, S_wh, S_ret,
        S_retn, S_brk, S_cnt, S_pass, S_raise, Ss_nil, Ss_cons, evI, wipeS, bnd_ok, bind_eq, pure_eq, req_t, start0, slot0, outs, Ar.get, Ar.take, ta_nil, ta_cons, ga_nil, ga_cons, ce_eq, pT_nm, pT_tp, pTs_n, pTs_c,
        aT_o, aT_f, aT_s, aT_t, outA, outAs, asgTs, okIo, putIo, freezeAs, nlR_f, nlR_t, nlL_l, nl_n, nl_b, nl_i, nl_s, nl_t, nl_l, nls_n, nls_c, nls_ints, isSl, isOwn,   e_bi_min, e_bi_max, e_bi_lenL, e_bi_lenT,
        e_bi_abs, e_bi_int, e_bi_tupL, e_bi_tupT, e_bi_lstL, e_bi_lstT, e_isI, e_isIt, e_isIl, e_isB, e_isT, e_isTt, e_isTl, e_isL, e_isLt, e_isLl, e_add, e_sub, e_mul, e_div, e_mod, e_pow, e_catL, e_catT, e_repT,
        e_eq, e_ne, e_lt, e_le, e_gt, e_ge, e_issI, e_issN, e_isnI, e_isnN, tr_n, tr_b, tr_i, tr_l, tr_t, mu_app, sto_l, slc_l, slc_t, q_dl, q_dt, q_ll, q_lt, partB, optI, setS, backS, it_l, it_t, L2.atI, L2.ixN,
        s_fill n hr, e]
    rw [whileF, c1, bnd_ok, hd]
    simp
theorem del_loop (n : Nat) {r s : Int} (hr : small64 r = true) (r0 : 0 < r) (s0 : 0 < s) (D0 : D) : ∀ (ts : List Int) (tk m : Int) (found : List D) (x y : Sv), (∀ d, x ≠ .io d) → (∀ d, y ≠ .io d) → 0 ≤ tk → found.length + ts.length ≤ 1000 →
    ∃ tk' m' x' y', forF (evC tb (n + 1)) (.nm 5) b2_delayed (ts.map .int) [.frz (bkt r s), .frz D0, .frz (.int tk), .frz (.int m), .own (.list found), x, y] = .ok (.nx [.frz (bkt r s), .frz D0, .frz (.int tk'), .frz (.int m'), .own (.list (found ++ (delF r s tk m ts).map .int)), x', y'])
  | [], tk, m, found, x, y, _, _, _, _ => ⟨tk, m, x, y, by unfold forF; simp [loopF, delF]⟩
  | t :: ts, tk, m, found, x, y, hx, hy, h0, hl => by
    rw [List.length_cons] at hl
    have hlt : found.length < sizeLine := L2.small1000 (by omega)
    have hp := dst_pos (r := r) (s := s) (tk := tk) (m := m) (t := t) r0 h0 s0
    obtain ⟨tk', m', x', y', ih⟩ := del_loop n hr r0 s0 D0 ts (fill r s tk (dst r s tk m t) - 1) (m + dst r s tk m t) (found ++ [.int (m + dst r s tk m t)]) (.frz (.int t)) (.frz (.int (dst r s tk m t))) (fun d z => nomatch z) (fun d z => nomatch z) (by omega) (by simp; omega)
    refine ⟨tk', m', x', y', ?_⟩
    have st : ((putT (.nm 5) (.int t) [.frz (bkt r s), .frz D0, .frz (.int tk), .frz (.int m), .own (.list found), x, y]).bind fun s2 => evSs (evC tb (n + 1)) b2_delayed s2) = .ok (.nx [.frz (bkt r s), .frz D0, .frz (.int (fill r s tk (dst r s tk m t) - 1)), .frz (.int (m + dst r s tk m t)), .own (.list (found ++ [.int (m + dst r s tk m t)])), .frz (.int t), .frz (.int (dst r s tk m t))]) := by
      have w := del_wh n hr r0 s0 D0 (m := m) (t := t) h0 (found := found)
      unfold b0 at w
      unfold b2_delayed
      cases x with
      | io d => exact absurd rfl (hx d)
      | _ => cases y with
        | io d => exact absurd rfl (hy d)
        | _ => simp [evD, E_sl, E_cst, E_gc, E_tup, E_lst, E_bin, E_neg, E_cmp, E_ch2, E_and, E_or, E_not, E_ite, E_ix, E_slc, E_call, E_bi, E_mtd, E_cm, E_cmi, A_nil, A_cons, S_asg, S_pas, S_sto, S_ex, S_ite, S_for, S_wh, S_ret,
        S_retn, S_brk, S_cnt, S_pass, S_raise, Ss_nil, Ss_cons, evI, wipeS, bnd_ok, bind_eq, pure_eq, req_t, start0, slot0, outs, Ar.get, Ar.take, ta_nil, ta_cons, ga_nil, ga_cons, ce_eq, pT_nm, pT_tp, pTs_n, pTs_c,
        aT_o, aT_f, aT_s, aT_t, outA, outAs, asgTs, okIo, putIo, freezeAs, nlR_f, nlR_t, nlL_l, nl_n, nl_b, nl_i, nl_s, nl_t, nl_l, nls_n, nls_c, nls_ints, isSl, isOwn,   e_bi_min, e_bi_max, e_bi_lenL, e_bi_lenT,
        e_bi_abs, e_bi_int, e_bi_tupL, e_bi_tupT, e_bi_lstL, e_bi_lstT, e_isI, e_isIt, e_isIl, e_isB, e_isT, e_isTt, e_isTl, e_isL, e_isLt, e_isLl, e_add, e_sub, e_mul, e_div, e_mod, e_pow, e_catL, e_catT, e_repT,
        e_eq, e_ne, e_lt, e_le, e_gt, e_ge, e_issI, e_issN, e_isnI, e_isnN, tr_n, tr_b, tr_i, tr_l, tr_t, mu_app, sto_l, slc_l, slc_t, q_dl, q_dt, q_ll, q_lt, partB, optI, setS, backS, it_l, it_t, L2.atI, L2.ixN,
        w, s_fill n hr, hlt]
    unfold forF at ih ⊢
    rw [List.map_cons, loopF, st, bnd_ok]
    refine ih.trans ?_
    rw [delF]
    simp
theorem s_delayed (n : Nat) {r s : Int} {ts : List Int} (B : BktOk r s) (W : TmsOk ts) (r0 : 0 < r) : evC tb (n + 5) 11 [bkt r s, tms ts] = .ok ⟨false, tms (delF r s s 0 ts), []⟩ := by
  have hr := sm_r B.r0 B.r5
  have ln := W.ln
  have s1 := B.s1
  have e1 : evC tb (n + 4) 4 _ = _ := s_ckb (n + 1) B
  have e2 : evC tb (n + 4) 5 _ = _ := s_ckt n B W
  have rn : r ≠ 0 := by omega
  obtain ⟨tk', m', x', y', e3⟩ := del_loop (n + 3) (s := s) hr r0 (by omega) (tms ts) ts s 0 [] .un .un (fun d z => nomatch z) (fun d z => nomatch z) (by omega) (by simp; omega)
  have e3 : forF (evC tb (n + 4)) _ _ _ _ = _ := e3
  rw [evC_succ tb11]
  unfold f_delayed
  unfold bkt tms at *
  simp [evD, E_sl, E_cst, E_gc, E_tup, E_lst, E_bin, E_neg, E_cmp, E_ch2, E_and, E_or, E_not, E_ite, E_ix, E_slc, E_call, E_bi, E_mtd, E_cm, E_cmi, A_nil, A_cons, S_asg, S_pas, S_sto, S_ex, S_ite, S_for, S_wh, S_ret,
        S_retn, S_brk, S_cnt, S_pass, S_raise, Ss_nil, Ss_cons, evI, wipeS, bnd_ok, bind_eq, pure_eq, req_t, start0, slot0, outs, Ar.get, Ar.take, ta_nil, ta_cons, ga_nil, ga_cons, ce_eq, pT_nm, pT_tp, pTs_n, pTs_c,
        aT_o, aT_f, aT_s, aT_t, outA, outAs, asgTs, okIo, putIo, freezeAs, nlR_f, nlR_t, nlL_l, nl_n, nl_b, nl_i, nl_s, nl_t, nl_l, nls_n, nls_c, nls_ints, isSl, isOwn,   e_bi_min, e_bi_max, e_bi_lenL, e_bi_lenT,
        e_bi_abs, e_bi_int, e_bi_tupL, e_bi_tupT, e_bi_lstL, e_bi_lstT, e_isI, e_isIt, e_isIl, e_isB, e_isT, e_isTt, e_isTl, e_isL, e_isLt, e_isLl, e_add, e_sub, e_mul, e_div, e_mod, e_pow, e_catL, e_catT, e_repT,
        e_eq, e_ne, e_lt, e_le, e_gt, e_ge, e_issI, e_issN, e_isnI, e_isnN, tr_n, tr_b, tr_i, tr_l, tr_t, mu_app, sto_l, slc_l, slc_t, q_dl, q_dt, q_ll, q_lt, partB, optI, setS, backS, it_l, it_t, L2.atI, L2.ixN,
        e1, e2, e3, rn, sz]
end PX

set_option Elab.async false
set_option linter.all false
set_option maxRecDepth 100000
set_option maxHeartbeats 4000000
namespace PX
open PySem L2
/-- the line's state T at M tells the delayed one's tk at m: who comes next isn't let in ahead of M -/
structure Ln (r s tk m : Int) (ts : List Int) (T M : Int) : Prop where
  mM : m ≤ M
  tk0 : 0 ≤ tk
  tks : tk ≤ s
  e : T = fill r s tk (M - m)
  nx : ∀ t us, ts = t :: us → M ≤ m + dst r s tk m t
theorem dst_min {r s tk m t b : Int} (hb : 0 ≤ b) (ht : t ≤ m + b) (hp : 0 < fill r s tk b) (hr : 0 ≤ r) (h0 : 0 ≤ tk) : dst r s tk m t ≤ b := by
  have b0le : b0 m t ≤ b := by unfold b0; split <;> omega
  unfold dst
  by_cases e : fill r s tk (b0 m t) = 0
  · rw [if_pos e]
    by_cases c : b0 m t = b
    · rw [c] at e; omega
    · omega
  · rw [if_neg e]; exact b0le
theorem tb21 : tb[21]? = some f__law_line := rfl
theorem int_len (l : List Int) : (l.map PyData.int).length = l.length := List.length_map _
def lnS (r s T M : Int) (full found : List Int) : Sl := [.frz (bkt r s), .frz (tms full), .frz (.int r), .frz (.int s), .frz (.int T), .frz (.int M), .own (.list (found.map .int))]
theorem full_at {full pre ts : List Int} {t : Int} (h : full = pre ++ t :: ts) : item (tms full) (.int pre.length) = .ok (.int t) := by
  refine it_tk (by omega) ?_
  rw [List.getElem?_map, h]
  simp
theorem ln_in (cal : Nat → List D → R CR) {r s M : Int} {full : List Int} (hr : 0 ≤ r) (hfl : full.length ≤ 1000) : ∀ (ts pre : List Int) (T tk m : Int) (found : List Int) (fuel : Nat), ts.length < fuel → full = pre ++ ts → pre.length = found.length → Ln r s tk m ts T M →
    ∃ ts' pre' T' tk' m' found', whF cal c1__law_line b2__law_line fuel (lnS r s T M full found) = .ok (.nx (lnS r s T' M full found')) ∧ full = pre' ++ ts' ∧ pre'.length = found'.length ∧ Ln r s tk' m' ts' T' M ∧ found' ++ delF r s tk' m' ts' = found ++ delF r s tk m ts ∧ ts'.length ≤ ts.length ∧ (∀ t us, ts' = t :: us → ¬ (t ≤ M ∧ 0 < T'))
  | ts, pre, T, tk, m, found, 0, h, _, _, _ => absurd h (Nat.not_lt_zero _)
  | [], pre, T, tk, m, found, fuel + 1, _, hf, hp, L => by
    refine ⟨[], pre, T, tk, m, found, ?_, hf, hp, L, rfl, Nat.le_refl _, fun t us z => nomatch z⟩
    have hl : full.length = found.length := by rw [hf, List.append_nil, hp]
    have c : condF cal c1__law_line (lnS r s T M full found) = .ok (false, lnS r s T M full found) := by
      unfold condF c1__law_line lnS tms
      simp [evD, E_sl, E_cst, E_gc, E_tup, E_lst, E_bin, E_neg, E_cmp, E_ch2, E_and, E_or, E_not, E_ite, E_ix, E_slc, E_call, E_bi, E_mtd, E_cm, E_cmi, A_nil, A_cons, S_asg, S_pas, S_sto, S_ex, S_ite, S_for, S_wh, S_ret,
        S_retn, S_brk, S_cnt, S_pass, S_raise, Ss_nil, Ss_cons, evI, wipeS, bnd_ok, bind_eq, pure_eq, req_t, start0, slot0, outs, Ar.get, Ar.take, ta_nil, ta_cons, ga_nil, ga_cons, ce_eq, pT_nm, pT_tp, pTs_n, pTs_c,
        aT_o, aT_f, aT_s, aT_t, outA, outAs, asgTs, okIo, putIo, freezeAs, nlR_f, nlR_t, nlL_l, nl_n, nl_b, nl_i, nl_s, nl_t, nl_l, nls_n, nls_c, nls_ints, isSl, isOwn,   e_bi_min, e_bi_max, e_bi_lenL, e_bi_lenT,
        e_bi_abs, e_bi_int, e_bi_tupL, e_bi_tupT, e_bi_lstL, e_bi_lstT, e_isI, e_isIt, e_isIl, e_isB, e_isT, e_isTt, e_isTl, e_isL, e_isLt, e_isLl, e_add, e_sub, e_mul, e_div, e_mod, e_pow, e_catL, e_catT, e_repT,
        e_eq, e_ne, e_lt, e_le, e_gt, e_ge, e_issI, e_issN, e_isnI, e_isnN, tr_n, tr_b, tr_i, tr_l, tr_t, mu_app, sto_l, slc_l, slc_t, q_dl, q_dt, q_ll, q_lt, partB, optI, setS, backS,
        hl]
    unfold whF
    rw [whileF, c, bnd_ok]
    simp
  | t :: ts, pre, T, tk, m, found, fuel + 1, h, hf, hp, L => by
    have hlt : found.length < full.length := by rw [hf, List.length_append, List.length_cons, hp]; omega
    have hit : item (.tuple (full.map .int)) (.int found.length) = .ok (.int t) := by rw [← hp]; exact full_at hf
    have hsz : found.length < sizeLine := L2.small1000 (by omega)
    by_cases hc : t ≤ M ∧ 0 < T
    · obtain ⟨h1, h2⟩ := hc
      have c : condF cal c1__law_line (lnS r s T M full found) = .ok (true, lnS r s T M full found) := by
        unfold condF c1__law_line lnS tms
        simp [evD, E_sl, E_cst, E_gc, E_tup, E_lst, E_bin, E_neg, E_cmp, E_ch2, E_and, E_or, E_not, E_ite, E_ix, E_slc, E_call, E_bi, E_mtd, E_cm, E_cmi, A_nil, A_cons, S_asg, S_pas, S_sto, S_ex, S_ite, S_for, S_wh, S_ret,
        S_retn, S_brk, S_cnt, S_pass, S_raise, Ss_nil, Ss_cons, evI, wipeS, bnd_ok, bind_eq, pure_eq, req_t, start0, slot0, outs, Ar.get, Ar.take, ta_nil, ta_cons, ga_nil, ga_cons, ce_eq, pT_nm, pT_tp, pTs_n, pTs_c,
        aT_o, aT_f, aT_s, aT_t, outA, outAs, asgTs, okIo, putIo, freezeAs, nlR_f, nlR_t, nlL_l, nl_n, nl_b, nl_i, nl_s, nl_t, nl_l, nls_n, nls_c, nls_ints, isSl, isOwn,   e_bi_min, e_bi_max, e_bi_lenL, e_bi_lenT,
        e_bi_abs, e_bi_int, e_bi_tupL, e_bi_tupT, e_bi_lstL, e_bi_lstT, e_isI, e_isIt, e_isIl, e_isB, e_isT, e_isTt, e_isTl, e_isL, e_isLt, e_isLl, e_add, e_sub, e_mul, e_div, e_mod, e_pow, e_catL, e_catT, e_repT,
        e_eq, e_ne, e_lt, e_le, e_gt, e_ge, e_issI, e_issN, e_isnI, e_isnN, tr_n, tr_b, tr_i, tr_l, tr_t, mu_app, sto_l, slc_l, slc_t, q_dl, q_dt, q_ll, q_lt, partB, optI, setS, backS,
        hlt, hit, h1, h2]
      have st : evSs cal b2__law_line (lnS r s T M full found) = .ok (.nx (lnS r s (T - 1) M full (found ++ [M]))) := by
        unfold b2__law_line lnS
        simp [evD, E_sl, E_cst, E_gc, E_tup, E_lst, E_bin, E_neg, E_cmp, E_ch2, E_and, E_or, E_not, E_ite, E_ix, E_slc, E_call, E_bi, E_mtd, E_cm, E_cmi, A_nil, A_cons, S_asg, S_pas, S_sto, S_ex, S_ite, S_for, S_wh, S_ret,
        S_retn, S_brk, S_cnt, S_pass, S_raise, Ss_nil, Ss_cons, evI, wipeS, bnd_ok, bind_eq, pure_eq, req_t, start0, slot0, outs, Ar.get, Ar.take, ta_nil, ta_cons, ga_nil, ga_cons, ce_eq, pT_nm, pT_tp, pTs_n, pTs_c,
        aT_o, aT_f, aT_s, aT_t, outA, outAs, asgTs, okIo, putIo, freezeAs, nlR_f, nlR_t, nlL_l, nl_n, nl_b, nl_i, nl_s, nl_t, nl_l, nls_n, nls_c, nls_ints, isSl, isOwn,   e_bi_min, e_bi_max, e_bi_lenL, e_bi_lenT,
        e_bi_abs, e_bi_int, e_bi_tupL, e_bi_tupT, e_bi_lstL, e_bi_lstT, e_isI, e_isIt, e_isIl, e_isB, e_isT, e_isTt, e_isTl, e_isL, e_isLt, e_isLl, e_add, e_sub, e_mul, e_div, e_mod, e_pow, e_catL, e_catT, e_repT,
        e_eq, e_ne, e_lt, e_le, e_gt, e_ge, e_issI, e_issN, e_isnI, e_isnN, tr_n, tr_b, tr_i, tr_l, tr_t, mu_app, sto_l, slc_l, slc_t, q_dl, q_dt, q_ll, q_lt, partB, optI, setS, backS,
        hsz]
      have hd : m + dst r s tk m t = M := by
        have g := L.nx t ts rfl
        have := dst_min (r := r) (s := s) (tk := tk) (m := m) (t := t) (b := M - m) (by have := L.mM; omega) (by omega) (by rw [← L.e]; exact h2) hr L.tk0
        omega
      have hd' : dst r s tk m t = M - m := by omega
      have Ts : T ≤ s := by rw [L.e]; exact fill_le _ _ _ _
      have L' : Ln r s (T - 1) M ts (T - 1) M := ⟨Int.le_refl _, by omega, by omega, by rw [Int.sub_self, fill_zero (by omega)], fun u us _ => by have := (dst_ge (r := r) (s := s) (tk := T - 1) (m := M) (t := u)).1; omega⟩
      obtain ⟨ts', pre', T', tk', m', found', q1, q2, q3, q4, q5, q6, q7⟩ := ln_in cal hr hfl ts (pre ++ [t]) (T - 1) (T - 1) M (found ++ [M]) fuel (by rw [List.length_cons] at h; omega) (by rw [hf]; simp) (by simp [hp]) L'
      refine ⟨ts', pre', T', tk', m', found', ?_, q2, q3, q4, ?_, by rw [List.length_cons]; omega, q7⟩
      · unfold whF at q1 ⊢
        rw [whileF, c, bnd_ok]
        simp only [if_true]
        rw [st, bnd_ok]
        exact q1
      · rw [q5, delF, hd', ← L.e, show m + (M - m) = M by omega]
        simp
    · refine ⟨t :: ts, pre, T, tk, m, found, ?_, hf, hp, L, rfl, Nat.le_refl _, fun u us z => by cases z; exact hc⟩
      have c : condF cal c1__law_line (lnS r s T M full found) = .ok (false, lnS r s T M full found) := by
        unfold condF c1__law_line lnS tms
        by_cases h1 : t ≤ M
        · have h2 : ¬ 0 < T := fun z => hc ⟨h1, z⟩
          simp [evD, E_sl, E_cst, E_gc, E_tup, E_lst, E_bin, E_neg, E_cmp, E_ch2, E_and, E_or, E_not, E_ite, E_ix, E_slc, E_call, E_bi, E_mtd, E_cm, E_cmi, A_nil, A_cons, S_asg, S_pas, S_sto, S_ex, S_ite, S_for, S_wh, S_ret,
        S_retn, S_brk, S_cnt, S_pass, S_raise, Ss_nil, Ss_cons, evI, wipeS, bnd_ok, bind_eq, pure_eq, req_t, start0, slot0, outs, Ar.get, Ar.take, ta_nil, ta_cons, ga_nil, ga_cons, ce_eq, pT_nm, pT_tp, pTs_n, pTs_c,
        aT_o, aT_f, aT_s, aT_t, outA, outAs, asgTs, okIo, putIo, freezeAs, nlR_f, nlR_t, nlL_l, nl_n, nl_b, nl_i, nl_s, nl_t, nl_l, nls_n, nls_c, nls_ints, isSl, isOwn,   e_bi_min, e_bi_max, e_bi_lenL, e_bi_lenT,
        e_bi_abs, e_bi_int, e_bi_tupL, e_bi_tupT, e_bi_lstL, e_bi_lstT, e_isI, e_isIt, e_isIl, e_isB, e_isT, e_isTt, e_isTl, e_isL, e_isLt, e_isLl, e_add, e_sub, e_mul, e_div, e_mod, e_pow, e_catL, e_catT, e_repT,
        e_eq, e_ne, e_lt, e_le, e_gt, e_ge, e_issI, e_issN, e_isnI, e_isnN, tr_n, tr_b, tr_i, tr_l, tr_t, mu_app, sto_l, slc_l, slc_t, q_dl, q_dt, q_ll, q_lt, partB, optI, setS, backS,
        hlt, hit, h1, h2]
        · simp [evD, E_sl, E_cst, E_gc, E_tup, E_lst, E_bin, E_neg, E_cmp, E_ch2, E_and, E_or, E_not, E_ite, E_ix, E_slc, E_call, E_bi, E_mtd, E_cm, E_cmi, A_nil, A_cons, S_asg, S_pas, S_sto, S_ex, S_ite, S_for, S_wh, S_ret,
        S_retn, S_brk, S_cnt, S_pass, S_raise, Ss_nil, Ss_cons, evI, wipeS, bnd_ok, bind_eq, pure_eq, req_t, start0, slot0, outs, Ar.get, Ar.take, ta_nil, ta_cons, ga_nil, ga_cons, ce_eq, pT_nm, pT_tp, pTs_n, pTs_c,
        aT_o, aT_f, aT_s, aT_t, outA, outAs, asgTs, okIo, putIo, freezeAs, nlR_f, nlR_t, nlL_l, nl_n, nl_b, nl_i, nl_s, nl_t, nl_l, nls_n, nls_c, nls_ints, isSl, isOwn,   e_bi_min, e_bi_max, e_bi_lenL, e_bi_lenT,
        e_bi_abs, e_bi_int, e_bi_tupL, e_bi_tupT, e_bi_lstL, e_bi_lstT, e_isI, e_isIt, e_isIl, e_isB, e_isT, e_isTt, e_isTl, e_isL, e_isLt, e_isLl, e_add, e_sub, e_mul, e_div, e_mod, e_pow, e_catL, e_catT, e_repT,
        e_eq, e_ne, e_lt, e_le, e_gt, e_ge, e_issI, e_issN, e_isnI, e_isnN, tr_n, tr_b, tr_i, tr_l, tr_t, mu_app, sto_l, slc_l, slc_t, q_dl, q_dt, q_ll, q_lt, partB, optI, setS, backS,
        hlt, hit, h1]
      unfold whF
      rw [whileF, c, bnd_ok]
      simp
/-- the last moment at which one is let in -/
theorem del_bound {r s : Int} : ∀ (ts : List Int) (tk m B : Int), (∀ t ∈ ts, t ≤ B) → m ≤ B → ∀ x ∈ delF r s tk m ts, x ≤ B + ts.length
  | [], _, _, _, _, _, x, hx => by simp [delF] at hx
  | t :: ts, tk, m, B, ht, hm, x, hx => by
    have h1 := ht t List.mem_cons_self
    have hd : m + dst r s tk m t ≤ B + 1 := by
      unfold dst b0
      split <;> split <;> omega
    rw [List.length_cons]
    simp only [delF, List.mem_cons] at hx
    rcases hx with rfl | hx
    · simp; omega
    · have := del_bound ts _ _ (B + 1) (fun u hu => by have := ht u (List.mem_cons_of_mem _ hu); omega) hd x hx
      simp; omega
theorem delF_len (r s : Int) : ∀ (ts : List Int) (tk m : Int), (delF r s tk m ts).length = ts.length
  | [], _, _ => rfl
  | t :: ts, _, _ => by simp [delF, delF_len r s ts]
theorem ln_out (cal : Nat → List D → R CR) {r s B : Int} {full : List Int} (hr : 0 < r) (hr5 : small64 r = true) (s0 : 0 < s) (hfl : full.length ≤ 1000) : ∀ (k : Nat) (fuel : Nat) (ts pre : List Int) (T M tk m : Int) (found : List Int), k < fuel → (ts ≠ [] → B + 1 - M ≤ k) → full = pre ++ ts → pre.length = found.length → Ln r s tk m ts T M → (∀ x ∈ delF r s tk m ts, x ≤ B) →
    ∃ T' M', whF cal c0__law_line b3__law_line fuel (lnS r s T M full found) = .ok (.nx (lnS r s T' M' full (found ++ delF r s tk m ts)))
  | k, 0, ts, pre, T, M, tk, m, found, h, _, _, _, _, _ => absurd h (Nat.not_lt_zero _)
  | k, fuel + 1, [], pre, T, M, tk, m, found, _, _, hf, hp, L, _ => by
    refine ⟨T, M, ?_⟩
    have hl : full.length = found.length := by rw [hf, List.append_nil, hp]
    have c : condF cal c0__law_line (lnS r s T M full found) = .ok (false, lnS r s T M full found) := by
      unfold condF c0__law_line lnS tms
      simp [evD, E_sl, E_cst, E_gc, E_tup, E_lst, E_bin, E_neg, E_cmp, E_ch2, E_and, E_or, E_not, E_ite, E_ix, E_slc, E_call, E_bi, E_mtd, E_cm, E_cmi, A_nil, A_cons, S_asg, S_pas, S_sto, S_ex, S_ite, S_for, S_wh, S_ret,
        S_retn, S_brk, S_cnt, S_pass, S_raise, Ss_nil, Ss_cons, evI, wipeS, bnd_ok, bind_eq, pure_eq, req_t, start0, slot0, outs, Ar.get, Ar.take, ta_nil, ta_cons, ga_nil, ga_cons, ce_eq, pT_nm, pT_tp, pTs_n, pTs_c,
        aT_o, aT_f, aT_s, aT_t, outA, outAs, asgTs, okIo, putIo, freezeAs, nlR_f, nlR_t, nlL_l, nl_n, nl_b, nl_i, nl_s, nl_t, nl_l, nls_n, nls_c, nls_ints, isSl, isOwn,   e_bi_min, e_bi_max, e_bi_lenL, e_bi_lenT,
        e_bi_abs, e_bi_int, e_bi_tupL, e_bi_tupT, e_bi_lstL, e_bi_lstT, e_isI, e_isIt, e_isIl, e_isB, e_isT, e_isTt, e_isTl, e_isL, e_isLt, e_isLl, e_add, e_sub, e_mul, e_div, e_mod, e_pow, e_catL, e_catT, e_repT,
        e_eq, e_ne, e_lt, e_le, e_gt, e_ge, e_issI, e_issN, e_isnI, e_isnN, tr_n, tr_b, tr_i, tr_l, tr_t, mu_app, sto_l, slc_l, slc_t, q_dl, q_dt, q_ll, q_lt, partB, optI, setS, backS,
        hl]
    unfold whF
    rw [whileF, c, bnd_ok]
    simp [delF]
  | k, fuel + 1, t :: ts, pre, T, M, tk, m, found, h, hk, hf, hp, L, hB => by
    have hM := L.nx t ts rfl
    have hB1 := hB (m + dst r s tk m t) (by simp [delF])
    have hk' := hk (by simp)
    have hlt : found.length < full.length := by rw [hf, List.length_append, List.length_cons, hp]; omega
    have c : condF cal c0__law_line (lnS r s T M full found) = .ok (true, lnS r s T M full found) := by
      unfold condF c0__law_line lnS tms
      simp [evD, E_sl, E_cst, E_gc, E_tup, E_lst, E_bin, E_neg, E_cmp, E_ch2, E_and, E_or, E_not, E_ite, E_ix, E_slc, E_call, E_bi, E_mtd, E_cm, E_cmi, A_nil, A_cons, S_asg, S_pas, S_sto, S_ex, S_ite, S_for, S_wh, S_ret,
        S_retn, S_brk, S_cnt, S_pass, S_raise, Ss_nil, Ss_cons, evI, wipeS, bnd_ok, bind_eq, pure_eq, req_t, start0, slot0, outs, Ar.get, Ar.take, ta_nil, ta_cons, ga_nil, ga_cons, ce_eq, pT_nm, pT_tp, pTs_n, pTs_c,
        aT_o, aT_f, aT_s, aT_t, outA, outAs, asgTs, okIo, putIo, freezeAs, nlR_f, nlR_t, nlL_l, nl_n, nl_b, nl_i, nl_s, nl_t, nl_l, nls_n, nls_c, nls_ints, isSl, isOwn,   e_bi_min, e_bi_max, e_bi_lenL, e_bi_lenT,
        e_bi_abs, e_bi_int, e_bi_tupL, e_bi_tupT, e_bi_lstL, e_bi_lstT, e_isI, e_isIt, e_isIl, e_isB, e_isT, e_isTt, e_isTl, e_isL, e_isLt, e_isLl, e_add, e_sub, e_mul, e_div, e_mod, e_pow, e_catL, e_catT, e_repT,
        e_eq, e_ne, e_lt, e_le, e_gt, e_ge, e_issI, e_issN, e_isnI, e_isnN, tr_n, tr_b, tr_i, tr_l, tr_t, mu_app, sto_l, slc_l, slc_t, q_dl, q_dt, q_ll, q_lt, partB, optI, setS, backS,
        hlt]
    have hlen : (t :: ts).length < WF := by
      have h1 : (t :: ts).length ≤ full.length := by rw [hf]; simp
      exact Nat.lt_of_le_of_lt (Nat.le_trans h1 hfl) (by decide)
    obtain ⟨ts', pre', T', tk', m', found', q1, q2, q3, q4, q5, q6, q7⟩ := ln_in cal (by omega) hfl (t :: ts) pre T tk m found WF hlen hf hp L
    have st : evSs cal b3__law_line (lnS r s T M full found) = .ok (.nx (lnS r s (fill r s T' 1) (M + 1) full found')) := by
      unfold b3__law_line
      unfold lnS fill at *
      simp [evD, E_sl, E_cst, E_gc, E_tup, E_lst, E_bin, E_neg, E_cmp, E_ch2, E_and, E_or, E_not, E_ite, E_ix, E_slc, E_call, E_bi, E_mtd, E_cm, E_cmi, A_nil, A_cons, S_asg, S_pas, S_sto, S_ex, S_ite, S_for, S_wh, S_ret,
        S_retn, S_brk, S_cnt, S_pass, S_raise, Ss_nil, Ss_cons, evI, wipeS, bnd_ok, bind_eq, pure_eq, req_t, start0, slot0, outs, Ar.get, Ar.take, ta_nil, ta_cons, ga_nil, ga_cons, ce_eq, pT_nm, pT_tp, pTs_n, pTs_c,
        aT_o, aT_f, aT_s, aT_t, outA, outAs, asgTs, okIo, putIo, freezeAs, nlR_f, nlR_t, nlL_l, nl_n, nl_b, nl_i, nl_s, nl_t, nl_l, nls_n, nls_c, nls_ints, isSl, isOwn,   e_bi_min, e_bi_max, e_bi_lenL, e_bi_lenT,
        e_bi_abs, e_bi_int, e_bi_tupL, e_bi_tupT, e_bi_lstL, e_bi_lstT, e_isI, e_isIt, e_isIl, e_isB, e_isT, e_isTt, e_isTl, e_isL, e_isLt, e_isLl, e_add, e_sub, e_mul, e_div, e_mod, e_pow, e_catL, e_catT, e_repT,
        e_eq, e_ne, e_lt, e_le, e_gt, e_ge, e_issI, e_issN, e_isnI, e_isnN, tr_n, tr_b, tr_i, tr_l, tr_t, mu_app, sto_l, slc_l, slc_t, q_dl, q_dt, q_ll, q_lt, partB, optI, setS, backS,
        q1]
    have L' : Ln r s tk' m' ts' (fill r s T' 1) (M + 1) := by
      refine ⟨by have := q4.mM; omega, q4.tk0, q4.tks, ?_, fun u us z => ?_⟩
      · rw [q4.e, fill_comp (by omega) (by omega)]
        congr 1
        omega
      · have g := q4.nx u us z
        have nn := q7 u us z
        have dg := dst_ge (r := r) (s := s) (tk := tk') (m := m') (t := u)
        by_cases e : M = m' + dst r s tk' m' u
        · exfalso
          refine nn ⟨by omega, ?_⟩
          have dp := dst_pos (r := r) (s := s) (tk := tk') (m := m') (t := u) hr q4.tk0 s0
          rw [q4.e, e, show m' + dst r s tk' m' u - m' = dst r s tk' m' u by omega]
          exact dp
        · omega
    have sub : ∀ x ∈ delF r s tk' m' ts', x ≤ B := by
      have l1 := congrArg List.length q5
      rw [List.length_append, List.length_append, delF_len, delF_len] at l1
      intro x hx
      rcases List.append_eq_append_iff.mp q5 with ⟨a, h1, h2⟩ | ⟨c, h1, h2⟩
      · have h3 := congrArg List.length h1
        rw [List.length_append] at h3
        have : a = [] := List.eq_nil_of_length_eq_zero (by omega)
        subst this
        exact hB x (by rw [List.nil_append] at h2; rw [← h2]; exact hx)
      · exact hB x (by rw [h2]; exact List.mem_append_right _ hx)
    obtain ⟨T2, M2, ih⟩ := ln_out cal hr hr5 s0 hfl (k - 1) fuel ts' pre' (fill r s T' 1) (M + 1) tk' m' found' (by omega) (fun _ => by omega) q2 q3 L' sub
    refine ⟨T2, M2, ?_⟩
    unfold whF at ih ⊢
    rw [whileF, c, bnd_ok]
    simp only [if_true]
    rw [st, bnd_ok, ← q5]
    exact ih
theorem s_line (n : Nat) {r s : Int} {ts : List Int} (B : BktOk r s) (W : TmsOk ts) (r0 : 0 < r) : evC tb (n + 1) 21 [bkt r s, tms ts] = .ok ⟨false, tms (delF r s s 0 ts), []⟩ := by
  have hr := sm_r B.r0 B.r5
  have ln := W.ln
  have s1 := B.s1
  obtain ⟨T', M', h⟩ := ln_out (evC tb n) (r := r) (s := s) (B := 52) (full := ts) r0 hr (by omega) (by omega) 53 WF ts [] s 0 s 0 [] (by decide) (fun _ => by decide) rfl rfl ⟨Int.le_refl _, by omega, Int.le_refl _, by rw [Int.sub_self, fill_zero (Int.le_refl _)], fun t us _ => by have := (dst_ge (r := r) (s := s) (tk := s) (m := 0) (t := t)).1; omega⟩ fun x hx => by
    have := del_bound ts s 0 40 (fun t ht => (W.bd t ht).2) (by decide) x hx
    omega
  rw [evC_succ tb21]
  unfold f__law_line
  unfold lnS bkt tms at *
  simp only [List.map_nil, List.nil_append] at h
  simp [evD, E_sl, E_cst, E_gc, E_tup, E_lst, E_bin, E_neg, E_cmp, E_ch2, E_and, E_or, E_not, E_ite, E_ix, E_slc, E_call, E_bi, E_mtd, E_cm, E_cmi, A_nil, A_cons, S_asg, S_pas, S_sto, S_ex, S_ite, S_for, S_wh, S_ret,
        S_retn, S_brk, S_cnt, S_pass, S_raise, Ss_nil, Ss_cons, evI, wipeS, bnd_ok, bind_eq, pure_eq, req_t, start0, slot0, outs, Ar.get, Ar.take, ta_nil, ta_cons, ga_nil, ga_cons, ce_eq, pT_nm, pT_tp, pTs_n, pTs_c,
        aT_o, aT_f, aT_s, aT_t, outA, outAs, asgTs, okIo, putIo, freezeAs, nlR_f, nlR_t, nlL_l, nl_n, nl_b, nl_i, nl_s, nl_t, nl_l, nls_n, nls_c, nls_ints, isSl, isOwn,   e_bi_min, e_bi_max, e_bi_lenL, e_bi_lenT,
        e_bi_abs, e_bi_int, e_bi_tupL, e_bi_tupT, e_bi_lstL, e_bi_lstT, e_isI, e_isIt, e_isIl, e_isB, e_isT, e_isTt, e_isTl, e_isL, e_isLt, e_isLl, e_add, e_sub, e_mul, e_div, e_mod, e_pow, e_catL, e_catT, e_repT,
        e_eq, e_ne, e_lt, e_le, e_gt, e_ge, e_issI, e_issN, e_isnI, e_isnN, tr_n, tr_b, tr_i, tr_l, tr_t, mu_app, sto_l, slc_l, slc_t, q_dl, q_dt, q_ll, q_lt, partB, optI, setS, backS, it_l, it_t, L2.atI, L2.ixN,
        h, sz]
end PX

set_option Elab.async false
set_option linter.all false
set_option maxRecDepth 100000
set_option maxHeartbeats 4000000
namespace PX
open PySem L2
theorem shaped_opt (os : List (Option Int)) : SeqAt.shaped (.list (os.map optD)) = true := by
  have h1 : ∀ os : List (Option Int), PyData.canLayAll0 (os.map optD) = true := by
    intro os
    induction os with
    | nil => rfl
    | cons o os ih => cases o <;> simp [PyData.canLayAll0, PyData.canLay0, optD, ih]
  have h2 : ∀ os : List (Option Int), PyData.depthAll (os.map optD) = 0 := by
    intro os
    induction os with
    | nil => rfl
    | cons o os ih => cases o <;> simp [PyData.depthAll, PyData.depth, optD, ih]
  simp [SeqAt.shaped, PyData.canLay0, PyData.depth, h1, h2]
def anyN (os : List (Option Int)) : Bool := os.any Option.isNone
theorem in_none (os : List (Option Int)) : cop .inn .none (.list (os.map optD)) = .ok (anyN os) := by
  rw [e_inL _ _ fun z => by simp]
  unfold inData
  rw [shaped_opt]
  have e0 : SeqAt.shaped PyData.none = true := by decide
  rw [e0, Bool.and_self, req_t]
  congr 1
  unfold anyN
  induction os with
  | nil => rfl
  | cons o os ih =>
    rw [List.map_cons, List.any_cons, List.any_cons, ih]
    cases o <;> rfl
def gg (r : Int) (ts : List Int) (f : Int) : Bool := anyN (pour r f f 0 ts)
theorem pour_all {r s : Int} (hr : 0 ≤ r) : ∀ (ts : List Int) (tk m : Int), ts.Pairwise (· ≤ ·) → (∀ t ∈ ts, m ≤ t) → (ts.length : Int) ≤ tk → tk ≤ s → anyN (pour r s tk m ts) = false
  | [], _, _, _, _, _, _ => rfl
  | t :: ts, tk, m, so, hm, hl, hs => by
    have so' := List.pairwise_cons.mp so
    rw [List.length_cons] at hl
    have ht := hm t List.mem_cons_self
    have k : tk ≤ fill r s tk (t - m) := by
      unfold fill
      have := Int.mul_nonneg hr (show 0 ≤ t - m by omega)
      split <;> omega
    have kp : 0 < fill r s tk (t - m) := by omega
    have := fill_le r s tk (t - m)
    unfold pour
    rw [if_pos kp]
    have ih := pour_all (s := s) hr ts (fill r s tk (t - m) - 1) t so'.2 so'.1 (by omega) (by omega)
    unfold anyN at ih ⊢
    rw [List.any_cons, ih]; rfl
theorem gg_last {r f : Int} {ts : List Int} (W : TmsOk ts) (hr : 0 ≤ r) (hf : 12 ≤ f) : gg r ts f = false :=
  pour_all hr ts f 0 W.so (fun t ht => (W.bd t ht).1) (by have := W.ln; omega) (Int.le_refl _)
theorem tb10 : tb[10]? = some f_least_size := rfl
theorem least_wh (n : Nat) {r : Int} {ts : List Int} (W : TmsOk ts) (hr : small64 r = true) (r0 : 0 ≤ r) : ∀ (k fuel : Nat) (f : Int), k < fuel → 12 ≤ f + k →
    ∃ g, f ≤ g ∧ (g = f ∨ g ≤ 12) ∧ gg r ts g = false ∧ (∀ e, f ≤ e → e < g → gg r ts e = true) ∧ whF (evC tb (n + 2)) c0_least_size b1_least_size fuel [.frz (.int r), .frz (tms ts), .frz (.int f)] = .ok (.nx [.frz (.int r), .frz (tms ts), .frz (.int g)])
  | k, 0, f, h, _ => absurd h (Nat.not_lt_zero _)
  | k, fuel + 1, f, h, hk => by
    have ln := W.ln
    have hp : evC tb (n + 2) 7 [.tuple [.int r, .int f], tms ts] = _ := s_poured n hr (s := f) (d := tms ts) (ts := ts) rfl (by omega)
    have c : condF (evC tb (n + 2)) c0_least_size [.frz (.int r), .frz (tms ts), .frz (.int f)] = .ok (gg r ts f, [.frz (.int r), .frz (tms ts), .frz (.int f)]) := by
      unfold condF c0_least_size gg
      simp [evD, E_sl, E_cst, E_gc, E_tup, E_lst, E_bin, E_neg, E_cmp, E_ch2, E_and, E_or, E_not, E_ite, E_ix, E_slc, E_call, E_bi, E_mtd, E_cm, E_cmi, A_nil, A_cons, S_asg, S_pas, S_sto, S_ex, S_ite, S_for, S_wh, S_ret,
        S_retn, S_brk, S_cnt, S_pass, S_raise, Ss_nil, Ss_cons, evI, wipeS, bnd_ok, bind_eq, pure_eq, req_t, start0, slot0, outs, Ar.get, Ar.take, ta_nil, ta_cons, ga_nil, ga_cons, ce_eq, pT_nm, pT_tp, pTs_n, pTs_c,
        aT_o, aT_f, aT_s, aT_t, outA, outAs, asgTs, okIo, putIo, freezeAs, nlR_f, nlR_t, nlL_l, nl_n, nl_b, nl_i, nl_s, nl_t, nl_l, nls_n, nls_c, nls_ints, isSl, isOwn,   e_bi_min, e_bi_max, e_bi_lenL, e_bi_lenT,
        e_bi_abs, e_bi_int, e_bi_tupL, e_bi_tupT, e_bi_lstL, e_bi_lstT, e_isI, e_isIt, e_isIl, e_isB, e_isT, e_isTt, e_isTl, e_isL, e_isLt, e_isLl, e_add, e_sub, e_mul, e_div, e_mod, e_pow, e_catL, e_catT, e_repT,
        e_eq, e_ne, e_lt, e_le, e_gt, e_ge, e_issI, e_issN, e_isnI, e_isnN, tr_n, tr_b, tr_i, tr_l, tr_t, mu_app, sto_l, slc_l, slc_t, q_dl, q_dt, q_ll, q_lt, partB, optI, setS, backS, it_l, it_t, L2.atI, L2.ixN,
        hp, in_none, sz]
    cases hg : gg r ts f with
    | false =>
      refine ⟨f, Int.le_refl _, .inl rfl, hg, fun e h1 h2 => by omega, ?_⟩
      unfold whF
      rw [whileF, c, hg, bnd_ok]
      simp
    | true =>
      have hf : f < 12 := by
        by_cases hf : 12 ≤ f
        · rw [gg_last W r0 hf] at hg; cases hg
        · omega
      have st : evSs (evC tb (n + 2)) b1_least_size [.frz (.int r), .frz (tms ts), .frz (.int f)] = .ok (.nx [.frz (.int r), .frz (tms ts), .frz (.int (f + 1))]) := by
        unfold b1_least_size
        simp [evD, E_sl, E_cst, E_gc, E_tup, E_lst, E_bin, E_neg, E_cmp, E_ch2, E_and, E_or, E_not, E_ite, E_ix, E_slc, E_call, E_bi, E_mtd, E_cm, E_cmi, A_nil, A_cons, S_asg, S_pas, S_sto, S_ex, S_ite, S_for, S_wh, S_ret,
        S_retn, S_brk, S_cnt, S_pass, S_raise, Ss_nil, Ss_cons, evI, wipeS, bnd_ok, bind_eq, pure_eq, req_t, start0, slot0, outs, Ar.get, Ar.take, ta_nil, ta_cons, ga_nil, ga_cons, ce_eq, pT_nm, pT_tp, pTs_n, pTs_c,
        aT_o, aT_f, aT_s, aT_t, outA, outAs, asgTs, okIo, putIo, freezeAs, nlR_f, nlR_t, nlL_l, nl_n, nl_b, nl_i, nl_s, nl_t, nl_l, nls_n, nls_c, nls_ints, isSl, isOwn,   e_bi_min, e_bi_max, e_bi_lenL, e_bi_lenT,
        e_bi_abs, e_bi_int, e_bi_tupL, e_bi_tupT, e_bi_lstL, e_bi_lstT, e_isI, e_isIt, e_isIl, e_isB, e_isT, e_isTt, e_isTl, e_isL, e_isLt, e_isLl, e_add, e_sub, e_mul, e_div, e_mod, e_pow, e_catL, e_catT, e_repT,
        e_eq, e_ne, e_lt, e_le, e_gt, e_ge, e_issI, e_issN, e_isnI, e_isnN, tr_n, tr_b, tr_i, tr_l, tr_t, mu_app, sto_l, slc_l, slc_t, q_dl, q_dt, q_ll, q_lt, partB, optI, setS, backS, it_l, it_t, L2.atI, L2.ixN]
      obtain ⟨g, q1, q2, q3, q4, q5⟩ := least_wh n W hr r0 (k - 1) fuel (f + 1) (by omega) (by omega)
      refine ⟨g, by omega, .inr (by rcases q2 with rfl | q2 <;> omega), q3, fun e h1 h2 => ?_, ?_⟩
      · by_cases e = f
        · subst e; exact hg
        · exact q4 e (by omega) h2
      · unfold whF at q5 ⊢
        rw [whileF, c, hg, bnd_ok]
        simp only [if_true]
        rw [st, bnd_ok]
        exact q5
theorem s_least (n : Nat) {r : Int} {ts : List Int} (W : TmsOk ts) (r0 : 0 ≤ r) (r5 : r ≤ 5) : ∃ g, 1 ≤ g ∧ g ≤ 12 ∧ gg r ts g = false ∧ (∀ e, 1 ≤ e → e < g → gg r ts e = true) ∧ evC tb (n + 5) 10 [.int r, tms ts] = .ok ⟨false, .int g, []⟩ := by
  have e1 : evC tb (n + 4) 5 [.tuple [.int r, .int 1], tms ts] = _ := s_ckt n (r := r) (s := 1) ⟨r0, r5, by decide, by decide⟩ W
  obtain ⟨g, q1, q2, q3, q4, q5⟩ := least_wh (n + 2) W (sm_r r0 r5) r0 11 WF 1 (by decide) (by decide)
  have q5 : whF (evC tb (n + 4)) _ _ _ _ = _ := q5
  refine ⟨g, q1, by rcases q2 with rfl | q2 <;> omega, q3, q4, ?_⟩
  rw [evC_succ tb10]
  unfold f_least_size
  simp [evD, E_sl, E_cst, E_gc, E_tup, E_lst, E_bin, E_neg, E_cmp, E_ch2, E_and, E_or, E_not, E_ite, E_ix, E_slc, E_call, E_bi, E_mtd, E_cm, E_cmi, A_nil, A_cons, S_asg, S_pas, S_sto, S_ex, S_ite, S_for, S_wh, S_ret,
        S_retn, S_brk, S_cnt, S_pass, S_raise, Ss_nil, Ss_cons, evI, wipeS, bnd_ok, bind_eq, pure_eq, req_t, start0, slot0, outs, Ar.get, Ar.take, ta_nil, ta_cons, ga_nil, ga_cons, ce_eq, pT_nm, pT_tp, pTs_n, pTs_c,
        aT_o, aT_f, aT_s, aT_t, outA, outAs, asgTs, okIo, putIo, freezeAs, nlR_f, nlR_t, nlL_l, nl_n, nl_b, nl_i, nl_s, nl_t, nl_l, nls_n, nls_c, nls_ints, isSl, isOwn,   e_bi_min, e_bi_max, e_bi_lenL, e_bi_lenT,
        e_bi_abs, e_bi_int, e_bi_tupL, e_bi_tupT, e_bi_lstL, e_bi_lstT, e_isI, e_isIt, e_isIl, e_isB, e_isT, e_isTt, e_isTl, e_isL, e_isLt, e_isLl, e_add, e_sub, e_mul, e_div, e_mod, e_pow, e_catL, e_catT, e_repT,
        e_eq, e_ne, e_lt, e_le, e_gt, e_ge, e_issI, e_issN, e_isnI, e_isnN, tr_n, tr_b, tr_i, tr_l, tr_t, mu_app, sto_l, slc_l, slc_t, q_dl, q_dt, q_ll, q_lt, partB, optI, setS, backS, it_l, it_t, L2.atI, L2.ixN,
        e1, q5, sz]
theorem idx_full : ∀ (os : List (Option Int)) (n : Nat), decide ((idx n os).length = os.length) = !anyN os
  | [], n => rfl
  | none :: os, n => by
    have h := idx_len os (n + 1)
    have : ¬ (idx (n + 1) os).length = os.length + 1 := by omega
    simp [idx, anyN, this]
  | some i :: os, n => by
    have ih := idx_full os (n + 1)
    simp only [idx, List.length_cons, anyN, List.any_cons, Option.isNone_some, Bool.false_or] at ih ⊢
    rw [← ih]
    simp
theorem rangeD_cons (lo : Int) (n : Nat) : rangeD lo (n + 1) 1 = .int lo :: rangeD (lo + 1) n 1 := by
  unfold rangeD
  rw [List.range_succ_eq_map, List.map_cons, List.map_map]
  congr 1
  · simp
  · refine List.map_congr_left fun k _ => ?_
    simp [Function.comp]
    omega
theorem first_of {p : D → Bool} {f : Int} : ∀ (n : Nat) (lo : Int), lo ≤ f → f < lo + n → p (.int f) = true → (∀ e : Int, lo ≤ e → e < f → p (.int e) = false) → ((rangeD lo n 1).filter p)[0]? = some (.int f)
  | 0, lo, h1, h2, _, _ => by omega
  | n + 1, lo, h1, h2, hp, hn => by
    rw [rangeD_cons]
    by_cases e : lo = f
    · subst e
      rw [List.filter_cons_of_pos hp]; rfl
    · rw [List.filter_cons_of_neg (by rw [hn lo (Int.le_refl _) (by omega)]; simp)]
      exact first_of n (lo + 1) (by omega) (by omega) hp fun x h3 h4 => hn x (by omega) h4
end PX

set_option Elab.async false
set_option linter.all false
set_option maxRecDepth 100000
set_option maxHeartbeats 4000000
namespace PX
open PySem L2
def bvO : Option Sv → Sv
  | some (.frz d) => .frz d
  | _ => .un
theorem bV_eq (s : Sl) (j : Nat) : backV s j = bvO s[j]? := by
  unfold backV bvO
  rfl
theorem io_bv (o : Option Sv) : isIo (bvO o) = false := by
  unfold bvO
  split <;> rfl
structure Nio (x2 x3 x4 x5 x6 x7 x8 x9 x10 x11 x12 : Sv) : Prop where
  h2 : isIo x2 = false
  h3 : isIo x3 = false
  h4 : isIo x4 = false
  h5 : isIo x5 = false
  h6 : isIo x6 = false
  h7 : isIo x7 = false
  h8 : isIo x8 = false
  h9 : isIo x9 = false
  h10 : isIo x10 = false
  h11 : isIo x11 = false
  h12 : isIo x12 = false
/-- the moments -/
def lstS (x : Sv) : List Int → Sv
  | [] => x
  | m :: ms => lstS (.frz (.int m)) ms
theorem mo_loop (n : Nat) {r s : Int} {ts : List Int} (B : BktOk r s) (W : TmsOk ts) {A0 A1 x2 x4 x6 x7 x8 x9 x10 x11 : Sv} : ∀ (ms : List Int) (x : Sv), isIo x = false → (∀ m ∈ ms, 0 ≤ m ∧ m ≤ 60) →
    forF (evC tb (n + 6)) (.nm 12) b0_law (ms.map .int) [A0, A1, x2, .frz (bkt r s), x4, .frz (tms ts), x6, x7, x8, x9, x10, x11, x] = .ok (.nx [A0, A1, x2, .frz (bkt r s), x4, .frz (tms ts), x6, x7, x8, x9, x10, x11, lstS x ms])
  | [], x, hx, _ => rfl
  | m :: ms, x, hx, hm => by
    have ih := mo_loop n B W (A0 := A0) (A1 := A1) (x2 := x2) (x4 := x4) (x6 := x6) (x7 := x7) (x8 := x8) (x9 := x9) (x10 := x10) (x11 := x11) ms (.frz (.int m)) rfl fun y hy => hm y (List.mem_cons_of_mem _ hy)
    have hb := hm m List.mem_cons_self
    have e1 : evC tb (n + 6) 13 [bkt r s, tms ts, .int m] = _ := s_tokat (n + 1) B W hb.1 hb.2
    have e2 : evC tb (n + 6) 22 [bkt r s, tms ts, .int m] = _ := s_lawtok (n + 4) (sm_r B.r0 B.r5) (by have := W.ln; omega)
    rw [← tok_same B W hb.1] at e2
    have e3 : evC tb (n + 6) 17 [.int (tokA r s m ts), .int (tokA r s m ts)] = _ := k_int (n + 5) _
    have st : ((putT (.nm 12) (.int m) [A0, A1, x2, .frz (bkt r s), x4, .frz (tms ts), x6, x7, x8, x9, x10, x11, x]).bind fun s2 => evSs (evC tb (n + 6)) b0_law s2) = .ok (.nx [A0, A1, x2, .frz (bkt r s), x4, .frz (tms ts), x6, x7, x8, x9, x10, x11, .frz (.int m)]) := by
      unfold b0_law
      simp [evD, E_sl, E_cst, E_gc, E_tup, E_lst, E_bin, E_neg, E_cmp, E_ch2, E_and, E_or, E_not, E_ite, E_ix, E_slc, E_call, E_bi, E_mtd, E_cm, E_cmi, A_nil, A_cons, S_asg, S_pas, S_sto, S_ex, S_ite, S_for, S_wh, S_ret,
        S_retn, S_brk, S_cnt, S_pass, S_raise, Ss_nil, Ss_cons, evI, wipeS, bnd_ok, bind_eq, pure_eq, req_t, start0, slot0, outs, Ar.get, Ar.take, ta_nil, ta_cons, ga_nil, ga_cons, ce_eq, pT_nm, pT_tp, pTs_n, pTs_c,
        aT_o, aT_f, aT_s, aT_t, outA, outAs, asgTs, okIo, putIo, freezeAs, nlR_f, nlR_t, nlL_l, nl_n, nl_b, nl_i, nl_s, nl_t, nl_l, nls_n, nls_c, nls_ints, isSl, isOwn,   e_bi_min, e_bi_max, e_bi_lenL, e_bi_lenT,
        e_bi_abs, e_bi_int, e_bi_tupL, e_bi_tupT, e_bi_lstL, e_bi_lstT, e_isI, e_isIt, e_isIl, e_isB, e_isT, e_isTt, e_isTl, e_isL, e_isLt, e_isLl, e_add, e_sub, e_mul, e_div, e_mod, e_pow, e_catL, e_catT, e_repT,
        e_eq, e_ne, e_lt, e_le, e_gt, e_ge, e_issI, e_issN, e_isnI, e_isnN, tr_n, tr_b, tr_i, tr_l, tr_t, mu_app, sto_l, slc_l, slc_t, q_dl, q_dt, q_ll, q_lt, partB, optI, setS_at, ioAt, io_bk, io_f, io_o, io_u,
        bk_n, bk_c, it_l, it_t, L2.atI, L2.ixN,
        hx, e1, e2, e3]
    unfold forF at ih ⊢
    rw [List.map_cons, loopF, st, bnd_ok]
    exact ih
theorem cm4 (cal : Nat → List D → R CR) {ts As : List Int} (h : ∀ i ∈ As, 0 ≤ i ∧ i < ts.length) (A0 A1 x2 x3 x4 x6 x7 x9 x10 x11 x12 : Sv) :
    compF (cmStep cal e4_law (.nm 8) [8]) (As.map .int) [A0, A1, x2, x3, x4, .frz (tms ts), x6, x7, .un, x9, x10, x11, x12] [] = .ok ((pick ts As).map .int, [A0, A1, x2, x3, x4, .frz (tms ts), x6, x7, .un, x9, x10, x11, x12]) := by
  rw [compF_map (g := fun d => match d with | .int i => .int (ts.getD i.toNat 0) | d => d) fun x hx => ?_]
  · simp [pick, Function.comp_def]
  · obtain ⟨i, hi, rfl⟩ := List.mem_map.mp hx
    unfold cmStep e4_law
    simp [evD, E_sl, E_cst, E_gc, E_tup, E_lst, E_bin, E_neg, E_cmp, E_ch2, E_and, E_or, E_not, E_ite, E_ix, E_slc, E_call, E_bi, E_mtd, E_cm, E_cmi, A_nil, A_cons, S_asg, S_pas, S_sto, S_ex, S_ite, S_for, S_wh, S_ret,
        S_retn, S_brk, S_cnt, S_pass, S_raise, Ss_nil, Ss_cons, evI, wipeS, bnd_ok, bind_eq, pure_eq, req_t, start0, slot0, outs, Ar.get, Ar.take, ta_nil, ta_cons, ga_nil, ga_cons, ce_eq, pT_nm, pT_tp, pTs_n, pTs_c,
        aT_o, aT_f, aT_s, aT_t, outA, outAs, asgTs, okIo, putIo, freezeAs, nlR_f, nlR_t, nlL_l, nl_n, nl_b, nl_i, nl_s, nl_t, nl_l, nls_n, nls_c, nls_ints, isSl, isOwn,   e_bi_min, e_bi_max, e_bi_lenL, e_bi_lenT,
        e_bi_abs, e_bi_int, e_bi_tupL, e_bi_tupT, e_bi_lstL, e_bi_lstT, e_isI, e_isIt, e_isIl, e_isB, e_isT, e_isTt, e_isTl, e_isL, e_isLt, e_isLl, e_add, e_sub, e_mul, e_div, e_mod, e_pow, e_catL, e_catT, e_repT,
        e_eq, e_ne, e_lt, e_le, e_gt, e_ge, e_issI, e_issN, e_isnI, e_isnN, tr_n, tr_b, tr_i, tr_l, tr_t, mu_app, sto_l, slc_l, slc_t, q_dl, q_dt, q_ll, q_lt, partB, optI, setS, backS,
        (item_pick (h i hi).1 (h i hi).2).1]
theorem cm3 (cal : Nat → List D → R CR) {As Bs : List Int} (h : ∀ i ∈ Bs, 0 ≤ i ∧ i < As.length) (A0 A1 x2 x3 x4 x5 x7 x9 x10 x11 x12 : Sv) :
    compF (cmStep cal e3_law (.nm 8) [8]) (Bs.map .int) [A0, A1, x2, x3, x4, x5, .frz (.list (As.map .int)), x7, .un, x9, x10, x11, x12] [] = .ok ((pick As Bs).map .int, [A0, A1, x2, x3, x4, x5, .frz (.list (As.map .int)), x7, .un, x9, x10, x11, x12]) := by
  rw [compF_map (g := fun d => match d with | .int i => .int (As.getD i.toNat 0) | d => d) fun x hx => ?_]
  · simp [pick, Function.comp_def]
  · obtain ⟨i, hi, rfl⟩ := List.mem_map.mp hx
    unfold cmStep e3_law
    simp [evD, E_sl, E_cst, E_gc, E_tup, E_lst, E_bin, E_neg, E_cmp, E_ch2, E_and, E_or, E_not, E_ite, E_ix, E_slc, E_call, E_bi, E_mtd, E_cm, E_cmi, A_nil, A_cons, S_asg, S_pas, S_sto, S_ex, S_ite, S_for, S_wh, S_ret,
        S_retn, S_brk, S_cnt, S_pass, S_raise, Ss_nil, Ss_cons, evI, wipeS, bnd_ok, bind_eq, pure_eq, req_t, start0, slot0, outs, Ar.get, Ar.take, ta_nil, ta_cons, ga_nil, ga_cons, ce_eq, pT_nm, pT_tp, pTs_n, pTs_c,
        aT_o, aT_f, aT_s, aT_t, outA, outAs, asgTs, okIo, putIo, freezeAs, nlR_f, nlR_t, nlL_l, nl_n, nl_b, nl_i, nl_s, nl_t, nl_l, nls_n, nls_c, nls_ints, isSl, isOwn,   e_bi_min, e_bi_max, e_bi_lenL, e_bi_lenT,
        e_bi_abs, e_bi_int, e_bi_tupL, e_bi_tupT, e_bi_lstL, e_bi_lstT, e_isI, e_isIt, e_isIl, e_isB, e_isT, e_isTt, e_isTl, e_isL, e_isLt, e_isLl, e_add, e_sub, e_mul, e_div, e_mod, e_pow, e_catL, e_catT, e_repT,
        e_eq, e_ne, e_lt, e_le, e_gt, e_ge, e_issI, e_issN, e_isnI, e_isnN, tr_n, tr_b, tr_i, tr_l, tr_t, mu_app, sto_l, slc_l, slc_t, q_dl, q_dt, q_ll, q_lt, partB, optI, setS, backS,
        (item_pick (h i hi).1 (h i hi).2).2]
def isSz (r : Int) (ts : List Int) : D → Bool
  | .int f => !gg r ts f
  | _ => false
theorem cm2 (n : Nat) {r s : Int} {ts : List Int} (hr : small64 r = true) (hl : ts.length ≤ 1000) (A0 A1 x2 x4 x6 x7 x8 x9 x10 x12 : Sv) :
    compF (cmiStep (evC tb (n + 1)) e1_law (.nm 11) k2_law [11]) (rangeD 1 13 1) [A0, A1, x2, .frz (bkt r s), x4, .frz (tms ts), x6, x7, x8, x9, x10, .un, x12] [] = .ok ((rangeD 1 13 1).filter (isSz r ts), [A0, A1, x2, .frz (bkt r s), x4, .frz (tms ts), x6, x7, x8, x9, x10, .un, x12]) := by
  rw [compF_filter (p := isSz r ts) (g := id) fun x hx => ?_]
  · simp
  · obtain ⟨k, hk⟩ := List.getElem?_of_mem hx
    obtain ⟨rfl, _⟩ := rangeD_get hk
    generalize (1 : Int) + (k : Nat) * 1 = f
    have e1 : evC tb (n + 1) 20 [.tuple [.int r, .int f], tms ts] = _ := s_let n hr (s := f) (d := tms ts) (ts := ts) rfl hl
    have full := idx_full (pour r f f 0 ts) 0
    rw [pour_len] at full
    unfold cmiStep e1_law k2_law
    unfold bkt tms letD at *
    cases hg : gg r ts f with
    | true =>
      have hg' : anyN (pour r f f 0 ts) = true := hg
      rw [hg'] at full
      have ne : ¬ (idx 0 (pour r f f 0 ts)).length = ts.length := of_decide_eq_false full
      have ne' : ¬ ((idx 0 (pour r f f 0 ts)).length : Int) = ts.length := by omega
      simp [evD, E_sl, E_cst, E_gc, E_tup, E_lst, E_bin, E_neg, E_cmp, E_ch2, E_and, E_or, E_not, E_ite, E_ix, E_slc, E_call, E_bi, E_mtd, E_cm, E_cmi, A_nil, A_cons, S_asg, S_pas, S_sto, S_ex, S_ite, S_for, S_wh, S_ret,
        S_retn, S_brk, S_cnt, S_pass, S_raise, Ss_nil, Ss_cons, evI, wipeS, bnd_ok, bind_eq, pure_eq, req_t, start0, slot0, outs, Ar.get, Ar.take, ta_nil, ta_cons, ga_nil, ga_cons, ce_eq, pT_nm, pT_tp, pTs_n, pTs_c,
        aT_o, aT_f, aT_s, aT_t, outA, outAs, asgTs, okIo, putIo, freezeAs, nlR_f, nlR_t, nlL_l, nl_n, nl_b, nl_i, nl_s, nl_t, nl_l, nls_n, nls_c, nls_ints, isSl, isOwn,   e_bi_min, e_bi_max, e_bi_lenL, e_bi_lenT,
        e_bi_abs, e_bi_int, e_bi_tupL, e_bi_tupT, e_bi_lstL, e_bi_lstT, e_isI, e_isIt, e_isIl, e_isB, e_isT, e_isTt, e_isTl, e_isL, e_isLt, e_isLl, e_add, e_sub, e_mul, e_div, e_mod, e_pow, e_catL, e_catT, e_repT,
        e_eq, e_ne, e_lt, e_le, e_gt, e_ge, e_issI, e_issN, e_isnI, e_isnN, tr_n, tr_b, tr_i, tr_l, tr_t, mu_app, sto_l, slc_l, slc_t, q_dl, q_dt, q_ll, q_lt, partB, optI, setS, backS, it_l, it_t, L2.atI, L2.ixN,
        e1, ne', isSz, hg, sz]
    | false =>
      have hg' : anyN (pour r f f 0 ts) = false := hg
      rw [hg'] at full
      have ne : (idx 0 (pour r f f 0 ts)).length = ts.length := of_decide_eq_true full
      simp [evD, E_sl, E_cst, E_gc, E_tup, E_lst, E_bin, E_neg, E_cmp, E_ch2, E_and, E_or, E_not, E_ite, E_ix, E_slc, E_call, E_bi, E_mtd, E_cm, E_cmi, A_nil, A_cons, S_asg, S_pas, S_sto, S_ex, S_ite, S_for, S_wh, S_ret,
        S_retn, S_brk, S_cnt, S_pass, S_raise, Ss_nil, Ss_cons, evI, wipeS, bnd_ok, bind_eq, pure_eq, req_t, start0, slot0, outs, Ar.get, Ar.take, ta_nil, ta_cons, ga_nil, ga_cons, ce_eq, pT_nm, pT_tp, pTs_n, pTs_c,
        aT_o, aT_f, aT_s, aT_t, outA, outAs, asgTs, okIo, putIo, freezeAs, nlR_f, nlR_t, nlL_l, nl_n, nl_b, nl_i, nl_s, nl_t, nl_l, nls_n, nls_c, nls_ints, isSl, isOwn,   e_bi_min, e_bi_max, e_bi_lenL, e_bi_lenT,
        e_bi_abs, e_bi_int, e_bi_tupL, e_bi_tupT, e_bi_lstL, e_bi_lstT, e_isI, e_isIt, e_isIl, e_isB, e_isT, e_isTt, e_isTl, e_isL, e_isLt, e_isLl, e_add, e_sub, e_mul, e_div, e_mod, e_pow, e_catL, e_catT, e_repT,
        e_eq, e_ne, e_lt, e_le, e_gt, e_ge, e_issI, e_issN, e_isnI, e_isnN, tr_n, tr_b, tr_i, tr_l, tr_t, mu_app, sto_l, slc_l, slc_t, q_dl, q_dt, q_ll, q_lt, partB, optI, setS, backS, it_l, it_t, L2.atI, L2.ixN,
        e1, ne, isSz, hg, sz]
def lawI (scr : D) (j : Nat) (s : Sl) : Prop := ∃ (cells : List Int) (a b c e : Int) (x2 x3 x4 x5 x6 x7 x8 x9 x10 x11 x12 : Sv), s = [.frz scr, .own (hnd cells a b c e), x2, x3, x4, x5, x6, x7, x8, x9, x10, x11, x12] ∧ HandOk cells a b c e ∧ Nio x2 x3 x4 x5 x6 x7 x8 x9 x10 x11 x12
theorem law_step (n : Nat) {scr : D} {j : Nat} {i : Int} {sl : Sl} (h : lawI scr j sl) : ∃ s', ((putT (.nm 2) (.int i) sl).bind fun s2 => evSs (evC tb (n + 6)) b5_law s2) = .ok (.nx s') ∧ lawI scr (j + 1) s' := by
  obtain ⟨cells, a, b, c, e, x2, x3, x4, x5, x6, x7, x8, x9, x10, x11, x12, rfl, H, hx⟩ := h
  obtain ⟨h2, h3, h4, h5, h6, h7, h8, h9, h10, h11, h12⟩ := hx
  obtain ⟨a1, b1, c1, e1, r, s, d1, H1, B⟩ := s_bucket (n + 3) H
  obtain ⟨a2, b2, c2, e2, r2, s2, d2, H2, B2⟩ := s_bucket (n + 3) H1
  obtain ⟨a3, b3, c3, e3, ts, d3, H3, W⟩ := s_times (n + 3) H2
  have d1 : evC tb (n + 6) 18 _ = _ := d1
  have d2 : evC tb (n + 6) 18 _ = _ := d2
  have d3 : evC tb (n + 6) 19 _ = _ := d3
  obtain ⟨a4, b4, c4, e4, m1, d4, H4, m10, m11⟩ := s_draw (n + 5) (many := 61) H3 (by decide) (by decide)
  obtain ⟨a5, b5, c5, e5, m2, d5, H5, hm2⟩ := s_pick (n + 4) (is := ts ++ [0]) H4 (by simp) (by have := W.ln; simp; omega)
  have d4 : evC tb (n + 6) 15 _ = _ := d4
  have d5 : evC tb (n + 6) 16 _ = _ := d5
  rw [List.map_append, List.map_cons, List.map_nil] at d5
  have ln := W.ln
  have hr := sm_r B.r0 B.r5
  -- the two that are let in
  have l1 := letIn_len r s ts
  have f1 : evC tb (n + 6) 20 [bkt r s, tms ts] = .ok ⟨false, letD r s ts, []⟩ := s_let (n + 5) hr (s := s) (d := tms ts) (ts := ts) rfl (by omega)
  have f2 : evC tb (n + 6) 20 [bkt r2 s2, .list ((pick ts (letIn r s ts)).map .int)] = .ok ⟨false, letD r2 s2 (pick ts (letIn r s ts)), []⟩ := s_let (n + 5) (sm_r B2.r0 B2.r5) (s := s2) (ts := pick ts (letIn r s ts)) rfl (by rw [pick_len]; omega)
  have f3 : evC tb (n + 6) 12 [bkt r s, bkt r2 s2, tms ts] = _ := s_both (n + 1) B B2 W
  have f4 : evC tb (n + 6) 9 [bkt r s, tms ts] = .ok ⟨false, tms (letIn r s ts), []⟩ := s_letin (n + 1) B W
  have lD : letD r s ts = .tuple [.list ((letIn r s ts).map .int), .list ((lefts (pour r s s 0 ts)).map .int), .tuple [.int (endSt r s s 0 ts).1, .int (endSt r s s 0 ts).2]] := rfl
  have lD2 : letD r2 s2 (pick ts (letIn r s ts)) = .tuple [.list ((letIn r2 s2 (pick ts (letIn r s ts))).map .int), .list ((lefts (pour r2 s2 s2 0 (pick ts (letIn r s ts)))).map .int), .tuple [.int (endSt r2 s2 s2 0 (pick ts (letIn r s ts))).1, .int (endSt r2 s2 s2 0 (pick ts (letIn r s ts))).2]] := rfl
  rw [lD] at f1
  rw [lD2] at f2
  have mA : ∀ i ∈ letIn r s ts, 0 ≤ i ∧ i < ts.length := fun i hi => letIn_mem hi
  have mB : ∀ i ∈ letIn r2 s2 (pick ts (letIn r s ts)), 0 ≤ i ∧ i < (letIn r s ts).length := fun i hi => by
    have := letIn_mem hi
    rw [pick_len] at this
    exact this
  have l2 : (letIn r2 s2 (pick ts (letIn r s ts))).length ≤ (letIn r s ts).length := by
    have := letIn_len r2 s2 (pick ts (letIn r s ts))
    rw [pick_len] at this
    exact this
  generalize letIn r2 s2 (pick ts (letIn r s ts)) = Bs at *
  generalize letIn r s ts = As at *
  have z1 : As.length ≤ sizeLine := sl1000 (by omega)
  have z2 : Bs.length ≤ sizeLine := sl1000 (by omega)
  have kk : evC tb (n + 6) 17 [.list [tms (pick As Bs), tms As], .list [tms (pick As Bs), tms As]] = .ok ⟨false, .bool true, []⟩ := k_lst (n + 5) (by simp) fun d hd => by
    simp only [List.mem_cons, List.not_mem_nil, or_false] at hd
    rcases hd with rfl | rfl
    · exact k_tms (n + 3) (by rw [pick_len]; omega)
    · exact k_tms (n + 3) (by omega)
  obtain ⟨g, g1, g12, gF, gT, f5⟩ := s_least (n + 1) W B.r0 B.r5
  have f5 : evC tb (n + 6) 10 _ = _ := f5
  have kg : evC tb (n + 6) 17 [.int g, .int g] = _ := k_int (n + 5) g
  have fs := first_of (p := isSz r ts) (f := g) 13 1 g1 (by omega) (by simp [isSz, gF]) fun x h1 h2 => by simp [isSz, gT x h1 h2]
  have fi : item (.list ((rangeD 1 13 1).filter (isSz r ts))) (.int 0) = .ok (.int g) := it_lk (Int.le_refl _) fs
  have zr : (rangeD 1 13 1).length ≤ sizeLine := by rw [rangeD_len]; exact sz 13
  have mo : ∀ m ∈ [60, m1, m2], 0 ≤ m ∧ m ≤ 60 := fun m hm => by
    simp only [List.mem_cons, List.not_mem_nil, or_false] at hm
    rcases hm with rfl | rfl | rfl
    · decide
    · omega
    · rcases List.mem_append.mp hm2 with h | h
      · have := W.bd _ h; omega
      · simp at h; omega
  have ml : ∀ (A0 A1 x2 x4 x6 x7 x8 x9 x10 x11 x : Sv), isIo x = false → forF (evC tb (n + 6)) (.nm 12) b0_law [.int 60, .int m1, .int m2] [A0, A1, x2, .frz (bkt r s), x4, .frz (tms ts), x6, x7, x8, x9, x10, x11, x] = .ok (.nx [A0, A1, x2, .frz (bkt r s), x4, .frz (tms ts), x6, x7, x8, x9, x10, x11, .frz (.int m2)]) := fun A0 A1 x2 x4 x6 x7 x8 x9 x10 x11 x hx => mo_loop n B W [60, m1, m2] x hx mo
  have p4 := cm4 (evC tb (n + 6)) mA
  have p3 := cm3 (evC tb (n + 6)) mB
  have p2 : ∀ (A0 A1 x2 x4 x6 x7 x8 x9 x10 x12 : Sv), compF (cmiStep (evC tb (n + 6)) e1_law (.nm 11) k2_law [11]) (rangeD 1 13 1) [A0, A1, x2, .frz (bkt r s), x4, .frz (tms ts), x6, x7, x8, x9, x10, .un, x12] [] = _ := fun A0 A1 x2 x4 x6 x7 x8 x9 x10 x12 => cm2 (n + 5) (s := s) hr (by omega) A0 A1 x2 x4 x6 x7 x8 x9 x10 x12
  have zt : ts.length + 1 ≤ sizeLine := sl1000 (by omega)
  have s62a : small62 1 = true := by decide
  have s62b : small62 14 = true := by decide
  have io0 : isIo (.own (hnd cells a b c e)) = false := rfl
  refine ⟨[.frz scr, .own (hnd cells a5 b5 c5 e5), .frz (.int i), .frz (bkt r s), .frz (bkt r2 s2), .frz (tms ts), .frz (.list (As.map .int)), .frz (.list (Bs.map .int)), bvO (some (bvO (some x8))), .frz (tms (pick As Bs)), .own (.list ((rangeD 1 13 1).filter (isSz r ts))), bvO (some x11), .frz (.int m2)], ?_, cells, a5, b5, c5, e5, _, _, _, _, _, _, _, _, _, _, _, rfl, H5, ⟨rfl, rfl, rfl, rfl, rfl, rfl, io_bv _, rfl, rfl, io_bv _, rfl⟩⟩
  by_cases r0 : 0 < r
  · have u1 := s_delayed (n + 1) B W r0
    have u2 := s_line (n + 5) B W r0
    have u3 : evC tb (n + 6) 17 [tms (delF r s s 0 ts), tms (delF r s s 0 ts)] = _ := k_tms (n + 4) (by rw [delF_len]; omega)
    have u1 : evC tb (n + 6) 11 _ = _ := u1
    have u2 : evC tb (n + 6) 21 _ = _ := u2
    unfold b5_law
    unfold bkt tms hnd at *
    simp [evD, E_sl, E_cst, E_gc, E_tup, E_lst, E_bin, E_neg, E_cmp, E_ch2, E_and, E_or, E_not, E_ite, E_ix, E_slc, E_call, E_bi, E_mtd, E_cm, E_cmi, A_nil, A_cons, S_asg, S_pas, S_sto, S_ex, S_ite, S_for, S_wh, S_ret,
        S_retn, S_brk, S_cnt, S_pass, S_raise, Ss_nil, Ss_cons, evI, wipeS, bnd_ok, bind_eq, pure_eq, req_t, start0, slot0, outs, Ar.get, Ar.take, ta_nil, ta_cons, ga_nil, ga_cons, ce_eq, pT_nm, pT_tp, pTs_n, pTs_c,
        aT_o, aT_f, aT_s, aT_t, outA, outAs, asgTs, okIo, putIo, freezeAs, nlR_f, nlR_t, nlL_l, nl_n, nl_b, nl_i, nl_s, nl_t, nl_l, nls_n, nls_c, nls_ints, isSl, isOwn,   e_bi_min, e_bi_max, e_bi_lenL, e_bi_lenT,
        e_bi_abs, e_bi_int, e_bi_tupL, e_bi_tupT, e_bi_lstL, e_bi_lstT, e_isI, e_isIt, e_isIl, e_isB, e_isT, e_isTt, e_isTl, e_isL, e_isLt, e_isLl, e_add, e_sub, e_mul, e_div, e_mod, e_pow, e_catL, e_catT, e_repT,
        e_eq, e_ne, e_lt, e_le, e_gt, e_ge, e_issI, e_issN, e_isnI, e_isnN, tr_n, tr_b, tr_i, tr_l, tr_t, mu_app, sto_l, slc_l, slc_t, q_dl, q_dt, q_ll, q_lt, partB, optI,
        setS_at, ioAt, io_bv, io_f, io_o, io_u, bk_n, bk_c, bV_eq, it_l, it_t, L2.atI, L2.ixN, d1, d2, d3, d4, d5, h2, h3, h4, h5, h6, h7, h8, h9, h10, h11, h12, r0, u1, u2, u3, f1, f2, f3, f4, f5, p4, p3, p2, z1, z2, zr, zt, kk, kg, ml, fi, s62a, s62b, sz]
  · unfold b5_law
    unfold bkt tms hnd at *
    simp [evD, E_sl, E_cst, E_gc, E_tup, E_lst, E_bin, E_neg, E_cmp, E_ch2, E_and, E_or, E_not, E_ite, E_ix, E_slc, E_call, E_bi, E_mtd, E_cm, E_cmi, A_nil, A_cons, S_asg, S_pas, S_sto, S_ex, S_ite, S_for, S_wh, S_ret,
        S_retn, S_brk, S_cnt, S_pass, S_raise, Ss_nil, Ss_cons, evI, wipeS, bnd_ok, bind_eq, pure_eq, req_t, start0, slot0, outs, Ar.get, Ar.take, ta_nil, ta_cons, ga_nil, ga_cons, ce_eq, pT_nm, pT_tp, pTs_n, pTs_c,
        aT_o, aT_f, aT_s, aT_t, outA, outAs, asgTs, okIo, putIo, freezeAs, nlR_f, nlR_t, nlL_l, nl_n, nl_b, nl_i, nl_s, nl_t, nl_l, nls_n, nls_c, nls_ints, isSl, isOwn,   e_bi_min, e_bi_max, e_bi_lenL, e_bi_lenT,
        e_bi_abs, e_bi_int, e_bi_tupL, e_bi_tupT, e_bi_lstL, e_bi_lstT, e_isI, e_isIt, e_isIl, e_isB, e_isT, e_isTt, e_isTl, e_isL, e_isLt, e_isLl, e_add, e_sub, e_mul, e_div, e_mod, e_pow, e_catL, e_catT, e_repT,
        e_eq, e_ne, e_lt, e_le, e_gt, e_ge, e_issI, e_issN, e_isnI, e_isnN, tr_n, tr_b, tr_i, tr_l, tr_t, mu_app, sto_l, slc_l, slc_t, q_dl, q_dt, q_ll, q_lt, partB, optI,
        setS_at, ioAt, io_bv, io_f, io_o, io_u, bk_n, bk_c, bV_eq, it_l, it_t, L2.atI, L2.ixN, d1, d2, d3, d4, d5, h2, h3, h4, h5, h6, h7, h8, h9, h10, h11, h12, r0, f1, f2, f3, f4, f5, p4, p3, p2, z1, z2, zr, zt, kk, kg, ml, fi, s62a, s62b, sz]
theorem tb23 : tb[23]? = some f_law := rfl
theorem fin_d : evC tb 11 11 [.tuple [.int 1, .int 1], .tuple [.int 0, .int 0, .int 0]] = .ok ⟨false, .tuple [.int 0, .int 1, .int 2], []⟩ := by
  have W : TmsOk [0, 0, 0] := ⟨by decide, by decide, by decide⟩
  exact s_delayed 6 (r := 1) (s := 1) (ts := [0, 0, 0]) ⟨by decide, by decide, by decide, by decide⟩ W (by decide)
theorem fin_l : evC tb 11 10 [.int 0, .tuple [.int 0, .int 0, .int 0, .int 0, .int 0, .int 0, .int 0, .int 0, .int 0, .int 0, .int 0, .int 0]] = .ok ⟨false, .int 12, []⟩ := by
  have W : TmsOk (List.replicate 12 0) := ⟨by decide, by decide, by decide⟩
  obtain ⟨g, g1, g12, gF, gT, h⟩ := s_least 6 (r := 0) W (by decide) (by decide)
  have hg : g = 12 := by
    by_cases c : g < 12
    · exfalso
      have all : ∀ k : Nat, k < 12 → gg 0 (List.replicate 12 0) (k : Int) = true := by decide
      have := all g.toNat (by omega)
      rw [Int.toNat_of_nonneg (by omega)] at this
      rw [gF] at this
      cases this
    · omega
  subst hg
  exact h
theorem eq_t : cop .eq (.tuple [.int 0, .int 1, .int 2]) (.tuple [.int 0, .int 1, .int 2]) = .ok true := by rfl
theorem pure_law : ∀ ns : List Int, ns.length ≤ 63 → evC tb 12 23 [.list (ns.map .int)] = .ok ⟨false, .bool true, []⟩ := by
  intro ns hl
  obtain ⟨cells, c, h1, H⟩ := s_hand 10 hl
  have h1 : evC tb 11 14 _ = _ := h1
  obtain ⟨s', h2, cells', a, b, c', e, x2, x3, x4, x5, x6, x7, x8, x9, x10, x11, x12, rfl, _, _⟩ := loopF_inv (body := fun x s => (putT (.nm 2) x s).bind fun s2 => evSs (evC tb 11) b5_law s2) (lawI (.list (ns.map .int))) (ds := rangeD 0 8 1)
    (s := [.frz (.list (ns.map .int)), .own (hnd cells 0 0 c 0), .un, .un, .un, .un, .un, .un, .un, .un, .un, .un, .un]) (i := 0)
    ⟨cells, 0, 0, c, 0, _, _, _, _, _, _, _, _, _, _, _, rfl, H, ⟨rfl, rfl, rfl, rfl, rfl, rfl, rfl, rfl, rfl, rfl, rfl⟩⟩ fun j x s hx hs => by
      obtain ⟨rfl, _⟩ := rangeD_get hx
      obtain ⟨s', q1, q2⟩ := law_step 5 (i := 0 + (j : Nat) * 1) hs
      exact ⟨s', .inl q1, q2⟩
  have h2 : forF (evC tb 11) (.nm 2) b5_law (rangeD 0 8 1) _ = _ := h2
  have s8 : small62 8 = true := by decide
  have fd := fin_d
  have fl := fin_l
  have rp : (List.replicate 12 [PyData.int 0]).flatten = List.replicate 12 (.int 0) := rfl
  rw [evC_succ tb23]
  unfold f_law
  unfold hnd at *
  simp [evD, E_sl, E_cst, E_gc, E_tup, E_lst, E_bin, E_neg, E_cmp, E_ch2, E_and, E_or, E_not, E_ite, E_ix, E_slc, E_call, E_bi, E_mtd, E_cm, E_cmi, A_nil, A_cons, S_asg, S_pas, S_sto, S_ex, S_ite, S_for, S_wh, S_ret,
        S_retn, S_brk, S_cnt, S_pass, S_raise, Ss_nil, Ss_cons, evI, wipeS, bnd_ok, bind_eq, pure_eq, req_t, start0, slot0, outs, Ar.get, Ar.take, ta_nil, ta_cons, ga_nil, ga_cons, ce_eq, pT_nm, pT_tp, pTs_n, pTs_c,
        aT_o, aT_f, aT_s, aT_t, outA, outAs, asgTs, okIo, putIo, freezeAs, nlR_f, nlR_t, nlL_l, nl_n, nl_b, nl_i, nl_s, nl_t, nl_l, nls_n, nls_c, nls_ints, isSl, isOwn,   e_bi_min, e_bi_max, e_bi_lenL, e_bi_lenT,
        e_bi_abs, e_bi_int, e_bi_tupL, e_bi_tupT, e_bi_lstL, e_bi_lstT, e_isI, e_isIt, e_isIl, e_isB, e_isT, e_isTt, e_isTl, e_isL, e_isLt, e_isLl, e_add, e_sub, e_mul, e_div, e_mod, e_pow, e_catL, e_catT, e_repT,
        e_eq, e_ne, e_lt, e_le, e_gt, e_ge, e_issI, e_issN, e_isnI, e_isnN, tr_n, tr_b, tr_i, tr_l, tr_t, mu_app, sto_l, slc_l, slc_t, q_dl, q_dt, q_ll, q_lt, partB, optI, setS, backS, it_l, it_t, L2.atI, L2.ixN,
        h1, h2, s8, fd, fl, rp, eq_t, sz]
end PX

set_option maxHeartbeats 4000000
namespace PX
open PySem L2
def top (i : Nat) : Stmt := PySem.Challenge.pw_whoseasks_k73_whole_buckets_delayed_and.main.body.getD i (.Pass ⟨0, 0, 0, 0⟩)
def places : List Nat := [1, 2, 3, 4, 16, 17, 18, 19, 20, 21, 22, 23, 24, 25, 27, 28, 29, 30, 31, 32, 33, 34, 35, 36]
def stAt (i : Nat) : Stmt := top (places.getD i 0)
def Ct : List (String × D) := [("MOST_RATE", (.int 5)), ("MOST_SIZE", (.int 20)), ("MOST_TIMES", (.int 12)), ("LAST_TIME", (.int 40)), ("LAST_MOMENT", (.int 60))]
theorem ck0 : chkFn tb Ct f_is_integer (stAt 0) = true := by decide +kernel
theorem ck1 : chkFn tb Ct f_is_within (stAt 1) = true := by decide +kernel
theorem ck2 : chkFn tb Ct f_is_tuple (stAt 2) = true := by decide +kernel
theorem ck3 : chkFn tb Ct f_are_numbers (stAt 3) = true := by decide +kernel
theorem ck4 : chkFn tb Ct f_check_bucket (stAt 4) = true := by decide +kernel
theorem ck5 : chkFn tb Ct f_check_times (stAt 5) = true := by decide +kernel
theorem ck6 : chkFn tb Ct f_filled (stAt 6) = true := by decide +kernel
theorem ck7 : chkFn tb Ct f_poured (stAt 7) = true := by decide +kernel
theorem ck8 : chkFn tb Ct f_raw_let_in (stAt 8) = true := by decide +kernel
theorem ck9 : chkFn tb Ct f_let_in (stAt 9) = true := by decide +kernel
theorem ck10 : chkFn tb Ct f_least_size (stAt 10) = true := by decide +kernel
theorem ck11 : chkFn tb Ct f_delayed (stAt 11) = true := by decide +kernel
theorem ck12 : chkFn tb Ct f_through_both (stAt 12) = true := by decide +kernel
theorem ck13 : chkFn tb Ct f_tokens_at (stAt 13) = true := by decide +kernel
theorem ck14 : chkFn tb Ct f__law_hand (stAt 14) = true := by decide +kernel
theorem ck15 : chkFn tb Ct f__law_draw (stAt 15) = true := by decide +kernel
theorem ck16 : chkFn tb Ct f__law_some (stAt 16) = true := by decide +kernel
theorem ck17 : chkFn tb Ct f__law_kept (stAt 17) = true := by decide +kernel
theorem ck18 : chkFn tb Ct f__law_bucket (stAt 18) = true := by decide +kernel
theorem ck19 : chkFn tb Ct f__law_times (stAt 19) = true := by decide +kernel
theorem ck20 : chkFn tb Ct f__law_let (stAt 20) = true := by decide +kernel
theorem ck21 : chkFn tb Ct f__law_line (stAt 21) = true := by decide +kernel
theorem ck22 : chkFn tb Ct f__law_tokens (stAt 22) = true := by decide +kernel
theorem ck23 : chkFn tb Ct f_law (stAt 23) = true := by decide +kernel
theorem ck_all : ∀ (i : Nat) fd, tb[i]? = some fd → chkFn tb Ct fd (stAt i) = true
  | 0, fd, h => by have e := Option.some.inj (show some f_is_integer = some fd from h); subst e; exact ck0
  | 1, fd, h => by have e := Option.some.inj (show some f_is_within = some fd from h); subst e; exact ck1
  | 2, fd, h => by have e := Option.some.inj (show some f_is_tuple = some fd from h); subst e; exact ck2
  | 3, fd, h => by have e := Option.some.inj (show some f_are_numbers = some fd from h); subst e; exact ck3
  | 4, fd, h => by have e := Option.some.inj (show some f_check_bucket = some fd from h); subst e; exact ck4
  | 5, fd, h => by have e := Option.some.inj (show some f_check_times = some fd from h); subst e; exact ck5
  | 6, fd, h => by have e := Option.some.inj (show some f_filled = some fd from h); subst e; exact ck6
  | 7, fd, h => by have e := Option.some.inj (show some f_poured = some fd from h); subst e; exact ck7
  | 8, fd, h => by have e := Option.some.inj (show some f_raw_let_in = some fd from h); subst e; exact ck8
  | 9, fd, h => by have e := Option.some.inj (show some f_let_in = some fd from h); subst e; exact ck9
  | 10, fd, h => by have e := Option.some.inj (show some f_least_size = some fd from h); subst e; exact ck10
  | 11, fd, h => by have e := Option.some.inj (show some f_delayed = some fd from h); subst e; exact ck11
  | 12, fd, h => by have e := Option.some.inj (show some f_through_both = some fd from h); subst e; exact ck12
  | 13, fd, h => by have e := Option.some.inj (show some f_tokens_at = some fd from h); subst e; exact ck13
  | 14, fd, h => by have e := Option.some.inj (show some f__law_hand = some fd from h); subst e; exact ck14
  | 15, fd, h => by have e := Option.some.inj (show some f__law_draw = some fd from h); subst e; exact ck15
  | 16, fd, h => by have e := Option.some.inj (show some f__law_some = some fd from h); subst e; exact ck16
  | 17, fd, h => by have e := Option.some.inj (show some f__law_kept = some fd from h); subst e; exact ck17
  | 18, fd, h => by have e := Option.some.inj (show some f__law_bucket = some fd from h); subst e; exact ck18
  | 19, fd, h => by have e := Option.some.inj (show some f__law_times = some fd from h); subst e; exact ck19
  | 20, fd, h => by have e := Option.some.inj (show some f__law_let = some fd from h); subst e; exact ck20
  | 21, fd, h => by have e := Option.some.inj (show some f__law_line = some fd from h); subst e; exact ck21
  | 22, fd, h => by have e := Option.some.inj (show some f__law_tokens = some fd from h); subst e; exact ck22
  | 23, fd, h => by have e := Option.some.inj (show some f_law = some fd from h); subst e; exact ck23
  | _ + 24, fd, h => nomatch (show (none : Option FD) = some fd from h)
def FnAt (K : PySem.W.Frag) (mg : Str → Option Value) (fd : FD) (s : Stmt) : Prop := ∃ f fdt, Fun K (Str.ofString fd.name) (Str.ofString fd.name) s f fdt ∧ mg (Str.ofString fd.name) = some (.ref f) ∧ L2.Binds K fdt (Pm fd) []
theorem fa0 {K : PySem.W.Frag} {h : Heap} {mg : Str → Option Value} (X : K.In h) (G : h.Ns mainGlobals mg) {f : Addr} {od an : Option Addr} {sl : Array (Option Value)} {oc kV dc pm cd ct : Value} (a : PySem.W.nsIn K mainGlobals "is_integer" = some (some (.ref f)))
    (l : K.lookup f = some ⟨oc, od, .func (PySem.W.fnOf "is_integer" "is_integer" (defArgs (top 1)) (defBody (top 1)) (defScope (top 1)) .none kV dc pm an cd ct), sl⟩) (c : PySem.W.codeIn K cd "is_integer" = true) (k : PySem.W.keepIn K (.ref f) = true) : FnAt K mg f_is_integer (stAt 0) := by
  have F := fun_mk (st := top 1) l c k
  exact ⟨f, _, F, PySem.W.mg_of X G a, F.binds (ps := [(Str.ofString "thing")]) fun _ _ _ _ _ _ us hl => match us, hl with | [_], _ => rfl⟩
theorem fa1 {K : PySem.W.Frag} {h : Heap} {mg : Str → Option Value} (X : K.In h) (G : h.Ns mainGlobals mg) {f : Addr} {od an : Option Addr} {sl : Array (Option Value)} {oc kV dc pm cd ct : Value} (a : PySem.W.nsIn K mainGlobals "is_within" = some (some (.ref f)))
    (l : K.lookup f = some ⟨oc, od, .func (PySem.W.fnOf "is_within" "is_within" (defArgs (top 2)) (defBody (top 2)) (defScope (top 2)) .none kV dc pm an cd ct), sl⟩) (c : PySem.W.codeIn K cd "is_within" = true) (k : PySem.W.keepIn K (.ref f) = true) : FnAt K mg f_is_within (stAt 1) := by
  have F := fun_mk (st := top 2) l c k
  exact ⟨f, _, F, PySem.W.mg_of X G a, F.binds (ps := [(Str.ofString "thing"), (Str.ofString "least"), (Str.ofString "most")]) fun _ _ _ _ _ _ us hl => match us, hl with | [_, _, _], _ => rfl⟩
theorem fa2 {K : PySem.W.Frag} {h : Heap} {mg : Str → Option Value} (X : K.In h) (G : h.Ns mainGlobals mg) {f : Addr} {od an : Option Addr} {sl : Array (Option Value)} {oc kV dc pm cd ct : Value} (a : PySem.W.nsIn K mainGlobals "is_tuple" = some (some (.ref f)))
    (l : K.lookup f = some ⟨oc, od, .func (PySem.W.fnOf "is_tuple" "is_tuple" (defArgs (top 3)) (defBody (top 3)) (defScope (top 3)) .none kV dc pm an cd ct), sl⟩) (c : PySem.W.codeIn K cd "is_tuple" = true) (k : PySem.W.keepIn K (.ref f) = true) : FnAt K mg f_is_tuple (stAt 2) := by
  have F := fun_mk (st := top 3) l c k
  exact ⟨f, _, F, PySem.W.mg_of X G a, F.binds (ps := [(Str.ofString "thing"), (Str.ofString "least"), (Str.ofString "most")]) fun _ _ _ _ _ _ us hl => match us, hl with | [_, _, _], _ => rfl⟩
theorem fa3 {K : PySem.W.Frag} {h : Heap} {mg : Str → Option Value} (X : K.In h) (G : h.Ns mainGlobals mg) {f : Addr} {od an : Option Addr} {sl : Array (Option Value)} {oc kV dc pm cd ct : Value} (a : PySem.W.nsIn K mainGlobals "are_numbers" = some (some (.ref f)))
    (l : K.lookup f = some ⟨oc, od, .func (PySem.W.fnOf "are_numbers" "are_numbers" (defArgs (top 4)) (defBody (top 4)) (defScope (top 4)) .none kV dc pm an cd ct), sl⟩) (c : PySem.W.codeIn K cd "are_numbers" = true) (k : PySem.W.keepIn K (.ref f) = true) : FnAt K mg f_are_numbers (stAt 3) := by
  have F := fun_mk (st := top 4) l c k
  exact ⟨f, _, F, PySem.W.mg_of X G a, F.binds (ps := [(Str.ofString "thing"), (Str.ofString "least"), (Str.ofString "most"), (Str.ofString "greatest")]) fun _ _ _ _ _ _ us hl => match us, hl with | [_, _, _, _], _ => rfl⟩
theorem fa4 {K : PySem.W.Frag} {h : Heap} {mg : Str → Option Value} (X : K.In h) (G : h.Ns mainGlobals mg) {f : Addr} {od an : Option Addr} {sl : Array (Option Value)} {oc kV dc pm cd ct : Value} (a : PySem.W.nsIn K mainGlobals "check_bucket" = some (some (.ref f)))
    (l : K.lookup f = some ⟨oc, od, .func (PySem.W.fnOf "check_bucket" "check_bucket" (defArgs (top 16)) (defBody (top 16)) (defScope (top 16)) .none kV dc pm an cd ct), sl⟩) (c : PySem.W.codeIn K cd "check_bucket" = true) (k : PySem.W.keepIn K (.ref f) = true) : FnAt K mg f_check_bucket (stAt 4) := by
  have F := fun_mk (st := top 16) l c k
  exact ⟨f, _, F, PySem.W.mg_of X G a, F.binds (ps := [(Str.ofString "bucket")]) fun _ _ _ _ _ _ us hl => match us, hl with | [_], _ => rfl⟩
theorem fa5 {K : PySem.W.Frag} {h : Heap} {mg : Str → Option Value} (X : K.In h) (G : h.Ns mainGlobals mg) {f : Addr} {od an : Option Addr} {sl : Array (Option Value)} {oc kV dc pm cd ct : Value} (a : PySem.W.nsIn K mainGlobals "check_times" = some (some (.ref f)))
    (l : K.lookup f = some ⟨oc, od, .func (PySem.W.fnOf "check_times" "check_times" (defArgs (top 17)) (defBody (top 17)) (defScope (top 17)) .none kV dc pm an cd ct), sl⟩) (c : PySem.W.codeIn K cd "check_times" = true) (k : PySem.W.keepIn K (.ref f) = true) : FnAt K mg f_check_times (stAt 5) := by
  have F := fun_mk (st := top 17) l c k
  exact ⟨f, _, F, PySem.W.mg_of X G a, F.binds (ps := [(Str.ofString "bucket"), (Str.ofString "times")]) fun _ _ _ _ _ _ us hl => match us, hl with | [_, _], _ => rfl⟩
theorem fa6 {K : PySem.W.Frag} {h : Heap} {mg : Str → Option Value} (X : K.In h) (G : h.Ns mainGlobals mg) {f : Addr} {od an : Option Addr} {sl : Array (Option Value)} {oc kV dc pm cd ct : Value} (a : PySem.W.nsIn K mainGlobals "filled" = some (some (.ref f)))
    (l : K.lookup f = some ⟨oc, od, .func (PySem.W.fnOf "filled" "filled" (defArgs (top 18)) (defBody (top 18)) (defScope (top 18)) .none kV dc pm an cd ct), sl⟩) (c : PySem.W.codeIn K cd "filled" = true) (k : PySem.W.keepIn K (.ref f) = true) : FnAt K mg f_filled (stAt 6) := by
  have F := fun_mk (st := top 18) l c k
  exact ⟨f, _, F, PySem.W.mg_of X G a, F.binds (ps := [(Str.ofString "bucket"), (Str.ofString "tokens"), (Str.ofString "by")]) fun _ _ _ _ _ _ us hl => match us, hl with | [_, _, _], _ => rfl⟩
theorem fa7 {K : PySem.W.Frag} {h : Heap} {mg : Str → Option Value} (X : K.In h) (G : h.Ns mainGlobals mg) {f : Addr} {od an : Option Addr} {sl : Array (Option Value)} {oc kV dc pm cd ct : Value} (a : PySem.W.nsIn K mainGlobals "poured" = some (some (.ref f)))
    (l : K.lookup f = some ⟨oc, od, .func (PySem.W.fnOf "poured" "poured" (defArgs (top 19)) (defBody (top 19)) (defScope (top 19)) .none kV dc pm an cd ct), sl⟩) (c : PySem.W.codeIn K cd "poured" = true) (k : PySem.W.keepIn K (.ref f) = true) : FnAt K mg f_poured (stAt 7) := by
  have F := fun_mk (st := top 19) l c k
  exact ⟨f, _, F, PySem.W.mg_of X G a, F.binds (ps := [(Str.ofString "bucket"), (Str.ofString "times")]) fun _ _ _ _ _ _ us hl => match us, hl with | [_, _], _ => rfl⟩
theorem fa8 {K : PySem.W.Frag} {h : Heap} {mg : Str → Option Value} (X : K.In h) (G : h.Ns mainGlobals mg) {f : Addr} {od an : Option Addr} {sl : Array (Option Value)} {oc kV dc pm cd ct : Value} (a : PySem.W.nsIn K mainGlobals "raw_let_in" = some (some (.ref f)))
    (l : K.lookup f = some ⟨oc, od, .func (PySem.W.fnOf "raw_let_in" "raw_let_in" (defArgs (top 20)) (defBody (top 20)) (defScope (top 20)) .none kV dc pm an cd ct), sl⟩) (c : PySem.W.codeIn K cd "raw_let_in" = true) (k : PySem.W.keepIn K (.ref f) = true) : FnAt K mg f_raw_let_in (stAt 8) := by
  have F := fun_mk (st := top 20) l c k
  exact ⟨f, _, F, PySem.W.mg_of X G a, F.binds (ps := [(Str.ofString "bucket"), (Str.ofString "times")]) fun _ _ _ _ _ _ us hl => match us, hl with | [_, _], _ => rfl⟩
theorem fa9 {K : PySem.W.Frag} {h : Heap} {mg : Str → Option Value} (X : K.In h) (G : h.Ns mainGlobals mg) {f : Addr} {od an : Option Addr} {sl : Array (Option Value)} {oc kV dc pm cd ct : Value} (a : PySem.W.nsIn K mainGlobals "let_in" = some (some (.ref f)))
    (l : K.lookup f = some ⟨oc, od, .func (PySem.W.fnOf "let_in" "let_in" (defArgs (top 21)) (defBody (top 21)) (defScope (top 21)) .none kV dc pm an cd ct), sl⟩) (c : PySem.W.codeIn K cd "let_in" = true) (k : PySem.W.keepIn K (.ref f) = true) : FnAt K mg f_let_in (stAt 9) := by
  have F := fun_mk (st := top 21) l c k
  exact ⟨f, _, F, PySem.W.mg_of X G a, F.binds (ps := [(Str.ofString "bucket"), (Str.ofString "times")]) fun _ _ _ _ _ _ us hl => match us, hl with | [_, _], _ => rfl⟩
theorem fa10 {K : PySem.W.Frag} {h : Heap} {mg : Str → Option Value} (X : K.In h) (G : h.Ns mainGlobals mg) {f : Addr} {od an : Option Addr} {sl : Array (Option Value)} {oc kV dc pm cd ct : Value} (a : PySem.W.nsIn K mainGlobals "least_size" = some (some (.ref f)))
    (l : K.lookup f = some ⟨oc, od, .func (PySem.W.fnOf "least_size" "least_size" (defArgs (top 22)) (defBody (top 22)) (defScope (top 22)) .none kV dc pm an cd ct), sl⟩) (c : PySem.W.codeIn K cd "least_size" = true) (k : PySem.W.keepIn K (.ref f) = true) : FnAt K mg f_least_size (stAt 10) := by
  have F := fun_mk (st := top 22) l c k
  exact ⟨f, _, F, PySem.W.mg_of X G a, F.binds (ps := [(Str.ofString "rate"), (Str.ofString "times")]) fun _ _ _ _ _ _ us hl => match us, hl with | [_, _], _ => rfl⟩
theorem fa11 {K : PySem.W.Frag} {h : Heap} {mg : Str → Option Value} (X : K.In h) (G : h.Ns mainGlobals mg) {f : Addr} {od an : Option Addr} {sl : Array (Option Value)} {oc kV dc pm cd ct : Value} (a : PySem.W.nsIn K mainGlobals "delayed" = some (some (.ref f)))
    (l : K.lookup f = some ⟨oc, od, .func (PySem.W.fnOf "delayed" "delayed" (defArgs (top 23)) (defBody (top 23)) (defScope (top 23)) .none kV dc pm an cd ct), sl⟩) (c : PySem.W.codeIn K cd "delayed" = true) (k : PySem.W.keepIn K (.ref f) = true) : FnAt K mg f_delayed (stAt 11) := by
  have F := fun_mk (st := top 23) l c k
  exact ⟨f, _, F, PySem.W.mg_of X G a, F.binds (ps := [(Str.ofString "bucket"), (Str.ofString "times")]) fun _ _ _ _ _ _ us hl => match us, hl with | [_, _], _ => rfl⟩
theorem fa12 {K : PySem.W.Frag} {h : Heap} {mg : Str → Option Value} (X : K.In h) (G : h.Ns mainGlobals mg) {f : Addr} {od an : Option Addr} {sl : Array (Option Value)} {oc kV dc pm cd ct : Value} (a : PySem.W.nsIn K mainGlobals "through_both" = some (some (.ref f)))
    (l : K.lookup f = some ⟨oc, od, .func (PySem.W.fnOf "through_both" "through_both" (defArgs (top 24)) (defBody (top 24)) (defScope (top 24)) .none kV dc pm an cd ct), sl⟩) (c : PySem.W.codeIn K cd "through_both" = true) (k : PySem.W.keepIn K (.ref f) = true) : FnAt K mg f_through_both (stAt 12) := by
  have F := fun_mk (st := top 24) l c k
  exact ⟨f, _, F, PySem.W.mg_of X G a, F.binds (ps := [(Str.ofString "bucket"), (Str.ofString "other"), (Str.ofString "times")]) fun _ _ _ _ _ _ us hl => match us, hl with | [_, _, _], _ => rfl⟩
theorem fa13 {K : PySem.W.Frag} {h : Heap} {mg : Str → Option Value} (X : K.In h) (G : h.Ns mainGlobals mg) {f : Addr} {od an : Option Addr} {sl : Array (Option Value)} {oc kV dc pm cd ct : Value} (a : PySem.W.nsIn K mainGlobals "tokens_at" = some (some (.ref f)))
    (l : K.lookup f = some ⟨oc, od, .func (PySem.W.fnOf "tokens_at" "tokens_at" (defArgs (top 25)) (defBody (top 25)) (defScope (top 25)) .none kV dc pm an cd ct), sl⟩) (c : PySem.W.codeIn K cd "tokens_at" = true) (k : PySem.W.keepIn K (.ref f) = true) : FnAt K mg f_tokens_at (stAt 13) := by
  have F := fun_mk (st := top 25) l c k
  exact ⟨f, _, F, PySem.W.mg_of X G a, F.binds (ps := [(Str.ofString "bucket"), (Str.ofString "times"), (Str.ofString "moment")]) fun _ _ _ _ _ _ us hl => match us, hl with | [_, _, _], _ => rfl⟩
theorem fa14 {K : PySem.W.Frag} {h : Heap} {mg : Str → Option Value} (X : K.In h) (G : h.Ns mainGlobals mg) {f : Addr} {od an : Option Addr} {sl : Array (Option Value)} {oc kV dc pm cd ct : Value} (a : PySem.W.nsIn K mainGlobals "_law_hand" = some (some (.ref f)))
    (l : K.lookup f = some ⟨oc, od, .func (PySem.W.fnOf "_law_hand" "_law_hand" (defArgs (top 27)) (defBody (top 27)) (defScope (top 27)) .none kV dc pm an cd ct), sl⟩) (c : PySem.W.codeIn K cd "_law_hand" = true) (k : PySem.W.keepIn K (.ref f) = true) : FnAt K mg f__law_hand (stAt 14) := by
  have F := fun_mk (st := top 27) l c k
  exact ⟨f, _, F, PySem.W.mg_of X G a, F.binds (ps := [(Str.ofString "script")]) fun _ _ _ _ _ _ us hl => match us, hl with | [_], _ => rfl⟩
theorem fa15 {K : PySem.W.Frag} {h : Heap} {mg : Str → Option Value} (X : K.In h) (G : h.Ns mainGlobals mg) {f : Addr} {od an : Option Addr} {sl : Array (Option Value)} {oc kV dc pm cd ct : Value} (a : PySem.W.nsIn K mainGlobals "_law_draw" = some (some (.ref f)))
    (l : K.lookup f = some ⟨oc, od, .func (PySem.W.fnOf "_law_draw" "_law_draw" (defArgs (top 28)) (defBody (top 28)) (defScope (top 28)) .none kV dc pm an cd ct), sl⟩) (c : PySem.W.codeIn K cd "_law_draw" = true) (k : PySem.W.keepIn K (.ref f) = true) : FnAt K mg f__law_draw (stAt 15) := by
  have F := fun_mk (st := top 28) l c k
  exact ⟨f, _, F, PySem.W.mg_of X G a, F.binds (ps := [(Str.ofString "hand"), (Str.ofString "many")]) fun _ _ _ _ _ _ us hl => match us, hl with | [_, _], _ => rfl⟩
theorem fa16 {K : PySem.W.Frag} {h : Heap} {mg : Str → Option Value} (X : K.In h) (G : h.Ns mainGlobals mg) {f : Addr} {od an : Option Addr} {sl : Array (Option Value)} {oc kV dc pm cd ct : Value} (a : PySem.W.nsIn K mainGlobals "_law_some" = some (some (.ref f)))
    (l : K.lookup f = some ⟨oc, od, .func (PySem.W.fnOf "_law_some" "_law_some" (defArgs (top 29)) (defBody (top 29)) (defScope (top 29)) .none kV dc pm an cd ct), sl⟩) (c : PySem.W.codeIn K cd "_law_some" = true) (k : PySem.W.keepIn K (.ref f) = true) : FnAt K mg f__law_some (stAt 16) := by
  have F := fun_mk (st := top 29) l c k
  exact ⟨f, _, F, PySem.W.mg_of X G a, F.binds (ps := [(Str.ofString "hand"), (Str.ofString "things")]) fun _ _ _ _ _ _ us hl => match us, hl with | [_, _], _ => rfl⟩
theorem fa17 {K : PySem.W.Frag} {h : Heap} {mg : Str → Option Value} (X : K.In h) (G : h.Ns mainGlobals mg) {f : Addr} {od an : Option Addr} {sl : Array (Option Value)} {oc kV dc pm cd ct : Value} (a : PySem.W.nsIn K mainGlobals "_law_kept" = some (some (.ref f)))
    (l : K.lookup f = some ⟨oc, od, .func (PySem.W.fnOf "_law_kept" "_law_kept" (defArgs (top 30)) (defBody (top 30)) (defScope (top 30)) .none kV dc pm an cd ct), sl⟩) (c : PySem.W.codeIn K cd "_law_kept" = true) (k : PySem.W.keepIn K (.ref f) = true) : FnAt K mg f__law_kept (stAt 17) := by
  have F := fun_mk (st := top 30) l c k
  exact ⟨f, _, F, PySem.W.mg_of X G a, F.binds (ps := [(Str.ofString "thing"), (Str.ofString "due")]) fun _ _ _ _ _ _ us hl => match us, hl with | [_, _], _ => rfl⟩
theorem fa18 {K : PySem.W.Frag} {h : Heap} {mg : Str → Option Value} (X : K.In h) (G : h.Ns mainGlobals mg) {f : Addr} {od an : Option Addr} {sl : Array (Option Value)} {oc kV dc pm cd ct : Value} (a : PySem.W.nsIn K mainGlobals "_law_bucket" = some (some (.ref f)))
    (l : K.lookup f = some ⟨oc, od, .func (PySem.W.fnOf "_law_bucket" "_law_bucket" (defArgs (top 31)) (defBody (top 31)) (defScope (top 31)) .none kV dc pm an cd ct), sl⟩) (c : PySem.W.codeIn K cd "_law_bucket" = true) (k : PySem.W.keepIn K (.ref f) = true) : FnAt K mg f__law_bucket (stAt 18) := by
  have F := fun_mk (st := top 31) l c k
  exact ⟨f, _, F, PySem.W.mg_of X G a, F.binds (ps := [(Str.ofString "hand")]) fun _ _ _ _ _ _ us hl => match us, hl with | [_], _ => rfl⟩
theorem fa19 {K : PySem.W.Frag} {h : Heap} {mg : Str → Option Value} (X : K.In h) (G : h.Ns mainGlobals mg) {f : Addr} {od an : Option Addr} {sl : Array (Option Value)} {oc kV dc pm cd ct : Value} (a : PySem.W.nsIn K mainGlobals "_law_times" = some (some (.ref f)))
    (l : K.lookup f = some ⟨oc, od, .func (PySem.W.fnOf "_law_times" "_law_times" (defArgs (top 32)) (defBody (top 32)) (defScope (top 32)) .none kV dc pm an cd ct), sl⟩) (c : PySem.W.codeIn K cd "_law_times" = true) (k : PySem.W.keepIn K (.ref f) = true) : FnAt K mg f__law_times (stAt 19) := by
  have F := fun_mk (st := top 32) l c k
  exact ⟨f, _, F, PySem.W.mg_of X G a, F.binds (ps := [(Str.ofString "hand")]) fun _ _ _ _ _ _ us hl => match us, hl with | [_], _ => rfl⟩
theorem fa20 {K : PySem.W.Frag} {h : Heap} {mg : Str → Option Value} (X : K.In h) (G : h.Ns mainGlobals mg) {f : Addr} {od an : Option Addr} {sl : Array (Option Value)} {oc kV dc pm cd ct : Value} (a : PySem.W.nsIn K mainGlobals "_law_let" = some (some (.ref f)))
    (l : K.lookup f = some ⟨oc, od, .func (PySem.W.fnOf "_law_let" "_law_let" (defArgs (top 33)) (defBody (top 33)) (defScope (top 33)) .none kV dc pm an cd ct), sl⟩) (c : PySem.W.codeIn K cd "_law_let" = true) (k : PySem.W.keepIn K (.ref f) = true) : FnAt K mg f__law_let (stAt 20) := by
  have F := fun_mk (st := top 33) l c k
  exact ⟨f, _, F, PySem.W.mg_of X G a, F.binds (ps := [(Str.ofString "bucket"), (Str.ofString "times")]) fun _ _ _ _ _ _ us hl => match us, hl with | [_, _], _ => rfl⟩
theorem fa21 {K : PySem.W.Frag} {h : Heap} {mg : Str → Option Value} (X : K.In h) (G : h.Ns mainGlobals mg) {f : Addr} {od an : Option Addr} {sl : Array (Option Value)} {oc kV dc pm cd ct : Value} (a : PySem.W.nsIn K mainGlobals "_law_line" = some (some (.ref f)))
    (l : K.lookup f = some ⟨oc, od, .func (PySem.W.fnOf "_law_line" "_law_line" (defArgs (top 34)) (defBody (top 34)) (defScope (top 34)) .none kV dc pm an cd ct), sl⟩) (c : PySem.W.codeIn K cd "_law_line" = true) (k : PySem.W.keepIn K (.ref f) = true) : FnAt K mg f__law_line (stAt 21) := by
  have F := fun_mk (st := top 34) l c k
  exact ⟨f, _, F, PySem.W.mg_of X G a, F.binds (ps := [(Str.ofString "bucket"), (Str.ofString "times")]) fun _ _ _ _ _ _ us hl => match us, hl with | [_, _], _ => rfl⟩
theorem fa22 {K : PySem.W.Frag} {h : Heap} {mg : Str → Option Value} (X : K.In h) (G : h.Ns mainGlobals mg) {f : Addr} {od an : Option Addr} {sl : Array (Option Value)} {oc kV dc pm cd ct : Value} (a : PySem.W.nsIn K mainGlobals "_law_tokens" = some (some (.ref f)))
    (l : K.lookup f = some ⟨oc, od, .func (PySem.W.fnOf "_law_tokens" "_law_tokens" (defArgs (top 35)) (defBody (top 35)) (defScope (top 35)) .none kV dc pm an cd ct), sl⟩) (c : PySem.W.codeIn K cd "_law_tokens" = true) (k : PySem.W.keepIn K (.ref f) = true) : FnAt K mg f__law_tokens (stAt 22) := by
  have F := fun_mk (st := top 35) l c k
  exact ⟨f, _, F, PySem.W.mg_of X G a, F.binds (ps := [(Str.ofString "bucket"), (Str.ofString "times"), (Str.ofString "moment")]) fun _ _ _ _ _ _ us hl => match us, hl with | [_, _, _], _ => rfl⟩
theorem fa23 {K : PySem.W.Frag} {h : Heap} {mg : Str → Option Value} (X : K.In h) (G : h.Ns mainGlobals mg) {f : Addr} {od an : Option Addr} {sl : Array (Option Value)} {oc kV dc pm cd ct : Value} (a : PySem.W.nsIn K mainGlobals "law" = some (some (.ref f)))
    (l : K.lookup f = some ⟨oc, od, .func (PySem.W.fnOf "law" "law" (defArgs (top 36)) (defBody (top 36)) (defScope (top 36)) .none kV dc pm an cd ct), sl⟩) (c : PySem.W.codeIn K cd "law" = true) (k : PySem.W.keepIn K (.ref f) = true) : FnAt K mg f_law (stAt 23) := by
  have F := fun_mk (st := top 36) l c k
  exact ⟨f, _, F, PySem.W.mg_of X G a, F.binds (ps := [(Str.ofString "script")]) fun _ _ _ _ _ _ us hl => match us, hl with | [_], _ => rfl⟩
theorem fn_all {K : PySem.W.Frag} {mg : Str → Option Value} (e0 : FnAt K mg f_is_integer (stAt 0)) (e1 : FnAt K mg f_is_within (stAt 1)) (e2 : FnAt K mg f_is_tuple (stAt 2)) (e3 : FnAt K mg f_are_numbers (stAt 3)) (e4 : FnAt K mg f_check_bucket (stAt 4)) (e5 : FnAt K mg f_check_times (stAt 5)) (e6 : FnAt K mg f_filled (stAt 6)) (e7 : FnAt K mg f_poured (stAt 7)) (e8 : FnAt K mg f_raw_let_in (stAt 8)) (e9 : FnAt K mg f_let_in (stAt 9)) (e10 : FnAt K mg f_least_size (stAt 10)) (e11 : FnAt K mg f_delayed (stAt 11)) (e12 : FnAt K mg f_through_both (stAt 12)) (e13 : FnAt K mg f_tokens_at (stAt 13)) (e14 : FnAt K mg f__law_hand (stAt 14)) (e15 : FnAt K mg f__law_draw (stAt 15)) (e16 : FnAt K mg f__law_some (stAt 16)) (e17 : FnAt K mg f__law_kept (stAt 17)) (e18 : FnAt K mg f__law_bucket (stAt 18)) (e19 : FnAt K mg f__law_times (stAt 19)) (e20 : FnAt K mg f__law_let (stAt 20)) (e21 : FnAt K mg f__law_line (stAt 21)) (e22 : FnAt K mg f__law_tokens (stAt 22)) (e23 : FnAt K mg f_law (stAt 23)) : ∀ (i : Nat) fd, tb[i]? = some fd → FnAt K mg fd (stAt i)
  | 0, fd, h => by have e := Option.some.inj (show some f_is_integer = some fd from h); subst e; exact e0
  | 1, fd, h => by have e := Option.some.inj (show some f_is_within = some fd from h); subst e; exact e1
  | 2, fd, h => by have e := Option.some.inj (show some f_is_tuple = some fd from h); subst e; exact e2
  | 3, fd, h => by have e := Option.some.inj (show some f_are_numbers = some fd from h); subst e; exact e3
  | 4, fd, h => by have e := Option.some.inj (show some f_check_bucket = some fd from h); subst e; exact e4
  | 5, fd, h => by have e := Option.some.inj (show some f_check_times = some fd from h); subst e; exact e5
  | 6, fd, h => by have e := Option.some.inj (show some f_filled = some fd from h); subst e; exact e6
  | 7, fd, h => by have e := Option.some.inj (show some f_poured = some fd from h); subst e; exact e7
  | 8, fd, h => by have e := Option.some.inj (show some f_raw_let_in = some fd from h); subst e; exact e8
  | 9, fd, h => by have e := Option.some.inj (show some f_let_in = some fd from h); subst e; exact e9
  | 10, fd, h => by have e := Option.some.inj (show some f_least_size = some fd from h); subst e; exact e10
  | 11, fd, h => by have e := Option.some.inj (show some f_delayed = some fd from h); subst e; exact e11
  | 12, fd, h => by have e := Option.some.inj (show some f_through_both = some fd from h); subst e; exact e12
  | 13, fd, h => by have e := Option.some.inj (show some f_tokens_at = some fd from h); subst e; exact e13
  | 14, fd, h => by have e := Option.some.inj (show some f__law_hand = some fd from h); subst e; exact e14
  | 15, fd, h => by have e := Option.some.inj (show some f__law_draw = some fd from h); subst e; exact e15
  | 16, fd, h => by have e := Option.some.inj (show some f__law_some = some fd from h); subst e; exact e16
  | 17, fd, h => by have e := Option.some.inj (show some f__law_kept = some fd from h); subst e; exact e17
  | 18, fd, h => by have e := Option.some.inj (show some f__law_bucket = some fd from h); subst e; exact e18
  | 19, fd, h => by have e := Option.some.inj (show some f__law_times = some fd from h); subst e; exact e19
  | 20, fd, h => by have e := Option.some.inj (show some f__law_let = some fd from h); subst e; exact e20
  | 21, fd, h => by have e := Option.some.inj (show some f__law_line = some fd from h); subst e; exact e21
  | 22, fd, h => by have e := Option.some.inj (show some f__law_tokens = some fd from h); subst e; exact e22
  | 23, fd, h => by have e := Option.some.inj (show some f_law = some fd from h); subst e; exact e23
  | _ + 24, fd, h => nomatch (show (none : Option FD) = some fd from h)
theorem law_end {l : PySem.W.OpenLaw} {w : World} {K : PySem.W.Frag} {h : Heap} {mg : Str → Option Value} {fa : Addr} (X : K.In h) (G : h.Ns mainGlobals mg) (hfa : mg "law" = some (.ref fa))
    {g0 g1 g2 g3 g4 g5 g6 g7 g8 g9 g10 g11 g12 g13 g14 g15 g16 g17 g18 g19 g20 g21 g22 g23 : Addr} {od0 an0 od1 an1 od2 an2 od3 an3 od4 an4 od5 an5 od6 an6 od7 an7 od8 an8 od9 an9 od10 an10 od11 an11 od12 an12 od13 an13 od14 an14 od15 an15 od16 an16 od17 an17 od18 an18 od19 an19 od20 an20 od21 an21 od22 an22 od23 an23 : Option Addr} {sl0 sl1 sl2 sl3 sl4 sl5 sl6 sl7 sl8 sl9 sl10 sl11 sl12 sl13 sl14 sl15 sl16 sl17 sl18 sl19 sl20 sl21 sl22 sl23 : Array (Option Value)} {oc0 kV0 dc0 pm0 cd0 ct0 oc1 kV1 dc1 pm1 cd1 ct1 oc2 kV2 dc2 pm2 cd2 ct2 oc3 kV3 dc3 pm3 cd3 ct3 oc4 kV4 dc4 pm4 cd4 ct4 oc5 kV5 dc5 pm5 cd5 ct5 oc6 kV6 dc6 pm6 cd6 ct6 oc7 kV7 dc7 pm7 cd7 ct7 oc8 kV8 dc8 pm8 cd8 ct8 oc9 kV9 dc9 pm9 cd9 ct9 oc10 kV10 dc10 pm10 cd10 ct10 oc11 kV11 dc11 pm11 cd11 ct11 oc12 kV12 dc12 pm12 cd12 ct12 oc13 kV13 dc13 pm13 cd13 ct13 oc14 kV14 dc14 pm14 cd14 ct14 oc15 kV15 dc15 pm15 cd15 ct15 oc16 kV16 dc16 pm16 cd16 ct16 oc17 kV17 dc17 pm17 cd17 ct17 oc18 kV18 dc18 pm18 cd18 ct18 oc19 kV19 dc19 pm19 cd19 ct19 oc20 kV20 dc20 pm20 cd20 ct20 oc21 kV21 dc21 pm21 cd21 ct21 oc22 kV22 dc22 pm22 cd22 ct22 oc23 kV23 dc23 pm23 cd23 ct23 : Value}
    {ct_0 : Tok}
    {ct_1 : Tok}
    {ct_2 : Tok}
    {ct_3 : Tok}
    {ct_4 : Tok}
    (a0 : PySem.W.nsIn K mainGlobals "is_integer" = some (some (.ref g0))) (l0 : K.lookup g0 = some ⟨oc0, od0, .func (PySem.W.fnOf "is_integer" "is_integer" (defArgs (top 1)) (defBody (top 1)) (defScope (top 1)) .none kV0 dc0 pm0 an0 cd0 ct0), sl0⟩) (c0 : PySem.W.codeIn K cd0 "is_integer" = true) (k0 : PySem.W.keepIn K (.ref g0) = true)
    (a1 : PySem.W.nsIn K mainGlobals "is_within" = some (some (.ref g1))) (l1 : K.lookup g1 = some ⟨oc1, od1, .func (PySem.W.fnOf "is_within" "is_within" (defArgs (top 2)) (defBody (top 2)) (defScope (top 2)) .none kV1 dc1 pm1 an1 cd1 ct1), sl1⟩) (c1 : PySem.W.codeIn K cd1 "is_within" = true) (k1 : PySem.W.keepIn K (.ref g1) = true)
    (a2 : PySem.W.nsIn K mainGlobals "is_tuple" = some (some (.ref g2))) (l2 : K.lookup g2 = some ⟨oc2, od2, .func (PySem.W.fnOf "is_tuple" "is_tuple" (defArgs (top 3)) (defBody (top 3)) (defScope (top 3)) .none kV2 dc2 pm2 an2 cd2 ct2), sl2⟩) (c2 : PySem.W.codeIn K cd2 "is_tuple" = true) (k2 : PySem.W.keepIn K (.ref g2) = true)
    (a3 : PySem.W.nsIn K mainGlobals "are_numbers" = some (some (.ref g3))) (l3 : K.lookup g3 = some ⟨oc3, od3, .func (PySem.W.fnOf "are_numbers" "are_numbers" (defArgs (top 4)) (defBody (top 4)) (defScope (top 4)) .none kV3 dc3 pm3 an3 cd3 ct3), sl3⟩) (c3 : PySem.W.codeIn K cd3 "are_numbers" = true) (k3 : PySem.W.keepIn K (.ref g3) = true)
    (a4 : PySem.W.nsIn K mainGlobals "check_bucket" = some (some (.ref g4))) (l4 : K.lookup g4 = some ⟨oc4, od4, .func (PySem.W.fnOf "check_bucket" "check_bucket" (defArgs (top 16)) (defBody (top 16)) (defScope (top 16)) .none kV4 dc4 pm4 an4 cd4 ct4), sl4⟩) (c4 : PySem.W.codeIn K cd4 "check_bucket" = true) (k4 : PySem.W.keepIn K (.ref g4) = true)
    (a5 : PySem.W.nsIn K mainGlobals "check_times" = some (some (.ref g5))) (l5 : K.lookup g5 = some ⟨oc5, od5, .func (PySem.W.fnOf "check_times" "check_times" (defArgs (top 17)) (defBody (top 17)) (defScope (top 17)) .none kV5 dc5 pm5 an5 cd5 ct5), sl5⟩) (c5 : PySem.W.codeIn K cd5 "check_times" = true) (k5 : PySem.W.keepIn K (.ref g5) = true)
    (a6 : PySem.W.nsIn K mainGlobals "filled" = some (some (.ref g6))) (l6 : K.lookup g6 = some ⟨oc6, od6, .func (PySem.W.fnOf "filled" "filled" (defArgs (top 18)) (defBody (top 18)) (defScope (top 18)) .none kV6 dc6 pm6 an6 cd6 ct6), sl6⟩) (c6 : PySem.W.codeIn K cd6 "filled" = true) (k6 : PySem.W.keepIn K (.ref g6) = true)
    (a7 : PySem.W.nsIn K mainGlobals "poured" = some (some (.ref g7))) (l7 : K.lookup g7 = some ⟨oc7, od7, .func (PySem.W.fnOf "poured" "poured" (defArgs (top 19)) (defBody (top 19)) (defScope (top 19)) .none kV7 dc7 pm7 an7 cd7 ct7), sl7⟩) (c7 : PySem.W.codeIn K cd7 "poured" = true) (k7 : PySem.W.keepIn K (.ref g7) = true)
    (a8 : PySem.W.nsIn K mainGlobals "raw_let_in" = some (some (.ref g8))) (l8 : K.lookup g8 = some ⟨oc8, od8, .func (PySem.W.fnOf "raw_let_in" "raw_let_in" (defArgs (top 20)) (defBody (top 20)) (defScope (top 20)) .none kV8 dc8 pm8 an8 cd8 ct8), sl8⟩) (c8 : PySem.W.codeIn K cd8 "raw_let_in" = true) (k8 : PySem.W.keepIn K (.ref g8) = true)
    (a9 : PySem.W.nsIn K mainGlobals "let_in" = some (some (.ref g9))) (l9 : K.lookup g9 = some ⟨oc9, od9, .func (PySem.W.fnOf "let_in" "let_in" (defArgs (top 21)) (defBody (top 21)) (defScope (top 21)) .none kV9 dc9 pm9 an9 cd9 ct9), sl9⟩) (c9 : PySem.W.codeIn K cd9 "let_in" = true) (k9 : PySem.W.keepIn K (.ref g9) = true)
    (a10 : PySem.W.nsIn K mainGlobals "least_size" = some (some (.ref g10))) (l10 : K.lookup g10 = some ⟨oc10, od10, .func (PySem.W.fnOf "least_size" "least_size" (defArgs (top 22)) (defBody (top 22)) (defScope (top 22)) .none kV10 dc10 pm10 an10 cd10 ct10), sl10⟩) (c10 : PySem.W.codeIn K cd10 "least_size" = true) (k10 : PySem.W.keepIn K (.ref g10) = true)
    (a11 : PySem.W.nsIn K mainGlobals "delayed" = some (some (.ref g11))) (l11 : K.lookup g11 = some ⟨oc11, od11, .func (PySem.W.fnOf "delayed" "delayed" (defArgs (top 23)) (defBody (top 23)) (defScope (top 23)) .none kV11 dc11 pm11 an11 cd11 ct11), sl11⟩) (c11 : PySem.W.codeIn K cd11 "delayed" = true) (k11 : PySem.W.keepIn K (.ref g11) = true)
    (a12 : PySem.W.nsIn K mainGlobals "through_both" = some (some (.ref g12))) (l12 : K.lookup g12 = some ⟨oc12, od12, .func (PySem.W.fnOf "through_both" "through_both" (defArgs (top 24)) (defBody (top 24)) (defScope (top 24)) .none kV12 dc12 pm12 an12 cd12 ct12), sl12⟩) (c12 : PySem.W.codeIn K cd12 "through_both" = true) (k12 : PySem.W.keepIn K (.ref g12) = true)
    (a13 : PySem.W.nsIn K mainGlobals "tokens_at" = some (some (.ref g13))) (l13 : K.lookup g13 = some ⟨oc13, od13, .func (PySem.W.fnOf "tokens_at" "tokens_at" (defArgs (top 25)) (defBody (top 25)) (defScope (top 25)) .none kV13 dc13 pm13 an13 cd13 ct13), sl13⟩) (c13 : PySem.W.codeIn K cd13 "tokens_at" = true) (k13 : PySem.W.keepIn K (.ref g13) = true)
    (a14 : PySem.W.nsIn K mainGlobals "_law_hand" = some (some (.ref g14))) (l14 : K.lookup g14 = some ⟨oc14, od14, .func (PySem.W.fnOf "_law_hand" "_law_hand" (defArgs (top 27)) (defBody (top 27)) (defScope (top 27)) .none kV14 dc14 pm14 an14 cd14 ct14), sl14⟩) (c14 : PySem.W.codeIn K cd14 "_law_hand" = true) (k14 : PySem.W.keepIn K (.ref g14) = true)
    (a15 : PySem.W.nsIn K mainGlobals "_law_draw" = some (some (.ref g15))) (l15 : K.lookup g15 = some ⟨oc15, od15, .func (PySem.W.fnOf "_law_draw" "_law_draw" (defArgs (top 28)) (defBody (top 28)) (defScope (top 28)) .none kV15 dc15 pm15 an15 cd15 ct15), sl15⟩) (c15 : PySem.W.codeIn K cd15 "_law_draw" = true) (k15 : PySem.W.keepIn K (.ref g15) = true)
    (a16 : PySem.W.nsIn K mainGlobals "_law_some" = some (some (.ref g16))) (l16 : K.lookup g16 = some ⟨oc16, od16, .func (PySem.W.fnOf "_law_some" "_law_some" (defArgs (top 29)) (defBody (top 29)) (defScope (top 29)) .none kV16 dc16 pm16 an16 cd16 ct16), sl16⟩) (c16 : PySem.W.codeIn K cd16 "_law_some" = true) (k16 : PySem.W.keepIn K (.ref g16) = true)
    (a17 : PySem.W.nsIn K mainGlobals "_law_kept" = some (some (.ref g17))) (l17 : K.lookup g17 = some ⟨oc17, od17, .func (PySem.W.fnOf "_law_kept" "_law_kept" (defArgs (top 30)) (defBody (top 30)) (defScope (top 30)) .none kV17 dc17 pm17 an17 cd17 ct17), sl17⟩) (c17 : PySem.W.codeIn K cd17 "_law_kept" = true) (k17 : PySem.W.keepIn K (.ref g17) = true)
    (a18 : PySem.W.nsIn K mainGlobals "_law_bucket" = some (some (.ref g18))) (l18 : K.lookup g18 = some ⟨oc18, od18, .func (PySem.W.fnOf "_law_bucket" "_law_bucket" (defArgs (top 31)) (defBody (top 31)) (defScope (top 31)) .none kV18 dc18 pm18 an18 cd18 ct18), sl18⟩) (c18 : PySem.W.codeIn K cd18 "_law_bucket" = true) (k18 : PySem.W.keepIn K (.ref g18) = true)
    (a19 : PySem.W.nsIn K mainGlobals "_law_times" = some (some (.ref g19))) (l19 : K.lookup g19 = some ⟨oc19, od19, .func (PySem.W.fnOf "_law_times" "_law_times" (defArgs (top 32)) (defBody (top 32)) (defScope (top 32)) .none kV19 dc19 pm19 an19 cd19 ct19), sl19⟩) (c19 : PySem.W.codeIn K cd19 "_law_times" = true) (k19 : PySem.W.keepIn K (.ref g19) = true)
    (a20 : PySem.W.nsIn K mainGlobals "_law_let" = some (some (.ref g20))) (l20 : K.lookup g20 = some ⟨oc20, od20, .func (PySem.W.fnOf "_law_let" "_law_let" (defArgs (top 33)) (defBody (top 33)) (defScope (top 33)) .none kV20 dc20 pm20 an20 cd20 ct20), sl20⟩) (c20 : PySem.W.codeIn K cd20 "_law_let" = true) (k20 : PySem.W.keepIn K (.ref g20) = true)
    (a21 : PySem.W.nsIn K mainGlobals "_law_line" = some (some (.ref g21))) (l21 : K.lookup g21 = some ⟨oc21, od21, .func (PySem.W.fnOf "_law_line" "_law_line" (defArgs (top 34)) (defBody (top 34)) (defScope (top 34)) .none kV21 dc21 pm21 an21 cd21 ct21), sl21⟩) (c21 : PySem.W.codeIn K cd21 "_law_line" = true) (k21 : PySem.W.keepIn K (.ref g21) = true)
    (a22 : PySem.W.nsIn K mainGlobals "_law_tokens" = some (some (.ref g22))) (l22 : K.lookup g22 = some ⟨oc22, od22, .func (PySem.W.fnOf "_law_tokens" "_law_tokens" (defArgs (top 35)) (defBody (top 35)) (defScope (top 35)) .none kV22 dc22 pm22 an22 cd22 ct22), sl22⟩) (c22 : PySem.W.codeIn K cd22 "_law_tokens" = true) (k22 : PySem.W.keepIn K (.ref g22) = true)
    (a23 : PySem.W.nsIn K mainGlobals "law" = some (some (.ref g23))) (l23 : K.lookup g23 = some ⟨oc23, od23, .func (PySem.W.fnOf "law" "law" (defArgs (top 36)) (defBody (top 36)) (defScope (top 36)) .none kV23 dc23 pm23 an23 cd23 ct23), sl23⟩) (c23 : PySem.W.codeIn K cd23 "law" = true) (k23 : PySem.W.keepIn K (.ref g23) = true)
    (z0 : PySem.W.nsIn K mainGlobals "len" = some none)
    (z1 : PySem.W.nsIn K mainGlobals "abs" = some none)
    (z2 : PySem.W.nsIn K mainGlobals "int" = some none)
    (z3 : PySem.W.nsIn K mainGlobals "min" = some none)
    (z4 : PySem.W.nsIn K mainGlobals "max" = some none)
    (z5 : PySem.W.nsIn K mainGlobals "sum" = some none)
    (z6 : PySem.W.nsIn K mainGlobals "sorted" = some none)
    (z7 : PySem.W.nsIn K mainGlobals "all" = some none)
    (z8 : PySem.W.nsIn K mainGlobals "any" = some none)
    (z9 : PySem.W.nsIn K mainGlobals "tuple" = some none)
    (z10 : PySem.W.nsIn K mainGlobals "list" = some none)
    (z11 : PySem.W.nsIn K mainGlobals "isinstance" = some none)
    (z12 : PySem.W.nsIn K mainGlobals "bool" = some none)
    (z13 : PySem.W.nsIn K mainGlobals "str" = some none)
    (z14 : PySem.W.nsIn K mainGlobals "range" = some none)
    (z15 : PySem.W.nsIn K mainGlobals "zip" = some none)
    (z16 : PySem.W.nsIn K mainGlobals "enumerate" = some none)
    (y0 : PySem.W.nsIn K mainGlobals "MOST_RATE" = some (some (.int 5 ct_0)))
    (y1 : PySem.W.nsIn K mainGlobals "MOST_SIZE" = some (some (.int 20 ct_1)))
    (y2 : PySem.W.nsIn K mainGlobals "MOST_TIMES" = some (some (.int 12 ct_2)))
    (y3 : PySem.W.nsIn K mainGlobals "LAST_TIME" = some (some (.int 40 ct_3)))
    (y4 : PySem.W.nsIn K mainGlobals "LAST_MOMENT" = some (some (.int 60 ct_4)))
    : ∃ fd : FuncData, (∀ (s : Shared) (v : Value), BindsTo s fd ⟨[v], []⟩ [("script", v)]) ∧ ∀ base : Heap, K.In base → base.Ns mainGlobals mg → FnOk l.prog w K mg base CX0 12 fa fd ["script"] (spLaw K) := by
  have e := hfa.symm.trans (PySem.W.mg_of X G a23)
  cases e
  have B : Tab tb Ct stAt K mg := by
    refine ⟨fun b hb => ?_, fun x d hx => ?_, fn_all (fa0 X G a0 l0 c0 k0) (fa1 X G a1 l1 c1 k1) (fa2 X G a2 l2 c2 k2) (fa3 X G a3 l3 c3 k3) (fa4 X G a4 l4 c4 k4) (fa5 X G a5 l5 c5 k5) (fa6 X G a6 l6 c6 k6) (fa7 X G a7 l7 c7 k7) (fa8 X G a8 l8 c8 k8) (fa9 X G a9 l9 c9 k9) (fa10 X G a10 l10 c10 k10) (fa11 X G a11 l11 c11 k11) (fa12 X G a12 l12 c12 k12) (fa13 X G a13 l13 c13 k13) (fa14 X G a14 l14 c14 k14) (fa15 X G a15 l15 c15 k15) (fa16 X G a16 l16 c16 k16) (fa17 X G a17 l17 c17 k17) (fa18 X G a18 l18 c18 k18) (fa19 X G a19 l19 c19 k19) (fa20 X G a20 l20 c20 k20) (fa21 X G a21 l21 c21 k21) (fa22 X G a22 l22 c22 k22) (fa23 X G a23 l23 c23 k23), ck_all⟩
    · simp only [bltNames, List.mem_cons, List.not_mem_nil, or_false] at hb
      rcases hb with rfl | rfl | rfl | rfl | rfl | rfl | rfl | rfl | rfl | rfl | rfl | rfl | rfl | rfl | rfl | rfl | rfl
      · exact PySem.W.mg_none_of X G z0
      · exact PySem.W.mg_none_of X G z1
      · exact PySem.W.mg_none_of X G z2
      · exact PySem.W.mg_none_of X G z3
      · exact PySem.W.mg_none_of X G z4
      · exact PySem.W.mg_none_of X G z5
      · exact PySem.W.mg_none_of X G z6
      · exact PySem.W.mg_none_of X G z7
      · exact PySem.W.mg_none_of X G z8
      · exact PySem.W.mg_none_of X G z9
      · exact PySem.W.mg_none_of X G z10
      · exact PySem.W.mg_none_of X G z11
      · exact PySem.W.mg_none_of X G z12
      · exact PySem.W.mg_none_of X G z13
      · exact PySem.W.mg_none_of X G z14
      · exact PySem.W.mg_none_of X G z15
      · exact PySem.W.mg_none_of X G z16
    · have hx := look_mem hx
      simp only [Ct, List.mem_cons, List.not_mem_nil, or_false, Prod.mk.injEq] at hx
      rcases hx with ⟨rfl, rfl⟩ | ⟨rfl, rfl⟩ | ⟨rfl, rfl⟩ | ⟨rfl, rfl⟩ | ⟨rfl, rfl⟩
      · exact ⟨.int 5, _, PySem.W.mg_of X G y0, ⟨ct_0, rfl⟩, .int _⟩
      · exact ⟨.int 20, _, PySem.W.mg_of X G y1, ⟨ct_1, rfl⟩, .int _⟩
      · exact ⟨.int 12, _, PySem.W.mg_of X G y2, ⟨ct_2, rfl⟩, .int _⟩
      · exact ⟨.int 40, _, PySem.W.mg_of X G y3, ⟨ct_3, rfl⟩, .int _⟩
      · exact ⟨.int 60, _, PySem.W.mg_of X G y4, ⟨ct_4, rfl⟩, .int _⟩
  refine ⟨_, fun s v => .of_eq rfl, fun base _ _ => law_ok B (i := 23) (fd := f_law) rfl rfl rfl (fun_mk (st := top 36) l23 c23 k23) pure_law⟩
theorem walk {l : PySem.W.OpenLaw} {q : Program} {loose : List Str} {XP : (Str → Option Value) → Heap → Prop} {YP : World → Heap → Prop} {d : DefRec} {K : Params → PySem.W.Frag} (hn : l.most = some 63) (hdf : d.params.defaults = []) (hY : ∀ (w : World) (h : Heap), YP w h → (K w.params).In h)
    (F : ∀ (w : World) (mg : Str → Option Value) (fa : Addr) (h : Heap), (K w.params).In h → h.Ns mainGlobals mg → mg d.name = some (.ref fa) → ∃ fd : FuncData, (∀ (s : Shared) (u : Value), BindsTo s fd ⟨[u], []⟩ [("script", u)]) ∧ ∀ base : Heap, (K w.params).In base → base.Ns mainGlobals mg → FnOk l.prog w (K w.params) mg base CX0 12 fa fd ["script"] (spLaw (K w.params))) :
    PySem.W.WalkO q loose XP YP l.row.toRowW d [] (fun f vs => PySem.call f vs) :=
  L2.walk_of (n := 63) (k := 12) (x := "script") (CX := fun _ => CX0) (sp := fun w => spLaw (K w.params)) hn (by decide) hdf ⟨rfl, by decide, by decide⟩ hY F (fun _ _ a ns hl _ hS => ⟨a, ns, rfl, hS, hl, fun _ => rfl⟩) fun _ _ _ _ _ z => z
end PX
open PySem PySem.W PyProof.Rows
set_option maxRecDepth 100000 in
set_option maxHeartbeats 0 in
theorem PySem.Challenge.cw_whoseasks_k73_whole_buckets_delayed_and_holds : PySem.Challenge.rw_whoseasks_k73_whole_buckets_delayed_and.Holds := by
  w_on; o_law; k_head; (case hw => w_witness2)
  k_fill
  refine PX.walk (l := PySem.Challenge.rw_whoseasks_k73_whole_buckets_delayed_and) rfl rfl (fun w h Y => PySem.W.kIn_of Y) ?F
  case F =>
    intro w mg fa h KX G hmg
    refine' PX.law_end KX G hmg ?a0 ?l0 ?c0 ?k0 ?a1 ?l1 ?c1 ?k1 ?a2 ?l2 ?c2 ?k2 ?a3 ?l3 ?c3 ?k3 ?a4 ?l4 ?c4 ?k4 ?a5 ?l5 ?c5 ?k5 ?a6 ?l6 ?c6 ?k6 ?a7 ?l7 ?c7 ?k7 ?a8 ?l8 ?c8 ?k8 ?a9 ?l9 ?c9 ?k9 ?a10 ?l10 ?c10 ?k10 ?a11 ?l11 ?c11 ?k11 ?a12 ?l12 ?c12 ?k12 ?a13 ?l13 ?c13 ?k13 ?a14 ?l14 ?c14 ?k14 ?a15 ?l15 ?c15 ?k15 ?a16 ?l16 ?c16 ?k16 ?a17 ?l17 ?c17 ?k17 ?a18 ?l18 ?c18 ?k18 ?a19 ?l19 ?c19 ?k19 ?a20 ?l20 ?c20 ?k20 ?a21 ?l21 ?c21 ?k21 ?a22 ?l22 ?c22 ?k22 ?a23 ?l23 ?c23 ?k23 ?z0 ?z1 ?z2 ?z3 ?z4 ?z5 ?z6 ?z7 ?z8 ?z9 ?z10 ?z11 ?z12 ?z13 ?z14 ?z15 ?z16 ?y0 ?y1 ?y2 ?y3 ?y4
    (case a0 => k_is)
    (case l0 => k_is)
    (case c0 => k_is)
    (case k0 => k_is)
    (case a1 => k_is)
    (case l1 => k_is)
    (case c1 => k_is)
    (case k1 => k_is)
    (case a2 => k_is)
    (case l2 => k_is)
    (case c2 => k_is)
    (case k2 => k_is)
    (case a3 => k_is)
    (case l3 => k_is)
    (case c3 => k_is)
    (case k3 => k_is)
    (case a4 => k_is)
    (case l4 => k_is)
    (case c4 => k_is)
    (case k4 => k_is)
    (case a5 => k_is)
    (case l5 => k_is)
    (case c5 => k_is)
    (case k5 => k_is)
    (case a6 => k_is)
    (case l6 => k_is)
    (case c6 => k_is)
    (case k6 => k_is)
    (case a7 => k_is)
    (case l7 => k_is)
    (case c7 => k_is)
    (case k7 => k_is)
    (case a8 => k_is)
    (case l8 => k_is)
    (case c8 => k_is)
    (case k8 => k_is)
    (case a9 => k_is)
    (case l9 => k_is)
    (case c9 => k_is)
    (case k9 => k_is)
    (case a10 => k_is)
    (case l10 => k_is)
    (case c10 => k_is)
    (case k10 => k_is)
    (case a11 => k_is)
    (case l11 => k_is)
    (case c11 => k_is)
    (case k11 => k_is)
    (case a12 => k_is)
    (case l12 => k_is)
    (case c12 => k_is)
    (case k12 => k_is)
    (case a13 => k_is)
    (case l13 => k_is)
    (case c13 => k_is)
    (case k13 => k_is)
    (case a14 => k_is)
    (case l14 => k_is)
    (case c14 => k_is)
    (case k14 => k_is)
    (case a15 => k_is)
    (case l15 => k_is)
    (case c15 => k_is)
    (case k15 => k_is)
    (case a16 => k_is)
    (case l16 => k_is)
    (case c16 => k_is)
    (case k16 => k_is)
    (case a17 => k_is)
    (case l17 => k_is)
    (case c17 => k_is)
    (case k17 => k_is)
    (case a18 => k_is)
    (case l18 => k_is)
    (case c18 => k_is)
    (case k18 => k_is)
    (case a19 => k_is)
    (case l19 => k_is)
    (case c19 => k_is)
    (case k19 => k_is)
    (case a20 => k_is)
    (case l20 => k_is)
    (case c20 => k_is)
    (case k20 => k_is)
    (case a21 => k_is)
    (case l21 => k_is)
    (case c21 => k_is)
    (case k21 => k_is)
    (case a22 => k_is)
    (case l22 => k_is)
    (case c22 => k_is)
    (case k22 => k_is)
    (case a23 => k_is)
    (case l23 => k_is)
    (case c23 => k_is)
    (case k23 => k_is)
    (case z0 => k_is)
    (case z1 => k_is)
    (case z2 => k_is)
    (case z3 => k_is)
    (case z4 => k_is)
    (case z5 => k_is)
    (case z6 => k_is)
    (case z7 => k_is)
    (case z8 => k_is)
    (case z9 => k_is)
    (case z10 => k_is)
    (case z11 => k_is)
    (case z12 => k_is)
    (case z13 => k_is)
    (case z14 => k_is)
    (case z15 => k_is)
    (case z16 => k_is)
    (case y0 => k_is)
    (case y1 => k_is)
    (case y2 => k_is)
    (case y3 => k_is)
    (case y4 => k_is)
#print axioms PySem.Challenge.cw_whoseasks_k73_whole_buckets_delayed_and_holds

