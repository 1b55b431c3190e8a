import PyProof.Rows.All
import Wide.All
import OpenK.AllK
import Wide.FinOn
import HandS.ForMost
import HandS.ForExc
import HandS.Flow
import HandS.Wide
import HandS.TupAny
import HandS.TupLe
import HandS.TupMul
import HandS.Deep
import HandS.IsInst
import HandS.RaiseMore
import HandS.ExcInit
import HandS.ExcSuper
import HandS.ExcIs
import HandS.ExcField
import HandS.Style
import HandS.Zip
import HandS.Iter
import KE.KExcSuper
import KE.SortData
import KE.DataMinMax
import KE.KDictKeyed
import HandS.Gcd
import PyProof.SumWalkG
import KE.GoesEnum
import HandS.Ends
import HandS.Words
import PySem.Challenge.RW_picturesheld_k50_shares_that_lack_ways
set_option Elab.async false
set_option linter.all false
set_option maxRecDepth 100000
/-! Pv1: the small language (R, Q), values by value, the evaluator. -/
namespace Pv
open PySem

/-- what a slot holds: a plain value, an own list or dict (no one else holds it), a caller's list or dict that is handed in to be changed, an error object (its class, its value) -/
inductive Cell where
  | pl (d : PyData) | ow (d : PyData) | io (d : PyData) | ex (c : Nat) (v : PyData)
abbrev S := List (Option Cell)
inductive Res (α : Type) where
  | ok (a : α) (s : S) | err (c : Nat) (v : PyData) (s : S) | bad
def Res.bind {α β : Type} (r : Res α) (f : α → S → Res β) : Res β := match r with
  | .ok a s => f a s
  | .err c v s => .err c v s
  | .bad => .bad
inductive Bop where | add | sub | mul | fdiv | mod | pow
inductive Cop where | eq | ne | lt | le | gt | ge | isin | notin
inductive Ty where | int | bool | str | tuple | list
inductive Bi where
  | len | tuple | list | listr | sum | sumL | all | any | sorted | min | max | min2 | max2 | abs | int | repr | sortedSet | lenSet | index | count | gcd
inductive T where | nm (i : Nat) | tp (is : List Nat)
inductive R where
  | var (i : Nat) | non | bl (b : Bool) | int (i : Int) | str (x : Str)
  | tup (es : List R) | lst (es : List R)
  | bin (o : Bop) (a b : R) | neg (a : R)
  | cmp (o : Cop) (a b : R) | chain (o p : Cop) (a b c : R)
  | isn (yes : Bool) (a : R) | isb (yes b : Bool) (a : R)
  | and (es : List R) | or (es : List R) | not (a : R)
  | ife (c a b : R)
  | call (f : Nat) (args : List R) | callk (f : Nat) (args : List R) (ks : List Nat) (kws : List R)
  | bi (b : Bi) (args : List R)
  | idx (a j : R) | slc (a : R) (lo hi : Option R) | rev (a : R)
  | lc (elt : R) (own : List Nat) (t : T) (it : R) (ifs : List R)
  | lc2 (elt : R) (own own2 : List Nat) (t : T) (it : R) (ifs : List R) (t2 : T) (it2 : R) (ifs2 : List R)
  | isi (a : R) (ts : List Ty) | isx (i c : Nat) | xval (i : Nat) | xnone (yes : Bool) (i : Nat)
  | rng (args : List R) | enm (a : R) | zip (a b : R)
  | pop (i : Nat) (j : Option R)
inductive Q where
  | asg (t : T) (e : R) | par (is : List Nat) (es : List R)
  | app (i : Nat) (e : R) | ext (i : Nat) (e : R) | ins (i : Nat) (j e : R) | setix (i : Nat) (j e : R)
  | aug (i : Nat) (o : Bop) (e : R)
  | ifs (c : R) (a b : List Q)
  | for_ (t : T) (it : R) (b : List Q)
  | whl (c : R) (b : List Q)
  | ret (e : R) | raise (c : Nat) (e : R) | expr (e : R)
  | try_ (b : List Q) (c : Nat) (ie io : Nat)
  | pass | brk | doc
inductive Flow where | nx | bk | ct | rt (d : PyData) (fr : Bool)
structure FnD where
  np : Nat
  io : List Bool
  ns : Nat
  body : List Q
structure Prg where
  fns : List FnD
  /-- the classes of errors: those that each one is under, itself among them -/
  exc : List (List Nat)
inductive CRes where
  | ret (d : PyData) (fr : Bool) (ios : List PyData) | err (c : Nat) (v : PyData) (ios : List PyData) | bad

/-! ### values -/
def tru : PyData → Bool
  | .none => false
  | .bool b => b
  | .int i => i != 0
  | .str x => x.length != 0
  | .list l => !l.isEmpty
  | .tuple l => !l.isEmpty
  | .dict l => !l.isEmpty
def line : Nat := 16777216
def okD (d : PyData) : Bool := SeqAt.shaped d
def ixD (n : Nat) (i : Int) : Option Nat := if 0 ≤ i then (if i < n then some i.toNat else none) else if -(n : Int) ≤ i then some (i + n).toNat else none
def atD {α : Type} (xs : List α) (i : Int) : Option α := (ixD xs.length i).bind fun j => xs[j]?
def cutD {α : Type} (xs : List α) (lo hi : Option Int) : List α := (xs.drop (HT.sIx xs.length 0 lo)).take (HT.sIx xs.length xs.length hi - HT.sIx xs.length 0 lo)
def mulOk (i j : Int) : Bool := decide (i.natAbs < 2 ^ 64) || decide (j.natAbs < 2 ^ 64) || decide (i.natAbs.log2 + j.natAbs.log2 < 1000000)
def divOk (j : Int) : Bool := (decide (j ≠ 0) && decide (j.natAbs < 1073741824)) || (decide (0 < j) && decide (j.natAbs.log2 < 9000))
abbrev DF := PyData × Bool
def bop : Bop → PyData → PyData → Option DF
  | .add, .int i, .int j => some (.int (i + j), false)
  | .add, .tuple a, .tuple b => if a.length + b.length ≤ line then some (.tuple (a ++ b), false) else none
  | .add, .list a, .list b => if a.length + b.length ≤ line then some (.list (a ++ b), true) else none
  | .add, .str a, .str b => if a.length + b.length ≤ line then some (.str (a ++ b), false) else none
  | .sub, .int i, .int j => some (.int (i - j), false)
  | .mul, .int i, .int j => if mulOk i j then some (.int (i * j), false) else none
  | .mul, .list a, .int k => if 0 ≤ k ∧ k < 2 ^ 62 ∧ a.length * k.toNat ≤ line then some (.list (List.replicate k.toNat a).flatten, true) else none
  | .mul, .tuple a, .int k => if a ≠ [] ∧ 2 ≤ k ∧ k ≤ 1000 ∧ a.length ≤ 1000 then some (.tuple (List.replicate k.toNat a).flatten, false) else none
  | .fdiv, .int i, .int j => if divOk j then some (.int (i.fdiv j), false) else none
  | .mod, .int i, .int j => if j ≠ 0 then some (.int (i.fmod j), false) else none
  | .pow, .int i, .int j => if 0 ≤ j ∧ j ≤ 1000000 ∧ i.natAbs < 2 ^ 64 then some (.int (i ^ j.toNat), false) else none
  | _, _, _ => none
def cop : Cop → PyData → PyData → Option Bool
  | .eq, a, b => if okD a && okD b then some (PyData.eqv a b) else none
  | .ne, a, b => if okD a && okD b then some (!PyData.eqv a b) else none
  | .lt, .int i, .int j => some (decide (i < j))
  | .le, .int i, .int j => some (decide (i ≤ j))
  | .gt, .int i, .int j => some (decide (j < i))
  | .ge, .int i, .int j => some (decide (j ≤ i))
  | .isin, a, .list l => if okD a && okD (.list l) then some (l.any fun z => PyData.eqv z a) else none
  | .isin, a, .tuple l => if okD a && okD (.tuple l) then some (l.any fun z => PyData.eqv z a) else none
  | .notin, a, .list l => if okD a && okD (.list l) then some (!l.any fun z => PyData.eqv z a) else none
  | .notin, a, .tuple l => if okD a && okD (.tuple l) then some (!l.any fun z => PyData.eqv z a) else none
  | _, _, _ => none
def isT : Ty → PyData → Bool
  | .int, .int _ => true | .int, .bool _ => true
  | .bool, .bool _ => true
  | .str, .str _ => true
  | .tuple, .tuple _ => true
  | .list, .list _ => true
  | _, _ => false
def intsD : List PyData → Option (List Int)
  | [] => some []
  | .int i :: r => (intsD r).map (i :: ·)
  | _ => none
def boolsD : List PyData → Option (List Bool)
  | [] => some []
  | .bool b :: r => (boolsD r).map (b :: ·)
  | _ => none
def seqD : PyData → Option (List PyData)
  | .list l => some l
  | .tuple l => some l
  | _ => none
/-- a range's intsD, for bounds below 2 ^ 62 -/
def rngD : List PyData → Option (List PyData)
  | [.int j] => if -(2 ^ 62) ≤ j ∧ j < 2 ^ 62 then some ((List.range j.toNat).map fun (k : Nat) => PyData.int (k : Int)) else none
  | [.int i, .int j] => if -(2 ^ 62) ≤ i ∧ i < 2 ^ 62 ∧ -(2 ^ 62) ≤ j ∧ j < 2 ^ 62 then some ((List.range (j - i).toNat).map fun (k : Nat) => PyData.int (i + (k : Int))) else none
  | _ => none
def reprOk (d : PyData) : Bool := d.showable && !d.hasDict && decide (d.depth ≤ 64) && decide (d.shown.length + 64 ≤ line)
/-- all can be compared with one another -/
def allAlike (l : List PyData) : Bool := l.all fun x => l.all fun y => PySem.W.alike x y
def noNone (l : List PyData) : Bool := l.all fun d => match d with | .none => false | _ => true
def shallow (l : List PyData) : Bool := decide (PyData.depthAll l ≤ 64)
def sortable (l : List PyData) : Bool := l.all (fun d => match d with | .tuple (_ :: _) => true | _ => false) || l.all (fun d => match d with | .tuple _ => false | _ => true) || decide (l.length ≤ 1)
def sortOk (l : List PyData) : Bool := allAlike l && noNone l && shallow l && sortable l && decide (l.length ≤ line)
/-- sorted(l) -/
def sortD (l : List PyData) : List PyData := l.mergeSort (PySem.W.dataLe false fun d => d)
def bestOk (l : List PyData) : Bool := allAlike l && noNone l && shallow l
def minO : List PyData → Option PyData
  | x :: xs => if bestOk (x :: xs) then some (PySem.W.minD x xs) else none
  | [] => none
def maxO : List PyData → Option PyData
  | x :: xs => if bestOk (x :: xs) then some (PySem.W.maxD x xs) else none
  | [] => none
def listsD : List PyData → Option (List (List PyData))
  | [] => some []
  | .list l :: r => (listsD r).map (l :: ·)
  | _ => none
def bop2 : Bi → List PyData → Option DF
  | .len, [.list l] => some (.int l.length, false)
  | .len, [.tuple l] => some (.int l.length, false)
  | .len, [.str x] => some (.int x.length, false)
  | .tuple, [.list l] => some (.tuple l, false)
  | .tuple, [.tuple l] => some (.tuple l, false)
  | .list, [.list l] => some (.list l, true)
  | .list, [.tuple l] => some (.list l, true)
  | .listr, ds => (rngD ds).bind fun l => if l.length ≤ line then some (.list l, true) else none
  | .all, [.list l] => (boolsD l).map fun bs => (.bool (bs.all id), false)
  | .any, [.list l] => (boolsD l).map fun bs => (.bool (bs.any id), false)
  | .sum, [.list l] => (intsD l).map fun ns => (.int ns.sum, false)
  | .sumL, [.list l] => (listsD l).bind fun ls => if ls.flatten.length ≤ line then some (.list ls.flatten, true) else none
  | .sorted, [.list l] => if sortOk l then some (.list (sortD l), true) else none
  | .min, [.list l] => (minO l).map fun d => (d, false)
  | .max, [.list l] => (maxO l).map fun d => (d, false)
  | .gcd, [.int i, .int j] => some (.int (Nat.gcd i.natAbs j.natAbs : Nat), false)
  | .min2, [.int i, .int j] => some (.int (if j < i then j else i), false)
  | .max2, [.int i, .int j] => some (.int (if j > i then j else i), false)
  | .abs, [.int i] => some (.int (if i < 0 then -i else i), false)
  | .int, [.int i] => some (.int i, false)
  | .int, [.bool b] => some (.int (if b then 1 else 0), false)
  | .repr, [d] => if reprOk d then some (.str d.shown, false) else none
  | _, _ => none
def ixop : PyData → PyData → Option PyData
  | .list l, .int i => atD l i
  | .tuple l, .int i => atD l i
  | .str x, .int i => (atD x.cps.toList i).map fun c => .str ⟨#[c]⟩
  | _, _ => none
def optI : Option PyData → Option (Option Int)
  | none => some none
  | some (.int i) => some (some i)
  | _ => none
def slop (a : PyData) (lo hi : Option Int) : Option DF := match a with
  | .list l => some (.list (cutD l lo hi), true)
  | .tuple l => some (.tuple (cutD l lo hi), false)
  | _ => none

/-! ### the state -/
def getP (s : S) (i : Nat) : Option PyData := match s[i]? with
  | some (some (.pl d)) => some d
  | some (some (.ow d)) => some d
  | some (some (.io d)) => some d
  | _ => none
/-- a name read where its value goes on: an own list is own no more -/
def freeze (s : S) (i : Nat) : S := match s[i]? with
  | some (some (.ow d)) => s.set i (some (.pl d))
  | some (some (.io d)) => s.set i (some (.pl d))
  | _ => s
def wipeS (s : S) : List Nat → S
  | [] => s
  | i :: r => (wipeS s r).set i none
/-- behind a comprehension: its own names as they were -/
def backS (s₀ s : S) : List Nat → S
  | [] => s
  | i :: r => (backS s₀ s r).set i ((s₀[i]?).getD none)
def setAll (s : S) : List Nat → List PyData → Option S
  | [], [] => some s
  | i :: is, d :: ds => setAll (s.set i (some (.pl d))) is ds
  | _, _ => none
def asgT (t : T) (d : PyData) (s : S) : Option S := match t with
  | .nm i => some (s.set i (some (.pl d)))
  | .tp is => match d with
    | .tuple ds => setAll s is ds
    | _ => none
/-- a root's content changed -/
def setRoot (s : S) (i : Nat) (f : PyData → Option PyData) : Option S := match s[i]? with
  | some (some (.ow d)) => (f d).map fun e => s.set i (some (.ow e))
  | some (some (.io d)) => (f d).map fun e => s.set i (some (.io e))
  | _ => none
def ofO {α : Type} (o : Option α) (s : S) : Res α := match o with
  | some a => .ok a s
  | none => .bad
abbrev EvE := R → S → Res DF
def isVar : R → Option Nat
  | .var i => some i
  | _ => none
/-- operands: a name is read last, as it stands when all others are reckoned -/
def pre (ev : EvE) : List R → S → Res (List (Nat ⊕ PyData))
  | [], s => .ok [] s
  | e :: es, s => match isVar e with
    | some i => if (getP s i).isSome then (pre ev es s).bind fun xs s => .ok (.inl i :: xs) s else .bad
    | none => (ev e s).bind fun d s => (pre ev es s).bind fun xs s => .ok (.inr d.1 :: xs) s
def fill (s : S) : List (Nat ⊕ PyData) → Option (List PyData)
  | [] => some []
  | .inl i :: r => (getP s i).bind fun d => (fill s r).map (d :: ·)
  | .inr d :: r => (fill s r).map (d :: ·)
def opds (ev : EvE) (es : List R) (s : S) : Res (List PyData) := (pre ev es s).bind fun xs s => ofO (fill s xs) s
def opd1 (ev : EvE) (a : R) (s : S) (f : PyData → Option DF) : Res DF := (opds ev [a] s).bind fun ds s => match ds with
  | [x] => ofO (f x) s
  | _ => .bad
def opd2 (ev : EvE) (a b : R) (s : S) (f : PyData → PyData → Option DF) : Res DF := (opds ev [a, b] s).bind fun ds s => match ds with
  | [x, y] => ofO (f x y) s
  | _ => .bad
def evL (ev : EvE) : List R → S → Res (List PyData)
  | [], s => .ok [] s
  | e :: es, s => (ev e s).bind fun d s => (evL ev es s).bind fun ds s => .ok (d.1 :: ds) s
/-- arguments of an own def: those that it changes are names of roots, read last -/
def preA (ev : EvE) : List R → List Bool → S → Res (List (Nat ⊕ PyData))
  | [], _, s => .ok [] s
  | e :: es, io, s => match io.head? == some true, isVar e with
    | true, some i => if (getP s i).isSome then (preA ev es io.tail s).bind fun xs s => .ok (.inl i :: xs) s else .bad
    | true, none => .bad
    | false, _ => (ev e s).bind fun d s => (preA ev es io.tail s).bind fun xs s => .ok (.inr d.1 :: xs) s
def fillA (s : S) : List (Nat ⊕ PyData) → Option (List PyData)
  | [] => some []
  | .inl i :: r => match s[i]? with
    | some (some (.ow d)) => (fillA s r).map (d :: ·)
    | some (some (.io d)) => (fillA s r).map (d :: ·)
    | _ => none
  | .inr d :: r => (fillA s r).map (d :: ·)
def slotsOf : List (Nat ⊕ PyData) → List Nat
  | [] => []
  | .inl i :: r => i :: slotsOf r
  | .inr _ :: r => slotsOf r
def noDup : List Nat → Bool
  | [] => true
  | i :: r => !r.contains i && noDup r
def ioBack (s : S) : List (Nat ⊕ PyData) → List PyData → Option S
  | [], [] => some s
  | .inl i :: r, d :: ds => (setRoot s i fun _ => some d).bind fun s => ioBack s r ds
  | .inr _ :: r, ds => ioBack s r ds
  | _, _ => none
def forL (body : PyData → S → Res Flow) : List PyData → S → Res Flow
  | [], s => .ok .nx s
  | d :: ds, s => (body d s).bind fun fl s => match fl with
    | .nx => forL body ds s
    | .ct => forL body ds s
    | .bk => .ok .nx s
    | .rt d f => .ok (.rt d f) s
def whileL (c : S → Res Bool) (body : S → Res Flow) : Nat → S → Res Flow
  | 0, _ => .bad
  | n + 1, s => (c s).bind fun b s => if b then (body s).bind fun fl s => match fl with
    | .nx => whileL c body n s
    | .ct => whileL c body n s
    | .bk => .ok .nx s
    | .rt d f => .ok (.rt d f) s
    else .ok .nx s
def seqL (f : Q → S → Res Flow) : List Q → S → Res Flow
  | [], s => .ok .nx s
  | q :: r, s => (f q s).bind fun fl s => match fl with
    | .nx => seqL f r s
    | fl => .ok fl s
/-- tests of a comprehension, from the left -/
def testsL (ev : R → S → Res Bool) : List R → S → Res Bool
  | [], s => .ok true s
  | e :: es, s => (ev e s).bind fun b s => if b then testsL ev es s else .ok false s
def allT (ev : R → S → Res Bool) : List R → S → Res Bool
  | [], _ => .bad
  | [e], s => ev e s
  | e :: es, s => (ev e s).bind fun b s => if b then allT ev es s else .ok false s
def anyT (ev : R → S → Res Bool) : List R → S → Res Bool
  | [], _ => .bad
  | [e], s => ev e s
  | e :: es, s => (ev e s).bind fun b s => if b then .ok true s else anyT ev es s
def lcL (own : List Nat) (turn : PyData → S → Res (List PyData)) : List PyData → S → Res (List PyData)
  | [], s => .ok [] s
  | d :: ds, s => (turn d (wipeS s own)).bind fun xs s => (lcL own turn ds s).bind fun ys s => .ok (xs ++ ys) s
/-- a comprehension's own names hold no roots around it -/
def plainOwn (s : S) (own : List Nat) : Bool := own.all fun i => match s[i]? with
  | some none => true
  | some (some (.pl _)) => true
  | _ => false
def noErr {α : Type} (r : Res α) : Res α := match r with
  | .err _ _ _ => .bad
  | r => r
def asgR (t : T) (d : PyData) (s : S) : Res Unit := ofO ((asgT t d s)) s |>.bind fun s' _ => .ok () s'

abbrev EvT := R → S → Res Bool
structure Ev where
  e : EvE
  t : EvT
  s : Q → S → Res Flow
  c : Nat → List PyData → CRes
  lv : Nat
def enumD : Nat → List PyData → List PyData
  | _, [] => []
  | k, d :: ds => .tuple [.int k, d] :: enumD (k + 1) ds
def zipD : PyData → PyData → Option (List PyData)
  | .list l, .list m => some ((l.zip m).map fun q => .tuple [q.1, q.2])
  | .tuple l, .tuple m => some ((l.zip m).map fun q => .tuple [q.1, q.2])
  | _, _ => none
/-- what a loop walks -/
def items (p : Ev) (e : R) (s : S) : Res (List PyData) := match e with
  | .rng es => (opds p.e es s).bind fun ds s => ofO (if ds.length = es.length then rngD ds else none) s
  | .enm a => (p.e a s).bind fun d s => ofO ((seqD d.1).map (enumD 0)) s
  | .zip a b => (p.e a s).bind fun d s => (p.e b s).bind fun d' s => ofO (zipD d.1 d'.1) s
  | e => (p.e e s).bind fun d s => ofO (seqD d.1) s
def andL (ev : EvE) : List R → S → Res DF
  | [], s => .bad
  | [e], s => ev e s
  | e :: es, s => (ev e s).bind fun d s => if tru d.1 then andL ev es s else .ok (d.1, false) s
def orL (ev : EvE) : List R → S → Res DF
  | [], s => .bad
  | [e], s => ev e s
  | e :: es, s => (ev e s).bind fun d s => if tru d.1 then .ok (d.1, false) s else orL ev es s
def bD (o : Option Bool) : Option DF := o.map fun b => (.bool b, false)
def callRes (r : CRes) (xs : List (Nat ⊕ PyData)) (s : S) : Res DF := match r with
  | .ret d f ios => (ofO (ioBack s xs ios) s).bind fun s' _ => .ok (d, f) s'
  | .err c v ios => (ofO (ioBack s xs ios) s).bind fun s' _ => .err c v s'
  | .bad => .bad
/-- keywords: (parameter, value) put behind the positional ones, in the parameters' order -/
def kwOrder {α : Type} : List Nat → List α → Nat → Nat → Option (List α)
  | _, _, _, 0 => some []
  | ks, vs, j, n + 1 => ((ks.zip vs).lookup j).bind fun d => (kwOrder ks vs (j + 1) n).map (d :: ·)
def f1 (f : PyData → Option DF) : List PyData → Option DF
  | [x] => f x
  | _ => none
def f2 (f : PyData → PyData → Option DF) : List PyData → Option DF
  | [x, y] => f x y
  | _ => none
def intO : PyData → Option Int
  | .int i => some i
  | _ => none
def evO (ev : EvE) (e : Option R) (s : S) : Res (Option Int) := match e with
  | none => .ok none s
  | some e => (ev e s).bind fun d s => (ofO (intO d.1) s).bind fun i s => .ok (some i) s
def chainB (ev : EvE) (o q : Cop) (a b c : R) (s : S) : Res Bool := (ev a s).bind fun x s => (ev b s).bind fun y s => (ofO (cop o x.1 y.1) s).bind fun k s =>
  if k then (ev c s).bind fun z s => ofO (cop q y.1 z.1) s else .ok false s
def stepE (P : Prg) (p : Ev) (e : R) (s : S) : Res DF := match e with
  | .var i => match s[i]? with
    | some (some (.pl d)) => .ok (d, false) s
    | some (some (.ow d)) => .ok (d, false) (s.set i (some (.pl d)))
    | some (some (.io d)) => .ok (d, false) (s.set i (some (.pl d)))
    | _ => .bad
  | .non => .ok (.none, false) s
  | .bl b => .ok (.bool b, false) s
  | .int i => .ok (.int i, false) s
  | .str x => if x.length ≤ line then .ok (.str x, false) s else .bad
  | .tup es => (evL p.e es s).bind fun ds s => if ds.length ≤ line then .ok (.tuple ds, false) s else .bad
  | .lst es => (evL p.e es s).bind fun ds s => if ds.length ≤ line then .ok (.list ds, true) s else .bad
  | .bin o a b => opd2 p.e a b s (bop o)
  | .neg a => opd1 p.e a s fun x => match x with | .int i => some (.int (-i), false) | _ => none
  | .cmp o a b => opd2 p.e a b s fun x y => bD (cop o x y)
  | .chain o q a b c => (chainB p.e o q a b c s).bind fun b s => .ok (.bool b, false) s
  | .isn yes a => opd1 p.e a s fun x => match x with | .none => some (.bool yes, false) | _ => some (.bool !yes, false)
  | .isb yes b a => opd1 p.e a s fun x => match x with | .bool c => some (.bool ((c == b) == yes), false) | _ => none
  | .and es => andL p.e es s
  | .or es => orL p.e es s
  | .not a => opd1 p.e a s fun x => some (.bool !(tru x), false)
  | .ife c a b => (p.t c s).bind fun d s => if d then p.e a s else p.e b s
  | .call f es => match P.fns[f]? with
    | some fd => (preA p.e es fd.io s).bind fun xs s => if noDup (slotsOf xs) && xs.length == fd.np then (ofO (fillA s xs) s).bind fun ds s => callRes (p.c f ds) xs s else .bad
    | none => .bad
  | .callk f es ks kws => match P.fns[f]? with
    | some fd => if fd.io.any id then .bad else (evL p.e es s).bind fun ds s => (evL p.e kws s).bind fun ws s =>
        (ofO (kwOrder ks ws es.length (fd.np - es.length)) s).bind fun zs s => if (ds ++ zs).length = fd.np then callRes (p.c f (ds ++ zs)) ((ds ++ zs).map .inr) s else .bad
    | none => .bad
  | .bi b es => (opds p.e es s).bind fun ds s => ofO (bop2 b ds) s
  | .idx a j => opd2 p.e a j s fun x y => (ixop x y).map fun d => (d, false)
  | .slc a lo hi => (pre p.e [a] s).bind fun xs s => (evO p.e lo s).bind fun l s => (evO p.e hi s).bind fun h s => (ofO (fill s xs) s).bind fun ds s => ofO (f1 (fun x => slop x l h) ds) s
  | .rev _ => .bad
  | .lc elt own t it ifs => (items p it s).bind fun ds s₁ => if plainOwn s₁ own then noErr ((lcL own (fun d s => (asgR t d s).bind fun _ s => (testsL p.t ifs s).bind fun b s =>
      if b then (p.e elt s).bind fun x s => .ok [x.1] s else .ok [] s) ds s₁).bind fun l s => if l.length ≤ line then .ok (.list l, true) (backS s₁ s own) else .bad) else .bad
  | .lc2 elt own own2 t it ifs t2 it2 ifs2 => (items p it s).bind fun ds s₁ => if plainOwn s₁ own then noErr ((lcL own (fun d s => (asgR t d s).bind fun _ s => (testsL p.t ifs s).bind fun b s =>
      if b then (items p it2 s).bind fun ds2 s => lcL own2 (fun d s => (asgR t2 d s).bind fun _ s => (testsL p.t ifs2 s).bind fun b s =>
        if b then (p.e elt s).bind fun x s => .ok [x.1] s else .ok [] s) ds2 s else .ok [] s) ds s₁).bind fun l s => if l.length ≤ line then .ok (.list l, true) (backS s₁ s own) else .bad) else .bad
  | .isi a ts => opd1 p.e a s fun x => some (.bool (ts.any fun t => isT t x), false)
  | .isx i c => match s[i]? with
    | some (some (.ex k _)) => match P.exc[k]? with
      | some up => .ok (.bool (up.contains c), false) s
      | none => .bad
    | some (some (.pl .none)) => .ok (.bool false, false) s
    | _ => .bad
  | .xval i => match s[i]? with
    | some (some (.ex _ v)) => .ok (v, false) s
    | _ => .bad
  | .xnone yes i => match s[i]? with
    | some (some (.ex _ _)) => .ok (.bool !yes, false) s
    | some (some (.pl .none)) => .ok (.bool yes, false) s
    | _ => .bad
  | .rng _ => .bad
  | .enm _ => .bad
  | .zip _ _ => .bad
  | .pop _ _ => .bad
/-- a test -/
def stepT (P : Prg) (p : Ev) (e : R) (s : S) : Res Bool := match e with
  | .var i => ofO ((getP s i).map tru) s
  | .not a => (p.t a s).bind fun b s => .ok (!b) s
  | .and es => allT p.t es s
  | .or es => anyT p.t es s
  | .ife c a b => (p.t c s).bind fun d s => if d then p.t a s else p.t b s
  | e => (stepE P p e s).bind fun d s => .ok (tru d.1) s
def whileMost : Nat := 100000
def toFlow (r : Res Unit) : Res Flow := r.bind fun _ s => .ok .nx s
def setR (o : Option S) : Res Flow := match o with
  | some s => .ok .nx s
  | none => .bad
def appD (d : PyData) : PyData → Option PyData
  | .list l => if l.length < line then some (.list (l ++ [d])) else none
  | _ => none
def extD (d : PyData) : PyData → Option PyData
  | .list l => match d with
    | .list m => if l.length + m.length ≤ line then some (.list (l ++ m)) else none
    | _ => none
  | _ => none
def setD (j d : PyData) : PyData → Option PyData
  | .list l => match j with
    | .int i => (ixD l.length i).map fun k => .list (l.set k d)
    | _ => none
  | _ => none
def augD (o : Bop) (x : Int) (d : PyData) : Option Int := match o, d with
  | .add, .int y => some (x + y)
  | .sub, .int y => some (x - y)
  | .mul, .int y => if x.natAbs < 2 ^ 64 ∨ y.natAbs < 2 ^ 64 then some (x * y) else none
  | _, _ => none
def stepS (P : Prg) (p : Ev) (q : Q) (s : S) : Res Flow := match q with
  | .asg t e => (p.e e s).bind fun d s => match t with
    | .nm i => .ok .nx (s.set i (some (if d.2 then .ow d.1 else .pl d.1)))
    | t => setR (asgT t d.1 s)
  | .par is es => (evL p.e es s).bind fun ds s => setR (setAll s is ds)
  | .app i e => match getP s i with
    | some (.list _) => (p.e e s).bind fun d s => setR (setRoot s i (appD d.1))
    | _ => .bad
  | .ext i e => match getP s i, isVar e with
    | some (.list _), none => (p.e e s).bind fun d s => if d.2 then setR (setRoot s i (extD d.1)) else .bad
    | _, _ => .bad
  | .ins _ _ _ => .bad
  | .setix i j e => (p.e e s).bind fun d s => if (getP s i).isSome then (p.e j s).bind fun j s => setR (setRoot s i (setD j.1 d.1)) else .bad
  | .aug i o e => match getP s i with
    | some (.int x) => (p.e e s).bind fun d s => (ofO (augD o x d.1) s).bind fun z s => .ok .nx (s.set i (some (.pl (.int z))))
    | _ => .bad
  | .ifs c a b => (p.t c s).bind fun d s => if d then seqL p.s a s else seqL p.s b s
  | .for_ t it b => (items p it s).bind fun ds s => forL (fun d s => (asgR t d s).bind fun _ s => seqL p.s b s) ds s
  | .whl c b => whileL (p.t c) (seqL p.s b) whileMost s
  | .ret e => match isVar e with
    | some i => match s[i]? with
      | some (some (.pl d)) => .ok (.rt d false) s
      | some (some (.ow d)) => .ok (.rt d true) (s.set i none)
      | _ => .bad
    | none => (p.e e s).bind fun d s => .ok (.rt d.1 d.2) s
  | .raise c e => if p.lv < 4 then .bad else (p.e e s).bind fun d s => .err c d.1 s
  | .expr e => (p.e e s).bind fun _ s => .ok .nx s
  | .try_ b c ie io => match seqL p.s b s with
    | .err k v s => match P.exc[k]? with
      | some up => if up.contains c then .ok .nx ((s.set io (some (.ex k v))).set ie none) else .err k v s
      | none => .bad
    | r => r
  | .pass => .ok .nx s
  | .brk => .ok .bk s
  | .doc => .ok .nx s
/-- the slots of the parameters at a call -/
def start : List Bool → List PyData → List (Option Cell)
  | _, [] => []
  | true :: io, d :: ds => some (.io d) :: start io ds
  | _ :: io, d :: ds => some (.pl d) :: start io ds
  | [], d :: ds => some (.pl d) :: start [] ds
def iosOf : List Bool → S → Option (List PyData)
  | [], _ => some []
  | true :: io, some (.io d) :: s => (iosOf io s).map (d :: ·)
  | false :: io, _ :: s => iosOf io s
  | _, _ => none
/-- evaluation within a def, by the depth of the text; c: its calls -/
def evN (P : Prg) (lv : Nat) (c : Nat → List PyData → CRes) : Nat → Ev
  | 0 => ⟨fun _ _ => .bad, fun _ _ => .bad, fun _ _ => .bad, c, lv⟩
  | n + 1 => ⟨stepE P (evN P lv c n), stepT P (evN P lv c n), stepS P (evN P lv c n), c, lv⟩
def runF (p : Ev) (fd : FnD) (ds : List PyData) : CRes :=
  if ds.length ≠ fd.np ∨ fd.io.length ≠ fd.np then .bad else match seqL p.s fd.body (start fd.io ds ++ List.replicate (fd.ns - fd.np) none) with
    | .ok fl s => match iosOf fd.io s with
      | none => .bad
      | some ios => match fl with
        | .nx => .ret .none false ios
        | .rt d f => .ret d f ios
        | _ => .bad
    | .err c v s => match iosOf fd.io s with
      | none => .bad
      | some ios => .err c v ios
    | .bad => .bad
/-- the depth of a def's text -/
def deep : Nat := 60
/-- a call, at most so many calls deep -/
def runK (P : Prg) : Nat → Nat → List PyData → CRes
  | 0, _, _ => .bad
  | k + 1, f, ds => match P.fns[f]? with
    | none => .bad
    | some fd => runF (evN P k (runK P k) deep) fd ds
end Pv
/-! Pv2: how a value stands in the abstract heap, how the slots do. -/
namespace Pv
open PySem L2

abbrev Frag := PySem.W.Frag
abbrev ASet := Addr → Prop
/-- a list that is read: tracked (or locked) and not to be changed by us, or an object of the top -/
def LsAt (K : Frag) (A : ASet) (H : Hp) (a : Addr) (xs : List V) : Prop :=
  (Rd H a (.lst xs) ∧ ¬ A a) ∨ (∃ (its : Array Value) (n : Nat), K.lookup a = some { cls := .type "list", data := .seq its n } ∧ its.size ≤ sizeLine ∧ Vals xs its.toList)
/-- a list that is read -/
def LsR (K : Frag) (H : Hp) (a : Addr) (xs : List V) : Prop :=
  Rd H a (.lst xs) ∨ (∃ (its : Array Value) (n : Nat), K.lookup a = some { cls := .type "list", data := .seq its n } ∧ its.size ≤ sizeLine ∧ Vals xs its.toList)
theorem LsR.sq {K : Frag} {H : Hp} {a : Addr} {xs : List V} (h : LsR K H a xs) : SqL K H a xs := h.imp id fun ⟨its, n, e, z, r⟩ => ⟨_, its, n, e, rfl, rfl, rfl, z, r⟩
theorem LsAt.rd {K : Frag} {A : ASet} {H : Hp} {a : Addr} {xs : List V} (h : LsAt K A H a xs) : LsR K H a xs := h.elim (fun x => .inl x.1) .inr
theorem LsAt.sq {K : Frag} {A : ASet} {H : Hp} {a : Addr} {xs : List V} (h : LsAt K A H a xs) : SqL K H a xs := h.rd.sq
theorem LsR.obj {X : Cx} {pins : List (Addr × Obj)} {σ : St} {H : Hp} {s : Shared} {a : Addr} {xs : List V} (I : Inv X pins σ H s) (h : LsR X.K H a xs) :
    xs.length ≤ sizeLine ∧ ∃ (its : List Value) (n : Nat), Vals xs its ∧ xs.length = its.length ∧ s.heap.get? a = some { cls := .type "list", data := .seq its.toArray n } := by
  rcases h with h | ⟨its, n, e, z, r⟩
  · obtain ⟨z, its, n, r, e⟩ := h.ok I.hok
    exact ⟨z, its, n, r, r.length, e⟩
  · refine ⟨?_, its.toList, n, r, r.length, by simpa using I.kIn a _ e⟩
    have l := r.length
    simp only [Array.length_toList] at l
    omega
mutual
/-- the value v reads as d; none of its lists stands at an address of A -/
inductive Rp (K : Frag) (A : ASet) (H : Hp) : V → PyData → Prop
  | non : Rp K A H .non .none
  | bl (b : Bool) : Rp K A H (.bl b) (.bool b)
  | int (i : Int) : Rp K A H (.int i) (.int i)
  | str (x : Str) : x.length ≤ line → Rp K A H (.str x) (.str x)
  | lst {a : Addr} {xs : List V} {ds : List PyData} : LsAt K A H a xs → Rps K A H xs ds → Rp K A H (.ref a) (.list ds)
  | tup {a : Addr} {xs : List V} {ds : List PyData} : SqT K H a xs → Rps K A H xs ds → Rp K A H (.ref a) (.tuple ds)
inductive Rps (K : Frag) (A : ASet) (H : Hp) : List V → List PyData → Prop
  | nil : Rps K A H [] []
  | cons {v : V} {vs : List V} {d : PyData} {ds : List PyData} : Rp K A H v d → Rps K A H vs ds → Rps K A H (v :: vs) (d :: ds)
end
section
variable {K : Frag} {A A' : ASet} {H H' : Hp}
/-- what a change of the heap keeps: all tracked things out of A; what is tracked stays tracked -/
structure Kp (A : ASet) (H H' : Hp) : Prop where
  at_ : ∀ b o, H b = some o → ¬ A b → H' b = some o
  tr : ∀ b, H' b = none → H b = none
theorem Kp.refl : Kp A H H := ⟨fun _ _ h _ => h, fun _ h => h⟩
theorem Kp.trans {H'' : Hp} (x : Kp A H H') (y : Kp A' H' H'') (h : ∀ a, A' a → A a ∨ H a = none) : Kp A H H'' :=
  ⟨fun b o e n => y.at_ b o (x.at_ b o e n) fun z => (h b z).elim n fun q => (by rw [e] at q; cases q), fun b e => x.tr b (y.tr b e)⟩
theorem Kp.weak (x : Kp A H H') (h : ∀ a, A a → A' a) : Kp A' H H' := ⟨fun b o e n => x.at_ b o e fun z => n (h b z), x.tr⟩
theorem Kp.new {p : Addr} {o : HO} (h : H p = none) : Kp A H (upd H p o) := by
  refine ⟨fun b u e _ => ?_, fun b e => ?_⟩
  · rw [upd_ne (ne_of_none e h)]; exact e
  · by_cases hb : b = p
    · subst hb; rw [upd_same] at e; cases e
    · rw [upd_ne hb] at e; exact e
theorem Kp.put {p : Addr} {o : HO} (h : A p) : Kp A H (upd H p o) := by
  refine ⟨fun b u e n => ?_, fun b e => ?_⟩
  · rw [upd_ne (fun z => n (by rw [z]; exact h))]; exact e
  · by_cases hb : b = p
    · subst hb; rw [upd_same] at e; cases e
    · rw [upd_ne hb] at e; exact e
theorem LsAt.keep {a : Addr} {xs : List V} (k : Kp A H H') (h : LsAt K A H a xs) : LsAt K A H' a xs := by
  rcases h with ⟨(h | ⟨o, h⟩), n⟩ | h
  · exact .inl ⟨.inl (k.at_ _ _ h n), n⟩
  · exact .inl ⟨.inr ⟨o, k.at_ _ _ h n⟩, n⟩
  · exact .inr h
theorem LsAt.weak {a : Addr} {xs : List V} (k : ∀ b, A' b → A b) (h : LsAt K A H a xs) : LsAt K A' H a xs := h.elim (fun x => .inl ⟨x.1, fun z => x.2 (k a z)⟩) .inr
theorem Rd.some_ {a : Addr} {u : HO} (h : Rd H a u) : H a ≠ none := by
  rcases h with h | ⟨o, h⟩ <;> (rw [h]; exact fun z => by cases z)
/-- an address that is not tracked may be avoided too -/
theorem LsAt.more {a p : Addr} {xs : List V} (hp : H p = none) (h : LsAt K A H a xs) : LsAt K (fun b => A b ∨ b = p) H a xs := by
  rcases h with ⟨h, n⟩ | h
  · refine .inl ⟨h, fun z => ?_⟩
    rcases z with z | z
    · exact n z
    · rw [z] at h; exact Rd.some_ h hp
  · exact .inr h
theorem SqT.keep {a : Addr} {xs : List V} (k : Kp A H H') (hA : ∀ b, A b → ∀ ys, ¬ Rd H b (.tup ys)) (h : SqT K H a xs) : SqT K H' a xs := by
  rcases h with h | h
  · have n : ¬ A a := fun z => hA a z xs h
    rcases h with h | ⟨o, h⟩
    · exact .inl (.inl (k.at_ _ _ h n))
    · exact .inl (.inr ⟨o, k.at_ _ _ h n⟩)
  · exact .inr h
/-- no tuple stands at an address of A -/
def NoTup (A : ASet) (H : Hp) : Prop := ∀ b, A b → ∀ ys, ¬ Rd H b (.tup ys)
mutual
theorem Rp.keep (k : Kp A H H') (hA : NoTup A H) : ∀ {v : V} {d : PyData}, Rp K A H v d → Rp K A H' v d
  | _, _, .non => .non
  | _, _, .bl b => .bl b
  | _, _, .int i => .int i
  | _, _, .str x h => .str x h
  | _, _, .lst h r => .lst (h.keep k) (Rps.keep k hA r)
  | _, _, .tup h r => .tup (SqT.keep k hA h) (Rps.keep k hA r)
theorem Rps.keep (k : Kp A H H') (hA : NoTup A H) : ∀ {vs : List V} {ds : List PyData}, Rps K A H vs ds → Rps K A H' vs ds
  | _, _, .nil => .nil
  | _, _, .cons h r => .cons (Rp.keep k hA h) (Rps.keep k hA r)
end
mutual
theorem Rp.weak (k : ∀ b, A' b → A b) : ∀ {v : V} {d : PyData}, Rp K A H v d → Rp K A' H v d
  | _, _, .non => .non
  | _, _, .bl b => .bl b
  | _, _, .int i => .int i
  | _, _, .str x h => .str x h
  | _, _, .lst h r => .lst (h.weak k) (Rps.weak k r)
  | _, _, .tup h r => .tup h (Rps.weak k r)
theorem Rps.weak (k : ∀ b, A' b → A b) : ∀ {vs : List V} {ds : List PyData}, Rps K A H vs ds → Rps K A' H vs ds
  | _, _, .nil => .nil
  | _, _, .cons h r => .cons (Rp.weak k h) (Rps.weak k r)
end
mutual
theorem Rp.more {p : Addr} (hp : H p = none) : ∀ {v : V} {d : PyData}, Rp K A H v d → Rp K (fun b => A b ∨ b = p) H v d
  | _, _, .non => .non
  | _, _, .bl b => .bl b
  | _, _, .int i => .int i
  | _, _, .str x h => .str x h
  | _, _, .lst h r => .lst (h.more hp) (Rps.more hp r)
  | _, _, .tup h r => .tup h (Rps.more hp r)
theorem Rps.more {p : Addr} (hp : H p = none) : ∀ {vs : List V} {ds : List PyData}, Rps K A H vs ds → Rps K (fun b => A b ∨ b = p) H vs ds
  | _, _, .nil => .nil
  | _, _, .cons h r => .cons (Rp.more hp h) (Rps.more hp r)
end
mutual
theorem Rp.dp : ∀ {v : V} {d : PyData}, Rp K A H v d → Dp K H v d
  | _, _, .non => .non
  | _, _, .bl b => .bl b
  | _, _, .int i => .int i
  | _, _, .str x h => .str x
  | _, _, .lst h r => .lst h.sq (Rps.dp r)
  | _, _, .tup h r => .tup h (Rps.dp r)
theorem Rps.dp : ∀ {vs : List V} {ds : List PyData}, Rps K A H vs ds → DpAll K H vs ds
  | _, _, .nil => .nil
  | _, _, .cons h r => .cons (Rp.dp h) (Rps.dp r)
end
theorem Rps.len : ∀ {vs : List V} {ds : List PyData}, Rps K A H vs ds → vs.length = ds.length
  | _, _, .nil => rfl
  | _, _, .cons _ r => by simp [Rps.len r]
theorem Rps.app : ∀ {vs ws : List V} {ds es : List PyData}, Rps K A H vs ds → Rps K A H ws es → Rps K A H (vs ++ ws) (ds ++ es)
  | _, _, _, _, .nil, r => r
  | _, _, _, _, .cons h r, q => .cons h (Rps.app r q)
theorem Rps.get : ∀ {vs : List V} {ds : List PyData} {i : Nat} {d : PyData}, Rps K A H vs ds → ds[i]? = some d → ∃ v, vs[i]? = some v ∧ Rp K A H v d
  | _, _, _, _, .nil, e => by simp at e
  | _, _, 0, _, .cons h _, e => by simp at e; subst e; exact ⟨_, rfl, h⟩
  | _, _, i + 1, _, .cons _ r, e => by
    obtain ⟨v, h1, h2⟩ := Rps.get (i := i) r (by simpa using e)
    exact ⟨v, by simpa using h1, h2⟩
theorem Rps.get' : ∀ {vs : List V} {ds : List PyData} {i : Nat} {v : V}, Rps K A H vs ds → vs[i]? = some v → ∃ d, ds[i]? = some d ∧ Rp K A H v d
  | _, _, _, _, .nil, e => by simp at e
  | _, _, 0, _, .cons h _, e => by simp at e; subst e; exact ⟨_, rfl, h⟩
  | _, _, i + 1, _, .cons _ r, e => by
    obtain ⟨v, h1, h2⟩ := Rps.get' (i := i) r (by simpa using e)
    exact ⟨v, by simpa using h1, h2⟩
theorem Rps.set : ∀ {vs : List V} {ds : List PyData} (i : Nat) {v : V} {d : PyData}, Rps K A H vs ds → Rp K A H v d → Rps K A H (vs.set i v) (ds.set i d)
  | _, _, _, _, _, .nil, _ => .nil
  | _, _, 0, _, _, .cons _ r, q => .cons q r
  | _, _, i + 1, _, _, .cons h r, q => .cons h (Rps.set i r q)
theorem Rps.take : ∀ {vs : List V} {ds : List PyData} (n : Nat), Rps K A H vs ds → Rps K A H (vs.take n) (ds.take n)
  | _, _, 0, _ => .nil
  | _, _, _ + 1, .nil => .nil
  | _, _, n + 1, .cons h r => .cons h (Rps.take n r)
theorem Rps.drop : ∀ {vs : List V} {ds : List PyData} (n : Nat), Rps K A H vs ds → Rps K A H (vs.drop n) (ds.drop n)
  | _, _, 0, r => r
  | _, _, _ + 1, .nil => .nil
  | _, _, n + 1, .cons _ r => Rps.drop n r
theorem Rps.rep {vs : List V} {ds : List PyData} (h : Rps K A H vs ds) : ∀ n : Nat, Rps K A H (List.replicate n vs).flatten (List.replicate n ds).flatten
  | 0 => .nil
  | n + 1 => by
    rw [List.replicate_succ, List.replicate_succ, List.flatten_cons, List.flatten_cons]
    exact Rps.app h (Rps.rep h n)
end

/-! ### the slots -/
/-- what a def's run stands upon: the heap at its entry, the addresses of the lists that it was handed to change (by slot), what it may not reach, the addresses of the classes of errors -/
structure Vw where
  K : Frag
  H0 : Hp
  io : Nat → Option Addr
  Ex : ASet
  cls : Nat → Option Addr
def Vw.ex (B : Vw) (a : Addr) : Vw := { B with Ex := fun b => B.Ex b ∨ b = a }
/-- slot i holds a root that stands at a -/
def Rt (σ : S) (σV : St) (i : Nat) (a : Addr) : Prop := (∃ d, σ[i]? = some (some (.ow d)) ∨ σ[i]? = some (some (.io d))) ∧ σV[i]? = some (some (.ref a))
def RO (σ : S) (σV : St) : ASet := fun a => ∃ i, Rt σ σV i a
def Av (B : Vw) (σ : S) (σV : St) : ASet := fun a => RO σ σV a ∨ B.Ex a
/-- a root's content -/
def RootD (K : Frag) (A : ASet) (H : Hp) (a : Addr) : PyData → Prop
  | .list ds => ∃ xs, H a = some (.lst xs) ∧ Rps K A H xs ds
  | _ => False
/-- an error object at v -/
def ErrV (B : Vw) (A : ASet) (H : Hp) (v : V) (c : Nat) (d : PyData) : Prop :=
  ∃ (a dx C : Addr) (w : V), v = .ref a ∧ B.cls c = some C ∧ H a = some (.ext fun h => ∃ (oe : Obj) (vs : Array Value), h.get? a = some oe ∧ Zc (.ref C) (some dx) oe ∧ oe.data = .fields vs) ∧ H dx = some (.xd [("value", w)]) ∧ ¬ A a ∧ ¬ A dx ∧ Rp B.K A H w d
def CellOk (B : Vw) (A : ASet) (H : Hp) (i : Nat) (v : V) : Cell → Prop
  | .pl d => Rp B.K A H v d
  | .ow d => ∃ a, v = .ref a ∧ RootD B.K A H a d ∧ B.H0 a = none
  | .io d => ∃ a, v = .ref a ∧ RootD B.K A H a d ∧ B.io i = some a
  | .ex c d => ErrV B A H v c d
structure Rep (B : Vw) (H : Hp) (σ : S) (σV : St) : Prop where
  len : σ.length = σV.length
  cell : ∀ i c, σ[i]? = some (some c) → ∃ v, σV[i]? = some (some v) ∧ CellOk B (Av B σ σV) H i v c
  inj : ∀ i j a, Rt σ σV i a → Rt σ σV j a → i = j
  exr : ∀ a, RO σ σV a → ¬ B.Ex a
  ext : ∀ b, H b = none → B.H0 b = none
  kp : ∀ b o, B.H0 b = some o → (∀ i, B.io i ≠ some b) → H b = some o
  nt : NoTup (Av B σ σV) H
  exT : ∀ a, B.Ex a → H a ≠ none
/-- v is d; fr: a new list (since H) that nobody else holds -/
def Val (B : Vw) (H : Hp) (σ : S) (σV : St) (H' : Hp) (v : V) (d : DF) : Prop :=
  if d.2 then ∃ a, v = .ref a ∧ H a = none ∧ ¬ Av B σ σV a ∧ Rep (B.ex a) H' σ σV ∧ RootD B.K (Av (B.ex a) σ σV) H' a d.1
  else Rp B.K (Av B σ σV) H' v d.1
section
variable {B : Vw} {A A' : ASet} {H H' : Hp} {σ σ' : S} {σV : St} {i : Nat} {v : V} {a : Addr}
theorem RootD.rp {K : Frag} {d : PyData} (h : RootD K A H a d) (w : ∀ b, A' b → A b) (n : ¬ A' a) : Rp K A' H (.ref a) d := by
  cases d with
  | list ds =>
    obtain ⟨xs, e, r⟩ := h
    exact .lst (.inl ⟨.inl e, n⟩) (r.weak w)
  | _ => exact h.elim
theorem RootD.dp {K : Frag} {d : PyData} (h : RootD K A H a d) : Dp K H (.ref a) d := (h.rp (A' := fun _ => False) (fun _ z => z.elim) (fun z => z)).dp
theorem Val.rp {d : DF} (r : Rep B H' σ σV) (h : Val B H σ σV H' v d) : Rp B.K (Av B σ σV) H' v d.1 := by
  obtain ⟨d, fr⟩ := d
  cases fr with
  | false => exact h
  | true =>
    obtain ⟨a, rfl, n, nr, q, hd⟩ := h
    exact hd.rp (fun b z => z.elim .inl fun y => .inr (.inl y)) nr
theorem RootD.weak {K : Frag} {d : PyData} (k : ∀ b, A' b → A b) (h : RootD K A H a d) : RootD K A' H a d := by
  cases d with
  | list ds => obtain ⟨xs, e, r⟩ := h; exact ⟨xs, e, r.weak k⟩
  | _ => exact h.elim
theorem RootD.at_ {K : Frag} {d : PyData} (h : RootD K A H a d) : ∃ xs, H a = some (.lst xs) := by
  cases d with
  | list ds => obtain ⟨xs, e, r⟩ := h; exact ⟨xs, e⟩
  | _ => exact h.elim
theorem RootD.keep {K : Frag} {d : PyData} (k : Kp A H H') (hA : NoTup A H) (e : ∀ o, H a = some o → H' a = some o) (h : RootD K A H a d) : RootD K A H' a d := by
  cases d with
  | list ds => obtain ⟨xs, q, r⟩ := h; exact ⟨xs, e _ q, r.keep k hA⟩
  | _ => exact h.elim
theorem CellOk.weak {c : Cell} (k : ∀ b, A' b → A b) (h : CellOk B A H i v c) : CellOk B A' H i v c := by
  cases c with
  | pl d => exact Rp.weak k h
  | ow d => obtain ⟨a, e, r, q⟩ := h; exact ⟨a, e, r.weak k, q⟩
  | io d => obtain ⟨a, e, r, q⟩ := h; exact ⟨a, e, r.weak k, q⟩
  | ex c d => obtain ⟨a, dx, C, w, e, q, h1, h2, n1, n2, r⟩ := h; exact ⟨a, dx, C, w, e, q, h1, h2, fun z => n1 (k _ z), fun z => n2 (k _ z), r.weak k⟩
/-- all tracked things stay but those that we may not reach -/
theorem Rep.heap (r : Rep B H σ σV) (h1 : ∀ b o, H b = some o → ¬ B.Ex b → H' b = some o) (h2 : ∀ b, H' b = none → H b = none) (h3 : ∀ b, B.Ex b → ∀ ys, ¬ Rd H' b (.tup ys)) (h4 : ∀ b, B.Ex b → B.H0 b = none ∨ H b = H' b) : Rep B H' σ σV := by
  have k : Kp (Av B σ σV) H H' := ⟨fun b o e n => h1 b o e fun z => n (.inr z), h2⟩
  refine ⟨r.len, fun i c e => ?_, r.inj, r.exr, fun b e => r.ext b (h2 b e), fun b o e n => ?_, fun b hb ys => ?_, fun a ha e => r.exT a ha (h2 a e)⟩
  · obtain ⟨v, ev, hc⟩ := r.cell i c e
    refine ⟨v, ev, ?_⟩
    have rt : ∀ d a, (c = .ow d ∨ c = .io d) → v = .ref a → ∀ o, H a = some o → H' a = some o := fun d a hcd hv o q =>
      h1 a o q (r.exr a ⟨i, ⟨d, hcd.elim (fun z => .inl (by rw [e, z])) fun z => .inr (by rw [e, z])⟩, by rw [ev, hv]⟩)
    cases c with
    | pl d => exact Rp.keep k r.nt hc
    | ow d => obtain ⟨a, ea, q, z⟩ := hc; exact ⟨a, ea, q.keep k r.nt (rt d a (.inl rfl) ea), z⟩
    | io d => obtain ⟨a, ea, q, z⟩ := hc; exact ⟨a, ea, q.keep k r.nt (rt d a (.inr rfl) ea), z⟩
    | ex c d =>
      obtain ⟨a, dx, C, w, ea, q, e1, e2, n1, n2, q2⟩ := hc
      exact ⟨a, dx, C, w, ea, q, k.at_ _ _ e1 n1, k.at_ _ _ e2 n2, n1, n2, q2.keep k r.nt⟩
  · have q := r.kp b o e n
    by_cases hb : B.Ex b
    · rcases h4 b hb with z | z
      · rw [z] at e; cases e
      · rw [← z]; exact q
    · exact h1 b o q hb
  · rcases hb with hb | hb
    · intro z
      obtain ⟨j, hj⟩ := hb
      obtain ⟨⟨d, hd⟩, hv⟩ := id hj
      have ne : ¬ B.Ex b := r.exr b ⟨j, hj⟩
      have lst : ∃ xs, H b = some (.lst xs) := by
        rcases hd with hd | hd
        · obtain ⟨v, ev, a, ea, q, _⟩ := r.cell j _ hd
          rw [hv] at ev; cases ev; cases ea; exact q.at_
        · obtain ⟨v, ev, a, ea, q, _⟩ := r.cell j _ hd
          rw [hv] at ev; cases ev; cases ea; exact q.at_
      obtain ⟨xs, q⟩ := lst
      have q' := h1 b _ q ne
      rcases z with z | ⟨o, z⟩ <;> (rw [q'] at z; cases z)
    · exact h3 b hb ys
/-- a new object -/
theorem Rep.new {p : Addr} {o : HO} (r : Rep B H σ σV) (hp : H p = none) : Rep B (upd H p o) σ σV := by
  have np : ∀ b, B.Ex b → b ≠ p := fun b hb z => r.exT b hb (by rw [z]; exact hp)
  refine r.heap (fun b u e _ => (by rw [upd_ne (ne_of_none e hp)]; exact e)) (fun b e => ?_) (fun b hb ys z => ?_) fun b hb => .inr (upd_ne (np b hb)).symm
  · by_cases hb : b = p
    · subst hb; rw [upd_same] at e; cases e
    · rw [upd_ne hb] at e; exact e
  · refine r.nt b (.inr hb) ys ?_
    rcases z with z | ⟨u, z⟩
    · rw [upd_ne (np b hb)] at z; exact .inl z
    · rw [upd_ne (np b hb)] at z; exact .inr ⟨u, z⟩
/-- no slot reaches a new object -/
theorem Rep.avoid {p : Addr} (r : Rep B H σ σV) (hp : H p = none) : ∀ {v : V} {d : PyData}, Rp B.K (Av B σ σV) H v d → Rp B.K (Av (B.ex p) σ σV) H v d := fun h =>
  (Rp.more hp h).weak fun b z => z.elim (fun y => .inl (.inl y)) fun y => y.elim (fun x => .inl (.inr x)) .inr
theorem Rep.avoids {p : Addr} (r : Rep B H σ σV) (hp : H p = none) : ∀ {v : List V} {d : List PyData}, Rps B.K (Av B σ σV) H v d → Rps B.K (Av (B.ex p) σ σV) H v d := fun h =>
  (Rps.more hp h).weak fun b z => z.elim (fun y => .inl (.inl y)) fun y => y.elim (fun x => .inl (.inr x)) .inr
theorem RootD.avoid {d : PyData} {p : Addr} (hp : H p = none) (h : RootD B.K (Av B σ σV) H a d) : RootD B.K (Av (B.ex p) σ σV) H a d := by
  cases d with
  | list ds =>
    obtain ⟨xs, e, r⟩ := h
    exact ⟨xs, e, (Rps.more hp r).weak fun b z => z.elim (fun y => .inl (.inl y)) fun y => y.elim (fun x => .inl (.inr x)) .inr⟩
  | _ => exact h.elim
/-- a new list: put under what is not to be reached -/
theorem Rep.newEx {p : Addr} {xs : List V} (r : Rep B H σ σV) (hp : H p = none) : Rep (B.ex p) (upd H p (.lst xs)) σ σV := by
  have r0 := r.new (o := .lst xs) hp
  have np : ∀ b, Av B σ σV b → b ≠ p := fun b hb z => by
    rcases hb with hb | hb
    · obtain ⟨j, ⟨d, hd⟩, hv⟩ := hb
      have lst : ∃ xs, H b = some (.lst xs) := by
        rcases hd with hd | hd
        · obtain ⟨v, ev, a, ea, q, _⟩ := r.cell j _ hd
          rw [hv] at ev; cases ev; cases ea; exact q.at_
        · obtain ⟨v, ev, a, ea, q, _⟩ := r.cell j _ hd
          rw [hv] at ev; cases ev; cases ea; exact q.at_
      obtain ⟨xs, q⟩ := lst
      rw [z, hp] at q; cases q
    · exact r.exT b hb (by rw [z]; exact hp)
  have k : Kp (Av (B.ex p) σ σV) H (upd H p (.lst xs)) := Kp.put (.inr (.inr rfl))
  have nt' : NoTup (Av (B.ex p) σ σV) H := fun b hb ys z => by
    rcases hb with hb | (hb | hb)
    · exact r.nt b (.inl hb) ys z
    · exact r.nt b (.inr hb) ys z
    · rw [hb] at z; exact Rd.some_ z hp
  refine ⟨r0.len, fun i c e => ?_, r0.inj, fun a ha z => ?_, r0.ext, r0.kp, fun b hb ys z => ?_, fun a ha e => ?_⟩
  · obtain ⟨v, ev, hc⟩ := r.cell i c e
    refine ⟨v, ev, ?_⟩
    have rt : ∀ a o, H a = some o → upd H p (.lst xs) a = some o := fun a o q => by rw [upd_ne (ne_of_none q hp)]; exact q
    cases c with
    | pl d => exact Rp.keep k nt' (r.avoid hp hc)
    | ow d => obtain ⟨a, ea, q, z⟩ := hc; exact ⟨a, ea, (q.avoid hp).keep k nt' (rt a), z⟩
    | io d => obtain ⟨a, ea, q, z⟩ := hc; exact ⟨a, ea, (q.avoid hp).keep k nt' (rt a), z⟩
    | ex c d =>
      obtain ⟨a, dx, C, w, ea, q, e1, e2, n1, n2, q2⟩ := hc
      exact ⟨a, dx, C, w, ea, q, rt _ _ e1, rt _ _ e2, fun z => z.elim (fun y => n1 (.inl y)) fun y => y.elim (fun x => n1 (.inr x)) fun x => (by rw [x, hp] at e1; cases e1),
        fun z => z.elim (fun y => n2 (.inl y)) fun y => y.elim (fun x => n2 (.inr x)) fun x => (by rw [x, hp] at e2; cases e2), (r.avoid hp q2).keep k nt'⟩
  · rcases z with z | z
    · exact r.exr a ha z
    · exact np a (.inl ha) z
  · rcases hb with hb | (hb | hb)
    · exact r0.nt b (.inl hb) ys z
    · exact r0.nt b (.inr hb) ys z
    · rw [hb] at z
      rcases z with z | ⟨u, z⟩ <;> (rw [upd_same] at z; cases z)
  · rcases ha with ha | ha
    · exact r0.exT a ha e
    · rw [ha, upd_same] at e; cases e
theorem Rep.unex (r : Rep (B.ex a) H σ σV) : Rep B H σ σV :=
  ⟨r.len, fun i c e => let ⟨v, ev, h⟩ := r.cell i c e; ⟨v, ev, by
      have h' : CellOk B (Av (B.ex a) σ σV) H i v c := by cases c <;> exact h
      exact h'.weak fun b z => z.elim .inl fun y => .inr (.inl y)⟩,
    r.inj, fun b hb z => r.exr b hb (.inl z), r.ext, r.kp, fun b hb => r.nt b (hb.elim .inl fun y => .inr (.inl y)), fun b hb => r.exT b (.inl hb)⟩
/-- the slots' cells change, the slots themselves do not: each cell as it was, or plain -/
theorem Rep.cells (r : Rep B H σ σV) (hl : σ'.length = σ.length) (h : ∀ (i : Nat) (c : Cell), σ'[i]? = some (some c) → σ[i]? = some (some c) ∨ ∃ d v, c = .pl d ∧ σV[i]? = some (some v) ∧ Rp B.K (Av B σ' σV) H v d) : Rep B H σ' σV := by
  have ro : ∀ i a, Rt σ' σV i a → Rt σ σV i a := fun i a ⟨⟨d, hd⟩, hv⟩ => by
    refine ⟨⟨d, ?_⟩, hv⟩
    rcases hd with hd | hd
    · rcases h i _ hd with z | ⟨d', v, z, _⟩
      · exact .inl z
      · cases z
    · rcases h i _ hd with z | ⟨d', v, z, _⟩
      · exact .inr z
      · cases z
  have av : ∀ b, Av B σ' σV b → Av B σ σV b := fun b z => z.elim (fun ⟨i, y⟩ => .inl ⟨i, ro i b y⟩) .inr
  refine ⟨hl.trans r.len, fun i c e => ?_, fun i j a x y => r.inj i j a (ro i a x) (ro j a y), fun a ⟨i, x⟩ => r.exr a ⟨i, ro i a x⟩, r.ext, r.kp, fun b hb => r.nt b (av b hb), r.exT⟩
  rcases h i c e with z | ⟨d, v, rfl, ev, q⟩
  · obtain ⟨v, ev, hc⟩ := r.cell i c z
    exact ⟨v, ev, hc.weak av⟩
  · exact ⟨v, ev, q⟩
theorem Rep.rt_ow {d : PyData} (r : Rep B H σ σV) (e : σ[i]? = some (some (.ow d))) : ∃ a, σV[i]? = some (some (.ref a)) ∧ Rt σ σV i a ∧ RootD B.K (Av B σ σV) H a d ∧ B.H0 a = none := by
  obtain ⟨v, ev, a, rfl, q, z⟩ := r.cell i _ e
  exact ⟨a, ev, ⟨⟨d, .inl e⟩, ev⟩, q, z⟩
theorem Rep.rt_io {d : PyData} (r : Rep B H σ σV) (e : σ[i]? = some (some (.io d))) : ∃ a, σV[i]? = some (some (.ref a)) ∧ Rt σ σV i a ∧ RootD B.K (Av B σ σV) H a d ∧ B.io i = some a := by
  obtain ⟨v, ev, a, rfl, q, z⟩ := r.cell i _ e
  exact ⟨a, ev, ⟨⟨d, .inr e⟩, ev⟩, q, z⟩
theorem Rep.pl {d : PyData} (r : Rep B H σ σV) (e : σ[i]? = some (some (.pl d))) : ∃ v, σV[i]? = some (some v) ∧ Rp B.K (Av B σ σV) H v d := r.cell i _ e
/-- a root that goes on as a value: it is a root no more -/
theorem Rep.freeze {d : PyData} (r : Rep B H σ σV) (e : σ[i]? = some (some (.ow d)) ∨ σ[i]? = some (some (.io d))) :
    ∃ v, σV[i]? = some (some v) ∧ Rep B H (σ.set i (some (.pl d))) σV ∧ Rp B.K (Av B (σ.set i (some (.pl d))) σV) H v d := by
  have hR : ∃ a, σV[i]? = some (some (.ref a)) ∧ Rt σ σV i a ∧ RootD B.K (Av B σ σV) H a d := by
    rcases e with e | e
    · obtain ⟨a, h1, h2, h3, _⟩ := r.rt_ow e; exact ⟨a, h1, h2, h3⟩
    · obtain ⟨a, h1, h2, h3, _⟩ := r.rt_io e; exact ⟨a, h1, h2, h3⟩
  obtain ⟨a, ev, rt, q⟩ := hR
  have hi : i < σ.length := by rcases e with e | e <;> exact (List.getElem?_eq_some_iff.mp e).1
  have old : ∀ j b, Rt (σ.set i (some (.pl d))) σV j b → j ≠ i ∧ Rt σ σV j b := fun j b ⟨⟨d', hd⟩, hv⟩ => by
    by_cases hj : j = i
    · subst hj
      rw [List.getElem?_set_self hi] at hd
      rcases hd with hd | hd <;> cases hd
    · rw [List.getElem?_set_ne (Ne.symm hj)] at hd
      exact ⟨hj, ⟨d', hd⟩, hv⟩
  have na : ¬ Av B (σ.set i (some (.pl d))) σV a := fun z => by
    rcases z with ⟨j, z⟩ | z
    · obtain ⟨hj, y⟩ := old j a z
      exact hj (r.inj j i a y rt)
    · exact r.exr a ⟨i, rt⟩ z
  have av : ∀ b, Av B (σ.set i (some (.pl d))) σV b → Av B σ σV b := fun b z => z.elim (fun ⟨j, y⟩ => .inl ⟨j, (old j b y).2⟩) .inr
  have val := q.rp (A' := Av B (σ.set i (some (.pl d))) σV) av na
  refine ⟨_, ev, r.cells (by simp) fun j c ec => ?_, val⟩
  by_cases hj : j = i
  · subst hj
    rw [List.getElem?_set_self hi] at ec
    cases ec
    exact .inr ⟨d, _, rfl, ev, val⟩
  · rw [List.getElem?_set_ne (Ne.symm hj)] at ec
    exact .inl ec
/-- a slot is stored: a plain value -/
theorem Rep.set {d : PyData} (r : Rep B H σ σV) (h : Rp B.K (Av B σ σV) H v d) : Rep B H (σ.set i (some (.pl d))) (σV.set i (some v)) := by
  have old : ∀ j b, Rt (σ.set i (some (.pl d))) (σV.set i (some v)) j b → Rt σ σV j b := fun j b ⟨⟨d', hd⟩, hv⟩ => by
    by_cases hj : j = i
    · subst hj
      by_cases hi : j < σ.length
      · rw [List.getElem?_set_self hi] at hd
        rcases hd with hd | hd <;> cases hd
      · rw [List.getElem?_eq_none (by simpa using hi)] at hd
        rcases hd with hd | hd <;> cases hd
    · rw [List.getElem?_set_ne (Ne.symm hj)] at hd hv
      exact ⟨⟨d', hd⟩, hv⟩
  have av : ∀ b, Av B (σ.set i (some (.pl d))) (σV.set i (some v)) b → Av B σ σV b := fun b z => z.elim (fun ⟨j, y⟩ => .inl ⟨j, old j b y⟩) .inr
  refine ⟨by simpa using r.len, fun j c ec => ?_, fun j k a x y => r.inj j k a (old j a x) (old k a y), fun a ⟨j, x⟩ => r.exr a ⟨j, old j a x⟩, r.ext, r.kp, fun b hb => r.nt b (av b hb), r.exT⟩
  by_cases hj : j = i
  · subst hj
    have hi : j < σ.length := by
      have := (List.getElem?_eq_some_iff.mp ec).1
      simpa using this
    rw [List.getElem?_set_self hi] at ec
    cases ec
    exact ⟨v, by rw [List.getElem?_set_self (by rw [← r.len]; exact hi)], h.weak av⟩
  · rw [List.getElem?_set_ne (Ne.symm hj)] at ec
    obtain ⟨u, eu, hc⟩ := r.cell j c ec
    exact ⟨u, by rw [List.getElem?_set_ne (Ne.symm hj)]; exact eu, hc.weak av⟩
/-- a slot is forgotten -/
theorem Rep.drop (r : Rep B H σ σV) (x : Option V) : Rep B H (σ.set i none) (σV.set i x) := by
  have ne : ∀ {α : Type} {l : List (Option α)} {j : Nat} {c : α}, (l.set i none)[j]? = some (some c) → j ≠ i ∧ l[j]? = some (some c) := fun {α l j c} e => by
    by_cases hj : j = i
    · subst hj
      by_cases hi : j < l.length
      · rw [List.getElem?_set_self hi] at e; cases e
      · rw [List.getElem?_eq_none (by simpa using hi)] at e; cases e
    · rw [List.getElem?_set_ne (Ne.symm hj)] at e
      exact ⟨hj, e⟩
  have old : ∀ j b, Rt (σ.set i none) (σV.set i x) j b → Rt σ σV j b := fun j b ⟨⟨d', hd⟩, hv⟩ => by
    have hj : j ≠ i := by rcases hd with hd | hd <;> exact (ne hd).1
    rw [List.getElem?_set_ne (Ne.symm hj)] at hv
    exact ⟨⟨d', hd.imp (fun z => (ne z).2) fun z => (ne z).2⟩, hv⟩
  have av : ∀ b, Av B (σ.set i none) (σV.set i x) b → Av B σ σV b := fun b z => z.elim (fun ⟨j, y⟩ => .inl ⟨j, old j b y⟩) .inr
  refine ⟨by simpa using r.len, fun j c ec => ?_, fun j k a x y => r.inj j k a (old j a x) (old k a y), fun a ⟨j, x⟩ => r.exr a ⟨j, old j a x⟩, r.ext, r.kp, fun b hb => r.nt b (av b hb), r.exT⟩
  obtain ⟨hj, ec⟩ := ne ec
  obtain ⟨u, eu, hc⟩ := r.cell j c ec
  exact ⟨u, by rw [List.getElem?_set_ne (Ne.symm hj)]; exact eu, hc.weak av⟩
/-- a slot is stored: a new list that is the slot's own from then on -/
theorem Rep.own {d : PyData} (hi : i < σ.length) (r : Rep (B.ex a) H σ σV) (nr : ¬ Av B σ σV a) (h0 : B.H0 a = none) (h : RootD B.K (Av (B.ex a) σ σV) H a d) : Rep B H (σ.set i (some (.ow d))) (σV.set i (some (.ref a))) := by
  have hiV : i < σV.length := by rw [← r.len]; exact hi
  have old : ∀ j b, Rt (σ.set i (some (.ow d))) (σV.set i (some (.ref a))) j b → (j = i ∧ b = a) ∨ (j ≠ i ∧ Rt σ σV j b) := fun j b ⟨⟨d', hd⟩, hv⟩ => by
    by_cases hj : j = i
    · subst hj
      rw [List.getElem?_set_self hiV] at hv
      cases hv
      exact .inl ⟨rfl, rfl⟩
    · rw [List.getElem?_set_ne (Ne.symm hj)] at hd hv
      exact .inr ⟨hj, ⟨d', hd⟩, hv⟩
  have av : ∀ b, Av B (σ.set i (some (.ow d))) (σV.set i (some (.ref a))) b → Av (B.ex a) σ σV b := fun b z => by
    rcases z with ⟨j, z⟩ | z
    · rcases old j b z with ⟨_, e⟩ | ⟨_, y⟩
      · exact .inr (.inr e)
      · exact .inl ⟨j, y⟩
    · exact .inr (.inl z)
  have nRt : ∀ j, ¬ Rt σ σV j a := fun j z => nr (.inl ⟨j, z⟩)
  refine ⟨by simpa using r.len, fun j c ec => ?_, fun j k b x y => ?_, fun b ⟨j, x⟩ z => ?_, r.ext, r.kp, fun b hb => r.nt b (av b hb), fun b hb => r.exT b (.inl hb)⟩
  · by_cases hj : j = i
    · subst hj
      rw [List.getElem?_set_self hi] at ec
      cases ec
      exact ⟨_, by rw [List.getElem?_set_self hiV], a, rfl, h.weak av, h0⟩
    · rw [List.getElem?_set_ne (Ne.symm hj)] at ec
      obtain ⟨u, eu, hc⟩ := r.cell j c ec
      have hc' : CellOk B (Av (B.ex a) σ σV) H j u c := by cases c <;> exact hc
      exact ⟨u, by rw [List.getElem?_set_ne (Ne.symm hj)]; exact eu, hc'.weak av⟩
  · rcases old j b x with ⟨e1, e2⟩ | ⟨_, y1⟩ <;> rcases old k b y with ⟨e3, e4⟩ | ⟨_, y2⟩
    · rw [e1, e3]
    · rw [e2] at y2; exact (nRt k y2).elim
    · rw [e4] at y1; exact (nRt j y1).elim
    · exact r.inj j k b y1 y2
  · rcases old j b x with ⟨_, e⟩ | ⟨_, y⟩
    · rw [e] at z; exact nr (.inr z)
    · exact r.exr b ⟨j, y⟩ (.inl z)
/-- slots forgotten, on both sides -/
theorem Rep.wipe (r : Rep B H σ σV) : ∀ own : List Nat, Rep B H (wipeS σ own) (L2.wipe σV own)
  | [] => r
  | i :: own => (Rep.wipe r own).drop none
theorem wipeS_at (σ : S) (j : Nat) : ∀ own : List Nat, (wipeS σ own)[j]? = if j ∈ own then (σ[j]?).map (fun _ => none) else σ[j]?
  | [] => by simp [wipeS]
  | i :: own => by
    unfold wipeS
    have ih := wipeS_at σ j own
    by_cases hj : j = i
    · subst hj
      by_cases hl : j < (wipeS σ own).length
      · have h2 : j < σ.length := by
          by_cases h2 : j < σ.length
          · exact h2
          · rw [List.getElem?_eq_getElem hl, List.getElem?_eq_none (by omega)] at ih
            split at ih <;> cases ih
        rw [List.getElem?_set_self hl, if_pos (by simp), List.getElem?_eq_getElem h2]; rfl
      · rw [List.getElem?_eq_none (by simpa using hl)]
        rw [List.getElem?_eq_none (by omega)] at ih
        have h2 : σ[j]? = none := by
          split at ih
          · cases e : σ[j]? with
            | none => rfl
            | some x => rw [e] at ih; cases ih
          · exact ih.symm
        rw [if_pos (by simp), h2]; rfl
    · rw [List.getElem?_set_ne (Ne.symm hj), ih]
      by_cases hm : j ∈ own
      · rw [if_pos hm, if_pos (by simp [hm])]
      · rw [if_neg hm, if_neg (by simp [hm, hj])]
theorem wipe_at (σ : St) (j : Nat) : ∀ own : List Nat, (L2.wipe σ own)[j]? = if j ∈ own then (σ[j]?).map (fun _ => none) else σ[j]?
  | [] => by simp [L2.wipe]
  | i :: own => by
    unfold L2.wipe
    have ih := wipe_at σ j own
    by_cases hj : j = i
    · subst hj
      by_cases hl : j < (L2.wipe σ own).length
      · have h2 : j < σ.length := by rw [L2.wipe_length] at hl; exact hl
        rw [List.getElem?_set_self hl, if_pos (by simp), List.getElem?_eq_getElem h2]; rfl
      · rw [List.getElem?_eq_none (by simpa using hl)]
        have h2 : σ[j]? = none := by rw [L2.wipe_length] at hl; exact List.getElem?_eq_none (by omega)
        rw [if_pos (by simp), h2]; rfl
    · rw [List.getElem?_set_ne (Ne.symm hj), ih]
      by_cases hm : j ∈ own
      · rw [if_pos hm, if_pos (by simp [hm])]
      · rw [if_neg hm, if_neg (by simp [hm, hj])]
theorem wipeS_length (σ : S) : ∀ own : List Nat, (wipeS σ own).length = σ.length
  | [] => rfl
  | i :: own => by unfold wipeS; rw [List.length_set, wipeS_length σ own]
theorem backS_length (σ₀ σ : S) : ∀ own : List Nat, (backS σ₀ σ own).length = σ.length
  | [] => rfl
  | i :: own => by unfold backS; rw [List.length_set, backS_length σ₀ σ own]
theorem backS_at (σ₀ σ : S) (hl : σ₀.length = σ.length) (j : Nat) : ∀ own : List Nat, (backS σ₀ σ own)[j]? = if j ∈ own then σ₀[j]? else σ[j]?
  | [] => by simp [backS]
  | i :: own => by
    unfold backS
    have ih := backS_at σ₀ σ hl j own
    by_cases hj : j = i
    · subst hj
      rw [if_pos (by simp)]
      by_cases h2 : j < σ.length
      · rw [List.getElem?_set_self (by rw [backS_length]; exact h2)]
        rw [List.getElem?_eq_getElem (by rw [hl]; exact h2)]
        rfl
      · rw [List.getElem?_eq_none (by rw [List.length_set, backS_length]; omega), List.getElem?_eq_none (by omega)]
    · rw [List.getElem?_set_ne (Ne.symm hj), ih]
      by_cases hm : j ∈ own
      · rw [if_pos hm, if_pos (by simp [hm])]
      · rw [if_neg hm, if_neg (by simp [hm, hj])]
/-- slots off a list stand as they stood -/
structure Off (is : List Nat) (σV σV' : St) : Prop where
  len : σV'.length = σV.length
  at_ : ∀ j, j ∉ is → σV'[j]? = σV[j]?
theorem Off.refl {is : List Nat} : Off is σV σV := ⟨rfl, fun _ _ => rfl⟩
theorem Off.trans {is : List Nat} {a b c : St} (x : Off is a b) (y : Off is b c) : Off is a c := ⟨y.len.trans x.len, fun j h => (y.at_ j h).trans (x.at_ j h)⟩
theorem Off.mono {is js : List Nat} {a b : St} (x : Off is a b) (h : ∀ i ∈ is, i ∈ js) : Off js a b := ⟨x.len, fun j hj => x.at_ j fun z => hj (h j z)⟩
theorem Off.set {is : List Nat} {i : Nat} (x : Option V) (h : i ∈ is) : Off is σV (σV.set i x) := ⟨by simp, fun j hj => by rw [List.getElem?_set_ne (fun z => hj (by rw [← z]; exact h))]⟩
theorem Off.wipe {is : List Nat} {a b : St} (x : Off is a b) : L2.wipe b is = L2.wipe a is := by
  refine List.ext_getElem? fun j => ?_
  rw [wipe_at, wipe_at]
  by_cases hj : j ∈ is
  · rw [if_pos hj, if_pos hj]
    by_cases hl : j < a.length
    · rw [List.getElem?_eq_getElem hl, List.getElem?_eq_getElem (by rw [x.len]; exact hl)]; rfl
    · have e1 : a[j]? = none := List.getElem?_eq_none (Nat.le_of_not_lt hl)
      have e2 : b[j]? = none := List.getElem?_eq_none (by rw [x.len]; exact Nat.le_of_not_lt hl)
      rw [e1, e2]
  · rw [if_neg hj, if_neg hj, x.at_ j hj]
theorem Off.wiped {is : List Nat} : Off is σV (L2.wipe σV is) := ⟨L2.wipe_length _ _, fun j hj => by rw [wipe_at, if_neg hj]⟩
theorem ro_off {own : List Nat} {σV' : St} (h : ∀ i d, (σ'[i]? = some (some (.ow d)) ∨ σ'[i]? = some (some (.io d))) → i ∉ own ∧ ∃ d', σ[i]? = some (some (.ow d')) ∨ σ[i]? = some (some (.io d')))
    (o : Off own σV σV') : ∀ a, RO σ' σV' a → RO σ σV a := fun a ⟨i, ⟨d, hd⟩, hv⟩ => by
  obtain ⟨h1, d', h2⟩ := h i d hd
  exact ⟨i, ⟨d', h2⟩, by rw [← o.at_ i h1]; exact hv⟩
/-- behind a comprehension: its own names as they were -/
theorem Rep.back {σc : S} {own : List Nat} {D : Addr} {H1 Hc : Hp} {σ1 : S} (r1 : Rep B H1 σ1 σV) (rc : Rep (B.ex D) Hc (wipeS σc own) (L2.wipe σV own)) (hD : H1 D = none) (k : Kp (fun b => Av B σ1 σV b ∨ b = D) H1 Hc)
    (ro : ∀ a, RO (wipeS σc own) (L2.wipe σV own) a → RO σ1 σV a) (po : plainOwn σ1 own = true) : Rep (B.ex D) Hc (backS σ1 σc own) σV ∧ ∀ a, RO (backS σ1 σc own) σV a → RO (wipeS σc own) (L2.wipe σV own) a := by
  have hl : σ1.length = σc.length := by
    have e1 := rc.len
    rw [wipeS_length, L2.wipe_length] at e1
    exact r1.len.trans e1.symm
  have at_ := backS_at σ1 σc hl
  have own_pl : ∀ i, i ∈ own → ∀ c, σ1[i]? = some (some c) → ∃ d, c = .pl d := fun i hi c e => by
    unfold plainOwn at po
    have q := List.all_eq_true.mp po i hi
    rw [e] at q
    cases c with
    | pl d => exact ⟨d, rfl⟩
    | _ => cases q
  have rt : ∀ i a, Rt (backS σ1 σc own) σV i a → i ∉ own ∧ Rt (wipeS σc own) (L2.wipe σV own) i a := fun i a ⟨⟨d, hd⟩, hv⟩ => by
    by_cases hi : i ∈ own
    · rw [at_ i own, if_pos hi] at hd
      rcases hd with hd | hd
      · obtain ⟨d', e⟩ := own_pl i hi _ hd; cases e
      · obtain ⟨d', e⟩ := own_pl i hi _ hd; cases e
    · rw [at_ i own, if_neg hi] at hd
      exact ⟨hi, ⟨d, by rw [wipeS_at, if_neg hi]; exact hd⟩, by rw [wipe_at, if_neg hi]; exact hv⟩
  have roB : ∀ a, RO (backS σ1 σc own) σV a → RO (wipeS σc own) (L2.wipe σV own) a := fun a ⟨i, h⟩ => ⟨i, (rt i a h).2⟩
  have av1 : ∀ a, Av (B.ex D) (backS σ1 σc own) σV a → Av (B.ex D) (wipeS σc own) (L2.wipe σV own) a := fun a h => h.elim (fun z => .inl (roB a z)) .inr
  have av2 : ∀ a, Av (B.ex D) (backS σ1 σc own) σV a → Av B σ1 σV a ∨ a = D := fun a h => h.elim (fun z => .inl (.inl (ro a (roB a z)))) fun z => z.elim (fun y => .inl (.inr y)) .inr
  have nt : NoTup (fun b => Av B σ1 σV b ∨ b = D) H1 := fun b hb ys z => by
    rcases hb with hb | hb
    · exact r1.nt b hb ys z
    · rw [hb] at z; exact Rd.some_ z hD
  refine ⟨⟨by rw [backS_length, ← hl]; exact r1.len, fun i c e => ?_, fun i j a x y => rc.inj i j a (rt i a x).2 (rt j a y).2, fun a h => rc.exr a (roB a h), rc.ext, rc.kp, fun b hb => rc.nt b (av1 b hb), rc.exT⟩, roB⟩
  by_cases hi : i ∈ own
  · rw [at_ i own, if_pos hi] at e
    obtain ⟨d, rfl⟩ := own_pl i hi c e
    obtain ⟨v, ev, h⟩ := r1.pl e
    exact ⟨v, ev, ((Rp.more hD h).keep k nt).weak av2⟩
  · rw [at_ i own, if_neg hi] at e
    obtain ⟨v, ev, h⟩ := rc.cell i c (by rw [wipeS_at, if_neg hi]; exact e)
    exact ⟨v, by rw [wipe_at, if_neg hi] at ev; exact ev, h.weak av1⟩
end
end Pv
/-! Pv3: readings of the evaluator; operands; what an operation asks. -/
namespace Pv
open PySem L2
section
variable {B : Vw} {H H1 H2 : Hp} {σ σ1 σ2 : S} {σV : St} {v : V} {d : PyData}
/-- what one step of the evaluator may change -/
structure Stp (B : Vw) (σ σ' : S) (σV : St) (H H' : Hp) : Prop where
  kp : Kp (RO σ σV) H H'
  ro : ∀ a, RO σ' σV a → RO σ σV a
theorem Stp.refl : Stp B σ σ σV H H := ⟨.refl, fun _ h => h⟩
theorem Stp.av (x : Stp B σ σ1 σV H H1) : ∀ a, Av B σ1 σV a → Av B σ σV a := fun a z => z.elim (fun y => .inl (x.ro a y)) .inr
theorem Stp.trans (x : Stp B σ σ1 σV H H1) (y : Stp B σ1 σ2 σV H1 H2) : Stp B σ σ2 σV H H2 :=
  ⟨x.kp.trans y.kp fun a z => .inl (x.ro a z), fun a z => x.ro a (y.ro a z)⟩
theorem Stp.kpA (x : Stp B σ σ1 σV H H1) : Kp (Av B σ σV) H H1 := x.kp.weak fun _ => .inl
theorem Stp.heap (k : Kp (RO σ σV) H H1) : Stp B σ σ σV H H1 := ⟨k, fun _ h => h⟩
theorem Rp.stp (r : Rep B H σ σV) (x : Stp B σ σ1 σV H H1) (h : Rp B.K (Av B σ σV) H v d) : Rp B.K (Av B σ1 σV) H1 v d := (h.keep x.kpA r.nt).weak x.av
theorem Rps.stp {vs : List V} {ds : List PyData} (r : Rep B H σ σV) (x : Stp B σ σ1 σV H H1) (h : Rps B.K (Av B σ σV) H vs ds) : Rps B.K (Av B σ1 σV) H1 vs ds := (h.keep x.kpA r.nt).weak x.av
theorem Val.since {d : DF} (h : Val B H1 σ σV H2 v d) (t : ∀ b, H1 b = none → H b = none) : Val B H σ σV H2 v d := by
  obtain ⟨d, fr⟩ := d
  cases fr with
  | false => exact h
  | true => obtain ⟨a, e, n, q⟩ := h; exact ⟨a, e, t a n, q⟩
/-- an operand that is read: a value, or a root where it stands -/
def Opr (K : Frag) (A : ASet) (H : Hp) (v : V) (d : PyData) : Prop := Rp K A H v d ∨ ∃ a, v = .ref a ∧ RootD K A H a d
theorem Opr.dp {K : Frag} {A : ASet} (h : Opr K A H v d) : Dp K H v d := by
  rcases h with h | ⟨a, rfl, h⟩
  · exact h.dp
  · exact h.dp
theorem Opr.lst {K : Frag} {A : ASet} {ds : List PyData} (h : Opr K A H v (.list ds)) : ∃ a xs, v = .ref a ∧ LsR K H a xs ∧ Rps K A H xs ds := by
  rcases h with h | ⟨a, rfl, h⟩
  · cases h with
    | lst h r => exact ⟨_, _, rfl, h.rd, r⟩
  · obtain ⟨xs, e, r⟩ := h
    exact ⟨a, xs, rfl, .inl (.inl e), r⟩
theorem Opr.tup {K : Frag} {A : ASet} {ds : List PyData} (h : Opr K A H v (.tuple ds)) : ∃ a xs, v = .ref a ∧ SqT K H a xs ∧ Rps K A H xs ds := by
  rcases h with h | ⟨a, rfl, h⟩
  · cases h with
    | tup h r => exact ⟨_, _, rfl, h, r⟩
  · exact h.elim
theorem Opr.rp {K : Frag} {A : ASet} (h : Opr K A H v d) (n : ∀ ds, d ≠ .list ds) : Rp K A H v d := by
  rcases h with h | ⟨a, rfl, h⟩
  · exact h
  · cases d with
    | list ds => exact (n ds rfl).elim
    | _ => exact h.elim
theorem Opr.int {K : Frag} {A : ASet} {i : Int} (h : Opr K A H v (.int i)) : v = .int i := by
  have h := h.rp fun _ z => by cases z
  cases h; rfl
theorem Opr.bl {K : Frag} {A : ASet} {i : Bool} (h : Opr K A H v (.bool i)) : v = .bl i := by
  have h := h.rp fun _ z => by cases z
  cases h; rfl
theorem Opr.non {K : Frag} {A : ASet} (h : Opr K A H v .none) : v = .non := by
  have h := h.rp fun _ z => by cases z
  cases h; rfl
theorem Opr.str {K : Frag} {A : ASet} {x : Str} (h : Opr K A H v (.str x)) : v = .str x ∧ x.length ≤ line := by
  have h := h.rp fun _ z => by cases z
  cases h with
  | str _ q => exact ⟨rfl, q⟩
theorem Opr.nodict {K : Frag} {A : ASet} {x : List (PyData × PyData)} (h : Opr K A H v (.dict x)) : False := by
  have h := h.rp fun _ z => by cases z
  cases h
theorem getP_ok {i : Nat} (r : Rep B H σ σV) (e : getP σ i = some d) (ev : σV[i]? = some (some v)) : Opr B.K (Av B σ σV) H v d := by
  unfold getP at e
  split at e
  · rename_i d' q
    cases e
    obtain ⟨u, eu, h⟩ := r.pl q
    rw [ev] at eu; cases eu
    exact .inl h
  · rename_i d' q
    cases e
    obtain ⟨a, eu, _, h, _⟩ := r.rt_ow q
    rw [ev] at eu; cases eu
    exact .inr ⟨a, rfl, h⟩
  · rename_i d' q
    cases e
    obtain ⟨a, eu, _, h, _⟩ := r.rt_io q
    rw [ev] at eu; cases eu
    exact .inr ⟨a, rfl, h⟩
  · cases e
theorem getP_slot {i : Nat} (r : Rep B H σ σV) (e : getP σ i = some d) : ∃ v, σV[i]? = some (some v) := by
  unfold getP at e
  split at e
  · rename_i d' q; obtain ⟨u, eu, _⟩ := r.pl q; exact ⟨u, eu⟩
  · rename_i d' q; obtain ⟨a, eu, _⟩ := r.rt_ow q; exact ⟨_, eu⟩
  · rename_i d' q; obtain ⟨a, eu, _⟩ := r.rt_io q; exact ⟨_, eu⟩
  · cases e
end

/-! ### the readings -/
def ErrP (B : Vw) (σ : S) (σV : St) (H : Hp) (W : WX) (c : Nat) (d : PyData) (σ' : S) : Prop :=
  ∀ (C dx : Addr) (w : V) (H' : Hp), B.cls c = some C → Rep B H' σ' σV → Stp B σ σ' σV H H' → H' dx = some (.xd [("value", w)]) → ¬ Av B σ' σV dx → Rp B.K (Av B σ' σV) H' w d → W (.ref C) (some dx) σV H'
/-- what is wanted behind an evaluation -/
def Pst {α : Type} (B : Vw) (σ : S) (σV : St) (H : Hp) (W : WX) (q : α → S → Prop) : Res α → Prop
  | .ok a σ' => q a σ'
  | .err c d σ' => ErrP B σ σV H W c d σ'
  | .bad => False
structure Gk where
  K : Frag
  cls : Nat → Option Addr
def Vw.of (B : Vw) (G : Gk) : Prop := B.K = G.K ∧ B.cls = G.cls
def tE (G : Gk) (W : WX) (p : S → Res DF) : TE := fun σV H Q => ∃ B σ, B.of G ∧ Rep B H σ σV ∧ Pst B σ σV H W (fun d σ' => ∀ v H', Rep B H' σ' σV → Stp B σ σ' σV H H' → Val B H σ' σV H' v d → Q v H') (p σ)
def tT (G : Gk) (W : WX) (p : S → Res Bool) : TT := fun σV H Q => ∃ B σ, B.of G ∧ Rep B H σ σV ∧ Pst B σ σV H W (fun b σ' => ∀ H', Rep B H' σ' σV → Stp B σ σ' σV H H' → Q b H') (p σ)
section
variable {B : Vw} {H H1 H2 : Hp} {σ σ1 σ2 : S} {σV : St} {v : V} {d : PyData} {W : WX} {G : Gk}
theorem ErrP.back {c : Nat} (x : Stp B σ σ1 σV H H1) (h : ErrP B σ σV H W c d σ2) : ErrP B σ1 σV H1 W c d σ2 := fun C dx w H' hc r s e n q => h C dx w H' hc r (x.trans s) e n q
theorem Pst.imp {α : Type} {q q' : α → S → Prop} {r : Res α} (h : Pst B σ σV H W q r) (k : ∀ a σ', q a σ' → q' a σ') : Pst B σ σV H W q' r := by
  cases r with
  | ok a s => exact k a s h
  | err c d s => exact h
  | bad => exact h
theorem Pst.back {α : Type} {q : α → S → Prop} {r : Res α} (x : Stp B σ σ1 σV H H1) (h : Pst B σ σV H W q r) : Pst B σ1 σV H1 W q r := by
  cases r with
  | ok a s => exact h
  | err c d s => exact ErrP.back x h
  | bad => exact h
/-- of two steps: the first one's wish -/
theorem Pst.bind {α β : Type} {q : β → S → Prop} {r : Res α} {f : α → S → Res β} (h : Pst B σ σV H W q (r.bind f)) : Pst B σ σV H W (fun a σ' => Pst B σ σV H W q (f a σ')) r := by
  cases r with
  | ok a s => exact h
  | err c d s => exact h
  | bad => exact h
theorem Pst.ofO {α : Type} {q : α → S → Prop} {o : Option α} {s : S} (h : Pst B σ σV H W q (ofO o s)) : ∃ a, o = some a ∧ q a s := by
  cases o with
  | none => exact h.elim
  | some a => exact ⟨a, rfl, h⟩
theorem tE.mk {p : S → Res DF} {Q : VK} (g : B.of G) (r : Rep B H σ σV) (h : Pst B σ σV H W (fun d σ' => ∀ v H', Rep B H' σ' σV → Stp B σ σ' σV H H' → Val B H σ' σV H' v d → Q v H') (p σ)) : tE G W p σV H Q := ⟨B, σ, g, r, h⟩
theorem tT.mk {p : S → Res Bool} {Q : Bool → Hp → Prop} (g : B.of G) (r : Rep B H σ σV) (h : Pst B σ σV H W (fun b σ' => ∀ H', Rep B H' σ' σV → Stp B σ σ' σV H H' → Q b H') (p σ)) : tT G W p σV H Q := ⟨B, σ, g, r, h⟩

/-! ### operands -/
def tOpd (G : Gk) (W : WX) (ev : EvE) (e : R) : TE := match isVar e with
  | some i => tVar i
  | none => tE G W (ev e)
def tOpds (G : Gk) (W : WX) (ev : EvE) : List R → TA
  | [] => tNil
  | e :: es => tCons (tOpd G W ev e) (tOpds G W ev es)
def OpdOk (B : Vw) (σ : S) (σV : St) (H : Hp) (v : V) : Nat ⊕ PyData → Prop
  | .inl i => σV[i]? = some (some v)
  | .inr d => Rp B.K (Av B σ σV) H v d
theorem OpdOk.stp {o : Nat ⊕ PyData} (r : Rep B H σ σV) (x : Stp B σ σ1 σV H H1) (h : OpdOk B σ σV H v o) : OpdOk B σ1 σV H1 v o := by
  cases o with
  | inl i => exact h
  | inr d => exact Rp.stp r x h
theorem fill_ok {xs : List (Nat ⊕ PyData)} {vs : List V} {ds : List PyData} (r : Rep B H σ σV) (p : Paired (OpdOk B σ σV H) vs xs) (h : fill σ xs = some ds) : Paired (Opr B.K (Av B σ σV) H) vs ds := by
  induction p generalizing ds with
  | nil => cases h; exact .nil
  | @cons v o vs xs q _ ih =>
    cases o with
    | inl j =>
      unfold fill at h
      cases e : getP σ j with
      | none => rw [e] at h; cases h
      | some d =>
        rw [e] at h
        cases e2 : fill σ xs with
        | none => rw [e2] at h; cases h
        | some l =>
          rw [e2] at h
          cases h
          exact .cons (getP_ok r e q) (ih e2)
    | inr d =>
      unfold fill at h
      cases e2 : fill σ xs with
      | none => rw [e2] at h; cases h
      | some l =>
        rw [e2] at h
        cases h
        exact .cons (.inl q) (ih e2)
theorem Paired.imp2 {α β : Type} {F F' : α → β → Prop} (h : ∀ a b, F a b → F' a b) : ∀ {xs : List α} {ys : List β}, Paired F xs ys → Paired F' xs ys
  | _, _, .nil => .nil
  | _, _, .cons r t => .cons (h _ _ r) (Paired.imp2 h t)
theorem tOpd_var {ev : EvE} {e : R} {i : Nat} {Q : VK} (hv : isVar e = some i) (h : tVar i σV H Q) : tOpd G W ev e σV H Q := by
  unfold tOpd; rw [hv]; exact h
theorem tOpd_ev {ev : EvE} {e : R} {Q : VK} (hv : isVar e = none) (h : tE G W (ev e) σV H Q) : tOpd G W ev e σV H Q := by
  unfold tOpd; rw [hv]; exact h
/-- the operands, from the left -/
theorem pre_ok (g : B.of G) {ev : EvE} : ∀ {es : List R} {σ : S} {H : Hp} {Q : List V → Hp → Prop}, Rep B H σ σV →
    Pst B σ σV H W (fun xs σ' => ∀ vs H', Rep B H' σ' σV → Stp B σ σ' σV H H' → Paired (OpdOk B σ' σV H') vs xs → Q vs H') (pre ev es σ) → tOpds G W ev es σV H Q
  | [], σ, H, Q, r, h => h [] H r .refl .nil
  | e :: es, σ, H, Q, r, h => by
    unfold pre at h
    show tOpd G W ev e σV H fun x H1 => tOpds G W ev es σV H1 fun xs H2 => Q (x :: xs) H2
    split at h
    · rename_i i hv
      split at h
      · rename_i hs
        obtain ⟨d, hd⟩ := Option.isSome_iff_exists.mp hs
        obtain ⟨v, ev'⟩ := getP_slot r hd
        refine tOpd_var hv ⟨v, ev', pre_ok g r (h.bind.imp fun xs σ' q vs H' r' s p => ?_)⟩
        exact q (v :: vs) H' r' s (.cons ev' p)
      · exact h.elim
    · rename_i hv
      refine tOpd_ev hv (tE.mk g r (h.bind.imp fun d σ' q v H' r' s hval => ?_))
      refine pre_ok g r' ((Pst.back s q).bind.imp fun xs σ2 q2 vs H2 r2 s2 p => ?_)
      exact q2 (v :: vs) H2 r2 (s.trans s2) (.cons (Rp.stp r' s2 (hval.rp r')) p)
/-- operands that are all read -/
theorem opds_ok (g : B.of G) {ev : EvE} {es : List R} {Q : List V → Hp → Prop} (r : Rep B H σ σV)
    (h : Pst B σ σV H W (fun ds σ' => ∀ vs H', Rep B H' σ' σV → Stp B σ σ' σV H H' → Paired (Opr B.K (Av B σ' σV) H') vs ds → Q vs H') (opds ev es σ)) : tOpds G W ev es σV H Q := by
  refine pre_ok g r ((Pst.bind h).imp fun xs σ' q vs H' r' s p => ?_)
  obtain ⟨ds, e, q⟩ := q.ofO
  exact q vs H' r' s (fill_ok r' p e)
/-- displays: each value goes on -/
def tEs (G : Gk) (W : WX) (ev : EvE) : List R → TA
  | [] => tNil
  | e :: es => tCons (tE G W (ev e)) (tEs G W ev es)
theorem evL_ok (g : B.of G) {ev : EvE} : ∀ {es : List R} {σ : S} {H : Hp} {Q : List V → Hp → Prop}, Rep B H σ σV →
    Pst B σ σV H W (fun ds σ' => ∀ vs H', Rep B H' σ' σV → Stp B σ σ' σV H H' → Rps B.K (Av B σ' σV) H' vs ds → Q vs H') (evL ev es σ) → tEs G W ev es σV H Q
  | [], σ, H, Q, r, h => h [] H r .refl .nil
  | e :: es, σ, H, Q, r, h => by
    unfold evL at h
    show tE G W (ev e) σV H fun x H1 => tEs G W ev es σV H1 fun xs H2 => Q (x :: xs) H2
    refine tE.mk g r ((Pst.bind h).imp fun d σ' q v H' r' s hval => ?_)
    refine evL_ok g r' ((Pst.back s q).bind.imp fun xs σ2 q2 vs H2 r2 s2 p => ?_)
    exact q2 (v :: vs) H2 r2 (s.trans s2) (.cons (Rp.stp r' s2 (hval.rp r')) p)

/-! ### what an operation of values asks -/
/-- r serves f: from operands that read as ds, f ds = some e -/
def Srv (G : Gk) (f : List PyData → Option DF) (r : List V → Hp → VK → Prop) : Prop :=
  ∀ (B : Vw) (σ : S) (σV : St) (H : Hp) (vs : List V) (ds : List PyData) (e : DF) (Q : VK), B.of G → Rep B H σ σV → Paired (Opr B.K (Av B σ σV) H) vs ds → f ds = some e →
    (∀ v H', Rep B H' σ σV → Stp B σ σ σV H H' → Val B H σ σV H' v e → Q v H') → r vs H Q
theorem srv_opds {f : List PyData → Option DF} {r : List V → Hp → VK → Prop} {ev : EvE} {es : List R} {Q : VK} (s : Srv G f r) (h : tE G W (fun σ => (opds ev es σ).bind fun ds σ => ofO (f ds) σ) σV H Q) :
    tOpds G W ev es σV H fun vs H' => r vs H' Q := by
  obtain ⟨B, σ, g, rp, h⟩ := h
  refine opds_ok g rp ((Pst.bind h).imp fun ds σ' q vs H' r' st p => ?_)
  obtain ⟨e, he, q⟩ := q.ofO
  exact s B σ' σV H' vs ds e Q g r' p he fun v H2 r2 s2 hv => q v H2 r2 (st.trans s2) (hv.since st.kp.tr)
theorem opd1_eq {ev : EvE} {a : R} {s : S} {f : PyData → Option DF} : opd1 ev a s f = (opds ev [a] s).bind fun ds s => ofO (f1 f ds) s := by
  unfold opd1
  congr 1
  funext ds s
  match ds with
  | [] => rfl
  | [x] => rfl
  | _ :: _ :: _ => rfl
theorem opd2_eq {ev : EvE} {a b : R} {s : S} {f : PyData → PyData → Option DF} : opd2 ev a b s f = (opds ev [a, b] s).bind fun ds s => ofO (f2 f ds) s := by
  unfold opd2
  congr 1
  funext ds s
  match ds with
  | [] => rfl
  | [x] => rfl
  | [x, y] => rfl
  | _ :: _ :: _ :: _ => rfl
def Srv1 (G : Gk) (f : PyData → Option DF) (r : V → Hp → VK → Prop) : Prop :=
  ∀ (B : Vw) (σ : S) (σV : St) (H : Hp) (v : V) (d : PyData) (e : DF) (Q : VK), B.of G → Rep B H σ σV → Opr B.K (Av B σ σV) H v d → f d = some e →
    (∀ v H', Rep B H' σ σV → Stp B σ σ σV H H' → Val B H σ σV H' v e → Q v H') → r v H Q
def Srv2 (G : Gk) (f : PyData → PyData → Option DF) (r : R2) : Prop :=
  ∀ (B : Vw) (σ : S) (σV : St) (H : Hp) (v u : V) (d c : PyData) (e : DF) (Q : VK), B.of G → Rep B H σ σV → Opr B.K (Av B σ σV) H v d → Opr B.K (Av B σ σV) H u c → f d c = some e →
    (∀ v H', Rep B H' σ σV → Stp B σ σ σV H H' → Val B H σ σV H' v e → Q v H') → r v u H Q
theorem srv1 {f : PyData → Option DF} {r : V → Hp → VK → Prop} {ev : EvE} {a : R} {Q : VK} (s : Srv1 G f r) (h : tE G W (fun σ => opd1 ev a σ f) σV H Q) : tUn r (tOpd G W ev a) σV H Q := by
  obtain ⟨B, σ, g, rp, h⟩ := h
  have h' : Pst B σ σV H W (fun d σ' => ∀ v H', Rep B H' σ' σV → Stp B σ σ' σV H H' → Val B H σ' σV H' v d → Q v H') (opd1 ev a σ f) := h
  rw [opd1_eq] at h'
  have q : tOpds G W ev [a] σV H fun vs H' => match vs with | [x] => r x H' Q | _ => True := by
    refine opds_ok g rp ((Pst.bind h').imp fun ds σ' q vs H' r' st p => ?_)
    obtain ⟨e, he, q2⟩ := q.ofO
    cases p with
    | nil => cases he
    | cons p1 p =>
      cases p with
      | nil => exact s B σ' σV H' _ _ e Q g r' p1 he fun v H2 r2 s2 hv => q2 v H2 r2 (st.trans s2) (hv.since st.kp.tr)
      | cons _ _ => cases he
  exact q
theorem srv2 {f : PyData → PyData → Option DF} {r : R2} {ev : EvE} {a b : R} {Q : VK} (s : Srv2 G f r) (h : tE G W (fun σ => opd2 ev a b σ f) σV H Q) : tOp r (tOpd G W ev a) (tOpd G W ev b) σV H Q := by
  obtain ⟨B, σ, g, rp, h⟩ := h
  have h' : Pst B σ σV H W (fun d σ' => ∀ v H', Rep B H' σ' σV → Stp B σ σ' σV H H' → Val B H σ' σV H' v d → Q v H') (opd2 ev a b σ f) := h
  rw [opd2_eq] at h'
  have q : tOpds G W ev [a, b] σV H fun vs H' => match vs with | [x, y] => r x y H' Q | _ => True := by
    refine opds_ok g rp ((Pst.bind h').imp fun ds σ' q vs H' r' st p => ?_)
    obtain ⟨e, he, q2⟩ := q.ofO
    cases p with
    | nil => cases he
    | cons p1 p =>
      cases p with
      | nil => cases he
      | cons p2 p =>
        cases p with
        | nil => exact s B σ' σV H' _ _ _ _ e Q g r' p1 p2 he fun v H2 r2 s2 hv => q2 v H2 r2 (st.trans s2) (hv.since st.kp.tr)
        | cons _ _ => cases he
  exact q
end

/-! ### the ends of an operation -/
section
variable {B : Vw} {H : Hp} {σ : S} {σV : St} {v : V} {d : PyData} {Q : VK} {xs : List V} {ds : List PyData} {p : Addr}
abbrev EndK (B : Vw) (σ : S) (σV : St) (H : Hp) (e : DF) (Q : VK) : Prop := ∀ v H', Rep B H' σ σV → Stp B σ σ σV H H' → Val B H σ σV H' v e → Q v H'
theorem end_pl (r : Rep B H σ σV) (h : Rp B.K (Av B σ σV) H v d) (k : EndK B σ σV H (d, false) Q) : Q v H := k v H r .refl h
theorem end_int {i : Int} (r : Rep B H σ σV) (k : EndK B σ σV H (.int i, false) Q) : Q (.int i) H := end_pl r (.int i) k
theorem end_bl {i : Bool} (r : Rep B H σ σV) (k : EndK B σ σV H (.bool i, false) Q) : Q (.bl i) H := end_pl r (.bl i) k
theorem newRps (r : Rep B H σ σV) (hp : H p = none) {o : HO} (h : Rps B.K (Av B σ σV) H xs ds) : Rps B.K (Av B σ σV) (upd H p o) xs ds := h.keep (.new hp) r.nt
theorem end_tup (r : Rep B H σ σV) (hp : H p = none) (h : Rps B.K (Av B σ σV) H xs ds) (k : EndK B σ σV H (.tuple ds, false) Q) : Q (.ref p) (upd H p (.tup xs)) :=
  k _ _ (r.new hp) (.heap (.new hp)) (.tup (SqT.of upd_same) (newRps r hp h))
theorem Rep.notAv (r : Rep B H σ σV) (hp : H p = none) : ¬ Av B σ σV p := fun hb => by
  rcases hb with hb | hb
  · obtain ⟨j, ⟨d, hd⟩, hv⟩ := hb
    have lst : ∃ xs, H p = some (.lst xs) := by
      rcases hd with hd | hd
      · obtain ⟨v, ev, a, ea, q, _⟩ := r.cell j _ hd
        rw [hv] at ev; cases ev; cases ea; exact q.at_
      · obtain ⟨v, ev, a, ea, q, _⟩ := r.cell j _ hd
        rw [hv] at ev; cases ev; cases ea; exact q.at_
    obtain ⟨xs, q⟩ := lst
    rw [hp] at q; cases q
  · exact r.exT p hb hp
theorem end_lst (r : Rep B H σ σV) (hp : H p = none) (h : Rps B.K (Av B σ σV) H xs ds) (k : EndK B σ σV H (.list ds, true) Q) : Q (.ref p) (upd H p (.lst xs)) := by
  refine k _ _ (r.new hp) (.heap (.new hp)) ⟨p, rfl, hp, r.notAv hp, r.newEx hp, xs, upd_same, ?_⟩
  refine (r.avoids hp h).keep (Kp.put (.inr (.inr rfl))) fun b hb ys z => ?_
  rcases hb with hb | (hb | hb)
  · exact r.nt b (.inl hb) ys z
  · exact r.nt b (.inr hb) ys z
  · rw [hb] at z; exact Rd.some_ z hp
end
end Pv
/-! Pv4: the operations of values. -/
namespace Pv
open PySem PySem.Spec PyProof.Rows L2
/-- what a context gives: room, nothing handled, nothing being shown -/
structure Gx (X : Cx) : Prop where
  hu : X.A.units + 150 < cLine
  calm : X.calm = true
  hd : X.A.handled = none
  gd : X.A.guards = some []
section
variable {X : Cx}
/-! ### + - * // % ** -/
def rCatL (K : Frag) : R2 := fun x y H Q => ∃ l b xs zs, x = .ref l ∧ y = .ref b ∧ LsR K H l xs ∧ LsR K H b zs ∧ xs.length + zs.length ≤ sizeLine ∧ ∀ p, H p = none → Q (.ref p) (upd H p (.lst (xs ++ zs)))
theorem op_catL : OpR X (binaryOp .Add) (rCatL X.K) := by
  intro pins s σ H x y v u Q I rx ry ⟨l, b, xs, zs, ex, ey, hl, hb, hz, q⟩
  subst ex; subst ey
  cases rx; cases ry
  obtain ⟨_, i1, n1, r1, l1, e1⟩ := hl.obj I
  obtain ⟨_, i2, n2, r2, l2, e2⟩ := hb.obj I
  refine PySem.P.add_list e1 e2 ?_ (by rw [List.size_toArray, List.size_toArray, ← l1, ← l2]; exact hz)
  rw [show i1.toArray ++ i2.toArray = (i1 ++ i2).toArray by simp]
  exact ⟨.ref _, _, I.lnew (t' := s.toks) (r1.append r2) (by rw [List.length_append]; exact hz), rfl, q _ I.fresh⟩
def rAddAll (K : Frag) : R2 := fun x y H Q => rI0 (fun i j => .int (i + j)) x y H Q ∨ rCatA K x y H Q ∨ rCatL K x y H Q ∨ (∃ i j, x = .str i ∧ y = .str j ∧ i.length + j.length ≤ sizeLine ∧ Q (.str (i ++ j)) H)
theorem op_addAll : OpR X (binaryOp .Add) (rAddAll X.K) := op_add.or (op_catA.or (op_catL.or op_add_str))
theorem str_len (x y : Str) : (x ++ y).length = x.length + y.length := by
  show (x.cps ++ y.cps).size = _
  exact Array.size_append
theorem line_eq : line = sizeLine := by rw [sizeLine_eq]; rfl
theorem tup_cat {G : Gk} {B : Vw} {σ : S} {σV : L2.St} {H : Hp} {a b : Addr} {xs ys : List V} {ds es : List PyData} {Q : VK} (g : B.of G) (r : Rep B H σ σV) (h1 : SqT G.K H a xs) (h2 : SqT G.K H b ys)
    (p1 : Rps B.K (Av B σ σV) H xs ds) (p2 : Rps B.K (Av B σ σV) H ys es) (hz : xs.length + ys.length ≤ sizeLine) (k : EndK B σ σV H (.tuple (ds ++ es), false) Q) : rCatA G.K (.ref a) (.ref b) H Q := by
  refine ⟨a, b, xs, ys, rfl, rfl, h1, h2, hz, fun e => ?_, fun _ e => ?_, fun _ _ p hp => end_tup r hp (p1.app p2) k⟩
  · subst e
    cases p1
    exact end_pl r (.tup (by rw [g.1]; exact h2) p2) k
  · subst e
    cases p2
    rw [List.append_nil] at k
    exact end_pl r (.tup (by rw [g.1]; exact h1) p1) k
theorem srv_add (G : Gk) : Srv2 G (bop .add) (rAddAll G.K) := by
  intro B σ σV H v u d c e Q g r p1 p2 he k
  cases d with
  | int i =>
    cases c with
    | int j => cases p1.int; cases p2.int; cases he; exact .inl ⟨i, j, rfl, rfl, end_int r k⟩
    | _ => cases he
  | str i =>
    cases c with
    | str j =>
      obtain ⟨rfl, z1⟩ := p1.str
      obtain ⟨rfl, z2⟩ := p2.str
      simp only [bop] at he
      split at he
      · rename_i hz
        cases he
        exact .inr (.inr (.inr ⟨i, j, rfl, rfl, by rw [← line_eq]; exact hz, end_pl r (.str _ (by rw [str_len]; exact hz)) k⟩))
      · cases he
    | _ => cases he
  | list l =>
    cases c with
    | list m =>
      simp only [bop] at he
      split at he
      · rename_i hz
        cases he
        obtain ⟨a, xs, rfl, h1, q1⟩ := p1.lst
        obtain ⟨b, ys, rfl, h2, q2⟩ := p2.lst
        rw [g.1] at h1 h2
        refine .inr (.inr (.inl ⟨a, b, xs, ys, rfl, rfl, h1, h2, by rw [q1.len, q2.len, ← line_eq]; exact hz, fun p hp => end_lst r hp (q1.app q2) k⟩))
      · cases he
    | _ => cases he
  | tuple l =>
    cases c with
    | tuple m =>
      simp only [bop] at he
      split at he
      · rename_i hz
        cases he
        obtain ⟨a, xs, rfl, h1, q1⟩ := p1.tup
        obtain ⟨b, ys, rfl, h2, q2⟩ := p2.tup
        rw [g.1] at h1 h2
        exact .inr (.inl (tup_cat g r h1 h2 q1 q2 (by rw [q1.len, q2.len, ← line_eq]; exact hz) k))
      · cases he
    | _ => cases he
  | _ => cases c <;> cases he
theorem srv_sub (G : Gk) : Srv2 G (bop .sub) (rI0 fun i j => .int (i - j)) := by
  intro B σ σV H v u d c e Q g r p1 p2 he k
  cases d with
  | int i =>
    cases c with
    | int j => cases p1.int; cases p2.int; cases he; exact ⟨i, j, rfl, rfl, end_int r k⟩
    | _ => cases he
  | _ => cases c <;> cases he
def rMulI : R2 := rI (fun i j => CMul i j ∨ CMulW i j) fun i j => .int (i * j)
theorem op_mulI : OpR X (binaryOp .Mult) rMulI := by
  intro pins s σ H x y v u Q I rx ry ⟨i, j, ex, ey, hc, q⟩
  rcases hc with hc | hc
  · exact op_mul pins s σ H x y v u Q I rx ry ⟨i, j, ex, ey, hc, q⟩
  · exact op_mulW pins s σ H x y v u Q I rx ry ⟨i, j, ex, ey, hc, q⟩
theorem srv_mulI {B : Vw} {σ : S} {σV : L2.St} {H : Hp} {i j : Int} {Q : VK} (r : Rep B H σ σV) (h : mulOk i j = true) (k : EndK B σ σV H (.int (i * j), false) Q) : rMulI (.int i) (.int j) H Q := by
  refine ⟨i, j, rfl, rfl, ?_, end_int r k⟩
  unfold mulOk at h
  simp only [Bool.or_eq_true, decide_eq_true_eq] at h
  rcases h with (h | h) | h
  · exact .inl (.inl (by omega))
  · exact .inl (.inr (by omega))
  · exact .inr h
def rDivI : R2 := rI (fun _ j => divOk j = true) fun i j => .int (i.fdiv j)
theorem op_divI : OpR X (binaryOp .FloorDiv) rDivI := by
  intro pins s σ H x y v u Q I rx ry ⟨i, j, ex, ey, hc, q⟩
  have hc : divOk j = true := hc
  unfold divOk at hc
  simp only [Bool.or_eq_true, Bool.and_eq_true, decide_eq_true_eq] at hc
  rcases hc with hc | hc
  · exact op_fdivN pins s σ H x y v u Q I rx ry ⟨i, j, ex, ey, hc, q⟩
  · refine op_fdivW pins s σ H x y v u Q I rx ry ⟨i, j, ex, ey, hc, ?_⟩
    have h0 : (0 : Int) < j := hc.1
    show Q (.int (i / j)) H
    rw [← Int.fdiv_eq_ediv_of_nonneg i (by omega)]
    exact q
theorem srv_fdiv (G : Gk) : Srv2 G (bop .fdiv) rDivI := by
  intro B σ σV H v u d c e Q g r p1 p2 he k
  cases d with
  | int i =>
    cases c with
    | int j =>
      cases p1.int; cases p2.int
      simp only [bop] at he
      split at he
      · rename_i hz; cases he; exact ⟨i, j, rfl, rfl, hz, end_int r k⟩
      · cases he
    | _ => cases he
  | _ => cases c <;> cases he
theorem srv_mod (G : Gk) : Srv2 G (bop .mod) (rI (fun _ j => j ≠ 0) fun i j => .int (i.fmod j)) := by
  intro B σ σV H v u d c e Q g r p1 p2 he k
  cases d with
  | int i =>
    cases c with
    | int j =>
      cases p1.int; cases p2.int
      simp only [bop] at he
      split at he
      · rename_i hz; cases he; exact ⟨i, j, rfl, rfl, hz, end_int r k⟩
      · cases he
    | _ => cases he
  | _ => cases c <;> cases he
theorem srv_pow (G : Gk) : Srv2 G (bop .pow) (rI CPow fun i j => .int (i ^ j.toNat)) := by
  intro B σ σV H v u d c e Q g r p1 p2 he k
  cases d with
  | int i =>
    cases c with
    | int j =>
      cases p1.int; cases p2.int
      simp only [bop] at he
      split at he
      · rename_i hz; cases he; exact ⟨i, j, rfl, rfl, hz, end_int r k⟩
      · cases he
    | _ => cases he
  | _ => cases c <;> cases he
/-! ### list * int, tuple * int -/
def rRepL (K : Frag) : R2 := fun x y H Q => ∃ l k xs, x = .ref l ∧ y = .int k ∧ LsR K H l xs ∧ 0 ≤ k ∧ k < 2 ^ 62 ∧ xs.length * k.toNat ≤ sizeLine ∧ ∀ p, H p = none → Q (.ref p) (upd H p (.lst (List.replicate k.toNat xs).flatten))
theorem op_repL : OpR X (binaryOp .Mult) (rRepL X.K) := by
  intro pins s σ H x y v u Q I rx ry ⟨l, k, xs, ex, ey, hl, h1, h2, hz, q⟩
  subst ex; subst ey
  cases rx
  obtain ⟨t, rfl⟩ := ry
  obtain ⟨_, its, n, r, ln, e⟩ := hl.obj I
  have a1 : its.toArray.size * k.toNat ≤ sizeLine := by rw [List.size_toArray, ← ln]; exact hz
  have a2 : ¬ its.toArray.size * k.toNat > (2 ^ 63 - 1) / 8 := by
    have : (sizeLine : Nat) ≤ (2 ^ 63 - 1) / 8 := by decide
    omega
  have a3 : ¬ (!Builtin.List.listFitsIndex k) = true := by
    rw [fitsIndex_both (by omega) (by omega)]
    exact Bool.false_ne_true
  have a4 : ¬ Builtin.List.listTooLong (its.toArray.size * k.toNat) = true := by
    rw [notLongL a1]
    exact Bool.false_ne_true
  have a5 : List.foldl (fun x1 x2 => x1 ++ x2) #[] (List.replicate (if its.toArray.isEmpty = true then 0 else k.toNat) its.toArray) = (List.replicate k.toNat its).flatten.toArray := by
    rw [size_rep]
    cases its with
    | nil => simp
    | cons a r' => rw [if_neg (by simp)]
  refine wpAny_binaryOp_repeat_ref (T := "list") (U := "int") (by decide) ⟨_, e, rfl⟩ (fun s' => typeIs_int s' k t) noFill_list_mul F.fills_int_mul F.slot_int_rmul repeat_list F.slot_int_index.lookup
    (call_meets F.slot_int_rmul (typeIs_int s k t) F.entry_int_rmul (F.args_int_rmul_2 _ _) (int___rmul___int_list k t l its.toArray n)
      ⟨e, rfl, ⟨_, e, rfl⟩, call_meets F.slot_list_mul ⟨_, e, rfl⟩ F.entry_list_mul (F.args_list_mul_2 _ _) (AutoListH.list___mul___list_int_3 l its.toArray n k t a3 a2 a4) ⟨e, ?_⟩⟩)
  rw [a5]
  exact ⟨.ref _, _, I.lnew (t' := s.toks) (r.rep k.toNat) (by rw [PyProof.Rows.lm_len_rep_flat, Nat.mul_comm]; exact hz), rfl, q _ I.fresh⟩
def rMulAll (K : Frag) : R2 := fun x y H Q => rMulI x y H Q ∨ rRepL K x y H Q ∨ rRepT K x y H Q
theorem op_mulAll : OpR X (binaryOp .Mult) (rMulAll X.K) := op_mulI.or (op_repL.or op_repT)
theorem srv_mul (G : Gk) : Srv2 G (bop .mul) (rMulAll G.K) := by
  intro B σ σV H v u d c e Q g r p1 p2 he k
  cases d with
  | int i =>
    cases c with
    | int j =>
      cases p1.int; cases p2.int
      simp only [bop] at he
      split at he
      · rename_i hz; cases he; exact .inl (srv_mulI r hz k)
      · cases he
    | _ => cases he
  | list l =>
    cases c with
    | int j =>
      cases p2.int
      simp only [bop] at he
      split at he
      · rename_i hz
        cases he
        obtain ⟨a, xs, rfl, h1, q1⟩ := p1.lst
        rw [g.1] at h1
        exact .inr (.inl ⟨a, j, xs, rfl, rfl, h1, hz.1, hz.2.1, by rw [q1.len, ← line_eq]; exact hz.2.2, fun p hp => end_lst r hp (q1.rep _) k⟩)
      · cases he
    | _ => cases he
  | tuple l =>
    cases c with
    | int j =>
      cases p2.int
      simp only [bop] at he
      split at he
      · rename_i hz
        cases he
        obtain ⟨a, xs, rfl, h1, q1⟩ := p1.tup
        rw [g.1] at h1
        refine .inr (.inr ⟨a, j, xs, rfl, rfl, h1, fun z => hz.1 ?_, hz.2.1, hz.2.2.1, by rw [q1.len]; exact hz.2.2.2, fun p hp => end_tup r hp (q1.rep _) k⟩)
        subst z; cases q1; rfl
      · cases he
    | _ => cases he
  | _ => cases c <;> cases he
/-! ### comparisons -/
theorem srv_eq (G : Gk) : Srv2 G (fun x y => bD (cop .eq x y)) (rEqD G.K) := by
  intro B σ σV H v u d c e Q g r p1 p2 he k
  simp only [cop, bD] at he
  split at he
  · rename_i hz
    cases he
    obtain ⟨z1, z2⟩ := Bool.and_eq_true_iff.mp hz
    exact ⟨d, c, by rw [← g.1]; exact p1.dp, by rw [← g.1]; exact p2.dp, z1, z2, end_bl r k⟩
  · cases he
theorem srv_ne (G : Gk) : Srv2 G (fun x y => bD (cop .ne x y)) (rNeD G.K) := by
  intro B σ σV H v u d c e Q g r p1 p2 he k
  simp only [cop, bD] at he
  split at he
  · rename_i hz
    cases he
    obtain ⟨z1, z2⟩ := Bool.and_eq_true_iff.mp hz
    exact ⟨d, c, by rw [← g.1]; exact p1.dp, by rw [← g.1]; exact p2.dp, z1, z2, end_bl r k⟩
  · cases he
theorem srv_cmpI (G : Gk) (o : Cop) (f : Int → Int → Bool) (h1 : ∀ i j, cop o (.int i) (.int j) = some (f i j)) (h2 : ∀ x y, (∀ i j, ¬ (x = .int i ∧ y = .int j)) → cop o x y = none) : Srv2 G (fun x y => bD (cop o x y)) (rI0 fun i j => .bl (f i j)) := by
  intro B σ σV H v u d c e Q g r p1 p2 he k
  have he : bD (cop o d c) = some e := he
  by_cases hh : ∃ i j, d = .int i ∧ c = .int j
  · obtain ⟨i, j, rfl, rfl⟩ := hh
    cases p1.int; cases p2.int
    rw [h1] at he
    cases he
    exact ⟨i, j, rfl, rfl, end_bl r k⟩
  · rw [h2 d c fun i j z => hh ⟨i, j, z⟩] at he
    cases he
theorem noI (f : Int → Int → Bool) (o : Cop) (h : o = .lt ∨ o = .le ∨ o = .gt ∨ o = .ge) : ∀ x y, (∀ i j, ¬ (x = .int i ∧ y = .int j)) → cop o x y = none := by
  intro x y z
  cases x <;> cases y <;> first
    | exact absurd ⟨rfl, rfl⟩ (z _ _)
    | (rcases h with rfl | rfl | rfl | rfl <;> rfl)
theorem srv_lt (G : Gk) : Srv2 G (fun x y => bD (cop .lt x y)) (rI0 fun i j => .bl (decide (i < j))) := srv_cmpI G _ _ (fun _ _ => rfl) (noI (fun _ _ => true) _ (.inl rfl))
theorem srv_le (G : Gk) : Srv2 G (fun x y => bD (cop .le x y)) (rI0 fun i j => .bl (decide (i ≤ j))) := srv_cmpI G _ _ (fun _ _ => rfl) (noI (fun _ _ => true) _ (.inr (.inl rfl)))
theorem srv_gt (G : Gk) : Srv2 G (fun x y => bD (cop .gt x y)) (rI0 fun i j => .bl (decide (j < i))) := srv_cmpI G _ _ (fun _ _ => rfl) (noI (fun _ _ => true) _ (.inr (.inr (.inl rfl))))
theorem srv_ge (G : Gk) : Srv2 G (fun x y => bD (cop .ge x y)) (rI0 fun i j => .bl (decide (j ≤ i))) := srv_cmpI G _ _ (fun _ _ => rfl) (noI (fun _ _ => true) _ (.inr (.inr (.inr rfl))))
/-- x in xs, a list or a tuple; neg: not in -/
def rInA (K : Frag) (neg : Bool) : R2 := fun x y H Q => ∃ d ds, Dp K H x d ∧ (Dp K H y (.list ds) ∨ Dp K H y (.tuple ds)) ∧ SeqAt.shaped d = true ∧ PyData.canLayAll0 ds = true ∧ Q (.bl (if neg then !ds.any fun z => PyData.eqv z d else ds.any fun z => PyData.eqv z d)) H
theorem op_inA (gx : Gx X) : OpR X (compareOp .In) (rInA X.K false) := by
  intro pins s σ H x y v u Q I rx ry ⟨d, ds, hd, he, sd, se, q⟩
  have hu := gx.hu
  obtain ⟨as, r1⟩ := Dp.reads I d x v hd rx
  rcases he with he | he
  · obtain ⟨bs, r2⟩ := Dp.reads I (.list ds) y u he ry
    exact SeqAt.in_list_reads r2 r1 se (SeqAt.canLay_of_shaped sd) (room_in_shaped sd (by omega)) ⟨.bl _, H, I, rfl, q⟩
  · obtain ⟨bs, r2⟩ := Dp.reads I (.tuple ds) y u he ry
    exact SeqAt.in_tuple_reads r2 r1 se (SeqAt.canLay_of_shaped sd) (room_in_shaped sd (by omega)) ⟨.bl _, H, I, rfl, q⟩
theorem op_ninA (gx : Gx X) : OpR X (compareOp .NotIn) (rInA X.K true) := by
  intro pins s σ H x y v u Q I rx ry ⟨d, ds, hd, he, sd, se, q⟩
  have hu := gx.hu
  obtain ⟨as, r1⟩ := Dp.reads I d x v hd rx
  rcases he with he | he
  · obtain ⟨bs, r2⟩ := Dp.reads I (.list ds) y u he ry
    exact SeqAt.notIn_list_reads r2 r1 se (SeqAt.canLay_of_shaped sd) (room_in_shaped sd (by omega)) ⟨.bl _, H, I, rfl, q⟩
  · obtain ⟨bs, r2⟩ := Dp.reads I (.tuple ds) y u he ry
    exact SeqAt.notIn_tuple_reads r2 r1 se (SeqAt.canLay_of_shaped sd) (room_in_shaped sd (by omega)) ⟨.bl _, H, I, rfl, q⟩
theorem okD_l {l : List PyData} (h : okD (.list l) = true) : PyData.canLayAll0 l = true := SeqAt.canLay_of_shaped h
theorem okD_t {l : List PyData} (h : okD (.tuple l) = true) : PyData.canLayAll0 l = true := SeqAt.canLay_of_shaped h
theorem srv_in (G : Gk) : Srv2 G (fun x y => bD (cop .isin x y)) (rInA G.K false) := by
  intro B σ σV H v u d c e Q g r p1 p2 he k
  cases c with
  | list l =>
    simp only [cop, bD] at he
    split at he
    · rename_i hz
      cases he
      obtain ⟨z1, z2⟩ := Bool.and_eq_true_iff.mp hz
      exact ⟨d, l, by rw [← g.1]; exact p1.dp, .inl (by rw [← g.1]; exact p2.dp), z1, okD_l z2, end_bl r k⟩
    · cases he
  | tuple l =>
    simp only [cop, bD] at he
    split at he
    · rename_i hz
      cases he
      obtain ⟨z1, z2⟩ := Bool.and_eq_true_iff.mp hz
      exact ⟨d, l, by rw [← g.1]; exact p1.dp, .inr (by rw [← g.1]; exact p2.dp), z1, okD_t z2, end_bl r k⟩
    · cases he
  | _ => cases d <;> cases he
theorem srv_nin (G : Gk) : Srv2 G (fun x y => bD (cop .notin x y)) (rInA G.K true) := by
  intro B σ σV H v u d c e Q g r p1 p2 he k
  cases c with
  | list l =>
    simp only [cop, bD] at he
    split at he
    · rename_i hz
      cases he
      obtain ⟨z1, z2⟩ := Bool.and_eq_true_iff.mp hz
      exact ⟨d, l, by rw [← g.1]; exact p1.dp, .inl (by rw [← g.1]; exact p2.dp), z1, okD_l z2, end_bl r k⟩
    · cases he
  | tuple l =>
    simp only [cop, bD] at he
    split at he
    · rename_i hz
      cases he
      obtain ⟨z1, z2⟩ := Bool.and_eq_true_iff.mp hz
      exact ⟨d, l, by rw [← g.1]; exact p1.dp, .inr (by rw [← g.1]; exact p2.dp), z1, okD_t z2, end_bl r k⟩
    · cases he
  | _ => cases d <;> cases he
/-- the rule of a comparison -/
def CmpOf : Cop → CmpOp
  | .eq => .Eq | .ne => .NotEq | .lt => .Lt | .le => .LtE | .gt => .Gt | .ge => .GtE | .isin => .In | .notin => .NotIn
def rCmp (K : Frag) : Cop → R2
  | .eq => rEqD K | .ne => rNeD K
  | .lt => rI0 fun i j => .bl (decide (i < j)) | .le => rI0 fun i j => .bl (decide (i ≤ j)) | .gt => rI0 fun i j => .bl (decide (j < i)) | .ge => rI0 fun i j => .bl (decide (j ≤ i))
  | .isin => rInA K false | .notin => rInA K true
theorem op_cmp (gx : Gx X) (o : Cop) : OpR X (compareOp (CmpOf o)) (rCmp X.K o) := by
  have hu := gx.hu
  cases o with
  | eq => exact op_eqD (by omega)
  | ne => exact op_neD (by omega)
  | lt => exact op_lt
  | le => exact op_le
  | gt => exact op_gt
  | ge => exact op_ge
  | isin => exact op_inA gx
  | notin => exact op_ninA gx
theorem srv_cmp (G : Gk) (o : Cop) : Srv2 G (fun x y => bD (cop o x y)) (rCmp G.K o) := by
  cases o with
  | eq => exact srv_eq G
  | ne => exact srv_ne G
  | lt => exact srv_lt G
  | le => exact srv_le G
  | gt => exact srv_gt G
  | ge => exact srv_ge G
  | isin => exact srv_in G
  | notin => exact srv_nin G
def BinOf : Bop → Operator
  | .add => .Add | .sub => .Sub | .mul => .Mult | .fdiv => .FloorDiv | .mod => .Mod | .pow => .Pow
def rBin (K : Frag) : Bop → R2
  | .add => rAddAll K | .sub => rI0 fun i j => .int (i - j) | .mul => rMulAll K | .fdiv => rDivI | .mod => rI (fun _ j => j ≠ 0) fun i j => .int (i.fmod j) | .pow => rI CPow fun i j => .int (i ^ j.toNat)
theorem op_bin (o : Bop) : OpR X (binaryOp (BinOf o)) (rBin X.K o) := by
  cases o with
  | add => exact op_addAll
  | sub => exact op_sub
  | mul => exact op_mulAll
  | fdiv => exact op_divI
  | mod => exact op_modN
  | pow => exact op_pow
theorem srv_bin (G : Gk) (o : Bop) : Srv2 G (bop o) (rBin G.K o) := by
  cases o with
  | add => exact srv_add G
  | sub => exact srv_sub G
  | mul => exact srv_mul G
  | fdiv => exact srv_fdiv G
  | mod => exact srv_mod G
  | pow => exact srv_pow G
/-! ### one operand -/
theorem srv_neg (G : Gk) : Srv1 G (fun x => match x with | .int i => some (.int (-i), false) | _ => none) (rU fun i => .int (-i)) := by
  intro B σ σV H v d e Q g r p he k
  cases d with
  | int i => cases p.int; cases he; exact ⟨i, rfl, end_int r k⟩
  | _ => cases he
def isNone : PyData → Bool
  | .none => true
  | _ => false
theorem Opr.nonIff {K : Frag} {A : ASet} {H : Hp} {v : V} {d : PyData} (h : Opr K A H v d) : decide (v = .non) = isNone d := by
  cases d with
  | none => rw [h.non]; rfl
  | bool b => rw [h.bl]; exact decide_eq_false fun z => by cases z
  | int b => rw [h.int]; exact decide_eq_false fun z => by cases z
  | str b => rw [h.str.1]; exact decide_eq_false fun z => by cases z
  | list b => obtain ⟨a, xs, rfl, _⟩ := h.lst; exact decide_eq_false fun z => by cases z
  | tuple b => obtain ⟨a, xs, rfl, _⟩ := h.tup; exact decide_eq_false fun z => by cases z
  | dict b => exact h.nodict.elim
def rIsN (yes : Bool) : V → Hp → VK → Prop := fun x H Q => Q (.bl (decide (x = .non) == yes)) H
theorem srv_isn (G : Gk) (yes : Bool) : Srv1 G (fun x => match x with | .none => some (.bool yes, false) | _ => some (.bool !yes, false)) (rIsN yes) := by
  intro B σ σV H v d e Q g r p he k
  show Q (.bl (decide (v = .non) == yes)) H
  rw [p.nonIff]
  cases d <;> (cases he; cases yes <;> exact end_bl r k)
def rIsB (yes b : Bool) : V → Hp → VK → Prop := fun x H Q => ∃ c, x = .bl c ∧ Q (.bl ((c == b) == yes)) H
theorem srv_isb (G : Gk) (yes b : Bool) : Srv1 G (fun x => match x with | .bool c => some (.bool ((c == b) == yes), false) | _ => none) (rIsB yes b) := by
  intro B σ σV H v d e Q g r p he k
  cases d with
  | bool c => cases p.bl; cases he; exact ⟨c, rfl, end_bl r k⟩
  | _ => cases he
/-! ### truth -/
theorem tru_val {K : Frag} {A : ASet} {H : Hp} {v : V} {d : PyData} (h : Opr K A H v d) : TruV K v H (tru d) := by
  cases d with
  | none => rw [h.non]; rfl
  | bool b => rw [h.bl]; rfl
  | int b => rw [h.int]; rfl
  | str b =>
    rw [h.str.1]
    refine ⟨by rw [← line_eq]; exact h.str.2, ?_⟩
    show (b.length != 0) = _
    rw [Bool.eq_iff_iff]
    simp
  | list b =>
    obtain ⟨a, xs, rfl, h1, q⟩ := h.lst
    refine .inl ⟨xs, h1.sq, ?_⟩
    cases q <;> rfl
  | tuple b =>
    obtain ⟨a, xs, rfl, h1, q⟩ := h.tup
    refine .inr (.inl ⟨xs, h1, ?_⟩)
    cases q <;> rfl
  | dict b => exact h.nodict.elim
/-! ### x[i], x[i:j] -/
theorem ixD_eq : @ixD = @ixN := rfl
theorem atD_map {K : Frag} {A : ASet} {H : Hp} {xs : List V} {ds : List PyData} {i : Int} {d : PyData} (q : Rps K A H xs ds) (h : atD ds i = some d) : ∃ v, atI xs i = some v ∧ Rp K A H v d := by
  unfold atD at h
  unfold atI
  rw [q.len]
  cases e : ixD ds.length i with
  | none => rw [e] at h; cases h
  | some j =>
    rw [e] at h
    obtain ⟨v, h1, h2⟩ := q.get (i := j) h
    exact ⟨v, by show (ixN ds.length i).bind _ = _; rw [show ixN ds.length i = some j from e]; exact h1, h2⟩
theorem srv_ix (G : Gk) : Srv2 G (fun x y => (ixop x y).map fun d => (d, false)) (rIx G.K) := by
  intro B σ σV H v u d c e Q g r p1 p2 he k
  cases c with
  | int i =>
    cases p2.int
    cases d with
    | list l =>
      obtain ⟨a, xs, rfl, h1, q1⟩ := p1.lst
      rw [g.1] at h1
      simp only [ixop] at he
      cases h : atD l i with
      | none => rw [h] at he; cases he
      | some z =>
        rw [h] at he
        cases he
        obtain ⟨v, h2, h3⟩ := atD_map q1 h
        exact .inl ⟨a, xs, i, v, rfl, rfl, h1.sq, h2, end_pl r h3 k⟩
    | tuple l =>
      obtain ⟨a, xs, rfl, h1, q1⟩ := p1.tup
      rw [g.1] at h1
      simp only [ixop] at he
      cases h : atD l i with
      | none => rw [h] at he; cases he
      | some z =>
        rw [h] at he
        cases he
        obtain ⟨v, h2, h3⟩ := atD_map q1 h
        exact .inr (.inl ⟨a, xs, i, v, rfl, rfl, h1, h2, end_pl r h3 k⟩)
    | str x =>
      obtain ⟨rfl, z⟩ := p1.str
      simp only [ixop] at he
      cases h : atD x.cps.toList i with
      | none => rw [h] at he; cases he
      | some c =>
        rw [h] at he
        cases he
        exact .inr (.inr ⟨x, i, c, rfl, rfl, by rw [← line_eq]; exact z, h, end_pl r (.str _ (by show 1 ≤ line; decide)) k⟩)
    | _ => cases he
  | _ => cases d <;> cases he
theorem cutD_rps {K : Frag} {A : ASet} {H : Hp} {xs : List V} {ds : List PyData} {lo hi : Option Int} (q : Rps K A H xs ds) : Rps K A H (cutV xs lo hi) (cutD ds lo hi) := by
  unfold cutV cutD
  rw [q.len]
  exact (q.drop _).take _
def rSlL' (K : Frag) : V → Option Int → Option Int → Hp → VK → Prop := fun x lo hi H Q => rSlL K x lo hi H Q ∨ rSlA K x lo hi H Q
theorem sl_all : SlR X (rSlL' X.K) := sl_list.or sl_tupA
theorem srv_sl {G : Gk} {B : Vw} {σ : S} {σV : L2.St} {H : Hp} {v : V} {d : PyData} {e : DF} {Q : VK} {lo hi : Option Int} (g : B.of G) (r : Rep B H σ σV) (p : Opr B.K (Av B σ σV) H v d) (he : slop d lo hi = some e) (k : EndK B σ σV H e Q) : rSlL' G.K v lo hi H Q := by
  cases d with
  | list l =>
    cases he
    obtain ⟨a, xs, rfl, h1, q1⟩ := p.lst
    rw [g.1] at h1
    exact .inl ⟨a, xs, rfl, h1.sq, fun p hp => end_lst r hp (cutD_rps q1) k⟩
  | tuple l =>
    cases he
    obtain ⟨a, xs, rfl, h1, q1⟩ := p.tup
    rw [g.1] at h1
    refine .inr ⟨a, xs, rfl, h1, fun z => ?_, fun _ p hp => end_tup r hp (cutD_rps q1) k⟩
    have e : cutD l lo hi = l := by
      unfold cutD
      rw [← q1.len, z.1, z.2]
      simp [q1.len]
    rw [e] at k
    exact end_pl r (.tup (by rw [g.1]; exact h1) q1) k
  | _ => cases he
/-! ### builtins by values -/
theorem pd1 {α β : Type} {F : α → β → Prop} {xs : List α} {b : β} (p : Paired F xs [b]) : ∃ a, xs = [a] ∧ F a b := by
  cases p with
  | cons q p => cases p; exact ⟨_, rfl, q⟩
theorem pd2 {α β : Type} {F : α → β → Prop} {xs : List α} {b c : β} (p : Paired F xs [b, c]) : ∃ x y, xs = [x, y] ∧ F x b ∧ F y c := by
  cases p with
  | cons q p =>
    obtain ⟨y, rfl, q2⟩ := pd1 p
    exact ⟨_, y, rfl, q, q2⟩
theorem srv_len (G : Gk) : Srv G (bop2 .len) (fun xs H Q => ∃ x n, xs = [x] ∧ LenV G.K x H n ∧ Q (.int n) H) := by
  intro B σ σV H vs ds e Q g r p he k
  match ds, he with
  | [.list l], he =>
    obtain ⟨v, rfl, p1⟩ := pd1 p
    cases he
    obtain ⟨a, xs, rfl, h1, q1⟩ := p1.lst
    rw [g.1] at h1
    exact ⟨_, _, rfl, .inl ⟨xs, h1.sq, q1.len.symm⟩, end_int r k⟩
  | [.tuple l], he =>
    obtain ⟨v, rfl, p1⟩ := pd1 p
    cases he
    obtain ⟨a, xs, rfl, h1, q1⟩ := p1.tup
    rw [g.1] at h1
    exact ⟨_, _, rfl, .inr ⟨xs, h1, q1.len.symm⟩, end_int r k⟩
  | [.str l], he =>
    obtain ⟨v, rfl, p1⟩ := pd1 p
    cases he
    obtain ⟨rfl, z⟩ := p1.str
    exact ⟨_, _, rfl, ⟨by rw [← line_eq]; exact z, rfl⟩, end_int r k⟩
theorem srv_tuple (G : Gk) : Srv G (bop2 .tuple) (fun xs H Q => ∃ p ys, xs = [.ref p] ∧ ((SqL G.K H p ys ∧ ∀ l, H l = none → Q (.ref l) (upd H l (.tup ys))) ∨ (SqT G.K H p ys ∧ Q (.ref p) H))) := by
  intro B σ σV H vs ds e Q g r p he k
  match ds, he with
  | [.list l], he =>
    obtain ⟨v, rfl, p1⟩ := pd1 p
    cases he
    obtain ⟨a, xs, rfl, h1, q1⟩ := p1.lst
    rw [g.1] at h1
    exact ⟨a, xs, rfl, .inl ⟨h1.sq, fun l hl => end_tup r hl q1 k⟩⟩
  | [.tuple l], he =>
    obtain ⟨v, rfl, p1⟩ := pd1 p
    cases he
    obtain ⟨a, xs, rfl, h1, q1⟩ := p1.tup
    exact ⟨a, xs, rfl, .inr ⟨by rw [g.1] at h1; exact h1, end_pl r (.tup h1 q1) k⟩⟩
theorem srv_list (G : Gk) : Srv G (bop2 .list) (fun xs H Q => ∃ p ys, xs = [.ref p] ∧ (SqL G.K H p ys ∨ SqT G.K H p ys) ∧ ∀ l, H l = none → Q (.ref l) (upd H l (.lst ys))) := by
  intro B σ σV H vs ds e Q g r p he k
  match ds, he with
  | [.list l], he =>
    obtain ⟨v, rfl, p1⟩ := pd1 p
    cases he
    obtain ⟨a, xs, rfl, h1, q1⟩ := p1.lst
    rw [g.1] at h1
    exact ⟨a, xs, rfl, .inl h1.sq, fun l hl => end_lst r hl q1 k⟩
  | [.tuple l], he =>
    obtain ⟨v, rfl, p1⟩ := pd1 p
    cases he
    obtain ⟨a, xs, rfl, h1, q1⟩ := p1.tup
    rw [g.1] at h1
    exact ⟨a, xs, rfl, .inr h1, fun l hl => end_lst r hl q1 k⟩
theorem boolsD_ok {K : Frag} {A : ASet} {H : Hp} : ∀ {xs : List V} {ds : List PyData} {bs : List Bool}, Rps K A H xs ds → boolsD ds = some bs → xs = bs.map V.bl
  | _, _, _, .nil, h => by cases h; rfl
  | _, _, _, .cons q p, h => by
    cases q with
    | bl b =>
      simp only [boolsD] at h
      obtain ⟨l, h1, h2⟩ := Option.map_eq_some_iff.mp h
      subst h2
      rw [boolsD_ok p h1]
      rfl
    | _ => cases h
theorem intsD_ok {K : Frag} {A : ASet} {H : Hp} : ∀ {xs : List V} {ds : List PyData} {bs : List Int}, Rps K A H xs ds → intsD ds = some bs → xs = bs.map V.int
  | _, _, _, .nil, h => by cases h; rfl
  | _, _, _, .cons q p, h => by
    cases q with
    | int b =>
      simp only [intsD] at h
      obtain ⟨l, h1, h2⟩ := Option.map_eq_some_iff.mp h
      subst h2
      rw [intsD_ok p h1]
      rfl
    | _ => cases h
theorem srv_all (G : Gk) : Srv G (bop2 .all) (rAll G.K) := by
  intro B σ σV H vs ds e Q g r p he k
  match ds, he with
  | [.list l], he =>
    obtain ⟨v, rfl, p1⟩ := pd1 p
    obtain ⟨a, xs, rfl, h1, q1⟩ := p1.lst
    rw [g.1] at h1
    simp only [bop2] at he
    obtain ⟨bs, e1, e2⟩ := Option.map_eq_some_iff.mp he
    subst e2
    cases boolsD_ok q1 e1
    exact ⟨a, bs, rfl, h1.sq, end_bl r k⟩
theorem srv_any (G : Gk) : Srv G (bop2 .any) (rAny G.K) := by
  intro B σ σV H vs ds e Q g r p he k
  match ds, he with
  | [.list l], he =>
    obtain ⟨v, rfl, p1⟩ := pd1 p
    obtain ⟨a, xs, rfl, h1, q1⟩ := p1.lst
    rw [g.1] at h1
    simp only [bop2] at he
    obtain ⟨bs, e1, e2⟩ := Option.map_eq_some_iff.mp he
    subst e2
    cases boolsD_ok q1 e1
    exact ⟨a, bs, rfl, h1.sq, end_bl r k⟩
theorem srv_sum (G : Gk) : Srv G (bop2 .sum) (rSum G.K) := by
  intro B σ σV H vs ds e Q g r p he k
  match ds, he with
  | [.list l], he =>
    obtain ⟨v, rfl, p1⟩ := pd1 p
    obtain ⟨a, xs, rfl, h1, q1⟩ := p1.lst
    rw [g.1] at h1
    simp only [bop2] at he
    obtain ⟨bs, e1, e2⟩ := Option.map_eq_some_iff.mp he
    subst e2
    cases intsD_ok q1 e1
    exact ⟨a, bs, rfl, h1.sq, end_int r k⟩
theorem srv_min2 (G : Gk) : Srv G (bop2 .min2) (fun xs H Q => ∃ i j, xs = [.int i, .int j] ∧ Q (.int (if j < i then j else i)) H) := by
  intro B σ σV H vs ds e Q g r p he k
  match ds, he with
  | [.int i, .int j], he =>
    obtain ⟨v, u, rfl, p1, p2⟩ := pd2 p
    cases he; cases p1.int; cases p2.int
    exact ⟨i, j, rfl, end_int r k⟩
theorem srv_max2 (G : Gk) : Srv G (bop2 .max2) (fun xs H Q => ∃ i j, xs = [.int i, .int j] ∧ Q (.int (if j > i then j else i)) H) := by
  intro B σ σV H vs ds e Q g r p he k
  match ds, he with
  | [.int i, .int j], he =>
    obtain ⟨v, u, rfl, p1, p2⟩ := pd2 p
    cases he; cases p1.int; cases p2.int
    exact ⟨i, j, rfl, end_int r k⟩
theorem srv_abs (G : Gk) : Srv G (bop2 .abs) (fun xs H Q => ∃ i, xs = [.int i] ∧ Q (.int (if i < 0 then -i else i)) H) := by
  intro B σ σV H vs ds e Q g r p he k
  match ds, he with
  | [.int i], he =>
    obtain ⟨v, rfl, p1⟩ := pd1 p
    cases he; cases p1.int
    exact ⟨i, rfl, end_int r k⟩
theorem srv_int (G : Gk) : Srv G (bop2 .int) (fun xs H Q => (∃ i, xs = [.int i] ∧ Q (.int i) H) ∨ ∃ k, xs = [.bl k] ∧ Q (.int (if k then 1 else 0)) H) := by
  intro B σ σV H vs ds e Q g r p he k
  match ds, he with
  | [.int i], he =>
    obtain ⟨v, rfl, p1⟩ := pd1 p
    cases he; cases p1.int
    exact .inl ⟨i, rfl, end_int r k⟩
  | [.bool i], he =>
    obtain ⟨v, rfl, p1⟩ := pd1 p
    cases he; cases p1.bl
    exact .inr ⟨i, rfl, end_int r k⟩
/-- repr(x) of data -/
def rRepr (K : Frag) : List V → Hp → VK → Prop := fun vs H Q => ∃ x d, vs = [x] ∧ Dp K H x d ∧ reprOk d = true ∧ Q (.str d.shown) H
theorem call_reprD (gx : Gx X) : CallR X (.builtin "repr") (rRepr X.K) := by
  intro pins s σ H xs us Q I r ⟨x, d, ex, hd, ok, q⟩
  subst ex
  have hu := gx.hu
  obtain ⟨u, rfl, ru⟩ := Vals.one r
  obtain ⟨as, rd⟩ := Dp.reads I d x u hd ru
  unfold reprOk at ok
  simp only [Bool.and_eq_true, Bool.not_eq_true', decide_eq_true_eq] at ok
  obtain ⟨⟨⟨o1, o2⟩, o3⟩, o4⟩ := ok
  rw [line_eq] at o4
  have onRef : ∀ a, u = .ref a → wpAny (model X.prog X.w) X.A (call (.builtin "repr") [u]) (EP X pins σ Q) X.xe s := fun a e => by
    subst e
    exact repr_of_reads' rd o1 (PyData.noDict_hsm o2) gx.gd (by omega) (fun _ _ z => z) (fun h' t tk kk => ⟨.str d.shown, H, I.kept kk, ⟨_, rfl⟩, q⟩) (by omega)
  cases hd with
  | non => cases ru; exact PySem.P.repr_of_none ⟨.str _, H, I.tok _, ⟨_, rfl⟩, q⟩
  | bl b => cases ru; exact PySem.P.repr_of_bool ⟨.str _, H, I.tok _, ⟨_, rfl⟩, by cases b <;> exact q⟩
  | int i => obtain ⟨t, rfl⟩ := ru; exact PySem.P.repr_of_int (by simpa [PyData.showable] using o1) ⟨.str _, H, I.tok _, ⟨_, rfl⟩, q⟩
  | str y =>
    obtain ⟨t, rfl⟩ := ru
    exact PySem.P.repr_of_str ⟨.str _, H, I.tok _, ⟨_, rfl⟩, q⟩ (by have : (PyData.shown (.str y)).length + 64 ≤ sizeLine := o4; simp only [PyData.shown] at this; omega)
  | lst _ _ => exact onRef _ ru
  | tup _ _ => exact onRef _ ru
theorem srv_repr (G : Gk) : Srv G (bop2 .repr) (rRepr G.K) := by
  intro B σ σV H vs ds e Q g r p he k
  match ds, he with
  | [d], he =>
    obtain ⟨v, rfl, p1⟩ := pd1 p
    simp only [bop2] at he
    split at he
    · rename_i ok
      cases he
      have ok' := ok
      unfold reprOk at ok'
      simp only [Bool.and_eq_true, Bool.not_eq_true', decide_eq_true_eq] at ok'
      exact ⟨v, d, rfl, by rw [← g.1]; exact p1.dp, ok, end_pl r (.str _ (by omega)) k⟩
    · cases he
end
end Pv
/-! Ps1: sorted, min, max of data; lists joined by sum. -/
namespace PySem.W
open PySem PySem.Calls PyProof.Rows
section
variable {prog : Program} {w : World} {A : Around} {s : Shared}
/-- at most one value, whatever it is: it can be sorted -/
theorem SortsAt.one {vs : List Value} {ds : List PyData} (e : PySem.W.EachIs (fun v d => ∃ as, Reads s.heap v d as) vs ds) (hal : AllAlike ds) (hn : ∀ d, d ∈ ds → d ≠ .none) (h1 : vs.length ≤ 1) (hu : ∀ d, d ∈ ds → A.units + d.depth < cLine) : SortsAt prog w A s (dataKind s.heap ds) vs := by
  have room : ∀ {d d' : PyData}, d ∈ ds → A.units + min d.depth d'.depth < cLine := fun {d d'} hd => Nat.lt_of_le_of_lt (Nat.add_le_add_left (Nat.min_le_left _ _) _) (hu d hd)
  refine ⟨fun v hv => ?_, general', ?_, fun h2 => by omega⟩
  · obtain ⟨d, hd, as, r⟩ := e.left v hv
    exact ⟨_, dataKind_some hal hd r⟩
  · intro E x y a b Q ha hb hq
    obtain ⟨d, as, hd, ra, rfl⟩ := dataKind_inv ha
    obtain ⟨d', as', hd', rb, rfl⟩ := dataKind_inv hb
    show wpAny _ _ (oneLt' false x y) _ _ _
    exact oneLt_alike (fun z => by cases z) ra rb (hal d hd d' hd') (hn d hd) (room hd) hq
end
end PySem.W
namespace Pv
open PySem PySem.Spec PyProof.Rows L2
theorem all_all {l : List PyData} (h : allAlike l = true) : PySem.W.AllAlike l := fun d hd d' hd' => by
  unfold allAlike at h
  exact List.all_eq_true.mp (List.all_eq_true.mp h d hd) d' hd'
theorem noNone_ok {l : List PyData} (h : noNone l = true) : ∀ d ∈ l, d ≠ .none := fun d hd z => by
  unfold noNone at h
  have q := List.all_eq_true.mp h d hd
  rw [z] at q
  cases q
theorem depth_mem : ∀ {l : List PyData} {d : PyData}, d ∈ l → d.depth ≤ PyData.depthAll l
  | x :: xs, d, h => by
    show _ ≤ max x.depth (PyData.depthAll xs)
    rcases List.mem_cons.mp h with rfl | h
    · exact Nat.le_max_left _ _
    · exact Nat.le_trans (depth_mem h) (Nat.le_max_right _ _)
theorem shallow_ok {l : List PyData} (h : shallow l = true) : ∀ d ∈ l, d.depth ≤ 64 := fun d hd => by
  unfold shallow at h
  exact Nat.le_trans (depth_mem hd) (of_decide_eq_true h)
section
variable {X : Cx}
/-- items with what they read as -/
def RVD (K : Frag) (A : ASet) (H : Hp) (u : Value) (b : V × PyData) : Prop := RelV b.1 u ∧ Rp K A H b.1 b.2
theorem each_of {K : Frag} {A : ASet} {H : Hp} : ∀ {xs : List V} {ds : List PyData} {us : List Value}, Rps K A H xs ds → Vals xs us → PySem.W.EachIs (RVD K A H) us (xs.zip ds)
  | _, _, _, .nil, .nil => .nil
  | _, _, _, .cons h r, .cons q t => .cons ⟨q, h⟩ (each_of r t)
theorem each_back {K : Frag} {A : ASet} {H : Hp} : ∀ {bs : List (V × PyData)} {us : List Value}, PySem.W.EachIs (RVD K A H) us bs → Vals (bs.map (·.1)) us ∧ Rps K A H (bs.map (·.1)) (bs.map (·.2))
  | _, _, .nil => ⟨.nil, .nil⟩
  | _, _, .cons h t => ⟨.cons h.1 (each_back t).1, .cons h.2 (each_back t).2⟩
theorem zip_snd {xs : List V} {ds : List PyData} (h : xs.length = ds.length) : (xs.zip ds).map (·.2) = ds := by
  have := List.map_snd_zip (l₁ := xs) (l₂ := ds) (by omega)
  exact this
theorem sort_snd (bs : List (V × PyData)) : (bs.mergeSort (PySem.W.dataLe false (·.2))).map (·.2) = sortD (bs.map (·.2)) := by
  unfold sortD
  exact List.map_mergeSort fun a _ b _ => rfl
/-- sorted(xs) of data -/
def rSortD (K : Frag) : List V → Hp → VK → Prop := fun vs H Q => ∃ (a : Addr) (xs : List V) (A : ASet) (ds : List PyData), vs = [V.ref a] ∧ LsR K H a xs ∧ Rps K A H xs ds ∧ sortOk ds = true ∧
  ∀ p ys, H p = none → Rps K A H ys (sortD ds) → Q (.ref p) (upd H p (.lst ys))
theorem cr_sortD (gx : Gx X) : CallR X (.builtin "sorted") (rSortD X.K) := by
  intro pins s σ H vs us Q I r h
  obtain ⟨a, xs, A, ds, rfl, hs, hr, hok, q⟩ := h
  obtain ⟨its, rv, hl, hz⟩ := I.list hs.sq
  rw [Vals.ref1 r]
  have hu := gx.hu
  unfold sortOk at hok
  simp only [Bool.and_eq_true, decide_eq_true_eq] at hok
  obtain ⟨⟨⟨⟨k1, k2⟩, k3⟩, k4⟩, k5⟩ := hok
  have e := each_of hr rv
  have hlen : xs.length = ds.length := hr.len
  have es : (xs.zip ds).map (·.2) = ds := zip_snd hlen
  have er : ∀ h' : Heap, (∀ b o, s.heap.get? b = some o → h'.get? b = some o) → PySem.W.EachIs (fun v (b : V × PyData) => ∃ as, Reads h' v b.2 as) its (xs.zip ds) := fun h' k => e.mono fun u b z => by
    obtain ⟨as, rd⟩ := Dp.reads I _ _ u z.2.dp z.1
    exact ⟨as, PyProof.Rows.Reads.keeps (fun b o => k b o) rd⟩
  have hal : PySem.W.AllAlike ((xs.zip ds).map (·.2)) := by rw [es]; exact all_all k1
  have hL : its.length ≤ sizeLine := by rw [← rv.length]; exact hz
  have hd : ∀ d, d ∈ (xs.zip ds).map (·.2) → X.A.in1.in1.units + d.depth < cLine := fun d h => by
    rw [es] at h
    have := shallow_ok k3 d h
    show X.A.units + 1 + 1 + d.depth < cLine
    omega
  have fin : ∀ out : List Value, PySem.W.EachIs (RVD X.K A H) out ((xs.zip ds).mergeSort (PySem.W.dataLe false (·.2))) → EP X pins σ Q (.ref (s.heap.objs.size + 1)) { s with heap := sortedAll s.heap its (List.toArray out) } := fun out ho => by
    obtain ⟨b1, b2⟩ := each_back ho
    rw [sort_snd, es] at b2
    obtain ⟨ep, he'⟩ := PyProof.Rows.sortedAll_at s.heap its out.toArray
    have hl2 : (List.map (·.1) ((xs.zip ds).mergeSort (PySem.W.dataLe false (·.2)))).length ≤ sizeLine := by
      rw [List.length_map, List.length_mergeSort, List.length_zip]
      omega
    exact ⟨.ref _, upd H (s.heap.objs.size + 1) (.lst _), I.laid (t' := s.toks) (fun _ _ => PyProof.Rows.sortedAll_old) (Nat.le_succ _) ⟨hl2, out, ep, b1, he'⟩, rfl, q _ _ (I.hok.fresh (Nat.le_succ _)) b2⟩
  unfold sortable at k4
  simp only [Bool.or_eq_true, decide_eq_true_eq] at k4
  have er1 := er _ (fun b o => PySem.W.sorting_copy_old (vs := its))
  have key : ∀ S : PySem.W.SortsAt X.prog X.w X.A.in1.in1 { s with heap := PySem.W.sortingHeap (PySem.W.copyHeap s.heap its) (s.heap.objs.size + 1) its } (PySem.W.dataKind (PySem.W.sortingHeap (PySem.W.copyHeap s.heap its) (s.heap.objs.size + 1) its) ((xs.zip ds).map (·.2))) its,
      wpAny (model X.prog X.w) X.A (call (.builtin "sorted") [.ref a]) (EP X pins σ Q) X.xe s := fun S =>
    PySem.W.sorted_vals hl.isList S hL (fin _ (PySem.W.sortVals_data false e er1 hal))
  have em := PySem.W.each_map (R := fun v d => ∃ as, Reads (PySem.W.sortingHeap (PySem.W.copyHeap s.heap its) (s.heap.objs.size + 1) its) v d as) (fun b : V × PyData => b.2) er1
  rcases k4 with (k4 | k4) | k4
  · refine key (PySem.W.SortsAt.data em hal (.inl fun d h => ?_) hd)
    rw [es] at h
    have z := List.all_eq_true.mp k4 d h
    split at z
    · exact ⟨_, _, rfl⟩
    · cases z
  · refine key (PySem.W.SortsAt.data em hal (.inr fun d h => ?_) hd)
    rw [es] at h
    refine ⟨noNone_ok k2 d h, fun ys z => ?_⟩
    have w := List.all_eq_true.mp k4 d h
    rw [z] at w
    cases w
  · refine key (PySem.W.SortsAt.one em hal (fun d h => ?_) (by rw [← rv.length, hlen]; exact k4) hd)
    rw [es] at h
    exact noNone_ok k2 d h
theorem srv_sorted (G : Gk) : Srv G (bop2 .sorted) (rSortD G.K) := by
  intro B σ σV H vs ds e Q g r p he k
  match ds, he with
  | [.list l], he =>
    obtain ⟨v, rfl, p1⟩ := pd1 p
    simp only [bop2] at he
    split at he
    · rename_i ok
      cases he
      obtain ⟨a, xs, rfl, h1, q1⟩ := p1.lst
      rw [g.1] at h1
      have q2 := q1
      rw [g.1] at q2
      exact ⟨a, xs, _, l, rfl, h1, q2, ok, fun p ys hp hy => end_lst r hp (by rw [g.1]; exact hy) k⟩
    · cases he
/-! ### min, max -/
def rMinD (K : Frag) (f : PyData → List PyData → PyData) : List V → Hp → VK → Prop := fun vs H Q => ∃ (a : Addr) (xs : List V) (A : ASet) (d : PyData) (ds : List PyData), vs = [V.ref a] ∧ LsR K H a xs ∧ Rps K A H xs (d :: ds) ∧ bestOk (d :: ds) = true ∧
  ∀ v, Rp K A H v (f d ds) → Q v H
theorem min_mem (x : PyData) : ∀ xs : List PyData, PySem.W.minD x xs ∈ x :: xs := fun xs => by
  unfold PySem.W.minD
  induction xs generalizing x with
  | nil => exact List.mem_cons_self
  | cons y ys ih =>
    rw [List.foldl_cons]
    have := ih (if PySem.W.dataLt y x then y else x)
    rcases List.mem_cons.mp this with z | z
    · rw [z]
      split
      · simp
      · simp
    · simp [z]
theorem max_mem (x : PyData) : ∀ xs : List PyData, PySem.W.maxD x xs ∈ x :: xs := fun xs => by
  unfold PySem.W.maxD
  induction xs generalizing x with
  | nil => exact List.mem_cons_self
  | cons y ys ih =>
    rw [List.foldl_cons]
    have := ih (if PySem.W.dataLt x y then y else x)
    rcases List.mem_cons.mp this with z | z
    · rw [z]
      split
      · simp
      · simp
    · simp [z]
theorem best_ok {d : PyData} {ds : List PyData} (hok : bestOk (d :: ds) = true) (gx : Gx X) : PySem.W.AlikeAll (d :: ds) ∧ X.A.units + 1 + PyData.depthAll (d :: ds) < cLine := by
  unfold bestOk at hok
  simp only [Bool.and_eq_true] at hok
  obtain ⟨⟨k1, k2⟩, k3⟩ := hok
  have hu := gx.hu
  unfold shallow at k3
  have := of_decide_eq_true k3
  exact ⟨⟨fun x hx y hy => all_all k1 x hx y hy, noNone_ok k2⟩, by omega⟩
/-- the item at a place reads as what the call says -/
theorem best_at {K : Frag} {A : ASet} {H : Hp} {pins : List (Addr × Obj)} {σ : L2.St} {s : Shared} {xs : List V} {ds : List PyData} {its : List Value} {i : Nat} {v : Value} {m : PyData} {h' : Heap} {bs : List Addr} (I : Inv X pins σ H s) (hK : K = X.K) (hr : Rps K A H xs ds) (rv : Vals xs its) (hal : PySem.W.AlikeAll ds) (hm : m ∈ ds) (hv : its[i]? = some v)
    (rd : Reads h' v m bs) (kk : ∀ b o, s.heap.get? b = some o → h'.get? b = some o) : ∃ x, RelV x v ∧ Rp K A H x m := by
  have hi : i < its.length := (List.getElem?_eq_some_iff.mp hv).1
  have hx : i < xs.length := by rw [rv.length]; exact hi
  obtain ⟨u, hu, ru⟩ := rv.get (i := i) (x := xs[i]) (by simp [hx])
  rw [hv] at hu
  cases hu
  obtain ⟨d, hd, rp⟩ := hr.get' (i := i) (v := xs[i]) (by simp [hx])
  have rp' := rp
  rw [hK] at rp'
  obtain ⟨as, rd2⟩ := Dp.reads I _ _ v rp'.dp ru
  have hdm : d ∈ ds := List.mem_of_getElem? hd
  have e : d = m := PySem.W.alike_unique _ _ _ _ _ (hal.1 d hdm m hm) (PyProof.Rows.Reads.keeps (fun b o => kk b o) rd2) rd
  exact ⟨_, ru, by rw [← e]; exact rp⟩
theorem cr_minD (gx : Gx X) : CallR X (.builtin "min") (rMinD X.K PySem.W.minD) := by
  intro pins s σ H vs us Q I r h
  obtain ⟨a, xs, A, d, ds, rfl, hs, hr, hok, q⟩ := h
  obtain ⟨its, rv, hl, hz⟩ := I.list hs.sq
  rw [Vals.ref1 r]
  obtain ⟨al, hu⟩ := best_ok hok gx
  obtain ⟨as, rd⟩ := Dp.readsAll I _ _ _ (Rps.dp hr) rv
  refine PySem.W.min_list_data gx.hd hl.isList (by simpa using rd) al hu fun i v h' tk bs hv hr2 kk => ?_
  obtain ⟨x, r1, r2⟩ := best_at I rfl hr rv al (min_mem d ds) (by simpa using hv) hr2 kk
  exact ⟨x, H, I.kept kk, r1, q x r2⟩
theorem cr_maxD (gx : Gx X) : CallR X (.builtin "max") (rMinD X.K PySem.W.maxD) := by
  intro pins s σ H vs us Q I r h
  obtain ⟨a, xs, A, d, ds, rfl, hs, hr, hok, q⟩ := h
  obtain ⟨its, rv, hl, hz⟩ := I.list hs.sq
  rw [Vals.ref1 r]
  obtain ⟨al, hu⟩ := best_ok hok gx
  obtain ⟨as, rd⟩ := Dp.readsAll I _ _ _ (Rps.dp hr) rv
  refine PySem.W.max_list_data gx.hd hl.isList (by simpa using rd) al hu fun i v h' tk bs hv hr2 kk => ?_
  obtain ⟨x, r1, r2⟩ := best_at I rfl hr rv al (max_mem d ds) (by simpa using hv) hr2 kk
  exact ⟨x, H, I.kept kk, r1, q x r2⟩
theorem srv_min (G : Gk) : Srv G (bop2 .min) (rMinD G.K PySem.W.minD) := by
  intro B σ σV H vs ds e Q g r p he k
  match ds, he with
  | [.list (d :: l)], he =>
    obtain ⟨v, rfl, p1⟩ := pd1 p
    simp only [bop2, minO] at he
    split at he
    · rename_i ok
      cases he
      obtain ⟨a, xs, rfl, h1, q1⟩ := p1.lst
      rw [g.1] at h1 q1
      exact ⟨a, xs, _, d, l, rfl, h1, q1, ok, fun v hv => end_pl r (by rw [g.1]; exact hv) k⟩
    · cases he
  | [.list []], he => cases he
theorem srv_max (G : Gk) : Srv G (bop2 .max) (rMinD G.K PySem.W.maxD) := by
  intro B σ σV H vs ds e Q g r p he k
  match ds, he with
  | [.list (d :: l)], he =>
    obtain ⟨v, rfl, p1⟩ := pd1 p
    simp only [bop2, maxO] at he
    split at he
    · rename_i ok
      cases he
      obtain ⟨a, xs, rfl, h1, q1⟩ := p1.lst
      rw [g.1] at h1 q1
      exact ⟨a, xs, _, d, l, rfl, h1, q1, ok, fun v hv => end_pl r (by rw [g.1]; exact hv) k⟩
    · cases he
  | [.list []], he => cases he
end
end Pv
/-! Ps2: sum(lists, []). -/
namespace PySem
open Sem (wp)
def catA (its : Nat → Array Value) : Nat → Array Value
  | 0 => #[]
  | n + 1 => catA its n ++ its n
section
variable {prog : Program} {w : World} {A : Around} {R : Result → Shared → Prop}
theorem pn_sum_loop {I l S : Addr} {vs : Array Value} {its : Nat → Array Value} {h0 : Heap} (hh : A.in1.handled = none) (hne : l ≠ I) (hSI : S ≠ I) (hSl : S ≠ l)
    (hit : ∀ i v, vs[i]? = some v → ∃ b m, v = .ref b ∧ h0.get? b = some { cls := .type "list", data := .seq (its i) m }) (hbI : h0.get? I = none) (hbS : h0.get? S = none) (hz : ∀ i, i ≤ vs.size → (catA its i).size ≤ sizeLine) :
    ∀ (k i : Nat) (s : Shared) (T c : Nat), vs.size - i = k → i ≤ vs.size → s.heap.IsListIter I l i → s.heap.IsList l vs → s.heap.get? S = some { cls := .type "list", dict := none, data := .seq #[.ref T] c, slots := #[] } →
    (∃ m, s.heap.get? T = some { cls := .type "list", data := .seq (catA its i) m }) → T ≠ I → T ≠ S → (∀ b o, h0.get? b = some o → s.heap.get? b = some o) →
    (∀ h' tk T' m, (∀ b o, b ≠ I → b ≠ S → s.heap.get? b = some o → h'.get? b = some o) → h'.get? T' = some { cls := .type "list", data := .seq (catA its vs.size) m } → (T' = T ∧ i = vs.size ∨ s.heap.objs.size ≤ T' ∧ i < vs.size) → R (.ok (.ret (.ref T'))) { s with heap := h', toks := tk }) →
    codeAny (model prog w) A (.builtin "sum.loop" ⟨[.ref I, .ref S, rawInt 2, rawInt 0], []⟩) R s := by
  intro k
  induction k with
  | zero =>
    intro i s T c hk hi hst hli hS hT hTI hTS h00 hR
    have hin : i = vs.size := by omega
    subst hin
    refine codeAny_builtin F.entry_sum_loop ?_
    rw [Around.under_plainId F.plain_sum_loop _]
    show wpAny _ A.in1 (seqItems? (.ref S) >>= _) _ _ s
    refine wpAny_bind (wpAny_seqItems hS rfl ?_)
    show wpAny _ A.in1 (tryCatch (pyNext (.ref I)) _ >>= _) _ _ s
    refine wpAny_bind (wpAny_tryCatch ((Walks.list (A := A.in1) hh I l hne vs).done s _ _ ⟨hst, hli⟩ fun h' tk hk' => ?_))
    obtain ⟨m, hT⟩ := hT
    exact wpAny_pure (hR h' tk T m (fun b o hb _ e => hk' b o (by simp [hb]) e) (hk' T _ (by simp [hTI]) hT) (.inl ⟨rfl, rfl⟩))
  | succ k ih =>
    intro i s T c hk hi hst hli hS hT hTI hTS h00 hR
    have hlt : i < vs.size := by omega
    refine codeAny_builtin F.entry_sum_loop ?_
    rw [Around.under_plainId F.plain_sum_loop _]
    show wpAny _ A.in1 (seqItems? (.ref S) >>= _) _ _ s
    refine wpAny_bind (wpAny_seqItems hS rfl ?_)
    show wpAny _ A.in1 (tryCatch (pyNext (.ref I)) _ >>= _) _ _ s
    refine wpAny_bind (wpAny_tryCatch (wpAny_pyNext_list_item hst hli (x := vs[i]) (by simp [hlt]) fun h' hit' hs' => ?_))
    obtain ⟨b, m2, hv, hb⟩ := hit i vs[i] (by simp [hlt])
    rw [hv]
    obtain ⟨m, hT⟩ := hT
    have hk' : ∀ b o, b ≠ I → s.heap.get? b = some o → h'.get? b = some o := fun b o hb e => hs'.extBut b o hb e
    have hS' := hk' S _ hSI hS
    have hT' := hk' T _ hTI hT
    have hb' := hk' b _ (by rintro rfl; rw [hbI] at hb; cases hb) (h00 b _ hb)
    show wpAny _ A.in1 ((holding [Value.ref b] (binaryOp .Add (.ref T) (.ref b))).attempt >>= _) _ _ _
    have hsz : (catA its i).size + (its i).size ≤ sizeLine := by
      have := hz (i + 1) (by omega)
      have e : (catA its (i + 1)).size = (catA its i).size + (its i).size := by
        show (catA its i ++ its i).size = _
        rw [Array.size_append]
      omega
    refine wpAny_bind (wpAny_attempt (wpAny_holding (PySem.P.add_list hT' hb' ?_ hsz)))
    generalize hh1 : h'.push { cls := .type "list", data := .seq (catA its i ++ its i) } = h1
    have k1 : ∀ b o, h'.get? b = some o → h1.get? b = some o := fun b o e => by rw [← hh1]; exact Heap.get?_push_of_some _ e
    have hS1 := k1 S _ hS'
    have hT1 : h1.get? h'.objs.size = some { cls := .type "list", data := .seq (catA its (i + 1)) } := by rw [← hh1]; exact Heap.get?_push_size _ rfl
    have nS : h'.objs.size ≠ S := Ne.symm (Nat.ne_of_lt (Heap.lt_size hS'))
    have nI : h'.objs.size ≠ I := by
      obtain ⟨o, e, _⟩ := hit'
      exact Ne.symm (Nat.ne_of_lt (Heap.lt_size e))
    have hge : s.heap.objs.size ≤ h'.objs.size := Nat.le_of_eq hs'.1.symm
    show wpAny _ A.in1 (updateSeq S (fun _ => #[.ref h'.objs.size]) >>= _) _ _ _
    refine wpAny_bind ?_
    refine wpAny_updateSeq hS1 rfl ?_
    have hS2 := Heap.get?_update_self (Obj.mapSeq fun _ => #[Value.ref h'.objs.size]) hS1 rfl
    refine wpAny_bind (wpAny_letGo ?_)
    refine wpAny_bind ?_
    refine wpAny_updateSeq hS2 rfl (wpAny_pure ⟨plainId_quiet F.plain_sum_loop _, ih (i + 1) _ h'.objs.size _ (by omega) hlt ?_ ?_ (Heap.get?_update_self _ hS2 rfl) ⟨0, ?_⟩ nI nS (fun b o e => ?_) fun h'' tk'' T'' m'' hk'' hT'' hc => ?_⟩)
    · exact hit'.at fun o e => (Heap.get?_update_other _ _ hSI).trans ((Heap.get?_update_other _ _ hSI).trans (k1 I o e))
    · exact hli.at fun o e => (Heap.get?_update_other _ _ hSl).trans ((Heap.get?_update_other _ _ hSl).trans (k1 l o (hk' l o hne e)))
    · exact (Heap.get?_update_other _ _ (Ne.symm nS)).trans ((Heap.get?_update_other _ _ (Ne.symm nS)).trans hT1)
    · have hbS : S ≠ b := by rintro rfl; rw [hbS] at e; cases e
      have hbI : b ≠ I := by rintro rfl; rw [hbI] at e; cases e
      exact (Heap.get?_update_other _ _ hbS).trans ((Heap.get?_update_other _ _ hbS).trans (k1 b o (hk' b o hbI (h00 b o e))))
    · refine hR h'' tk'' T'' m'' (fun b o hb1 hb2 e => hk'' b o hb1 hb2 ((Heap.get?_update_other _ _ (Ne.symm hb2)).trans ((Heap.get?_update_other _ _ (Ne.symm hb2)).trans (k1 b o (hk' b o hb1 e))))) hT'' (.inr ⟨?_, hlt⟩)
      rcases hc with ⟨rfl, _⟩ | ⟨hc, _⟩
      · exact hge
      · have e : ((h1.update S (Obj.mapSeq fun _ => #[Value.ref h'.objs.size])).update S (Obj.mapSeq fun _ => #[Value.ref h'.objs.size])).objs.size = h'.objs.size + 1 := by
          rw [Heap.size_update, Heap.size_update, ← hh1, Heap.size_push]
        have hc : ((h1.update S (Obj.mapSeq fun _ => #[Value.ref h'.objs.size])).update S (Obj.mapSeq fun _ => #[Value.ref h'.objs.size])).objs.size ≤ T'' := hc
        omega
end
section
variable {prog : Program} {w : World} {A : Around} {E : Value → Shared → Prop} {s : Shared}
theorem args_sum2 (a b : Value) : argsOk "sum" ⟨[a, b], []⟩ := by unfold argsOk; kernel_rfl
theorem sub_list_bytearray' : isSubtype (.type "list") (.type "bytearray") = pure false := by rw [isSubtype_type]; kernel_rfl
theorem pn_sum_lists {l e : Addr} {vs : Array Value} {its : Nat → Array Value} {m0 : Nat} {Q : Value → Shared → Prop} (hh : A.handled = none) (hl : s.heap.IsList l vs) (he : s.heap.get? e = some { cls := .type "list", data := .seq #[] m0 })
    (hit : ∀ i v, vs[i]? = some v → ∃ b m, v = .ref b ∧ s.heap.get? b = some { cls := .type "list", data := .seq (its i) m }) (hz : ∀ i, i ≤ vs.size → (catA its i).size ≤ sizeLine)
    (h : ∀ h' tk T m, (∀ b o, s.heap.get? b = some o → h'.get? b = some o) → h'.get? T = some { cls := .type "list", data := .seq (catA its vs.size) m } → (T = e ∧ vs.size = 0 ∨ s.heap.objs.size ≤ T ∧ 0 < vs.size) → Q (.ref T) { s with heap := h', toks := tk }) :
    wpAny (model prog w) A (call (.builtin "sum") [.ref l, .ref e]) Q E s := by
  refine call_function_tree F.kind_sum F.plain_sum F.entry_sum (args_sum2 _ _) ?_
  unfold Builtin.«sum»
  simp only [List.length_cons, List.length_nil]
  rw [if_neg (by decide)]
  refine wpAny_bind (wpAny_of_eq (show Builtin.Builtins.bindParams "sum" ["start"] 0 ⟨[.ref e], []⟩ = pure [some (.ref e)] from rfl) ?_)
  have hlt : l < s.heap.objs.size := by obtain ⟨_, q, _⟩ := hl; exact Heap.lt_size q
  refine wpAny_bind (wpAny_pyIter_list hl ?_)
  have hT : Shared.TypeIs { s with heap := s.heap.push { cls := .type "list_iterator", data := .fields #[.ref l, .int 0 0] } } (.ref e) "list" := ⟨_, Heap.get?_push_of_some _ he, rfl⟩
  refine wpAny_bind (wpAny_pure ?_)
  simp only [List.forIn_cons, List.forIn_nil]
  refine wpAny_bind (wpAny_bind (wpAny_bind (wpAny_isInstance (T := "list") (b := false) hT F.sub_list_str ?_)))
  simp only [Bool.false_eq_true, if_false]
  refine wpAny_pure (wpAny_bind (wpAny_bind (wpAny_isInstance (T := "list") (b := false) hT F.sub_list_bytes ?_)))
  simp only [Bool.false_eq_true, if_false]
  refine wpAny_pure (wpAny_bind (wpAny_bind (wpAny_isInstance (T := "list") (b := false) hT sub_list_bytearray' ?_)))
  simp only [Bool.false_eq_true, if_false]
  refine wpAny_pure (wpAny_pure ?_)
  refine wpAny_bind (wpAny_newObj_type ?_)
  generalize hg : s.heap.push { cls := .type "list_iterator", data := .fields #[.ref l, .int 0 0] } = g
  have kg : ∀ b o, s.heap.get? b = some o → g.get? b = some o := fun b o q => by rw [← hg]; exact Heap.get?_push_of_some _ q
  have sg : g.objs.size = s.heap.objs.size + 1 := by rw [← hg, Heap.size_push]
  have ig : g.IsListIter s.heap.objs.size l 0 := ⟨_, by rw [← hg]; exact Heap.get?_push_size _ rfl, rfl, rfl⟩
  have elt := Heap.lt_size he
  have sI : g.objs.size ≠ s.heap.objs.size := Nat.ne_of_gt (by rw [sg]; exact Nat.lt_succ_self _)
  have lt_ne : ∀ {b : Addr}, b < s.heap.objs.size → b ≠ g.objs.size := fun {b} hb => Nat.ne_of_lt (by rw [sg]; exact Nat.lt_succ_of_lt hb)
  refine wpAny_pure ⟨plainId_quiet F.plain_sum_loop _, pn_sum_loop (I := s.heap.objs.size) (l := l) (S := g.objs.size) (its := its) (h0 := s.heap) hh (Nat.ne_of_lt hlt) sI (Ne.symm (lt_ne hlt)) hit ?_ ?_ hz vs.size 0 _ e 0 rfl (Nat.zero_le _) ?_ ?_ (Heap.get?_push_size _ rfl) ⟨m0, Heap.get?_push_of_some _ (kg _ _ he)⟩ (Nat.ne_of_lt elt) (lt_ne elt) (fun b o q => Heap.get?_push_of_some _ (kg b o q)) fun h' tk T m hk hT hc => ?_⟩
  · cases q : s.heap.get? s.heap.objs.size with
    | none => rfl
    | some o => exact absurd (Heap.lt_size q) (Nat.lt_irrefl _)
  · cases q : s.heap.get? g.objs.size with
    | none => rfl
    | some o => exact absurd rfl (lt_ne (Heap.lt_size q))
  · exact ig.at fun o q => Heap.get?_push_of_some _ q
  · exact hl.at fun o q => Heap.get?_push_of_some _ (kg l o q)
  · refine h h' tk T m (fun b o q => ?_) hT ?_
    · exact hk b o (Nat.ne_of_lt (Heap.lt_size q)) (lt_ne (Heap.lt_size q)) (Heap.get?_push_of_some _ (kg b o q))
    · rcases hc with ⟨a, b⟩ | ⟨a, b⟩
      · exact .inl ⟨a, b.symm⟩
      · refine .inr ⟨?_, b⟩
        have a : (g.push _).objs.size ≤ T := a
        rw [Heap.size_push, sg] at a
        exact Nat.le_trans (Nat.le_succ _) (Nat.le_trans (Nat.le_succ _) a)
end
end PySem
namespace Pv
open PySem PySem.Spec PyProof.Rows L2
section
variable {X : Cx}
def ListsAt (K : Frag) (H : Hp) : List V → List (List V) → Prop := Paired fun x ys => ∃ b, x = .ref b ∧ LsR K H b ys
/-- sum(xs, []), the second one a new list -/
def rSumL (K : Frag) : List V → Hp → VK → Prop := fun vs H Q => ∃ (a e : Addr) (xs : List V) (yss : List (List V)), vs = [V.ref a, V.ref e] ∧ LsR K H a xs ∧ ListsAt K H xs yss ∧ H e = some (.lst []) ∧ yss.flatten.length ≤ sizeLine ∧
  (yss = [] → Q (.ref e) H) ∧ (∀ p, H p = none → Q (.ref p) (upd H p (.lst yss.flatten)))
theorem ListsAt.get {K : Frag} {H : Hp} : ∀ {xs : List V} {yss : List (List V)} {i : Nat} {x : V}, ListsAt K H xs yss → xs[i]? = some x → ∃ b ys, x = .ref b ∧ yss[i]? = some ys ∧ LsR K H b ys
  | _, _, _, _, .nil, e => by simp at e
  | _, _, 0, _, .cons ⟨b, h1, h2⟩ _, e => by simp at e; subst e; exact ⟨b, _, h1, rfl, h2⟩
  | _, _, i + 1, _, .cons _ t, e => by
    obtain ⟨b, ys, h1, h2, h3⟩ := ListsAt.get (i := i) t (by simpa using e)
    exact ⟨b, ys, h1, by simpa using h2, h3⟩
theorem ListsAt.len {K : Frag} {H : Hp} {xs : List V} {yss : List (List V)} (h : ListsAt K H xs yss) : xs.length = yss.length := Paired.length h
theorem cr_sumL (gx : Gx X) : CallR X (.builtin "sum") (rSumL X.K) := by
  intro pins s σ H vs us Q I r h
  obtain ⟨a, e, xs, yss, rfl, hs, hl, he, hz, q0, q⟩ := h
  obtain ⟨its, rv, pl, hz2⟩ := I.list hs.sq
  cases r with
  | cons r1 r =>
    cases r with
    | cons r2 r =>
      cases r
      cases r1
      cases r2
      -- the values of the lists
      have ex : ∀ i : Nat, ∃ ws : List Value, (∀ ys, yss[i]? = some ys → Vals ys ws) ∧ ∀ v, its[i]? = some v → ∃ b m, v = .ref b ∧ s.heap.get? b = some { cls := .type "list", data := .seq ws.toArray m } := fun i => by
        by_cases hi : i < its.length
        · have hx : i < xs.length := by rw [rv.length]; exact hi
          obtain ⟨u, hu, ru⟩ := rv.get (i := i) (x := xs[i]) (by simp [hx])
          obtain ⟨b, ys, e1, e2, e3⟩ := hl.get (i := i) (x := xs[i]) (by simp [hx])
          rw [e1] at ru
          cases ru
          obtain ⟨_, ws, m, r3, _, e4⟩ := e3.obj I
          refine ⟨ws, fun zs hz => ?_, fun v hv => ?_⟩
          · rw [e2] at hz
            cases hz
            exact r3
          · rw [hu] at hv
            cases hv
            exact ⟨b, m, rfl, e4⟩
        · refine ⟨[], fun zs hz => ?_, fun v hv => ?_⟩
          · have := (List.getElem?_eq_some_iff.mp hz).1
            have := hl.len
            have := rv.length
            omega
          · have := (List.getElem?_eq_some_iff.mp hv).1
            omega
      obtain ⟨W, hW⟩ := Classical.axiomOfChoice ex
      have cat : ∀ n, n ≤ yss.length → Vals (yss.take n).flatten (catA (fun i => (W i).toArray) n).toList := fun n => by
        induction n with
        | zero => intro _; exact .nil
        | succ n ih =>
          intro hn
          have e : yss[n]? = some yss[n] := by simp [show n < yss.length from hn]
          rw [List.take_add_one, e, List.flatten_append]
          show Vals _ (catA (fun i => (W i).toArray) n ++ (W n).toArray).toList
          rw [Array.toList_append]
          refine (ih (by omega)).append ?_
          have : Vals yss[n] (W n) := (hW n).1 _ e
          simpa using this
      have hle : its.length = yss.length := by rw [← rv.length, hl.len]
      have hsz : ∀ i, i ≤ its.toArray.size → (catA (fun i => (W i).toArray) i).size ≤ sizeLine := fun i hi => by
        have hi : i ≤ yss.length := by simpa [hle] using hi
        have l1 := (cat i hi).length
        rw [← Array.length_toList, ← l1]
        refine Nat.le_trans ?_ hz
        rw [← List.take_append_drop i yss, List.flatten_append, List.length_append]
        simp
      obtain ⟨_, ie, m0, rie, _, heo⟩ := I.lstM he
      cases rie
      refine pn_sum_lists gx.hd pl.isList heo (fun i v hv => (hW i).2 v (by simpa using hv)) hsz fun h' tk T m kk hT hc => ?_
      rcases hc with ⟨rfl, h0⟩ | ⟨hT2, h0⟩
      · have : yss = [] := List.eq_nil_of_length_eq_zero (by rw [← hle]; simpa using h0)
        exact ⟨.ref T, H, I.kept kk, rfl, q0 this⟩
      · have c := cat yss.length (Nat.le_refl _)
        rw [List.take_length] at c
        have e1 : its.toArray.size = yss.length := by simpa using hle
        rw [e1] at hT
        exact ⟨.ref T, upd H T (.lst yss.flatten), I.laid (t' := tk) kk hT2 ⟨hz, _, m, c, by simpa using hT⟩, rfl, q T (I.hok.fresh hT2)⟩
theorem listsD_ok {K : Frag} {A : ASet} {H : Hp} : ∀ {xs : List V} {ds : List PyData} {ls : List (List PyData)}, Rps K A H xs ds → listsD ds = some ls → ∃ yss, ListsAt K H xs yss ∧ Rps K A H yss.flatten ls.flatten ∧ yss.length = ls.length
  | _, _, _, .nil, h => by cases h; exact ⟨[], .nil, .nil, rfl⟩
  | _, _, _, .cons q p, h => by
    cases q with
    | lst h1 h2 =>
      simp only [listsD] at h
      obtain ⟨l, e1, e2⟩ := Option.map_eq_some_iff.mp h
      subst e2
      obtain ⟨yss, k1, k2, k3⟩ := listsD_ok p e1
      exact ⟨_ :: yss, .cons ⟨_, rfl, h1.rd⟩ k1, h2.app k2, by simp [k3]⟩
    | _ => cases h
end
end Pv
/-! Pv5: the checker, the context, what one construct of an expression asks. -/
namespace Pv
open PySem PySem.Spec PyProof.Rows L2

/-! ### the checker: an R text is this expression -/
/-- a def's names by slots, the scope that runs, the scope as written -/
structure Sx where
  N : List Str
  sc : Scope
  osc : Scope
/-- the module: its defs (with their parameters), its whole numbers, its classes of errors -/
structure Gs where
  fns : List (Nat × Str × List Str)
  cns : List (Str × Int)
  excs : List (Nat × Str)
  ups : List (List Nat)
  /-- calls with keywords: the def, the number of positional values, the keywords' parameters -/
  kcs : List (Nat × Nat × List Nat)
  /-- names that hold built-in functions of other modules -/
  lib : List (Str × String) := []
theorem lookup_mem {α β : Type} [BEq α] [LawfulBEq α] {a : α} {b : β} : ∀ {l : List (α × β)}, l.lookup a = some b → (a, b) ∈ l
  | [], h => by cases h
  | (x, y) :: l, h => by
    rw [List.lookup_cons] at h
    cases e : a == x with
    | true => rw [e] at h; cases h; rw [eq_of_beq e]; exact List.mem_cons_self
    | false => rw [e] at h; exact List.mem_cons_of_mem _ (lookup_mem h)
/-- the def number f, where the module has it -/
def Gs.fnAt (Γ : Gs) (f : Nat) : Option (Str × List Str) := Γ.fns.lookup f
/-- the class of errors number c, where the module has it -/
def Gs.excAt (Γ : Gs) (c : Nat) : Option Str := Γ.excs.lookup c
def vis (S : Sx) (x : Str) : Bool := match S.sc.names.lookup x with
  | some .local => true
  | some .cell => true
  | some .free => true
  | _ => false
def gl (S : Sx) (x : Str) : Bool := (S.sc.names.lookup x == some NameKind.globalImplicit) && !(x == ("__debug__" : Str)) && !(x == ("__name__" : Str))
def isSlot (S : Sx) (i : Nat) (x : Str) : Bool := (S.N[i]? == some x) && vis S x && !(x == ("__debug__" : Str)) && !(x == ("__classdict__" : Str))
/-- a name that may be stored -/
def isTgt (S : Sx) (i : Nat) (x : Str) : Bool := (S.N[i]? == some x) && (S.osc.names.lookup x == some NameKind.local || S.osc.names.lookup x == some NameKind.cell)
def biName : Bi → Str
  | .len => "len" | .tuple => "tuple" | .list => "list" | .listr => "list" | .sum => "sum" | .sumL => "sum" | .all => "all" | .any => "any" | .sorted => "sorted" | .min => "min" | .max => "max"
  | .min2 => "min" | .max2 => "max" | .abs => "abs" | .int => "int" | .repr => "repr" | .sortedSet => "sorted" | .lenSet => "len" | .index => "index" | .count => "count" | .gcd => "len"
/-- the builtins that are carried -/
def biOk : Bi → Bool
  | .len => true | .tuple => true | .list => true | .all => true | .any => true | .sum => true | .min => true | .max => true | .min2 => true | .max2 => true | .abs => true | .int => true | .repr => true | .sorted => true
  | _ => false
def tyName : Ty → Str
  | .int => "int" | .bool => "bool" | .str => "str" | .tuple => "tuple" | .list => "list"
def plainIx : Expr → Bool
  | .Slice _ _ _ _ => false
  | _ => true
def all2 {α β : Type} (f : α → β → Bool) : List α → List β → Bool
  | [], [] => true
  | a :: as, b :: bs => f a b && all2 f as bs
  | _, _ => false
def isExp : CmpOp → Bool → Bool
  | .Is, true => true
  | .IsNot, false => true
  | _, _ => false
def chkT (S : Sx) : T → Expr → Bool
  | .nm i, .Name x _ => isTgt S i x
  | .tp is, .Tuple es _ _ => all2 (fun i e => match e with | .Name x _ => isTgt S i x | _ => false) is es
  | _, _ => false
def tgNames : Expr → List Str
  | .Name x _ => [x]
  | .Tuple es _ _ => es.filterMap fun e => match e with | .Name x _ => some x | _ => none
  | _ => []
def tgSlots : T → List Nat
  | .nm i => [i]
  | .tp is => is
/-- the scope of a comprehension's block, seen from its def -/
def inBlk (S : Sx) (sc : Scope) : Sx := { N := S.N, sc := relS sc S.sc, osc := sc }
def isTupE : Expr → Bool
  | .Tuple _ _ _ => true
  | _ => false
def chkI (S : Sx) (f : R → Expr → Bool) (tg : Expr) (it : R) (e : Expr) : Bool := match it, e with
  | .enm a, .Call (.Name x _) [g] [] _ => x == ("enumerate" : Str) && gl S x && isTupE tg && f a g
  | .zip a b, .Call (.Name x _) [g, h] [] _ => x == ("zip" : Str) && gl S x && isTupE tg && f a g && f b h
  | .rng [a], .Call (.Name x _) [g] [] _ => x == ("range" : Str) && gl S x && f a g
  | .rng [a, b], .Call (.Name x _) [g, h] [] _ => x == ("range" : Str) && gl S x && f a g && f b h
  | it, e => f it e
def chkE : Nat → Gs → Sx → R → Expr → Bool
  | 0, _, _, _, _ => false
  | n + 1, Γ, S, r, e => match r, e with
    | .var i, .Name x _ => isSlot S i x
    | .non, .Constant .none _ _ => true
    | .bl b, .Constant (.bool c) _ _ => b == c
    | .int i, .Constant (.int j) _ _ => i == j
    | .int i, .Name x _ => gl S x && (Γ.cns.lookup x == some i)
    | .str x, .Constant (.str y) _ _ => x == y
    | .tup es, .Tuple fs _ _ => all2 (chkE n Γ S) es fs
    | .lst es, .List fs _ => all2 (chkE n Γ S) es fs
    | .bin o a b, .BinOp f p g _ => p == BinOf o && chkE n Γ S a f && chkE n Γ S b g
    | .neg a, .UnaryOp .USub f _ => chkE n Γ S a f
    | .cmp o a b, .Compare f [p] [g] _ => p == CmpOf o && chkE n Γ S a f && chkE n Γ S b g
    | .chain o q a b c, .Compare f [p, p'] [g, h] _ => p == CmpOf o && p' == CmpOf q && chkE n Γ S a f && chkE n Γ S b g && chkE n Γ S c h
    | .isn yes a, .Compare f [p] [.Constant .none _ _] _ => isExp p yes && chkE n Γ S a f
    | .isb yes b a, .Compare f [p] [.Constant (.bool c) _ _] _ => isExp p yes && b == c && chkE n Γ S a f
    | .and es, .BoolOp .And fs _ => all2 (chkE n Γ S) es fs
    | .or es, .BoolOp .Or fs _ => all2 (chkE n Γ S) es fs
    | .not a, .UnaryOp .Not f _ => chkE n Γ S a f
    | .ife c a b, .IfExp f g h _ => chkE n Γ S c f && chkE n Γ S a g && chkE n Γ S b h
    | .call i es, .Call (.Name x _) fs [] _ => ((Γ.fnAt i).map (·.1) == some x) && gl S x && all2 (chkE n Γ S) es fs
    | .callk i es ks kws, .Call (.Name x _) fs kwds _ => (match Γ.fnAt i with
        | some (y, ps) => y == x && decide (es.length + kws.length = ps.length) && decide (ks.length = kws.length) && all2 (fun k (q : Keyword) => q.arg == ps[k]? && q.arg.isSome) ks kwds
        | none => false) && Γ.kcs.contains (i, es.length, ks) && !kwds.isEmpty && gl S x && all2 (chkE n Γ S) es fs && all2 (fun r (q : Keyword) => chkE n Γ S r q.value) kws kwds
    | .bi .sumL [a], .Call (.Name x _) [f, .List [] _] [] _ => x == ("sum" : Str) && gl S x && chkE n Γ S a f
    | .bi .gcd [a, b], .Call (.Name x _) [f, g] [] _ => (Γ.lib.lookup x == some "math.gcd") && gl S x && chkE n Γ S a f && chkE n Γ S b g
    | .bi b es, .Call (.Name x _) fs [] _ => biOk b && x == biName b && gl S x && !es.isEmpty && all2 (chkE n Γ S) es fs
    | .idx a j, .Subscript f g _ => plainIx g && chkE n Γ S a f && chkE n Γ S j g
    | .slc a lo hi, .Subscript f (.Slice l h none _) _ => chkE n Γ S a f && (match lo, l with
        | none, none => true
        | some r, some e => chkE n Γ S r e
        | _, _ => false) && (match hi, h with
        | none, none => true
        | some r, some e => chkE n Γ S r e
        | _, _ => false)
    | .lc elt own t it ifs, .ListComp f [⟨tg, ite, tests, 0⟩] sc _ => blkC S.N S.sc sc ((tgNames tg).zip own) && ((tgNames tg).zip own).map (·.2) == own && own == tgSlots t && decide (ifs.length ≤ 1) && chkT (inBlk S sc) t tg &&
        chkI S (chkE n Γ S) tg it ite && all2 (chkE n Γ (inBlk S sc)) ifs tests && chkE n Γ (inBlk S sc) elt f
    | .lc2 elt own own2 t it ifs t2 it2 ifs2, .ListComp f [⟨tg, ite, tests, 0⟩, ⟨tg2, ite2, tests2, 0⟩] sc _ => blkC S.N S.sc sc ((tgNames tg ++ tgNames tg2).zip own) && ((tgNames tg ++ tgNames tg2).zip own).map (·.2) == own && own == tgSlots t ++ tgSlots t2 && own2 == tgSlots t2 &&
        decide (ifs.length ≤ 1) && decide (ifs2.length ≤ 1) && chkT (inBlk S sc) t tg && chkT (inBlk S sc) t2 tg2 && chkI S (chkE n Γ S) tg it ite && chkI (inBlk S sc) (chkE n Γ (inBlk S sc)) tg2 it2 ite2 &&
        all2 (chkE n Γ (inBlk S sc)) ifs tests && all2 (chkE n Γ (inBlk S sc)) ifs2 tests2 && chkE n Γ (inBlk S sc) elt f
    | .isi a [t], .Call (.Name x _) [f, .Name y _] [] _ => x == ("isinstance" : Str) && y == tyName t && gl S x && gl S y && chkE n Γ S a f
    | .isx i c, .Call (.Name x _) [.Name z _, .Name y _] [] _ => x == ("isinstance" : Str) && gl S x && gl S y && isSlot S i z && (Γ.excAt c == some y)
    | .xval i, .Attribute (.Name z _) a _ => a == ("value" : Str) && isSlot S i z
    | .xnone yes i, .Compare (.Name z _) [p] [.Constant .none _ _] _ => isExp p yes && isSlot S i z
    | _, _ => false
end Pv
/-! Pv6: the context; the constructs of an expression. -/
namespace Pv
open PySem PySem.Spec PyProof.Rows L2

section
open PySem.W
/-- def __init__(slf, value): super().__init__(msg); slf.value = value -/
structure PeDef (K : Frag) (prog : Program) (D f : Addr) (fd : FuncData) (sc : Scope) (slf val fld : Str) (cc cda : Addr) : Prop where
  ex : ∃ (name qual : Str) (params : Arguments) (body : List Stmt) (dV kV doc pm ct oc : Value) (an od : Option Addr) (osl : Array (Option Value)) (msg : Str) (j : Nat) (p0 p1 p2 p3 p4 p5 p6 p7 p8 p9 : Pos) (ar : Arg) (vs : Array Value) (file : Str) (tf : Tok) (ccl cl : Value) (cdd cld : Option Addr) (ccs csl : Array (Option Value)) (cdD : ClassData),
    fd = ksFn name qual params body sc dV kV doc pm an (.ref cda) ct cc ∧ K.lookup f = some ⟨oc, od, .func fd, osl⟩ ∧
    body = [.Expr (.Call (.Attribute (.Call (.Name "super" p0) [] [] p1) "__init__" p2) [.Constant (.str msg) j p3] [] p4) p5, .Assign [.Attribute (.Name slf p6) fld p7] (.Name val p8) p9] ∧
    codeIn K (.ref cda) qual = true ∧ (params.posonlyargs ++ params.args).head? = some ar ∧ ar.arg = slf ∧ K.lookup cda = some ⟨ccl, cdd, .fields vs, ccs⟩ ∧ vs[2]? = some (.str file tf) ∧ ((prog.main.file : Str) == file) = true ∧
    K.lookup cc = some ⟨cl, cld, .cell (some (.ref D)), csl⟩ ∧ clsIn K D = some cdD ∧ (p2.endLine == p4.line) = true
  bind : ∀ a u : Value, bindArgs fd ⟨[a, u], []⟩ = pure [(slf, a), (val, u)]
  ne : slf ≠ val
  hks : sc.names.lookup ("super" : Str) = some .globalImplicit
  hkc : sc.names.lookup ("__class__" : Str) = some .free
  hka : sc.names.lookup slf = some .local
  hkv : sc.names.lookup val = some .local
  hcell : ∀ x ∈ sc.names, x.2 ≠ .cell
  hco : sc.isCoroutine = false
  hgen : sc.isGenerator = false
  hk : sc.kind = .function
  dbg : (slf == ("__debug__" : Str)) = false ∧ (val == ("__debug__" : Str)) = false
/-- a class under it -/
structure PeCls (K : Frag) (C D : Addr) (fld : Str) : Prop where
  cd : ∃ cd, clsIn K C = some cd ∧ PySem.HandSPX.refsVE cd.mro = true ∧ cd.hasDict = true
  sub : mroIn K C (.ref D) = some true
  sup : ks_superIn K C D "__init__" = some (some (.builtin "ValueError.__init__"))
  ve : subIn K (.ref C) (.type "ValueError") = some true
  ini : ∃ bmB newId, ExcBaseFacts "ValueError" newId "ValueError.__init__" bmB ∧ excInitIn K C bmB newId = true
  sa : findIn K (.ref C) "__setattr__" = some (some (.builtin "object.__setattr__"))
  no : findIn K (.ref C) fld = some none
end
/-- the classes of errors -/
structure Xs (Γ : Gs) (G : Gk) (K : Frag) (prog : Program) (mg : Str → Option Value) : Prop where
  nm : ∀ c y, Γ.excAt c = some y → ∃ C, G.cls c = some C ∧ mg y = some (.ref C)
  make : ∀ c C, G.cls c = some C → OexC K C ∧ ∃ (fI D cc cda : Addr) (fd : FuncData) (sc : Scope) (sl val : Str), PySem.W.findIn K (.ref C) "__init__" = some (some (.ref fI)) ∧ PySem.W.typeIn K (.ref fI) = some (.type "function") ∧
    PeDef K prog D fI fd sc sl val "value" cc cda ∧ PeCls K C D "value"
  xc : ∀ c C, G.cls c = some C → ExcC K C ∧ XfC K C
  up : ∀ c C up c' C', G.cls c = some C → Γ.ups[c]? = some up → G.cls c' = some C' → PySem.W.exmOne K (.ref C) (.ref C') = some (up.contains c') ∧ PySem.W.kitOne K (.ref C) (.ref C') = some (up.contains c')
  non : ∀ c' C', G.cls c' = some C' → PySem.W.kitOne K (.type "NoneType") (.ref C') = some false
  hop : PySem.W.nsIn K cStatics "thirdparty.any" = some none
  htop : (prog.main.scope.names.lookup ("super" : Str)).isSome = false
  sup : mg "super" = none
/-- a def's promise, for calls while nothing is being shown -/
structure FnG (Pr : Program) (w : World) (K : Frag) (mg : Str → Option Value) (base : Heap) (k : Nat) (f : Addr) (fd : FuncData) (ps : List Str) (sp : Sp) : Prop where
  len : ∀ vs H Q E, sp vs H Q E → vs.length = ps.length
  run : ∀ (A : Around) (outer : List Env) (s : Shared) (H : Hp) (args : Args) (us : List Value) (vs : List V) (Q : VK) (E : XK), A.guards = some [] → Room k A → Env0 Pr w K mg base A outer s H →
    BindsTo s fd args (ps.zip us) → Vals vs us → sp vs H Q E → codeAny (model Pr w) A (.call (.ref f) args) (CR (L2.CX Pr w) outer Pr w H s Q E) s
/-- what the module gives of the def number f: its address, its data, how its arguments bind -/
structure FnAt (K : Frag) (mg : Str → Option Value) (x : Str) (ps : List Str) (kcs : List (Nat × List Nat)) (fa : Addr) (fd : FuncData) : Prop where
  mg_ : mg x = some (.ref fa)
  kp : PySem.W.keepIn K (.ref fa) = true
  binds : Binds K fd ps []
  kb : ∀ q ∈ kcs, ∀ (s : Shared) (us ws zs : List Value), K.In s.heap → us.length = q.1 → ws.length = q.2.length → kwOrder q.2 ws q.1 (ps.length - q.1) = some zs →
    BindsTo s fd ⟨us, (q.2.filterMap fun k => ps[k]?).zip ws⟩ (ps.zip (us ++ zs))
/-- the keyword calls of the def number f -/
def kcsOf (Γ : Gs) (f : Nat) : List (Nat × List Nat) := (Γ.kcs.filter fun q => q.1 == f).map (·.2)
structure Ctx (Γ : Gs) (G : Gk) (lv : Nat) (sps : Nat → Sp) (S : Sx) (X : Cx) : Prop where
  gx : Gx X
  K : X.K = G.K
  N : X.N = S.N
  sc : X.env.scope = S.sc
  nd : S.N.Nodup
  fn : ∀ x, S.osc.names.lookup x = some .cell → X.fn x = true
  loc : ∀ x k, k ≠ NameKind.free → S.osc.names.lookup x = some k → S.sc.names.lookup x = some k
  room : Room lv X.A
  blt : ∀ b, X.mg (biName b) = none
  blt2 : ∀ x ∈ (["range", "isinstance", "int", "bool", "str", "tuple", "list", "enumerate", "zip"] : List Str), X.mg x = none
  xs : Xs Γ G X.K X.prog X.mg
  cns : ∀ x i, Γ.cns.lookup x = some i → ∃ t, X.mg x = some (.int i t)
  lib : ∀ x id, Γ.lib.lookup x = some id → X.mg x = some (.builtin id)
  fns : ∀ f x ps, Γ.fnAt f = some (x, ps) → ∃ fa fd, FnAt X.K X.mg x ps (kcsOf Γ f) fa fd ∧ FnG X.prog X.w X.K X.mg X.base lv fa fd ps (sps f)
section
variable {Γ : Gs} {G : Gk} {lv : Nat} {sps : Nat → Sp} {Θ : Sx} {X : Cx} {W : WX}
theorem peI {e : Expr} {t t' : TE} (h : PE X e t) (k : ∀ σ H Q, t' σ H Q → t σ H Q) : PE X e t' := ⟨fun pins s σ H Q I q => h.run pins s σ H Q I (k _ _ _ q)⟩
theorem ptI {e : Expr} {t t' : TT} (h : PT X e t) (k : ∀ σ H Q, t' σ H Q → t σ H Q) : PT X e t' := ⟨fun pins s σ H Q I q => h.run pins s σ H Q I (k _ _ _ q)⟩
theorem paI {e : List Expr} {t t' : TA} (h : PA X e t) (k : ∀ σ H Q, t' σ H Q → t σ H Q) : PA X e t' := ⟨fun p pins s σ H Q I q => h.run p pins s σ H Q I (k _ _ _ q)⟩
theorem and_ {a b : Bool} (h : (a && b) = true) : a = true ∧ b = true := Bool.and_eq_true_iff.mp h
/-- both readings of an expression -/
structure Snd (G : Gk) (X : Cx) (W : WX) (e : Expr) (p : S → Res DF) (q : S → Res Bool) : Prop where
  pe : PE X e (tE G W p)
  pt : PT X e (tT G W q)
/-- evaluation sound at every text that the checker takes -/
def SndN (Γ : Gs) (G : Gk) (lv : Nat) (sps : Nat → Sp) (p : Ev) : Prop :=
  ∀ (m : Nat) (Θ : Sx) (r : R) (e : Expr) (X : Cx) (W : WX), Ctx Γ G lv sps Θ X → Takes X W → chkE m Γ Θ r e = true → Snd G X W e (p.e r) (p.t r)
theorem isSlot_ok (c : Ctx Γ G lv sps Θ X) {i : Nat} {x : Str} {pos : Pos} (h : isSlot Θ i x = true) : PE X (.Name x pos) (tVar i) := by
  unfold isSlot at h
  obtain ⟨h, h4⟩ := and_ h
  obtain ⟨h, h3⟩ := and_ h
  obtain ⟨h1, h2⟩ := and_ h
  refine pe_var (by rw [c.N]; exact eq_of_beq h1) ?_ (by simpa using h3) (by simpa using h4)
  unfold vis at h2
  show Vis X.env.scope x
  rw [c.sc]
  split at h2
  · rename_i q; exact .inl q
  · rename_i q; exact .inr (.inl q)
  · rename_i q; exact .inr (.inr q)
  · cases h2
theorem gl_ok (c : Ctx Γ G lv sps Θ X) {x : Str} (h : gl Θ x = true) : Gl X x ∧ (x == ("__debug__" : Str)) = false ∧ x ≠ "__name__" := by
  unfold gl at h
  obtain ⟨h, h3⟩ := and_ h
  obtain ⟨h1, h2⟩ := and_ h
  refine ⟨?_, by simpa using h2, by simpa using h3⟩
  show X.env.scope.names.lookup x = _
  rw [c.sc]
  exact eq_of_beq h1
theorem isVar_eq {r : R} {i : Nat} (h : isVar r = some i) : r = .var i := by
  cases r <;> first | (cases h; rfl) | cases h
/-- a name is no star; nor is anything that the checker takes -/
theorem chk_star {m : Nat} {r : R} {x : Expr} {p : Pos} : chkE m Γ Θ r (.Starred x p) = false := by
  cases m with
  | zero => rfl
  | succ m => cases r <;> first | rfl | (unfold chkE; split <;> first | rfl | (rename_i q; cases q))
theorem chk_starEach {m : Nat} {r : R} {e : Expr} {es : List Expr} {env : Env} (h : chkE m Γ Θ r e = true) : starEach (e :: es) env = (false, eval e env) :: starEach es env := by
  cases e <;> first
    | rfl
    | (rw [chk_star] at h; cases h)
theorem all2_star {m : Nat} {env : Env} {pos : Pos} : ∀ {rs : List R} {es : List Expr}, all2 (chkE m Γ Θ) rs es = true → (backTo pos (starEach es env)).any (·.1) = false
  | [], [], _ => rfl
  | r :: rs, e :: es, h => by
    obtain ⟨h1, h2⟩ := and_ h
    rw [chk_starEach h1]
    show (false || (backTo pos (starEach es env)).any (·.1)) = false
    rw [all2_star h2]
    rfl
  | [], _ :: _, h => by cases h
  | _ :: _, [], h => by cases h
/-! ### lists of expressions -/
theorem opd_pe {p : Ev} {m : Nat} {r : R} {e : Expr} (ih : SndN Γ G lv sps p) (c : Ctx Γ G lv sps Θ X) (tk : Takes X W) (h : chkE m Γ Θ r e = true) : PE X e (tOpd G W p.e r) := by
  unfold tOpd
  split
  · rename_i i hv
    have hr := isVar_eq hv
    subst hr
    cases m with
    | zero => cases h
    | succ m =>
      cases e with
      | Name x pos => exact isSlot_ok c h
      | _ => cases h
  · exact (ih m Θ r e X W c tk h).pe
theorem opds_pa {p : Ev} {m : Nat} (ih : SndN Γ G lv sps p) (c : Ctx Γ G lv sps Θ X) (tk : Takes X W) : ∀ {rs : List R} {es : List Expr}, all2 (chkE m Γ Θ) rs es = true → PA X es (tOpds G W p.e rs)
  | [], [], _ => pa_nil
  | r :: rs, e :: es, h => by
    obtain ⟨h1, h2⟩ := and_ h
    exact pa_cons (opd_pe ih c tk h1) (opds_pa ih c tk h2) (chk_starEach h1)
  | [], _ :: _, h => by cases h
  | _ :: _, [], h => by cases h
theorem es_pa {p : Ev} {m : Nat} (ih : SndN Γ G lv sps p) (c : Ctx Γ G lv sps Θ X) (tk : Takes X W) : ∀ {rs : List R} {es : List Expr}, all2 (chkE m Γ Θ) rs es = true → PA X es (tEs G W p.e rs)
  | [], [], _ => pa_nil
  | r :: rs, e :: es, h => by
    obtain ⟨h1, h2⟩ := and_ h
    exact pa_cons (ih m Θ r e X W c tk h1).pe (es_pa ih c tk h2) (chk_starEach h1)
  | [], _ :: _, h => by cases h
  | _ :: _, [], h => by cases h
/-! ### tests from values -/
abbrev truOf (f : S → Res DF) : S → Res Bool := fun s => (f s).bind fun d s => .ok (tru d.1) s
theorem pt_of {e : Expr} {f : S → Res DF} (hK : X.K = G.K) (h : PE X e (tE G W f)) (he : ∀ whole, isTrue e X.env whole = (do let v ← whole; standAt e.pos; holding [v] (truthy v))) : PT X e (tT G W (truOf f)) := by
  refine ptI (pt_truth h he) fun σV H Q ⟨B, σ, g, r, q⟩ => ?_
  refine tE.mk g r (q.bind.imp fun d σ' q v H' r' s hv => ⟨tru d.1, ?_, q H' r' s⟩)
  rw [hK, ← g.1]
  exact tru_val (.inl (hv.rp r'))
theorem snd_of {e : Expr} {f : S → Res DF} (hK : X.K = G.K) (h : PE X e (tE G W f)) (he : ∀ whole, isTrue e X.env whole = (do let v ← whole; standAt e.pos; holding [v] (truthy v))) : Snd G X W e f (truOf f) := ⟨h, pt_of hK h he⟩
/-- values that are True or False -/
theorem srv2T {g : PyData → PyData → Option Bool} {r : R2} {ev : EvE} {a b : R} {σV : L2.St} {H : Hp} {Q : Bool → Hp → Prop} (s : Srv2 G (fun x y => bD (g x y)) r) (h : tT G W (truOf fun σ => opd2 ev a b σ fun x y => bD (g x y)) σV H Q) :
    tTest (tOp r (tOpd G W ev a) (tOpd G W ev b)) σV H Q := by
  obtain ⟨B, σ, gk, rp, h⟩ := h
  have h' : Pst B σ σV H W (fun d σ' => Pst B σ σV H W (fun b σ' => ∀ H', Rep B H' σ' σV → Stp B σ σ' σV H H' → Q b H') (.ok (tru d.1) σ')) (opd2 ev a b σ fun x y => bD (g x y)) := Pst.bind h
  rw [opd2_eq] at h'
  have q : tOpds G W ev [a, b] σV H fun vs H' => match vs with | [x, y] => r x y H' (fun z H3 => ∃ k, z = .bl k ∧ Q k H3) | _ => True := by
    refine opds_ok gk rp ((Pst.bind h').imp fun ds σ' q vs H' r' st p => ?_)
    obtain ⟨e, he, q2⟩ := q.ofO
    cases p with
    | nil => cases he
    | cons p1 p =>
      cases p with
      | nil => cases he
      | cons p2 p =>
        cases p with
        | nil =>
          refine s B σ' σV H' _ _ _ _ e _ gk r' p1 p2 he fun v H2 r2 s2 hv => ?_
          obtain ⟨k, _, hk⟩ := Option.map_eq_some_iff.mp he
          subst hk
          have hv' : Rp B.K (Av B σ' σV) H2 v (.bool k) := hv
          cases hv'
          exact ⟨k, rfl, q2 H2 r2 (st.trans s2)⟩
        | cons _ _ => cases he
  exact q
theorem ro_pl {σ : S} {σV : L2.St} {i : Nat} {d : PyData} {a : Addr} (h : RO (σ.set i (some (.pl d))) σV a) : RO σ σV a := by
  obtain ⟨j, ⟨d', hd⟩, hv⟩ := h
  refine ⟨j, ⟨d', ?_⟩, hv⟩
  by_cases hj : j = i
  · subst hj
    by_cases hi : j < σ.length
    · rw [List.getElem?_set_self hi] at hd
      rcases hd with hd | hd <;> cases hd
    · rw [List.getElem?_eq_none (by simpa using hi)] at hd
      rcases hd with hd | hd <;> cases hd
  · rw [List.getElem?_set_ne (Ne.symm hj)] at hd
    exact hd
/-! ### the constructs -/
variable {p : Ev} {m n : Nat} (ih : SndN Γ G lv sps p) (c : Ctx Γ G lv sps Θ X) (tk : Takes X W)
include ih c tk
theorem snd_var {P : Prg} {i : Nat} {x : Str} {pos : Pos} (h : isSlot Θ i x = true) : Snd G X W (.Name x pos) (stepE P p (.var i)) (stepT P p (.var i)) := by
  refine ⟨peI (isSlot_ok c h) fun σV H Q ⟨B, σ, g, r, q⟩ => ?_, ptI (pt_truth (isSlot_ok c h) (fun _ => rfl)) fun σV H Q ⟨B, σ, g, r, q⟩ => ?_⟩
  · simp only [stepE] at q
    split at q
    · rename_i d e
      obtain ⟨v, ev, hv⟩ := r.pl e
      exact ⟨v, ev, q v H r .refl hv⟩
    · rename_i d e
      obtain ⟨v, ev, r2, hv⟩ := r.freeze (.inl e)
      refine ⟨v, ev, q v H r2 ⟨.refl, fun a => ro_pl⟩ hv⟩
    · rename_i d e
      obtain ⟨v, ev, r2, hv⟩ := r.freeze (.inr e)
      refine ⟨v, ev, q v H r2 ⟨.refl, fun a => ro_pl⟩ hv⟩
    · exact q.elim
  · simp only [stepT] at q
    obtain ⟨b, e, q⟩ := q.ofO
    obtain ⟨d, e1, e2⟩ := Option.map_eq_some_iff.mp e
    obtain ⟨v, ev⟩ := getP_slot r e1
    refine ⟨v, ev, b, ?_, q H r .refl⟩
    rw [c.K, ← g.1, ← e2]
    exact tru_val (getP_ok r e1 ev)
omit ih tk in
theorem tC_ok {d : PyData} {v : V} (hv : ∀ (B : Vw) (σ : S) (σV : L2.St) (H : Hp), Rp B.K (Av B σ σV) H v d) {σV : L2.St} {H : Hp} {Q : VK} (h : tE G W (fun s => .ok (d, false) s) σV H Q) : tC v σV H Q := by
  obtain ⟨B, σ, g, r, q⟩ := h
  exact q v H r .refl (hv B σ σV H)
theorem snd_non {P : Prg} {k : Nat} {pos : Pos} : Snd G X W (.Constant .none k pos) (stepE P p .non) (stepT P p .non) :=
  snd_of c.K (peI pe_non fun σV H Q h => tC_ok c (fun _ _ _ _ => .non) h) fun _ => rfl
theorem snd_bl {P : Prg} {b : Bool} {k : Nat} {pos : Pos} : Snd G X W (.Constant (.bool b) k pos) (stepE P p (.bl b)) (stepT P p (.bl b)) :=
  snd_of c.K (peI pe_bl fun σV H Q h => tC_ok c (fun _ _ _ _ => .bl b) h) fun _ => rfl
theorem snd_int {P : Prg} {i : Int} {k : Nat} {pos : Pos} : Snd G X W (.Constant (.int i) k pos) (stepE P p (.int i)) (stepT P p (.int i)) :=
  snd_of c.K (peI pe_int fun σV H Q h => tC_ok c (fun _ _ _ _ => .int i) h) fun _ => rfl
theorem snd_cns {P : Prg} {i : Int} {x : Str} {pos : Pos} (h : gl Θ x = true) (h2 : Γ.cns.lookup x = some i) : Snd G X W (.Name x pos) (stepE P p (.int i)) (stepT P p (.int i)) := by
  obtain ⟨g1, g2, _⟩ := gl_ok c h
  obtain ⟨t, ht⟩ := c.cns x i h2
  exact snd_of c.K (peI (pe_glob (v := .int i) g1 ht ⟨t, rfl⟩ g2) fun σV H Q h => tC_ok c (fun _ _ _ _ => .int i) h) fun _ => rfl
theorem snd_str {P : Prg} {x : Str} {k : Nat} {pos : Pos} : Snd G X W (.Constant (.str x) k pos) (stepE P p (.str x)) (stepT P p (.str x)) := by
  refine snd_of c.K (peI pe_str fun σV H Q ⟨B, σ, g, r, q⟩ => ?_) fun _ => rfl
  simp only [stepE] at q
  split at q
  · rename_i hz
    exact q _ H r .refl (.str x hz)
  · exact q.elim
theorem snd_tup {P : Prg} {es : List R} {fs : List Expr} {k : Nat} {pos : Pos} (h : all2 (chkE m Γ Θ) es fs = true) : Snd G X W (.Tuple fs k pos) (stepE P p (.tup es)) (stepT P p (.tup es)) := by
  refine snd_of c.K (peI (pe_tup (es_pa ih c tk h)) fun σV H Q ⟨B, σ, g, r, q⟩ => ?_) fun _ => rfl
  refine evL_ok g r ((Pst.bind q).imp fun ds σ' q vs H' r' st pr => ?_)
  split at q
  · rename_i hz
    exact ⟨by rw [pr.len, ← line_eq]; exact hz, fun a ha => end_tup r' ha pr fun v H2 r2 s2 hv => q v H2 r2 (st.trans s2) hv⟩
  · exact q.elim
theorem snd_lst {P : Prg} {es : List R} {fs : List Expr} {pos : Pos} (h : all2 (chkE m Γ Θ) es fs = true) : Snd G X W (.List fs pos) (stepE P p (.lst es)) (stepT P p (.lst es)) := by
  refine snd_of c.K (peI (pe_lst (es_pa ih c tk h)) fun σV H Q ⟨B, σ, g, r, q⟩ => ?_) fun _ => rfl
  refine evL_ok g r ((Pst.bind q).imp fun ds σ' q vs H' r' st pr => ?_)
  split at q
  · rename_i hz
    exact ⟨by rw [pr.len, ← line_eq]; exact hz, fun a ha => end_lst r' ha pr fun v H2 r2 s2 hv => q v H2 r2 (st.trans s2) (hv.since st.kp.tr)⟩
  · exact q.elim
theorem snd_bin {P : Prg} {o : Bop} {a b : R} {f g : Expr} {pos : Pos} (h1 : chkE m Γ Θ a f = true) (h2 : chkE m Γ Θ b g = true) : Snd G X W (.BinOp f (BinOf o) g pos) (stepE P p (.bin o a b)) (stepT P p (.bin o a b)) := by
  have hr : OpR X (binaryOp (BinOf o)) (rBin G.K o) := by rw [← c.K]; exact op_bin o
  exact snd_of c.K (peI (pe_op hr (opd_pe ih c tk h1) (opd_pe ih c tk h2)) fun σV H Q h => srv2 (srv_bin G o) h) fun _ => rfl
theorem snd_neg {P : Prg} {a : R} {f : Expr} {pos : Pos} (h1 : chkE m Γ Θ a f = true) : Snd G X W (.UnaryOp .USub f pos) (stepE P p (.neg a)) (stepT P p (.neg a)) :=
  snd_of c.K (peI (pe_un un_neg (opd_pe ih c tk h1)) fun σV H Q h => srv1 (srv_neg G) h) fun _ => rfl
omit ih c tk in
theorem chk_set {m : Nat} {r : R} {x : List Expr} {k : Nat} {p : Pos} : chkE m Γ Θ r (.Set x k p) = false := by
  cases m with
  | zero => rfl
  | succ m => cases r <;> first | rfl | (unfold chkE; split <;> first | rfl | (rename_i q; cases q))
omit ih c tk in
theorem marks_ok {m : Nat} {r : R} {e : Expr} {o : CmpOp} (h : chkE m Γ Θ r e = true) : behindInMarks o e = false := by
  cases e <;> first
    | rfl
    | (rw [chk_set] at h; cases h)
theorem snd_cmp {P : Prg} {o : Cop} {a b : R} {f g : Expr} {pos : Pos} (h1 : chkE m Γ Θ a f = true) (h2 : chkE m Γ Θ b g = true) : Snd G X W (.Compare f [CmpOf o] [g] pos) (stepE P p (.cmp o a b)) (stepT P p (.cmp o a b)) := by
  have hr : OpR X (compareOp (CmpOf o)) (rCmp G.K o) := by rw [← c.K]; exact op_cmp c.gx o
  have hm := marks_ok (o := CmpOf o) h2
  exact ⟨peI (pe_cmpR hr (opd_pe ih c tk h1) (opd_pe ih c tk h2) hm) fun σV H Q h => srv2 (srv_cmp G o) h,
    ptI (pt_cmpR hr (opd_pe ih c tk h1) (opd_pe ih c tk h2) hm) fun σV H Q h => srv2T (srv_cmp G o) h⟩
omit ih c tk in
theorem cmp_at {o : Cop} {B : Vw} {σ : S} {σV : L2.St} {H : Hp} {x y : V} {d e : PyData} {b : Bool} {Q : VK} (g : B.of G) (r : Rep B H σ σV) (p1 : Opr B.K (Av B σ σV) H x d) (p2 : Opr B.K (Av B σ σV) H y e)
    (h : cop o d e = some b) (k : ∀ H', Rep B H' σ σV → Stp B σ σ σV H H' → Q (.bl b) H') : rCmp G.K o x y H Q := by
  refine srv_cmp G o B σ σV H x y d e (.bool b, false) Q g r p1 p2 (by show bD (cop o d e) = _; rw [h]; rfl) fun v H2 r2 s2 hv => ?_
  have hv' : Rp B.K (Av B σ σV) H2 v (.bool b) := hv
  cases hv'
  exact k H2 r2 s2
omit ih c tk in
theorem chain_read {o q : Cop} {a b e : R} {ev : EvE} {B : Vw} {σ : S} {σV : L2.St} {H : Hp} {Q : Bool → Hp → Prop} (g : B.of G) (r : Rep B H σ σV)
    (h : Pst B σ σV H W (fun k σ' => ∀ H', Rep B H' σ' σV → Stp B σ σ' σV H H' → Q k H') (chainB ev o q a b e σ)) :
    tChain (rCmp G.K o) (rCmp G.K q) (tE G W (ev a)) (tE G W (ev b)) (tE G W (ev e)) σV H (fun v H' => ∃ k, v = .bl k ∧ Q k H') := by
  refine tE.mk g r ((Pst.bind h).imp fun d1 σ1 h1 x H1 r1 s1 v1 => ?_)
  refine tE.mk g r1 ((Pst.back s1 h1).bind.imp fun d2 σ2 h2 y H2 r2 s2 v2 => ?_)
  have h2' := (Pst.back s2 h2).bind
  cases hk : cop o d1.1 d2.1 with
  | none => rw [hk] at h2'; exact h2'.elim
  | some k =>
    rw [hk] at h2'
    refine cmp_at g r2 (.inl (Rp.stp r1 s2 (v1.rp r1))) (.inl (v2.rp r2)) hk fun H3 r3 s3 => ⟨k, rfl, ?_⟩
    cases k with
    | false =>
      have h3 : ∀ H', Rep B H' σ2 σV → Stp B σ σ2 σV H H' → Q false H' := h2'
      exact ⟨false, rfl, h3 H3 r3 (s1.trans (s2.trans s3))⟩
    | true =>
      have h3 : Pst B σ2 σV H2 W (fun k σ' => ∀ H', Rep B H' σ' σV → Stp B σ σ' σV H H' → Q k H') ((ev e σ2).bind fun z s => ofO (cop q d2.1 z.1) s) := h2'
      refine tE.mk g r3 ((Pst.back s3 h3).bind.imp fun d3 σ4 h4 z H4 r4 s4 v4 => ?_)
      obtain ⟨k2, hk2, h5⟩ := h4.ofO
      refine cmp_at g r4 (.inl (Rp.stp r3 s4 (Rp.stp r2 s3 (v2.rp r2)))) (.inl (v4.rp r4)) hk2 fun H5 r5 s5 => ⟨k2, rfl, h5 H5 r5 (s1.trans (s2.trans (s3.trans (s4.trans s5))))⟩
omit ih c tk in
theorem chain_mono {r r' : R2} {ta tb tc : TE} {σV : L2.St} {H : Hp} {Q : VK} (h : tChain r r' ta tb tc σV H Q) : tChain r r' ta tb tc σV H Q := h
omit ih c tk in
/-- a value known to be a truth value -/
theorem pst_bool {f : S → Res Bool} {B : Vw} {σ : S} {σV : L2.St} {H : Hp} {Q : VK} (h : Pst B σ σV H W (fun d σ' => ∀ v H', Rep B H' σ' σV → Stp B σ σ' σV H H' → Val B H σ' σV H' v d → Q v H') ((f σ).bind fun b s => .ok (.bool b, false) s)) :
    Pst B σ σV H W (fun b σ' => ∀ H', Rep B H' σ' σV → Stp B σ σ' σV H H' → Q (.bl b) H') (f σ) :=
  (Pst.bind h).imp fun b σ' q H' r s => q (.bl b) H' r s (.bl b)
theorem snd_chain {P : Prg} {o q : Cop} {a b e : R} {f g h : Expr} {pos : Pos} (h1 : chkE m Γ Θ a f = true) (h2 : chkE m Γ Θ b g = true) (h3 : chkE m Γ Θ e h = true) :
    Snd G X W (.Compare f [CmpOf o, CmpOf q] [g, h] pos) (stepE P p (.chain o q a b e)) (stepT P p (.chain o q a b e)) := by
  have hr : OpR X (compareOp (CmpOf o)) (rCmp G.K o) := by rw [← c.K]; exact op_cmp c.gx o
  have hq : OpR X (compareOp (CmpOf q)) (rCmp G.K q) := by rw [← c.K]; exact op_cmp c.gx q
  have hm : lastMarks [CmpOf o, CmpOf q] [g, h] = false := marks_ok (o := CmpOf q) h3
  have pa := (ih m Θ a f X W c tk h1).pe
  have pb := (ih m Θ b g X W c tk h2).pe
  have pc := (ih m Θ e h X W c tk h3).pe
  refine ⟨⟨fun pins s σV H Q I ⟨B, σ, gk, r, k⟩ => ?_⟩, ptI (pt_chain hr hq pa pb pc hm) fun σV H Q ⟨B, σ, gk, r, k⟩ => ?_⟩
  · have z := (pe_chain (pos := pos) hr hq pa pb pc hm).run pins s σV H _ I (chain_read gk r (pst_bool k))
    exact thn z fun v s' ⟨x, H', I', rx, kk, e, hq⟩ => ⟨x, H', I', rx, by subst e; exact hq⟩
  · exact chain_read gk r ((Pst.bind (Pst.bind k)).imp fun b σ' q => q)
theorem snd_not {P : Prg} {a : R} {f : Expr} {pos : Pos} (h1 : chkE m Γ Θ a f = true) : Snd G X W (.UnaryOp .Not f pos) (stepE P p (.not a)) (stepT P p (.not a)) := by
  refine ⟨peI (pe_notT (opd_pe ih c tk h1)) fun σV H Q h => ?_, ptI (pt_not (ih m Θ a f X W c tk h1).pt) fun σV H Q ⟨B, σ, g, r, q⟩ => ?_⟩
  · have s : Srv1 G (fun x => some (.bool !(tru x), false)) (fun x H Q => ∃ k, TruV X.K x H k ∧ Q (.bl (!k)) H) := by
      intro B σ σV H v d e Q g r pv he k
      cases he
      exact ⟨tru d, by rw [c.K, ← g.1]; exact tru_val pv, end_bl r k⟩
    exact srv1 s h
  · refine ⟨B, σ, g, r, (Pst.bind q).imp fun b σ' q H' r' s => q H' r' s⟩
omit ih c tk in
theorem pt_if {t b o : Expr} {tc ta tb : TT} {pos : Pos} (hc : PT X t tc) (ha : PT X b ta) (hb : PT X o tb) : PT X (.IfExp t b o pos) (fun σ H Q => tc σ H fun k H1 => if k = true then ta σ H1 Q else tb σ H1 Q) := by
  refine ⟨fun pins s σ H Q I h => ?_⟩
  show wpAny _ _ (isTrue t X.env (eval t X.env) >>= fun k => if k = true then isTrue b X.env (eval b X.env) else isTrue o X.env (eval o X.env)) _ _ s
  refine wpAny_bind (thn (hc.run pins s σ H _ I h) fun k s1 ⟨H1, I1, q1⟩ => ?_)
  cases k with
  | true => exact ha.run pins s1 σ H1 Q I1 q1
  | false => exact hb.run pins s1 σ H1 Q I1 q1
theorem snd_ife {P : Prg} {e a b : R} {f g h : Expr} {pos : Pos} (h1 : chkE m Γ Θ e f = true) (h2 : chkE m Γ Θ a g = true) (h3 : chkE m Γ Θ b h = true) : Snd G X W (.IfExp f g h pos) (stepE P p (.ife e a b)) (stepT P p (.ife e a b)) := by
  have s1 := ih m Θ e f X W c tk h1
  have s2 := ih m Θ a g X W c tk h2
  have s3 := ih m Θ b h X W c tk h3
  refine ⟨peI (pe_ifExp s1.pt s2.pe s3.pe) fun σV H Q ⟨B, σ, gk, r, q⟩ => ?_, ptI (pt_if s1.pt s2.pt s3.pt) fun σV H Q ⟨B, σ, gk, r, q⟩ => ?_⟩
  · refine tT.mk gk r ((Pst.bind q).imp fun k σ' q H' r' st => ?_)
    cases k with
    | true => exact tE.mk gk r' ((Pst.back st q).imp fun d σ2 q v H2 r2 s2 hv => q v H2 r2 (st.trans s2) (hv.since st.kp.tr))
    | false => exact tE.mk gk r' ((Pst.back st q).imp fun d σ2 q v H2 r2 s2 hv => q v H2 r2 (st.trans s2) (hv.since st.kp.tr))
  · refine tT.mk gk r ((Pst.bind q).imp fun k σ' q H' r' st => ?_)
    cases k with
    | true => exact tT.mk gk r' ((Pst.back st q).imp fun d σ2 q H2 r2 s2 => q H2 r2 (st.trans s2))
    | false => exact tT.mk gk r' ((Pst.back st q).imp fun d σ2 q H2 r2 s2 => q H2 r2 (st.trans s2))
theorem and_pe : ∀ {es : List R} {fs : List Expr} {pos : Pos}, all2 (chkE m Γ Θ) es fs = true → PE X (.BoolOp .And fs pos) (tE G W (andL p.e es))
  | [], _, _, _ => ⟨fun _ _ _ _ _ _ ⟨_, _, _, _, q⟩ => q.elim⟩
  | [e], [f], _, h => pe_one (ih m Θ e f X W c tk (and_ h).1).pe
  | e :: e2 :: es, f :: f2 :: fs, pos, h => by
    obtain ⟨h1, h2⟩ := and_ h
    refine peI (pe_andT (ih m Θ e f X W c tk h1).pe (and_pe (es := e2 :: es) (fs := f2 :: fs) h2)) fun σV H Q ⟨B, σ, gk, r, q⟩ => ?_
    have q' : Pst B σ σV H W _ ((p.e e σ).bind fun d s => if tru d.1 then andL p.e (e2 :: es) s else .ok (d.1, false) s) := q
    refine tE.mk gk r ((Pst.bind q').imp fun d σ' q v H' r' st hv => ⟨tru d.1, by rw [c.K, ← gk.1]; exact tru_val (.inl (hv.rp r')), ?_⟩)
    split at q
    · rename_i hk
      rw [if_pos hk]
      exact tE.mk gk r' ((Pst.back st q).imp fun d σ2 q v H2 r2 s2 hv => q v H2 r2 (st.trans s2) (hv.since st.kp.tr))
    · rename_i hk
      rw [if_neg hk]
      have hr := Val.rp (d := d) r' hv
      exact q v H' r' st hr
  | _ :: _ :: _, [], _, h => by cases h
  | [_], [], _, h => by cases h
  | [_], _ :: _ :: _, _, h => by cases (and_ h).2
  | _ :: _ :: _, [_], _, h => by cases (and_ h).2
theorem or_pe : ∀ {es : List R} {fs : List Expr} {pos : Pos}, all2 (chkE m Γ Θ) es fs = true → PE X (.BoolOp .Or fs pos) (tE G W (orL p.e es))
  | [], _, _, _ => ⟨fun _ _ _ _ _ _ ⟨_, _, _, _, q⟩ => q.elim⟩
  | [e], [f], _, h => pe_one (ih m Θ e f X W c tk (and_ h).1).pe
  | e :: e2 :: es, f :: f2 :: fs, pos, h => by
    obtain ⟨h1, h2⟩ := and_ h
    refine peI (pe_orT (ih m Θ e f X W c tk h1).pe (or_pe (es := e2 :: es) (fs := f2 :: fs) h2)) fun σV H Q ⟨B, σ, gk, r, q⟩ => ?_
    have q' : Pst B σ σV H W _ ((p.e e σ).bind fun d s => if tru d.1 then .ok (d.1, false) s else orL p.e (e2 :: es) s) := q
    refine tE.mk gk r ((Pst.bind q').imp fun d σ' q v H' r' st hv => ⟨tru d.1, by rw [c.K, ← gk.1]; exact tru_val (.inl (hv.rp r')), ?_⟩)
    split at q
    · rename_i hk
      rw [if_pos hk]
      have hr := Val.rp (d := d) r' hv
      exact q v H' r' st hr
    · rename_i hk
      rw [if_neg hk]
      exact tE.mk gk r' ((Pst.back st q).imp fun d σ2 q v H2 r2 s2 hv => q v H2 r2 (st.trans s2) (hv.since st.kp.tr))
  | _ :: _ :: _, [], _, h => by cases h
  | [_], [], _, h => by cases h
  | [_], _ :: _ :: _, _, h => by cases (and_ h).2
  | _ :: _ :: _, [_], _, h => by cases (and_ h).2
omit ih c tk in
theorem pw_no {e : Expr} : PW X e (tT G W fun _ => .bad) := ⟨fun _ _ _ _ _ _ _ ⟨_, _, _, _, q⟩ => q.elim⟩
omit ih c tk in
theorem pwI {e : Expr} {t t' : TT} (h : PW X e t) (k : ∀ σ H Q, t' σ H Q → t σ H Q) : PW X e t' := ⟨fun w pins s σ H Q I q => h.run w pins s σ H Q I (k _ _ _ q)⟩
theorem and_pw : ∀ {es : List R} {fs : List Expr} {pos : Pos}, all2 (chkE m Γ Θ) es fs = true → PW X (.BoolOp .And fs pos) (tT G W (allT p.t es))
  | [], _, _, _ => pw_no
  | [e], [f], _, h => pw_and1 (ih m Θ e f X W c tk (and_ h).1).pt
  | e :: e2 :: es, f :: f2 :: fs, pos, h => by
    obtain ⟨h1, h2⟩ := and_ h
    refine pwI (pw_and (ih m Θ e f X W c tk h1).pt (and_pw (es := e2 :: es) (fs := f2 :: fs) h2)) fun σV H Q ⟨B, σ, gk, r, q⟩ => ?_
    have q' : Pst B σ σV H W _ ((p.t e σ).bind fun b s => if b then allT p.t (e2 :: es) s else .ok false s) := q
    refine tT.mk gk r ((Pst.bind q').imp fun k σ' q H' r' st => ?_)
    cases k with
    | true => exact tT.mk gk r' ((Pst.back st q).imp fun d σ2 q H2 r2 s2 => q H2 r2 (st.trans s2))
    | false => exact q H' r' st
  | _ :: _ :: _, [], _, h => by cases h
  | [_], [], _, h => by cases h
  | [_], _ :: _ :: _, _, h => by cases (and_ h).2
  | _ :: _ :: _, [_], _, h => by cases (and_ h).2
theorem or_pw : ∀ {es : List R} {fs : List Expr} {pos : Pos}, all2 (chkE m Γ Θ) es fs = true → PW X (.BoolOp .Or fs pos) (tT G W (anyT p.t es))
  | [], _, _, _ => pw_no
  | [e], [f], _, h => pw_or1 (ih m Θ e f X W c tk (and_ h).1).pt
  | e :: e2 :: es, f :: f2 :: fs, pos, h => by
    obtain ⟨h1, h2⟩ := and_ h
    refine pwI (pw_or (ih m Θ e f X W c tk h1).pt (or_pw (es := e2 :: es) (fs := f2 :: fs) h2)) fun σV H Q ⟨B, σ, gk, r, q⟩ => ?_
    have q' : Pst B σ σV H W _ ((p.t e σ).bind fun b s => if b then .ok true s else anyT p.t (e2 :: es) s) := q
    refine tT.mk gk r ((Pst.bind q').imp fun k σ' q H' r' st => ?_)
    cases k with
    | true => exact q H' r' st
    | false => exact tT.mk gk r' ((Pst.back st q).imp fun d σ2 q H2 r2 s2 => q H2 r2 (st.trans s2))
  | _ :: _ :: _, [], _, h => by cases h
  | [_], [], _, h => by cases h
  | [_], _ :: _ :: _, _, h => by cases (and_ h).2
  | _ :: _ :: _, [_], _, h => by cases (and_ h).2
theorem snd_and {P : Prg} {es : List R} {fs : List Expr} {pos : Pos} (h : all2 (chkE m Γ Θ) es fs = true) : Snd G X W (.BoolOp .And fs pos) (stepE P p (.and es)) (stepT P p (.and es)) := ⟨and_pe ih c tk h, (and_pw ih c tk h).pt⟩
theorem snd_or {P : Prg} {es : List R} {fs : List Expr} {pos : Pos} (h : all2 (chkE m Γ Θ) es fs = true) : Snd G X W (.BoolOp .Or fs pos) (stepE P p (.or es)) (stepT P p (.or es)) := ⟨or_pe ih c tk h, (or_pw ih c tk h).pt⟩
omit ih c tk in
theorem bt (b : Bool) : (b == true) = b := by cases b <;> rfl
omit ih c tk in
theorem bf (b : Bool) : (b == false) = !b := by cases b <;> rfl
omit ih c tk in
theorem srv1T {f : PyData → Option DF} {r : V → Hp → VK → Prop} {ev : EvE} {a : R} {σV : L2.St} {H : Hp} {Q : Bool → Hp → Prop} (hf : ∀ d e, f d = some e → ∃ k, e = (.bool k, false)) (s : Srv1 G f r) (h : tT G W (truOf fun σ => opd1 ev a σ f) σV H Q) :
    tUn r (tOpd G W ev a) σV H (fun z H3 => ∃ k, z = .bl k ∧ Q k H3) := by
  obtain ⟨B, σ, gk, rp, h⟩ := h
  have h' : Pst B σ σV H W (fun d σ' => Pst B σ σV H W (fun b σ' => ∀ H', Rep B H' σ' σV → Stp B σ σ' σV H H' → Q b H') (.ok (tru d.1) σ')) (opd1 ev a σ f) := Pst.bind h
  rw [opd1_eq] at h'
  have q : tOpds G W ev [a] σV H fun vs H' => match vs with | [x] => r x H' (fun z H3 => ∃ k, z = .bl k ∧ Q k H3) | _ => True := by
    refine opds_ok gk rp ((Pst.bind h').imp fun ds σ' q vs H' r' st p => ?_)
    obtain ⟨e, he, q2⟩ := q.ofO
    cases p with
    | nil => cases he
    | cons p1 p =>
      cases p with
      | nil =>
        refine s B σ' σV H' _ _ e _ gk r' p1 he fun v H2 r2 s2 hv => ?_
        obtain ⟨k, hk⟩ := hf _ _ he
        subst hk
        have hv' : Rp B.K (Av B σ' σV) H2 v (.bool k) := hv
        cases hv'
        exact ⟨k, rfl, q2 H2 r2 (st.trans s2)⟩
      | cons _ _ => cases he
  exact q
omit ih c tk in
theorem isN_of {a : Expr} {ta : TE} {yes : Bool} {o : CmpOp} {k : Nat} {pos2 : Pos} (ho : isExp o yes = true) (h : PE X a ta) : PC X o a (.Constant .none k pos2) (tUn (rIsN yes) ta) := by
  cases yes with
  | true =>
    cases o <;> first | (cases ho; done) | skip
    refine ⟨fun pins s σ H Q I q => (pc_isN h).run pins s σ H Q I ?_⟩
    have q' : ta σ H fun x H1 => Q (.bl (decide (x = .non) == true)) H1 := q
    simp only [bt] at q'
    exact q'
  | false =>
    cases o <;> first | (cases ho; done) | skip
    refine ⟨fun pins s σ H Q I q => (pc_notN h).run pins s σ H Q I ?_⟩
    have q' : ta σ H fun x H1 => Q (.bl (decide (x = .non) == false)) H1 := q
    simp only [bf] at q'
    exact q'
theorem snd_isn {P : Prg} {yes : Bool} {a : R} {f : Expr} {o : CmpOp} {k : Nat} {pos pos2 : Pos} (ho : isExp o yes = true) (h1 : chkE m Γ Θ a f = true) :
    Snd G X W (.Compare f [o] [.Constant .none k pos2] pos) (stepE P p (.isn yes a)) (stepT P p (.isn yes a)) := by
  have pa := isN_of (k := k) (pos2 := pos2) ho (opd_pe ih c tk h1)
  exact ⟨peI (pe_cmp pa rfl) fun σV H Q h => srv1 (srv_isn G yes) h,
    ptI (pt_cmp pa rfl) fun σV H Q h => srv1T (fun d e q => by cases d <;> (cases q; exact ⟨_, rfl⟩)) (srv_isn G yes) h⟩
theorem snd_isb {P : Prg} {yes b : Bool} {a : R} {f : Expr} {o : CmpOp} {k : Nat} {pos pos2 : Pos} (ho : isExp o yes = true) (h1 : chkE m Γ Θ a f = true) :
    Snd G X W (.Compare f [o] [.Constant (.bool b) k pos2] pos) (stepE P p (.isb yes b a)) (stepT P p (.isb yes b a)) := by
  have pa := opd_pe ih c tk h1
  have hb : ∀ d e, (match d with | PyData.bool c => some (PyData.bool ((c == b) == yes), false) | _ => none) = some e → ∃ k, e = (PyData.bool k, false) := fun d e q => by
    cases d <;> first | (cases q; done) | (cases q; exact ⟨_, rfl⟩)
  cases yes with
  | true =>
    cases o <;> first | (cases ho; done) | skip
    have z : ∀ {σV : L2.St} {H : Hp} {Q : VK}, tUn (rIsB true b) (tOpd G W p.e a) σV H Q → tOp (fun x y H Q => ∃ a b, x = .bl a ∧ y = .bl b ∧ Q (.bl (decide (a = b))) H) (tOpd G W p.e a) (tC (.bl b)) σV H Q := fun {σV H Q} q => by
      have q' : tOpd G W p.e a σV H fun x H1 => ∃ c, x = .bl c ∧ Q (.bl ((c == b) == true)) H1 := q
      have e : (fun (x : V) (H1 : Hp) => ∃ c, x = V.bl c ∧ Q (.bl ((c == b) == true)) H1) = fun x H1 => ∃ a b_1, x = V.bl a ∧ V.bl b = V.bl b_1 ∧ Q (.bl (decide (a = b_1))) H1 := by
        funext x H1
        refine propext ⟨fun ⟨c, e, q⟩ => ⟨c, b, e, rfl, ?_⟩, fun ⟨c, b', e, e2, q⟩ => ⟨c, e, ?_⟩⟩
        · rwa [bt, Bool.beq_eq_decide_eq] at q
        · cases e2
          rwa [bt, Bool.beq_eq_decide_eq]
      rw [e] at q'
      exact q'
    exact ⟨peI (pe_cmpR op_is_bl pa pe_bl rfl) fun σV H Q h => z (srv1 (srv_isb G true b) h),
      ptI (pt_cmpR op_is_bl pa pe_bl rfl) fun σV H Q h => z (srv1T hb (srv_isb G true b) h)⟩
  | false =>
    cases o <;> first | (cases ho; done) | skip
    have z : ∀ {σV : L2.St} {H : Hp} {Q : VK}, tUn (rIsB false b) (tOpd G W p.e a) σV H Q → tOp (fun x y H Q => ∃ a b, x = .bl a ∧ y = .bl b ∧ Q (.bl (!decide (a = b))) H) (tOpd G W p.e a) (tC (.bl b)) σV H Q := fun {σV H Q} q => by
      have q' : tOpd G W p.e a σV H fun x H1 => ∃ c, x = .bl c ∧ Q (.bl ((c == b) == false)) H1 := q
      have e : (fun (x : V) (H1 : Hp) => ∃ c, x = V.bl c ∧ Q (.bl ((c == b) == false)) H1) = fun x H1 => ∃ a b_1, x = V.bl a ∧ V.bl b = V.bl b_1 ∧ Q (.bl (!decide (a = b_1))) H1 := by
        funext x H1
        refine propext ⟨fun ⟨c, e, q⟩ => ⟨c, b, e, rfl, ?_⟩, fun ⟨c, b', e, e2, q⟩ => ⟨c, e, ?_⟩⟩
        · rwa [bf, Bool.beq_eq_decide_eq] at q
        · cases e2
          rwa [bf, Bool.beq_eq_decide_eq]
      rw [e] at q'
      exact q'
    exact ⟨peI (pe_cmpR op_isnot_bl pa pe_bl rfl) fun σV H Q h => z (srv1 (srv_isb G false b) h),
      ptI (pt_cmpR op_isnot_bl pa pe_bl rfl) fun σV H Q h => z (srv1T hb (srv_isb G false b) h)⟩
omit ih c tk in
theorem plainIx_ok {g : Expr} (h : plainIx g = true) : PlainIx g := by
  cases g <;> first
    | exact fun _ _ => rfl
    | cases h
theorem snd_idx {P : Prg} {a j : R} {f g : Expr} {pos : Pos} (h0 : plainIx g = true) (h1 : chkE m Γ Θ a f = true) (h2 : chkE m Γ Θ j g = true) : Snd G X W (.Subscript f g pos) (stepE P p (.idx a j)) (stepT P p (.idx a j)) := by
  have hr : IxR X (rIx G.K) := by rw [← c.K]; exact ix_seq
  exact snd_of c.K (peI (pe_ix hr (opd_pe ih c tk h1) (opd_pe ih c tk h2) (plainIx_ok h0)) fun σV H Q h => srv2 (srv_ix G) h) fun _ => rfl
def tO (G : Gk) (W : WX) (ev : EvE) : Option R → TO
  | none => tNoPart
  | some r => tPart (tE G W (ev r))
def chkO (m : Nat) (Γ : Gs) (Θ : Sx) : Option R → Option Expr → Bool
  | none, none => true
  | some r, some e => chkE m Γ Θ r e
  | _, _ => false
theorem opt_po {lo : Option R} {l : Option Expr} (h : chkO m Γ Θ lo l = true) : PO X l (tO G W p.e lo) := by
  cases lo with
  | none => cases l with
    | none => exact po_none
    | some e => cases h
  | some r => cases l with
    | none => cases h
    | some e => exact po_some (ih m Θ r e X W c tk h).pe
omit ih c tk in
theorem evO_ok {ev : EvE} {lo : Option R} {B : Vw} {σ : S} {σV : L2.St} {H : Hp} {Q : Option Int → Hp → Prop} (g : B.of G) (r : Rep B H σ σV)
    (h : Pst B σ σV H W (fun i σ' => ∀ H', Rep B H' σ' σV → Stp B σ σ' σV H H' → Q i H') (evO ev lo σ)) : tO G W ev lo σV H Q := by
  cases lo with
  | none => exact h H r .refl
  | some e =>
    refine tE.mk g r ((Pst.bind h).imp fun d σ' q v H' r' s hv => ?_)
    obtain ⟨i, hi, q⟩ := (Pst.bind q).ofO
    have hv' := hv.rp r'
    obtain ⟨d, fr⟩ := d
    cases d with
    | int j =>
      cases hi
      cases hv'
      exact ⟨i, rfl, q H' r' s⟩
    | _ => cases hi
theorem snd_slc {P : Prg} {a : R} {lo hi : Option R} {f : Expr} {l h : Option Expr} {pos pos2 : Pos} (h1 : chkE m Γ Θ a f = true) (h2 : chkO m Γ Θ lo l = true) (h3 : chkO m Γ Θ hi h = true) :
    Snd G X W (.Subscript f (.Slice l h none pos2) pos) (stepE P p (.slc a lo hi)) (stepT P p (.slc a lo hi)) := by
  have hr : SlR X (rSlL' G.K) := by rw [← c.K]; exact sl_all
  refine snd_of c.K (peI (pe_slice hr (opd_pe ih c tk h1) (opt_po ih c tk h2) (opt_po ih c tk h3)) fun σV H Q ⟨B, σ, g, r, q⟩ => ?_) fun _ => rfl
  have key : tOpds G W p.e [a] σV H fun vs H1 => match vs with | [x] => tO G W p.e lo σV H1 fun l H2 => tO G W p.e hi σV H2 fun h H3 => rSlL' G.K x l h H3 Q | _ => True := by
    refine pre_ok g r ((Pst.bind q).imp fun xs σ1 q1 vs H1 r1 s1 pr => ?_)
    cases pr with
    | nil => trivial
    | @cons x o vs xs ho pr =>
      cases vs with
      | cons _ _ => trivial
      | nil =>
        cases pr
        refine evO_ok g r1 ((Pst.back s1 q1).bind.imp fun i σ2 q2 H2 r2 s2 => ?_)
        refine evO_ok g r2 ((Pst.back s2 q2).bind.imp fun j σ3 q3 H3 r3 s3 => ?_)
        obtain ⟨ds, hd, q4⟩ := (Pst.bind q3).ofO
        have po := fill_ok r3 (.cons ((ho.stp r1 s2).stp r2 s3) .nil) hd
        cases po with
        | cons p1 pn =>
          cases pn
          obtain ⟨e, he, q5⟩ := q4.ofO
          exact srv_sl g r3 p1 he fun v H4 r4 s4 hv => q5 v H4 r4 (s1.trans (s2.trans (s3.trans s4))) (hv.since fun b z => s1.kp.tr b (s2.kp.tr b (s3.kp.tr b z)))
  exact key
end
end Pv
/-! Pv7: builtins, isinstance, comprehensions, calls. -/
namespace Pv
open PySem PySem.Spec PyProof.Rows L2
section
variable {Γ : Gs} {G : Gk} {lv : Nat} {sps : Nat → Sp} {Θ : Sx} {X : Cx} {W : WX} {p : Ev} {m : Nat}
/-! ### builtins -/
theorem bi_call {b : Bi} {P : Prg} {id : String} {x : Str} {es : List R} {fs : List Expr} {pos pos2 : Pos} {r : List V → Hp → VK → Prop} (ih : SndN Γ G lv sps p) (c : Ctx Γ G lv sps Θ X) (tk : Takes X W) (hr : CallR X (.builtin id) r) (s : Srv G (bop2 b) r)
    (hx : x = biName b) (hv : bootBuiltins (biName b) = some (.builtin id)) (h : gl Θ x = true) (hne : es.isEmpty = false) (ha : all2 (chkE m Γ Θ) es fs = true) :
    Snd G X W (.Call (.Name x pos2) fs [] pos) (stepE P p (.bi b es)) (stepT P p (.bi b es)) := by
  obtain ⟨g1, g2, g3⟩ := gl_ok c h
  cases fs with
  | nil => cases es with
    | nil => cases hne
    | cons e es => cases ha
  | cons f fs =>
    cases es with
    | nil => cases ha
    | cons e es =>
      have hm : X.mg x = none := by rw [hx]; exact c.blt b
      have hst := chk_starEach (es := fs) (env := X.env) (and_ ha).1
      have hpl := all2_star (env := X.env) (pos := pos) (and_ ha).2
      exact snd_of c.K (peI (pe_callB hr g1 hm (by rw [hx]; exact hv) (opds_pa ih c tk ha) g3 g2 hst hpl) fun σV H Q h => srv_opds s h) fun _ => rfl
theorem bi_type {b : Bi} {P : Prg} {id : String} {x : Str} {es : List R} {fs : List Expr} {pos pos2 : Pos} {r : List V → Hp → VK → Prop} (ih : SndN Γ G lv sps p) (c : Ctx Γ G lv sps Θ X) (tk : Takes X W) (hr : CallR X (.type id) r) (s : Srv G (bop2 b) r)
    (hx : x = biName b) (hv : bootBuiltins (biName b) = some (.type id)) (h : gl Θ x = true) (hne : es.isEmpty = false) (ha : all2 (chkE m Γ Θ) es fs = true) :
    Snd G X W (.Call (.Name x pos2) fs [] pos) (stepE P p (.bi b es)) (stepT P p (.bi b es)) := by
  obtain ⟨g1, g2, g3⟩ := gl_ok c h
  cases fs with
  | nil => cases es with
    | nil => cases hne
    | cons e es => cases ha
  | cons f fs =>
    cases es with
    | nil => cases ha
    | cons e es =>
      have hm : X.mg x = none := by rw [hx]; exact c.blt b
      have hst := chk_starEach (es := fs) (env := X.env) (and_ ha).1
      have hpl := all2_star (env := X.env) (pos := pos) (and_ ha).2
      exact snd_of c.K (peI (pe_callTy hr g1 hm (by rw [hx]; exact hv) (opds_pa ih c tk ha) g3 g2 hst hpl) fun σV H Q h => srv_opds s h) fun _ => rfl
theorem snd_bi {P : Prg} {b : Bi} {x : Str} {es : List R} {fs : List Expr} {pos pos2 : Pos} (ih : SndN Γ G lv sps p) (c : Ctx Γ G lv sps Θ X) (tk : Takes X W) (hb : biOk b = true) (hx : x = biName b) (h : gl Θ x = true) (hne : es.isEmpty = false)
    (ha : all2 (chkE m Γ Θ) es fs = true) : Snd G X W (.Call (.Name x pos2) fs [] pos) (stepE P p (.bi b es)) (stepT P p (.bi b es)) := by
  have hc := c.gx.calm
  cases b with
  | len => exact bi_call ih c tk call_len (by rw [c.K]; exact srv_len G) hx (by decide +kernel) h hne ha
  | tuple => exact bi_type ih c tk call_tuple_of (by rw [c.K]; exact srv_tuple G) hx (by decide +kernel) h hne ha
  | list => exact bi_type ih c tk call_list_of (by rw [c.K]; exact srv_list G) hx (by decide +kernel) h hne ha
  | all => exact bi_call ih c tk (cr_all hc) (by rw [c.K]; exact srv_all G) hx (by decide +kernel) h hne ha
  | any => exact bi_call ih c tk (cr_any hc) (by rw [c.K]; exact srv_any G) hx (by decide +kernel) h hne ha
  | sum => exact bi_call ih c tk (cr_sum hc) (by rw [c.K]; exact srv_sum G) hx (by decide +kernel) h hne ha
  | sorted => exact bi_call ih c tk (cr_sortD c.gx) (by rw [c.K]; exact srv_sorted G) hx (by decide +kernel) h hne ha
  | min => exact bi_call ih c tk (cr_minD c.gx) (by rw [c.K]; exact srv_min G) hx (by decide +kernel) h hne ha
  | max => exact bi_call ih c tk (cr_maxD c.gx) (by rw [c.K]; exact srv_max G) hx (by decide +kernel) h hne ha
  | min2 => exact bi_call ih c tk (call_min2 hc) (srv_min2 G) hx (by decide +kernel) h hne ha
  | max2 => exact bi_call ih c tk (call_max2 hc) (srv_max2 G) hx (by decide +kernel) h hne ha
  | abs => exact bi_call ih c tk call_abs (srv_abs G) hx (by decide +kernel) h hne ha
  | int => exact bi_type ih c tk call_int1 (srv_int G) hx (by decide +kernel) h hne ha
  | repr => exact bi_call ih c tk (call_reprD c.gx) (by rw [c.K]; exact srv_repr G) hx (by decide +kernel) h hne ha
  | _ => cases hb
/-- sum(xs, []) -/
theorem snd_sumL {P : Prg} {x : Str} {a : R} {f : Expr} {pos pos2 pos3 : Pos} (ih : SndN Γ G lv sps p) (c : Ctx Γ G lv sps Θ X) (tk : Takes X W) (hx : x = "sum") (h : gl Θ x = true) (ha : chkE m Γ Θ a f = true) :
    Snd G X W (.Call (.Name x pos2) [f, .List [] pos3] [] pos) (stepE P p (.bi .sumL [a])) (stepT P p (.bi .sumL [a])) := by
  obtain ⟨g1, g2, g3⟩ := gl_ok c h
  have hm : X.mg x = none := by rw [hx]; exact c.blt .sum
  have pa : PA X [f, .List [] pos3] (tCons (tOpd G W p.e a) (tCons (tLst tNil) tNil)) := pa_cons (opd_pe ih c tk ha) (pa_cons (pe_lst pa_nil) pa_nil rfl) (chk_starEach ha)
  refine snd_of c.K (peI (pe_callB (cr_sumL c.gx) g1 hm (by rw [hx]; decide +kernel) pa g3 g2 (chk_starEach ha) rfl) fun σV H Q h => ?_) fun _ => rfl
  obtain ⟨B, σ, g, r, q⟩ := h
  have key : tOpds G W p.e [a] σV H fun vs H1 => match vs with | [v] => ∀ e, H1 e = none → rSumL X.K [v, .ref e] (upd H1 e (.lst [])) Q | _ => True := by
    refine opds_ok g r ((Pst.bind (show Pst B σ σV H W _ ((opds p.e [a] σ).bind fun ds s => ofO (bop2 .sumL ds) s) from q)).imp fun ds σ' q vs H' r' st p1 => ?_)
    obtain ⟨d, hd, q⟩ := q.ofO
    match ds, hd with
    | [.list l], hd =>
      obtain ⟨v, rfl, pv1⟩ := pd1 p1
      simp only [bop2] at hd
      obtain ⟨ls, e1, e2⟩ := Option.bind_eq_some_iff.mp hd
      split at e2
      · rename_i hz
        cases e2
        intro e he
        have r2 := r'.new (o := .lst []) he
        have st2 : Stp B σ' σ' σV H' (upd H' e (.lst [])) := .heap (.new he)
        have hv : Opr B.K (Av B σ' σV) (upd H' e (.lst [])) v (.list l) := by
          rcases (show Rp B.K (Av B σ' σV) H' v (.list l) ∨ ∃ a, v = .ref a ∧ RootD B.K (Av B σ' σV) H' a (.list l) from pv1) with z | ⟨b, rfl, z⟩
          · exact .inl (Rp.stp r' st2 z)
          · exact .inr ⟨b, rfl, z.keep (.new he) r'.nt fun o q => by rw [upd_ne (ne_of_none q he)]; exact q⟩
        obtain ⟨b, xs, rfl, h1, q1⟩ := hv.lst
        obtain ⟨yss, k1, k2, k3⟩ := listsD_ok q1 e1
        rw [c.K, ← g.1]
        refine ⟨b, e, xs, yss, rfl, h1, k1, upd_same, by rw [k2.len, ← line_eq]; exact hz, fun h0 => ?_, fun t ht => ?_⟩
        · have : ls = [] := List.eq_nil_of_length_eq_zero (by rw [← k3, h0]; rfl)
          subst this
          exact end_lst (xs := []) r' he .nil fun v H2 r3 s3 hv => q v H2 r3 (st.trans s3) (hv.since st.kp.tr)
        · exact end_lst r2 ht k2 fun v H2 r3 s3 hv => q v H2 r3 (st.trans (st2.trans s3)) (hv.since fun b z => st.kp.tr b (st2.kp.tr b z))
      · cases e2
  have key : tOpd G W p.e a σV H fun v H1 => ∀ e, H1 e = none → rSumL X.K [v, .ref e] (upd H1 e (.lst [])) Q := key
  have e : (fun (v : V) (H1 : Hp) => ∀ e, H1 e = none → rSumL X.K [v, .ref e] (upd H1 e (.lst [])) Q) = fun v H1 => tLst tNil σV H1 fun u H2 => rSumL X.K [v, u] H2 Q := by
    funext v H1
    exact propext ⟨fun k => ⟨Nat.zero_le _, k⟩, fun k => k.2⟩
  rw [e] at key
  exact key
/-- gcd of math -/
theorem srv_gcd (G : Gk) : Srv G (bop2 .gcd) rGcd := by
  intro B σ σV H vs ds e Q g r p he k
  match ds, he with
  | [.int i, .int j], he =>
    obtain ⟨v, u, rfl, p1, p2⟩ := pd2 p
    cases he; cases p1.int; cases p2.int
    exact ⟨i, j, rfl, end_int r k⟩
theorem snd_gcd {P : Prg} {x : Str} {a b : R} {f g : Expr} {pos pos2 : Pos} (ih : SndN Γ G lv sps p) (c : Ctx Γ G lv sps Θ X) (tk : Takes X W) (hx : (Γ.lib.lookup x == some "math.gcd") = true) (h : gl Θ x = true) (ha : chkE m Γ Θ a f = true) (hb : chkE m Γ Θ b g = true) :
    Snd G X W (.Call (.Name x pos2) [f, g] [] pos) (stepE P p (.bi .gcd [a, b])) (stepT P p (.bi .gcd [a, b])) := by
  obtain ⟨g1, g2, g3⟩ := gl_ok c h
  have hm := c.lib x _ (eq_of_beq hx)
  have ha2 : all2 (chkE m Γ Θ) [a, b] [f, g] = true := by show (chkE m Γ Θ a f && (chkE m Γ Θ b g && true)) = true; rw [ha, hb]; rfl
  exact snd_of c.K (peI (pe_callBfun cr_gcd g1 hm (opds_pa ih c tk ha2) g2 (chk_starEach ha) (all2_star (env := X.env) (pos := pos) (and_ ha2).2)) fun σV H Q h => srv_opds (srv_gcd G) h) fun _ => rfl
/-! ### isinstance(x, T) -/
def pyTy : PyData → String
  | .none => "NoneType" | .bool _ => "bool" | .int _ => "int" | .str _ => "str" | .list _ => "list" | .tuple _ => "tuple" | .dict _ => "dict"
def tyS : Ty → String
  | .int => "int" | .bool => "bool" | .str => "str" | .tuple => "tuple" | .list => "list"
theorem tyX_of {K : Frag} {A : ASet} {H : Hp} {v : V} {d : PyData} (h : Opr K A H v d) : TyX K H v (.type (pyTy d)) := by
  cases d with
  | none => rw [h.non]; exact .base .non
  | bool b => rw [h.bl]; exact .base (.bl b)
  | int b => rw [h.int]; exact .base (.int b)
  | str b => rw [h.str.1]; exact .base (.str b)
  | list b =>
    obtain ⟨a, xs, rfl, h1, _⟩ := h.lst
    rcases h1 with (h1 | ⟨o, h1⟩) | ⟨its, n, e, _, _⟩
    · exact .base (.lst h1)
    · exact .base (.frz h1)
    · exact .kList e rfl
  | tuple b =>
    obtain ⟨a, xs, rfl, h1, _⟩ := h.tup
    rcases h1 with (h1 | ⟨o, h1⟩) | ⟨o, its, n, e, q, _, _, _⟩
    · exact .base (.tup h1)
    · exact .fTuple h1
    · exact .kTuple e q
  | dict b => exact h.nodict.elim
theorem kit_all (d : PyData) (t : Ty) : kitB (pyTy d) (tyS t) = some (isT t d) := by
  cases d <;> cases t <;> (dsimp only [pyTy, tyS, isT]; decide +kernel)
theorem snd_isi {P : Prg} {a : R} {t : Ty} {x y : Str} {f : Expr} {pos p2 p3 : Pos} (ih : SndN Γ G lv sps p) (c : Ctx Γ G lv sps Θ X) (tk : Takes X W) (hx : x = "isinstance") (hy : y = tyName t) (h : gl Θ x = true) (h' : gl Θ y = true) (ha : chkE m Γ Θ a f = true) :
    Snd G X W (.Call (.Name x p2) [f, .Name y p3] [] pos) (stepE P p (.isi a [t])) (stepT P p (.isi a [t])) := by
  obtain ⟨g1, g2, g3⟩ := gl_ok c h
  obtain ⟨k1, k2, k3⟩ := gl_ok c h'
  have hm : X.mg x = none := by rw [hx]; exact c.blt2 _ (by simp)
  have hm' : X.mg y = none := by rw [hy]; cases t <;> exact c.blt2 _ (by simp [tyName])
  have hv : bootBuiltins y = some (.type (tyS t)) := by rw [hy]; cases t <;> decide +kernel
  have py : PE X (.Name y p3) (tC (.ty (tyS t))) := pe_bltn (v := .ty (tyS t)) k1 hm' hv rfl k3 k2
  have pa : PA X [f, .Name y p3] (tCons (tOpd G W p.e a) (tCons (tC (.ty (tyS t))) tNil)) := pa_cons (opd_pe ih c tk ha) (pa_cons py pa_nil rfl) (chk_starEach ha)
  refine snd_of c.K (peI (pe_callB call_isi g1 hm (by rw [hx]; decide +kernel) pa g3 g2 (chk_starEach ha) rfl) fun σV H Q h => ?_) fun _ => rfl
  have s : Srv1 G (fun x => some (.bool ([t].any fun t => isT t x), false)) (fun x H Q => rIsi X.K [x, .ty (tyS t)] H Q) := by
    intro B σ σV H v d e Q g r pv he k
    cases he
    rw [c.K, ← g.1]
    exact ⟨v, _, _, _, isT t d, rfl, .ty _, tyX_of pv, kit_ty (kit_all d t), end_bl r (by simpa using k)⟩
  exact srv1 s h
end
end Pv
/-! Pn1: enumerate(tuple). -/
namespace PySem
open Sem (wp)
open AutoSeq1 (wpAny_loadPart')
set_option maxHeartbeats 1000000 in
theorem pn_enum_new (a : Addr) (items : Array Value) :
    Meets (Builtin.«enumerate.__new__» ⟨[.type "enumerate", .ref a], []⟩) (fun _ R s => s.heap.IsTuple a items ∧
      R (.ok (.ret (.ref (s.heap.push { cls := .type "tuple_iterator", data := .fields #[.ref a, .int 0 0] }).objs.size)))
        { s with heap := (s.heap.push { cls := .type "tuple_iterator", data := .fields #[.ref a, .int 0 0] }).push { cls := .type "enumerate", data := .fields #[.none, .bool false, .ref s.heap.objs.size, rawInt 0, .none, .none] } }) :=
  .of_wp fun prog w A R s h => by
    obtain ⟨hp, g, d, tk, os⟩ := s
    obtain ⟨hT, h⟩ := h
    have hsub := sub_enumerate
    have q1 := fun {E : Value → Shared → Prop} {Q : Value → Shared → Prop} (q : Q (.ref hp.objs.size) ⟨hp.push { cls := .type "tuple_iterator", data := .fields #[.ref a, .int 0 0] }, g, d, tk, os⟩) => wpAny_pyIter_tuple (prog := prog) (w := w) (A := A) (s := ⟨hp, g, d, tk, os⟩) (E := E) hT q
    wp_walk
    refine wpAny_stack_any fun st => wpAny_pure ?_
    split
    · rename_i c _ _ _ _ _
      cases (c == Value.type "enumerate")
      · wp_walk using wpAny_pyIter_tuple hT
        exact ⟨_, rfl, h⟩
      · wp_walk using wpAny_pyIter_tuple hT
        exact ⟨_, rfl, h⟩
    · wp_walk using wpAny_pyIter_tuple hT
      exact ⟨_, rfl, h⟩
section
variable {prog : Program} {w : World} {A : Around} {E : Value → Shared → Prop} {s : Shared}
theorem pn_enum_call {a : Addr} {items : Array Value} {Q : Value → Shared → Prop} (hT : s.heap.IsTuple a items)
    (h : ∀ h', IsEnum h' (s.heap.objs.size + 1) s.heap.objs.size 0 .none → h'.IsTupleIter s.heap.objs.size a 0 → (∀ b o, s.heap.get? b = some o → h'.get? b = some o) → Q (.ref (s.heap.objs.size + 1)) { s with heap := h' }) :
    wpAny (model prog w) A (call (.type "enumerate") [.ref a]) Q E s := by
  refine callType_new F.called_enumerate (by decide) (F.typeCall_enumerate_1 _) (F.newCall_enumerate_1 _) (fun obj => F.args_object_init_2 obj _) F.entry_enumerate_new (pn_enum_new a items) ⟨hT, ?_⟩
  have hz : (s.heap.push { cls := .type "tuple_iterator", data := .fields #[.ref a, .int 0 0] }).objs.size = s.heap.objs.size + 1 := Heap.size_push ..
  show _ ∧ _
  rw [hz]
  have he : IsEnum ((s.heap.push { cls := .type "tuple_iterator", data := .fields #[.ref a, .int 0 0] }).push { cls := .type "enumerate", data := .fields #[.none, .bool false, .ref s.heap.objs.size, rawInt 0, .none, .none] }) (s.heap.objs.size + 1) s.heap.objs.size 0 .none := by
    have z := Heap.get?_push_size (s.heap.push { cls := .type "tuple_iterator", data := .fields #[.ref a, .int 0 0] }) (o := { cls := .type "enumerate", data := .fields #[.none, .bool false, .ref s.heap.objs.size, rawInt 0, .none, .none] }) rfl
    rw [hz] at z
    exact z
  exact ⟨⟨_, he, rfl⟩, h _ he ⟨_, Heap.get?_push_of_some _ (Heap.get?_push_size _ rfl), rfl, rfl⟩ fun b o x => Heap.get?_push_of_some _ (Heap.get?_push_of_some _ x)⟩
end
end PySem
namespace Pv
open PySem PySem.Spec PyProof.Rows L2
/-- the tuple at a, each item in a new pair -/
def IteT (K : Frag) (a : Addr) : It :=
  ⟨fun i H => ∃ (xs : List V) (x : V), SqT K H a xs ∧ xs[i]? = some x, fun i H v H' => ∃ T x, v = .ref T ∧ H T = none ∧ H' = upd H T (.tup [.int (i : Nat), x]) ∧ ∀ xs, SqT K H a xs → xs[i]? = some x, fun i H => ∃ xs : List V, SqT K H a xs ∧ xs.length = i⟩
theorem turn_enumT {P : Program} {w : World} {K : Frag} {elts : List Expr} {kk : Nat} {tpos : Pos} (a e it : Addr) (hai : a ≠ it) (hae : a ≠ e) :
    Turn P w K (.Tuple elts kk tpos) (IteT K a) [e, it] e (fun i h => (∃ old, IsEnum h e it ((i : Nat) : Int) old) ∧ h.IsTupleIter it a i ∧ e ≠ it) where
  mem := by simp
  obj := fun i h st b hb => by
    obtain ⟨⟨old, he⟩, ⟨o, ho, hc, hd⟩, _⟩ := st
    have q : b = e ∨ b = it := by simpa using hb
    rcases q with z | z
    · rw [z]; exact ⟨_, he, fun v q => nomatch q⟩
    · rw [z]; exact ⟨o, ho, fun v q => by rw [hd] at q; cases q⟩
  keep := fun i h h' st k => let ⟨⟨old, he⟩, hi, hne⟩ := st; ⟨⟨old, k e (by simp) _ he⟩, hi.at fun o q => k it (by simp) o q, hne⟩
  item := by
    intro X hP hw hK hc i pins s σ H E I hf st hg
    subst hP hw hK
    obtain ⟨⟨old, he⟩, hit, hne⟩ := st
    obtain ⟨xs, x, hq, hx⟩ := hg
    obtain ⟨its, rv, p, hz⟩ := I.tuple hq
    obtain ⟨u, hu, ru⟩ := rv.get hx
    have pT : s.heap.IsTuple a its.toArray := p
    have hel : e < s.heap.objs.size := Heap.lt_size he
    have hil : it < s.heap.objs.size := by obtain ⟨_, q, _⟩ := hit; exact Heap.lt_size q
    have hlt : i < its.toArray.size := by
      have := (List.getElem?_eq_some_iff.mp hu).1
      simpa using this
    have D := Draws.tuple (prog := X.prog) (w := X.w) (A := X.A.in1) (show X.A.in1.handled = none from I.ok.hd hc) it a hai its.toArray
    refine wpAny_pyNext_enum_itemD D he ⟨hit, pT⟩ hlt hne (by simp [hne, Ne.symm hae]) fun u2 h' tk hx2 ho hst hT hsz hk => ?_
    have eu : u2 = u := by
      rw [List.getElem?_toArray, hu] at hx2
      exact (Option.some.inj hx2).symm
    subst eu
    refine ⟨_, rfl, wpAny_letOwnedTupleGo_enum (s := { s with heap := h', toks := tk + 1 }) ho fun h'' he' sb => ?_⟩
    have hT2 : h''.get? s.heap.objs.size = some { cls := .type "tuple", data := .seq #[.int i tk, u2] } := (sb.2 _ (Nat.ne_of_gt hel)).trans hT
    have new : ObjOk X.prog X.w (upd H s.heap.objs.size (.tup [.int (i : Nat), x])) h'' s.heap.objs.size (.tup [.int (i : Nat), x]) := ⟨by show 2 ≤ sizeLine; decide, [.int i tk, u2], .cons ⟨_, rfl⟩ (.cons ru .nil), ⟨_, hT2, rfl, _, rfl⟩⟩
    have I1 : Inv X pins σ (upd H s.heap.objs.size (.tup [.int (i : Nat), x])) { s with heap := h'', toks := tk + 1 } :=
      I.turnedNew (ch := [e, it]) (fun b ob hb q => (sb.2 b (fun z => hb (by simp [z]))).trans (hk b ob (fun z => hb (by simp [z])) (fun z => hb (by simp [z])) q)) hf (Nat.le_refl _) new
    refine ⟨.ref s.heap.objs.size, _, I1, rfl, ⟨_, x, rfl, I.hok.fresh (Nat.le_refl _), rfl, fun ys hy => by rw [I.tuple_inj hy hq]; exact hx⟩, ⟨⟨u2, ?_⟩, hst.1.at fun o q => (sb.2 it (Ne.symm hne)).trans q, hne⟩, fun b hb => ?_⟩
    · rw [show ((i + 1 : Nat) : Int) = (i : Int) + 1 by omega]; exact he'
    · have hb2 : b < s.heap.objs.size := by
        have q : b = e ∨ b = it := by simpa using hb
        rcases q with z | z
        · rw [z]; exact hel
        · rw [z]; exact hil
      rw [upd_ne (Nat.ne_of_lt hb2)]
      exact (hf b hb).1
  done := by
    intro X hP hw hK hc i pins s σ H E I hf st hg
    subst hP hw hK
    obtain ⟨⟨old, he⟩, hit, hne⟩ := st
    obtain ⟨xs, hq, hx⟩ := hg
    obtain ⟨its, rv, p, hz⟩ := I.tuple hq
    have pT : s.heap.IsTuple a its.toArray := p
    have hn : its.toArray.size = i := by rw [List.size_toArray, ← rv.length, hx]
    have D := Draws.tuple (prog := X.prog) (w := X.w) (A := X.A.in1) (show X.A.in1.handled = none from I.ok.hd hc) it a hai its.toArray
    obtain ⟨f0, f1, f2, f3, f4, f5⟩ := hf it (by simp)
    exact wpAny_pyNext_enum_endD D he ⟨by rw [hn]; exact hit, pT⟩ fun h' eb => ⟨rfl, I.turned (t' := s.toks) (fun b o hb q => eb b o hb q) f0 f1 f3 f4 f5⟩
  self := fun A i s Q E st h => let ⟨⟨_, he⟩, _⟩ := st; wpAny_pyIter_enum he h
def iEnumA (K : Frag) (ta : TA) : TI := fun σ H R => ta σ H fun vs H1 => ∃ a xs, vs = [.ref a] ∧ SqT K H1 a xs ∧ R (IteT K a) H1
theorem pi_enumT {X : Cx} {e : Expr} {ta : TA} {p pos tpos : Pos} {elts : List Expr} {kk : Nat} (hg : Gl X "enumerate") (hm : X.mg "enumerate" = none) (ha : PA X [e] ta) (hs : starEach [e] X.env = [(false, eval e X.env)]) :
    PI X (.Tuple elts kk tpos) (.Call (.Name "enumerate" p) [e] [] pos) (iEnumA X.K ta) := by
  constructor
  intro pins s σ H R I h
  refine Call_ (ld_blt I hg hm boot_enumerate (PyProof.Rows.callWith_type1 (thn (ha.run pos pins s σ H _ I h) fun us s1 hh => ?_) hs rfl))
  obtain ⟨vs, H1, I1, r1, a, xs, rfl, hq, q⟩ := hh
  cases r1 with
  | cons r rr =>
    cases rr
    cases r
    obtain ⟨its, rv, p2, hz⟩ := I1.tuple hq
    have pT : s1.heap.IsTuple a its.toArray := p2
    obtain ⟨oa, hoa, _⟩ := id pT
    have hlt := Heap.lt_size hoa
    refine pn_enum_call pT fun h' he hit hk => wpAny_pyIter_enum he ?_
    have I2 : Inv X pins σ H1 { s1 with heap := h' } := I1.kept (t' := s1.toks) hk
    refine ⟨s1.heap.objs.size + 1, [s1.heap.objs.size + 1, s1.heap.objs.size], _, _, H1, rfl, I2, turn_enumT a (s1.heap.objs.size + 1) s1.heap.objs.size (Nat.ne_of_lt hlt) (Nat.ne_of_lt (Nat.lt_succ_of_lt hlt)), ⟨⟨.none, he⟩, hit, Nat.succ_ne_self _⟩, fun b hb => ?_, q⟩
    have z : b = s1.heap.objs.size + 1 ∨ b = s1.heap.objs.size := by simpa using hb
    have hle : s1.heap.objs.size ≤ b := by rcases z with z | z <;> rw [z] <;> omega
    exact I1.fpOk hle (I1.hok.fresh hle)
end Pv
/-! Pv8: what is walked; targets; comprehensions. -/
namespace Pv
open PySem PySem.Spec PyProof.Rows L2
section
variable {B : Vw} {K : Frag} {A A' : ASet} {H H' H1 H2 : Hp} {σ σ' σ1 : S} {σV : L2.St} {v : V} {d : PyData}
/-- all that is not tracked is avoided -/
theorem LsAt.all {a : Addr} {xs : List V} (h : LsAt K A H a xs) : LsAt K (fun b => A b ∨ H b = none) H a xs := by
  rcases h with ⟨h, n⟩ | h
  · exact .inl ⟨h, fun z => z.elim n (Rd.some_ h)⟩
  · exact .inr h
mutual
theorem Rp.all : ∀ {v : V} {d : PyData}, Rp K A H v d → Rp K (fun b => A b ∨ H b = none) H v d
  | _, _, .non => .non
  | _, _, .bl b => .bl b
  | _, _, .int i => .int i
  | _, _, .str x h => .str x h
  | _, _, .lst h r => .lst h.all (Rps.all r)
  | _, _, .tup h r => .tup h (Rps.all r)
theorem Rps.all : ∀ {vs : List V} {ds : List PyData}, Rps K A H vs ds → Rps K (fun b => A b ∨ H b = none) H vs ds
  | _, _, .nil => .nil
  | _, _, .cons h r => .cons (Rp.all h) (Rps.all r)
end
theorem NoTup.all (h : NoTup A H) : NoTup (fun b => A b ∨ H b = none) H := fun b hb ys z => hb.elim (fun q => h b q ys z) fun q => Rd.some_ z q
theorem Kp.all (k : Kp A H H') : Kp (fun b => A b ∨ H b = none) H H' := k.weak fun _ => .inl
theorem Rep.grow (r : Rep B H σ σV) (k : Kp (fun _ => False) H H') : Rep B H' σ σV := by
  refine r.heap (fun b o e _ => k.at_ b o e fun z => z) k.tr (fun b hb ys z => ?_) fun b hb => ?_
  · cases e : H b with
    | none => exact r.exT b hb e
    | some o =>
      have q := k.at_ b o e fun z => z
      refine r.nt b (.inr hb) ys ?_
      rcases z with z | ⟨u, z⟩
      · rw [q] at z; exact .inl (e.trans z)
      · rw [q] at z; exact .inr ⟨u, e.trans z⟩
  · cases e : H b with
    | none => exact (r.exT b hb e).elim
    | some o => exact .inr (k.at_ b o e fun z => z).symm
/-! ### what is walked -/
structure Wk (K : Frag) (A : ASet) (H : Hp) (J : It) (ds : List PyData) : Prop where
  go : ∀ H' i, Kp A H H' → i < ds.length → J.go i H'
  stop : ∀ H', Kp A H H' → J.stop ds.length H'
  yld : ∀ H' i x H2, Kp A H H' → J.yld i H' x H2 → Kp (fun _ => False) H' H2 ∧ ∀ d, ds[i]? = some d → Rp K (fun b => A b ∨ H b = none) H2 x d
theorem wk_lst {a : Addr} {xs : List V} {ds : List PyData} (nt : NoTup A H) (h : LsAt K A H a xs) (r : Rps K A H xs ds) : Wk K A H (Itl K a) ds := by
  have at_ : ∀ H', Kp A H H' → SqL K H' a xs := fun H' k => (h.keep k).sq
  refine ⟨fun H' i k hi => ?_, fun H' k => ⟨xs, at_ H' k, by rw [r.len]; exact Nat.le_refl _⟩, fun H' i x H2 k y => ?_⟩
  · rw [← r.len] at hi
    exact ⟨xs, xs[i], at_ H' k, by simp [hi]⟩
  · obtain ⟨e, y⟩ := y
    subst e
    refine ⟨.refl, fun d hd => ?_⟩
    obtain ⟨u, hu, ru⟩ := r.all.get hd
    rw [y xs (at_ _ k)] at hu
    cases hu
    exact ru.keep k.all nt.all
theorem wk_tup {a : Addr} {xs : List V} {ds : List PyData} (nt : NoTup A H) (h : SqT K H a xs) (r : Rps K A H xs ds) : Wk K A H (Itt K a) ds := by
  have at_ : ∀ H', Kp A H H' → SqT K H' a xs := fun H' k => SqT.keep k nt h
  refine ⟨fun H' i k hi => ?_, fun H' k => ⟨xs, at_ H' k, by rw [r.len]; exact Nat.le_refl _⟩, fun H' i x H2 k y => ?_⟩
  · rw [← r.len] at hi
    exact ⟨xs, xs[i], at_ H' k, by simp [hi]⟩
  · obtain ⟨e, y⟩ := y
    subst e
    refine ⟨.refl, fun d hd => ?_⟩
    obtain ⟨u, hu, ru⟩ := r.all.get hd
    rw [y xs (at_ _ k)] at hu
    cases hu
    exact ru.keep k.all nt.all
theorem wk_rng (lo : Int) (n : Nat) : Wk K A H (Itr lo n) ((List.range n).map fun (k : Nat) => PyData.int (lo + (k : Int))) := by
  refine ⟨fun H' i k hi => ?_, fun H' k => ?_, fun H' i x H2 k y => ?_⟩
  · have h : i < n := by
      have z := hi
      simp at z
      omega
    exact h
  · show n ≤ _
    simp
  · obtain ⟨e, y⟩ := y
    subst e y
    refine ⟨.refl, fun d hd => ?_⟩
    have hi : i < n := by
      have := (List.getElem?_eq_some_iff.mp hd).1
      simpa using this
    have e : d = .int (lo + (i : Int)) := by
      rw [List.getElem?_map, List.getElem?_range hi] at hd
      exact (Option.some.inj hd).symm
    rw [e]
    exact .int _
theorem enumD_len : ∀ (ds : List PyData) (k : Nat), (enumD k ds).length = ds.length
  | [], _ => rfl
  | d :: ds, k => by show (enumD (k + 1) ds).length + 1 = _; rw [enumD_len ds]; rfl
theorem enumD_get : ∀ (ds : List PyData) (k i : Nat), (enumD k ds)[i]? = (ds[i]?).map fun d => .tuple [.int ((k + i : Nat) : Int), d]
  | [], _, _ => by simp [enumD]
  | d :: ds, k, 0 => by simp [enumD]
  | d :: ds, k, i + 1 => by
    show (enumD (k + 1) ds)[i]? = _
    rw [enumD_get ds (k + 1) i, show k + 1 + i = k + (i + 1) by omega]
    simp
theorem wk_enmL {a : Addr} {xs : List V} {ds : List PyData} (nt : NoTup A H) (h : LsAt K A H a xs) (r : Rps K A H xs ds) : Wk K A H (Ite K a) (enumD 0 ds) := by
  have at_ : ∀ H', Kp A H H' → SqL K H' a xs := fun H' k => (h.keep k).sq
  refine ⟨fun H' i k hi => ?_, fun H' k => ⟨xs, at_ H' k, by rw [r.len, enumD_len]; exact Nat.le_refl _⟩, fun H' i x H2 k y => ?_⟩
  · rw [enumD_len, ← r.len] at hi
    exact ⟨xs, xs[i], at_ H' k, by simp [hi]⟩
  · obtain ⟨T, x, rfl, hT, rfl, y⟩ := y
    refine ⟨.new hT, fun d hd => ?_⟩
    rw [enumD_get] at hd
    obtain ⟨d0, hd0, rfl⟩ := Option.map_eq_some_iff.mp hd
    obtain ⟨u, hu, ru⟩ := r.all.get hd0
    rw [y xs (at_ _ k)] at hu
    cases hu
    have k2 : Kp A H (upd H' T (.tup [.int ((i : Nat) : Int), x])) := k.trans (.new (A := fun _ => False) hT) fun _ z => z.elim
    rw [Nat.zero_add]
    exact .tup (SqT.of upd_same) (.cons (.int _) (.cons (ru.keep k2.all nt.all) .nil))
theorem wk_enmT {a : Addr} {xs : List V} {ds : List PyData} (nt : NoTup A H) (h : SqT K H a xs) (r : Rps K A H xs ds) : Wk K A H (IteT K a) (enumD 0 ds) := by
  have at_ : ∀ H', Kp A H H' → SqT K H' a xs := fun H' k => SqT.keep k nt h
  refine ⟨fun H' i k hi => ?_, fun H' k => ⟨xs, at_ H' k, by rw [r.len, enumD_len]⟩, fun H' i x H2 k y => ?_⟩
  · rw [enumD_len, ← r.len] at hi
    exact ⟨xs, xs[i], at_ H' k, by simp [hi]⟩
  · obtain ⟨T, x, rfl, hT, rfl, y⟩ := y
    refine ⟨.new hT, fun d hd => ?_⟩
    rw [enumD_get] at hd
    obtain ⟨d0, hd0, rfl⟩ := Option.map_eq_some_iff.mp hd
    obtain ⟨u, hu, ru⟩ := r.all.get hd0
    rw [y xs (at_ _ k)] at hu
    cases hu
    have k2 : Kp A H (upd H' T (.tup [.int ((i : Nat) : Int), x])) := k.trans (.new (A := fun _ => False) hT) fun _ z => z.elim
    rw [Nat.zero_add]
    exact .tup (SqT.of upd_same) (.cons (.int _) (.cons (ru.keep k2.all nt.all) .nil))
theorem zip_get {ds cs : List PyData} {i : Nat} {d : PyData} (h : ((ds.zip cs).map fun q => PyData.tuple [q.1, q.2])[i]? = some d) : ∃ x y, ds[i]? = some x ∧ cs[i]? = some y ∧ d = .tuple [x, y] := by
  rw [List.getElem?_map] at h
  obtain ⟨q, hq, rfl⟩ := Option.map_eq_some_iff.mp h
  rw [List.getElem?_zip_eq_some] at hq
  exact ⟨q.1, q.2, hq.1, hq.2, rfl⟩
theorem wk_zipL {a b : Addr} {xs ys : List V} {ds cs : List PyData} (nt : NoTup A H) (h : LsAt K A H a xs) (h' : LsAt K A H b ys) (r : Rps K A H xs ds) (r' : Rps K A H ys cs) : Wk K A H (Itz K a b) ((ds.zip cs).map fun q => PyData.tuple [q.1, q.2]) := by
  have at1 : ∀ H', Kp A H H' → SqL K H' a xs := fun H' k => (h.keep k).sq
  have at2 : ∀ H', Kp A H H' → SqL K H' b ys := fun H' k => (h'.keep k).sq
  have l1 := r.len
  have l2 := r'.len
  refine ⟨fun H' i k hi => ?_, fun H' k => ⟨xs, ys, at1 H' k, at2 H' k, ?_⟩, fun H' i x H2 k y => ?_⟩
  · have hi : i < ds.length ∧ i < cs.length := by
      rw [List.length_map, List.length_zip] at hi
      omega
    have q1 : i < xs.length := by omega
    have q2 : i < ys.length := by omega
    exact ⟨xs, ys, xs[i], ys[i], at1 H' k, at2 H' k, by simp [q1], by simp [q2]⟩
  · simp only [List.length_map, List.length_zip]
    omega
  · obtain ⟨T, x, z, rfl, hT, rfl, y1, y2⟩ := y
    refine ⟨.new hT, fun d hd => ?_⟩
    obtain ⟨d1, d2, e1, e2, rfl⟩ := zip_get hd
    obtain ⟨u, hu, ru⟩ := r.all.get e1
    obtain ⟨u2, hu2, ru2⟩ := r'.all.get e2
    rw [y1 xs (at1 _ k)] at hu
    rw [y2 ys (at2 _ k)] at hu2
    cases hu
    cases hu2
    have k2 : Kp A H (upd H' T (.tup [x, z])) := k.trans (.new (A := fun _ => False) hT) fun _ z => z.elim
    exact .tup (SqT.of upd_same) (.cons (ru.keep k2.all nt.all) (.cons (ru2.keep k2.all nt.all) .nil))
theorem wk_zipT {a b : Addr} {xs ys : List V} {ds cs : List PyData} (nt : NoTup A H) (h : SqT K H a xs) (h' : SqT K H b ys) (r : Rps K A H xs ds) (r' : Rps K A H ys cs) : Wk K A H (RZ.ItzT K a b) ((ds.zip cs).map fun q => PyData.tuple [q.1, q.2]) := by
  have at1 : ∀ H', Kp A H H' → SqT K H' a xs := fun H' k => SqT.keep k nt h
  have at2 : ∀ H', Kp A H H' → SqT K H' b ys := fun H' k => SqT.keep k nt h'
  have l1 := r.len
  have l2 := r'.len
  refine ⟨fun H' i k hi => ?_, fun H' k => ⟨xs, ys, at1 H' k, at2 H' k, ?_⟩, fun H' i x H2 k y => ?_⟩
  · have hi : i < ds.length ∧ i < cs.length := by
      rw [List.length_map, List.length_zip] at hi
      omega
    have q1 : i < xs.length := by omega
    have q2 : i < ys.length := by omega
    exact ⟨xs, ys, xs[i], ys[i], at1 H' k, at2 H' k, by simp [q1], by simp [q2]⟩
  · simp only [List.length_map, List.length_zip]
    omega
  · obtain ⟨T, x, z, rfl, hT, rfl, y1, y2⟩ := y
    refine ⟨.new hT, fun d hd => ?_⟩
    obtain ⟨d1, d2, e1, e2, rfl⟩ := zip_get hd
    obtain ⟨u, hu, ru⟩ := r.all.get e1
    obtain ⟨u2, hu2, ru2⟩ := r'.all.get e2
    rw [y1 xs (at1 _ k)] at hu
    rw [y2 ys (at2 _ k)] at hu2
    cases hu
    cases hu2
    have k2 : Kp A H (upd H' T (.tup [x, z])) := k.trans (.new (A := fun _ => False) hT) fun _ z => z.elim
    exact .tup (SqT.of upd_same) (.cons (ru.keep k2.all nt.all) (.cons (ru2.keep k2.all nt.all) .nil))
theorem rng0 {j : Int} : ((List.range j.toNat).map fun (k : Nat) => PyData.int (k : Int)) = (List.range j.toNat).map fun (k : Nat) => PyData.int (0 + (k : Int)) := by simp
end
section
variable {Γ : Gs} {G : Gk} {lv : Nat} {sps : Nat → Sp} {Θ : Sx} {X : Cx} {W : WX} {p : Ev} {m : Nat} {tg : Expr}
def tI (G : Gk) (W : WX) (p : S → Res (List PyData)) : TI := fun σV H R => ∃ B σ, B.of G ∧ Rep B H σ σV ∧ Pst B σ σV H W (fun ds σ' => ∀ J H', Rep B H' σ' σV → Stp B σ σ' σV H H' → Wk B.K (Av B σ' σV) H' J ds → R J H') (p σ)
theorem piI {it : Expr} {t t' : TI} (h : PI X tg it t) (k : ∀ σ H Q, t' σ H Q → t σ H Q) : PI X tg it t' := ⟨fun pins s σ H Q I q => h.run pins s σ H Q I (k _ _ _ q)⟩
theorem pi_one {it : Expr} {t : TI} {t' : TI} (h : ∀ σ H R, t' σ H R → ∃ t, PI X tg it t ∧ t σ H R) : PI X tg it t' := ⟨fun pins s σ H R I q => by
  obtain ⟨t, hp, q⟩ := h σ H R q
  exact hp.run pins s σ H R I q⟩
/-- a list or a tuple that an expression gives -/
theorem pi_seqD {it : Expr} {f : S → Res DF} (hK : X.K = G.K) (h : PE X it (tE G W f)) : PI X tg it (tI G W fun s => (f s).bind fun d s => ofO (seqD d.1) s) := by
  refine pi_one (t := iList X.K (tE G W f)) fun σV H R ⟨B, σ, g, r, q⟩ => ?_
  have hb : B.K = X.K := g.1.trans hK.symm
  have q := Pst.bind q
  cases e : f σ with
  | bad => rw [e] at q; exact q.elim
  | err c d s =>
    refine ⟨_, pi_list h, B, σ, g, r, ?_⟩
    rw [e] at q ⊢
    exact q
  | ok d s =>
    rw [e] at q
    obtain ⟨ds, hd, q⟩ := Pst.ofO (show Pst B σ σV H W _ (ofO (seqD d.1) s) from q)
    obtain ⟨d, fr⟩ := d
    cases d with
    | list l =>
      cases hd
      refine ⟨_, pi_list h, tE.mk g r ?_⟩
      rw [e]
      intro v H' r' st hv
      have hv := hv.rp r'
      rw [hb] at hv
      cases hv with
      | lst h1 h2 => exact ⟨_, rfl, ⟨_, h1.sq⟩, q _ _ r' st (by rw [hb]; exact wk_lst r'.nt h1 h2)⟩
    | tuple l =>
      cases hd
      refine ⟨_, pi_tup h, tE.mk g r ?_⟩
      rw [e]
      intro v H' r' st hv
      have hv := hv.rp r'
      rw [hb] at hv
      cases hv with
      | tup h1 h2 => exact ⟨_, rfl, ⟨_, h1⟩, q _ _ r' st (by rw [hb]; exact wk_tup r'.nt h1 h2)⟩
    | _ => cases hd
theorem items_other {e : R} {s : S} (h1 : ∀ es, e ≠ .rng es) (h2 : ∀ a, e ≠ .enm a) (h3 : ∀ a b, e ≠ .zip a b) : items p e s = (p.e e s).bind fun d s => ofO (seqD d.1) s := by
  cases e <;> first | rfl | exact (h1 _ rfl).elim | exact (h2 _ rfl).elim | exact (h3 _ _ rfl).elim
theorem chk_norng {es : List R} {e : Expr} : chkE m Γ Θ (.rng es) e = false := by
  cases m with
  | zero => rfl
  | succ m => cases e <;> rfl
theorem chk_noenm {a : R} {e : Expr} : chkE m Γ Θ (.enm a) e = false := by
  cases m with
  | zero => rfl
  | succ m => cases e <;> rfl
theorem chk_nozip {a b : R} {e : Expr} : chkE m Γ Θ (.zip a b) e = false := by
  cases m with
  | zero => rfl
  | succ m => cases e <;> rfl
theorem chk_noset {r : R} {es : List Expr} {k : Nat} {x : Pos} : chkE m Γ Θ r (.Set es k x) = false := by
  cases m with
  | zero => rfl
  | succ m => cases r <;> first | rfl | (unfold chkE; split <;> first | rfl | (rename_i q; cases q))
theorem folded_ok {r : R} {e : Expr} {env : Env} {x : Value} (h : chkE m Γ Θ r e = true) : foldedSetIterable e env x = pure x := by
  cases e <;> first
    | rfl
    | (rw [chk_noset] at h; cases h)
theorem rngD_inv {ds l : List PyData} (h : rngD ds = some l) : (∃ j, ds = [.int j] ∧ (-(2 ^ 62) ≤ j ∧ j < 2 ^ 62) ∧ l = (List.range j.toNat).map fun (k : Nat) => PyData.int (k : Int)) ∨
    ∃ i j, ds = [.int i, .int j] ∧ (-(2 ^ 62) ≤ i ∧ i < 2 ^ 62 ∧ -(2 ^ 62) ≤ j ∧ j < 2 ^ 62) ∧ l = (List.range (j - i).toNat).map fun (k : Nat) => PyData.int (i + (k : Int)) := by
  unfold rngD at h
  split at h
  · rename_i j
    split at h
    · rename_i hj
      cases h
      exact .inl ⟨j, rfl, hj, rfl⟩
    · cases h
  · rename_i i j
    split at h
    · rename_i hj
      cases h
      exact .inr ⟨i, j, rfl, hj, rfl⟩
    · cases h
  · cases h
theorem rng_pi1 {a : R} {e : Expr} {x : Str} {pos p2 : Pos} (ih : SndN Γ G lv sps p) (c : Ctx Γ G lv sps Θ X) (tk : Takes X W) (hx : x = "range") (h : gl Θ x = true) (ha : chkE m Γ Θ a e = true) :
    PI X tg (.Call (.Name x p2) [e] [] pos) (tI G W (items p (.rng [a]))) := by
  obtain ⟨g1, g2, g3⟩ := gl_ok c h
  subst hx
  refine piI (pi_range1 g1 (c.blt2 _ (by simp)) (pa_cons (opd_pe ih c tk ha) pa_nil (chk_starEach ha)) (chk_starEach ha)) fun σV H R ⟨B, σ, g, r, q⟩ => ?_
  refine opds_ok (es := [a]) g r ((Pst.bind (show Pst B σ σV H W _ ((opds p.e [a] σ).bind fun ds s => ofO (if ds.length = [a].length then rngD ds else none) s) from q)).imp fun ds σ' q vs H' r' st pp => ?_)
  obtain ⟨l, hl, q⟩ := q.ofO
  split at hl
  · rename_i hlen
    rcases rngD_inv hl with ⟨j, rfl, hj, rfl⟩ | ⟨i, j, rfl, _⟩
    · cases pp with
      | cons p1 pp =>
        cases pp
        rw [p1.int]
        exact ⟨j, rfl, hj.1, hj.2, q _ _ r' st (by rw [rng0]; exact wk_rng 0 j.toNat)⟩
    · simp at hlen
  · cases hl
theorem rng_pi2 {a b : R} {e f : Expr} {x : Str} {pos p2 : Pos} (ih : SndN Γ G lv sps p) (c : Ctx Γ G lv sps Θ X) (tk : Takes X W) (hx : x = "range") (h : gl Θ x = true) (ha : chkE m Γ Θ a e = true) (hb : chkE m Γ Θ b f = true) :
    PI X tg (.Call (.Name x p2) [e, f] [] pos) (tI G W (items p (.rng [a, b]))) := by
  obtain ⟨g1, g2, g3⟩ := gl_ok c h
  subst hx
  refine piI (pi_range2 g1 (c.blt2 _ (by simp)) (pa_cons (opd_pe ih c tk ha) (pa_cons (opd_pe ih c tk hb) pa_nil (chk_starEach hb)) (chk_starEach ha)) (by rw [chk_starEach ha, chk_starEach hb]; rfl) (chk_starEach hb)) fun σV H R ⟨B, σ, g, r, q⟩ => ?_
  refine opds_ok (es := [a, b]) g r ((Pst.bind (show Pst B σ σV H W _ ((opds p.e [a, b] σ).bind fun ds s => ofO (if ds.length = [a, b].length then rngD ds else none) s) from q)).imp fun ds σ' q vs H' r' st pp => ?_)
  obtain ⟨l, hl, q⟩ := q.ofO
  split at hl
  · rename_i hlen
    rcases rngD_inv hl with ⟨j, rfl, _⟩ | ⟨i, j, rfl, hj, rfl⟩
    · simp at hlen
    · cases pp with
      | cons p1 pp =>
        cases pp with
        | cons p2 pp =>
          cases pp
          rw [p1.int, p2.int]
          exact ⟨i, j, rfl, hj, q _ _ r' st (wk_rng i (j - i).toNat)⟩
  · cases hl
theorem enm_pi {a : R} {e : Expr} {x : Str} {pos p2 : Pos} (ih : SndN Γ G lv sps p) (c : Ctx Γ G lv sps Θ X) (tk : Takes X W) (hx : x = "enumerate") (h : gl Θ x = true) (ht : isTupE tg = true) (ha : chkE m Γ Θ a e = true) :
    PI X tg (.Call (.Name x p2) [e] [] pos) (tI G W (items p (.enm a))) := by
  obtain ⟨g1, g2, g3⟩ := gl_ok c h
  subst hx
  have hm := c.blt2 "enumerate" (by simp)
  have pa := pa_cons (ih m Θ a e X W c tk ha).pe pa_nil (chk_starEach ha)
  cases tg <;> first | (cases ht; done) | skip
  refine pi_one (t := fun _ _ _ => False) fun σV H R ⟨B, σ, g, r, q⟩ => ?_
  have hb : B.K = X.K := g.1.trans c.K.symm
  have q : Pst B σ σV H W _ ((p.e a σ).bind fun d s => ofO ((seqD d.1).map (enumD 0)) s) := q
  have q := Pst.bind q
  cases e1 : p.e a σ with
  | bad => rw [e1] at q; exact q.elim
  | err k d s =>
    refine ⟨_, pi_enum g1 hm pa (chk_starEach ha), B, σ, g, r, ?_⟩
    rw [e1] at q ⊢
    exact q
  | ok d s =>
    rw [e1] at q
    obtain ⟨ds, hd, q⟩ := Pst.ofO (show Pst B σ σV H W _ (ofO ((seqD d.1).map (enumD 0)) s) from q)
    obtain ⟨d, fr⟩ := d
    cases d with
    | list l =>
      cases hd
      refine ⟨_, pi_enum g1 hm pa (chk_starEach ha), tE.mk g r ?_⟩
      rw [e1]
      intro v H' r' st hv
      have hv := hv.rp r'
      rw [hb] at hv
      cases hv with
      | lst h1 h2 => exact ⟨_, _, rfl, h1.sq, q _ _ r' st (by rw [hb]; exact wk_enmL r'.nt h1 h2)⟩
    | tuple l =>
      cases hd
      refine ⟨_, pi_enumT g1 hm pa (chk_starEach ha), tE.mk g r ?_⟩
      rw [e1]
      intro v H' r' st hv
      have hv := hv.rp r'
      rw [hb] at hv
      cases hv with
      | tup h1 h2 => exact ⟨_, _, rfl, h1, q _ _ r' st (by rw [hb]; exact wk_enmT r'.nt h1 h2)⟩
    | _ => cases hd
theorem zip_pi {a b : R} {e f : Expr} {x : Str} {pos p2 : Pos} (ih : SndN Γ G lv sps p) (c : Ctx Γ G lv sps Θ X) (tk : Takes X W) (hx : x = "zip") (h : gl Θ x = true) (ht : isTupE tg = true) (ha : chkE m Γ Θ a e = true) (hb2 : chkE m Γ Θ b f = true) :
    PI X tg (.Call (.Name x p2) [e, f] [] pos) (tI G W (items p (.zip a b))) := by
  obtain ⟨g1, g2, g3⟩ := gl_ok c h
  subst hx
  have hm := c.blt2 "zip" (by simp)
  have pa := pa_cons (ih m Θ a e X W c tk ha).pe (pa_cons (ih m Θ b f X W c tk hb2).pe pa_nil (chk_starEach hb2)) (chk_starEach ha)
  have hpl : (backTo pos (starEach [f] X.env)).any (·.1) = false := by rw [chk_starEach hb2]; rfl
  cases tg <;> first | (cases ht; done) | skip
  refine piI (RZ.pi_zipA g1 hm pa (chk_starEach ha) hpl) fun σV H R ⟨B, σ, g, r, q⟩ => ?_
  have hb : B.K = X.K := g.1.trans c.K.symm
  have q : Pst B σ σV H W _ ((p.e a σ).bind fun d s => (p.e b s).bind fun d' s => ofO (zipD d.1 d'.1) s) := q
  refine tE.mk g r ((Pst.bind q).imp fun d σ1 q v H1 r1 st1 hv => tE.mk g r1 ((Pst.back st1 q).bind.imp fun d' σ2 q v2 H2 r2 st2 hv2 => ?_))
  obtain ⟨ds, hd, q⟩ := q.ofO
  have h1 := Rp.stp r1 st2 (hv.rp r1)
  have h2 := hv2.rp r2
  rw [hb] at h1 h2
  unfold zipD at hd
  split at hd
  · rename_i l l' e1 e2
    cases hd
    rw [e1] at h1
    rw [e2] at h2
    cases h1 with
    | lst a1 a2 =>
      cases h2 with
      | lst b1 b2 => exact ⟨_, _, _, _, rfl, .inl ⟨a1.sq, b1.sq, q _ _ r2 (st1.trans st2) (by rw [hb]; exact wk_zipL r2.nt a1 b1 a2 b2)⟩⟩
  · rename_i l l' e1 e2
    cases hd
    rw [e1] at h1
    rw [e2] at h2
    cases h1 with
    | tup a1 a2 =>
      cases h2 with
      | tup b1 b2 => exact ⟨_, _, _, _, rfl, .inr ⟨a1, b1, q _ _ r2 (st1.trans st2) (by rw [hb]; exact wk_zipT r2.nt a1 b1 a2 b2)⟩⟩
  · cases hd
theorem chk_items {it : R} {e : Expr} (ih : SndN Γ G lv sps p) (c : Ctx Γ G lv sps Θ X) (tk : Takes X W) (h : chkI Θ (chkE m Γ Θ) tg it e = true) : PI X tg e (tI G W (items p it)) ∧ ∀ env x, foldedSetIterable e env x = pure x := by
  unfold chkI at h
  split at h
  · obtain ⟨h, h4⟩ := and_ h
    obtain ⟨h, h3⟩ := and_ h
    obtain ⟨h1, h2⟩ := and_ h
    exact ⟨enm_pi ih c tk (eq_of_beq h1) h2 h3 h4, fun _ _ => rfl⟩
  · obtain ⟨h, h5⟩ := and_ h
    obtain ⟨h, h4⟩ := and_ h
    obtain ⟨h, h3⟩ := and_ h
    obtain ⟨h1, h2⟩ := and_ h
    exact ⟨zip_pi ih c tk (eq_of_beq h1) h2 h3 h4 h5, fun _ _ => rfl⟩
  · obtain ⟨h, h3⟩ := and_ h
    obtain ⟨h1, h2⟩ := and_ h
    exact ⟨rng_pi1 ih c tk (eq_of_beq h1) h2 h3, fun _ _ => rfl⟩
  · obtain ⟨h, h4⟩ := and_ h
    obtain ⟨h, h3⟩ := and_ h
    obtain ⟨h1, h2⟩ := and_ h
    exact ⟨rng_pi2 ih c tk (eq_of_beq h1) h2 h3 h4, fun _ _ => rfl⟩
  · refine ⟨piI (pi_seqD c.K (ih m Θ it e X W c tk h).pe) fun σV H R ⟨B, σ, g, r, q⟩ => ⟨B, σ, g, r, ?_⟩, fun _ _ => folded_ok h⟩
    rw [items_other (fun es z => by rw [z, chk_norng] at h; cases h) (fun es z => by rw [z, chk_noenm] at h; cases h) (fun _ es z => by rw [z, chk_nozip] at h; cases h)] at q
    exact q
/-! ### targets -/
def gS : List Nat → TGs
  | [] => gNil
  | i :: is => gCons (gName i) (gS is)
def gT (K : Frag) : T → TG
  | .nm i => gName i
  | .tp is => gTup K is.length (gS is)
theorem pg_nm {i : Nat} {x : Str} {pos : Pos} (c : Ctx Γ G lv sps Θ X) (h : isTgt Θ i x = true) : PG X (.Name x pos) (gName i) := by
  unfold isTgt at h
  obtain ⟨h1, h2⟩ := and_ h
  have h1 : X.N[i]? = some x := by rw [c.N]; exact eq_of_beq h1
  have nd : X.N.Nodup := by rw [c.N]; exact c.nd
  rcases Bool.or_eq_true_iff.mp h2 with h2 | h2
  · have h2 := c.loc x .local (by simp) (eq_of_beq h2)
    rw [← c.sc] at h2
    exact pg_name nd h1 (.inl h2) (.inr h2)
  · have h3 := c.fn x (eq_of_beq h2)
    have h2 := c.loc x .cell (by simp) (eq_of_beq h2)
    rw [← c.sc] at h2
    exact pg_name nd h1 (.inr h2) (.inl h3)
theorem chk_tgs (c : Ctx Γ G lv sps Θ X) : ∀ {is : List Nat} {es : List Expr}, all2 (fun i e => match e with | .Name x _ => isTgt Θ i x | _ => false) is es = true →
    PGs X es (gS is) ∧ (assignEach es X.env).length = is.length ∧ (assignEach es X.env).findIdx? (·.1) = none
  | [], [], _ => ⟨pgs_nil, rfl, rfl⟩
  | i :: is, e :: es, h => by
    obtain ⟨h1, h2⟩ := and_ h
    obtain ⟨a, b, d⟩ := chk_tgs c h2
    cases e with
    | Name x pos =>
      refine ⟨pgs_cons (pg_nm c h1) a, ?_, ?_⟩
      · show (assignEach es X.env).length + 1 = _
        rw [b]; rfl
      · show List.findIdx? (·.1) ((false, assign (.Name x pos) X.env) :: assignEach es X.env) = none
        rw [List.findIdx?_cons, d]; rfl
    | _ => cases h1
  | [], _ :: _, h => by cases h
  | _ :: _, [], h => by cases h
theorem chk_tg {t : T} {e : Expr} (c : Ctx Γ G lv sps Θ X) (h : chkT Θ t e = true) : PG X e (gT G.K t) := by
  unfold chkT at h
  split at h
  · exact pg_nm c h
  · obtain ⟨a, b, d⟩ := chk_tgs c h
    rw [← c.K]
    exact pg_tup c.gx.calm a b d
  · cases h
end
section
variable {B : Vw} {H H' : Hp} {σ σ' : S} {σV : L2.St} {v : V} {d : PyData} {Q : L2.St → Hp → Prop}
theorem ro_set {i : Nat} {x : Option V} (a : Addr) : RO (σ.set i (some (.pl d))) (σV.set i x) a → RO σ σV a := fun ⟨j, ⟨d', hd⟩, hv⟩ => by
  by_cases hj : j = i
  · subst hj
    by_cases hi : j < σ.length
    · rw [List.getElem?_set_self hi] at hd
      rcases hd with hd | hd <;> cases hd
    · rw [List.getElem?_eq_none (by simpa using hi)] at hd
      rcases hd with hd | hd <;> cases hd
  · rw [List.getElem?_set_ne (Ne.symm hj)] at hd hv
    exact ⟨j, ⟨d', hd⟩, hv⟩
theorem setAll_ok : ∀ {is : List Nat} {ds : List PyData} {vs : List V} {σ σ' : S} {σV : L2.St}, Rep B H σ σV → Rps B.K (Av B σ σV) H vs ds → setAll σ is ds = some σ' →
    (∀ σV', Rep B H σ' σV' → Off is σV σV' → (∀ a, RO σ' σV' a → RO σ σV a) → Q σV' H) → gS is vs σV H Q ∧ vs.length = is.length
  | [], [], _, σ, σ', σV, r, h, e, k => by
    cases h
    cases e
    exact ⟨⟨rfl, k _ r .refl fun _ z => z⟩, rfl⟩
  | i :: is, d :: ds, _, σ, σ', σV, r, h, e, k => by
    cases h with
    | @cons v vs _ _ h1 h2 =>
      have q := setAll_ok (is := is) (r.set (i := i) h1) (h2.weak fun b z => z.elim (fun y => .inl (ro_set b y)) .inr) e fun σV' r' o ro => k σV' r' ((Off.set (some v) (by simp)).trans (o.mono fun j hj => by simp [hj])) fun a z => ro_set a (ro a z)
      exact ⟨⟨v, vs, rfl, q.1⟩, by simp [q.2]⟩
  | [], _ :: _, _, _, _, _, _, _, e, _ => by cases e
  | _ :: _, [], _, _, _, _, _, _, e, _ => by cases e
theorem asg_ok {t : T} (r : Rep B H σ σV) (h : Rp B.K (Av B σ σV) H v d) (e : asgT t d σ = some σ') (k : ∀ σV', Rep B H σ' σV' → Off (tgSlots t) σV σV' → (∀ a, RO σ' σV' a → RO σ σV a) → Q σV' H) : gT B.K t v σV H Q := by
  cases t with
  | nm i =>
    cases e
    exact k _ (r.set h) (Off.set _ (by simp [tgSlots])) ro_set
  | tp is =>
    cases d with
    | tuple ds =>
      cases h with
      | tup h1 h2 =>
        have q := setAll_ok (is := is) r h2 e k
        exact ⟨_, _, rfl, h1, q.2, q.1⟩
    | _ => cases e
end
end Pv
/-! Pv9: comprehensions. -/
namespace Pv
open PySem PySem.Spec PyProof.Rows L2
theorem Kp.less {A : ASet} {D : Addr} {H H' : Hp} (h : H D = none) (k : Kp (fun b => A b ∨ b = D) H H') : Kp A H H' :=
  ⟨fun b o e n => k.at_ b o e fun z => z.elim n fun q => (by rw [q, h] at e; cases e), k.tr⟩
theorem ro_wipe {σ : S} {σV : L2.St} {own : List Nat} : ∀ a, RO (wipeS σ own) (L2.wipe σV own) a → RO σ σV a := fun a ⟨i, ⟨d, hd⟩, hv⟩ => by
  rw [wipeS_at] at hd
  rw [wipe_at] at hv
  by_cases hi : i ∈ own
  · rw [if_pos hi] at hv
    cases e : σV[i]? with
    | none => rw [e] at hv; cases hv
    | some x => rw [e] at hv; cases hv
  · rw [if_neg hi] at hd hv
    exact ⟨i, ⟨d, hd⟩, hv⟩
/-- a list that we may not reach is changed by whoever may -/
theorem Rep.putEx {B : Vw} {H : Hp} {σ : S} {σV : L2.St} {D : Addr} {xs ys : List V} (r : Rep (B.ex D) H σ σV) (h : H D = some (.lst xs)) (h0 : B.H0 D = none) : Rep (B.ex D) (upd H D (.lst ys)) σ σV := by
  refine r.heap (fun b o e n => ?_) (fun b e => ?_) (fun b hb zs z => ?_) fun b hb => ?_
  · rw [upd_ne (fun z => n (.inr z))]; exact e
  · by_cases hb : b = D
    · subst hb; rw [upd_same] at e; cases e
    · rw [upd_ne hb] at e; exact e
  · by_cases he : b = D
    · subst he; rcases z with z | ⟨o, z⟩ <;> (rw [upd_same] at z; cases z)
    · refine r.nt b (.inr hb) zs ?_
      rcases z with z | ⟨u, z⟩
      · rw [upd_ne he] at z; exact .inl z
      · rw [upd_ne he] at z; exact .inr ⟨u, z⟩
  · by_cases he : b = D
    · subst he; exact .inl h0
    · exact .inr (upd_ne he).symm
section
variable {Γ : Gs} {G : Gk} {lv : Nat} {sps : Nat → Sp} {Θ : Sx} {X : Cx} {W : WX} {p : Ev} {m : Nat}
theorem Ctx.blk (c : Ctx Γ G lv sps Θ X) (s : Shared) (H : Hp) (sc : Scope) (cl : List (Str × Addr)) (C : Addr) (fp : List Addr) : Ctx Γ G lv sps (inBlk Θ sc) (X.blk s H sc (compEnvC sc cl C X.env) fp) :=
  { gx := ⟨c.gx.hu, c.gx.calm, c.gx.hd, c.gx.gd⟩, K := c.K, N := c.N, sc := by show relS sc X.env.scope = relS sc Θ.sc; rw [c.sc], nd := c.nd,
    fn := fun x h => by show (sc.names.lookup x == some NameKind.cell) = true; rw [show sc.names.lookup x = some .cell from h]; rfl,
    loc := fun x k hk h => lookup_relS_keep hk h, room := c.room, blt := c.blt, blt2 := c.blt2, xs := c.xs, cns := c.cns, lib := c.lib, fns := c.fns }
abbrev W0 : WX := fun _ _ _ _ => False
theorem noErr_ok {α : Type} {B : Vw} {σ : S} {σV : L2.St} {H : Hp} {q : α → S → Prop} {r : Res α} (h : Pst B σ σV H W q (noErr r)) : ∃ a s, r = .ok a s ∧ q a s := by
  cases r with
  | ok a s => exact ⟨a, s, rfl, h⟩
  | err c d s => exact h.elim
  | bad => exact h.elim
theorem bind_ok {α β : Type} {r : Res α} {f : α → S → Res β} {b : β} {s : S} (h : r.bind f = .ok b s) : ∃ a s', r = .ok a s' ∧ f a s' = .ok b s := by
  cases r with
  | ok a s' => exact ⟨a, s', rfl, h⟩
  | err c d s' => cases h
  | bad => cases h
theorem ofO_ok {α : Type} {o : Option α} {a : α} {s s' : S} (h : ofO o s = .ok a s') : o = some a ∧ s = s' := by
  cases o with
  | none => cases h
  | some x => cases h; exact ⟨rfl, rfl⟩
def lcTurn (p : Ev) (elt : R) (t : T) (ifs : List R) (d : PyData) (s : S) : Res (List PyData) := (asgR t d s).bind fun _ s => (testsL p.t ifs s).bind fun b s =>
  if b then (p.e elt s).bind fun x s => .ok [x.1] s else .ok [] s
theorem asgR_ok {t : T} {d : PyData} {s s' : S} {u : Unit} (h : asgR t d s = .ok u s') : asgT t d s = some s' := by
  unfold asgR at h
  obtain ⟨a, s1, h1, h2⟩ := bind_ok h
  cases h2
  exact (ofO_ok h1).1
theorem lc_tests {Θ : Sx} {X : Cx} (ih : SndN Γ G lv sps p) (c : Ctx Γ G lv sps Θ X) (tk : Takes X W) : ∀ {ifs : List R} {tests : List Expr}, ifs.length ≤ 1 → all2 (chkE m Γ Θ) ifs tests = true → PTs X tests (tT G W (testsL p.t ifs))
  | [], [], _, _ => ⟨fun pins s σV H Q I ⟨B, σ, g, r, q⟩ => pts_nil.run pins s σV H Q I (q H r .refl)⟩
  | [e], [f], _, h => ⟨fun pins s σV H Q I ⟨B, σ, g, r, q⟩ => (pts_one (ih m Θ e f X W c tk (and_ h).1).pt).run pins s σV H Q I (tT.mk g r ((Pst.bind (show Pst B σ σV H W _ ((p.t e σ).bind fun b s => if b then .ok true s else .ok false s) from q)).imp fun b σ' q => by
      cases b with
      | true => exact q
      | false => exact q))⟩
  | _ :: _ :: _, _, h, _ => by simp at h
  | [], _ :: _, _, h => by cases h
  | [e], [], _, h => by cases h
  | [e], _ :: _ :: _, _, h => by have := (and_ h).2; cases this
theorem getElem_drop {α : Type} {l : List α} {i : Nat} {d : α} (h : l[i]? = some d) : l.drop i = d :: l.drop (i + 1) := by
  obtain ⟨hi, e⟩ := List.getElem?_eq_some_iff.mp h
  rw [List.drop_eq_getElem_cons hi, e]
/-- the walk of a comprehension with one clause -/
theorem lc_law {it elt : R} {own : List Nat} {t : T} {ifs : List R} {σV : L2.St} {H : Hp} {Q : VK} {P : Prg} (hown : own = tgSlots t) (h : tE G W (stepE P p (.lc elt own t it ifs)) σV H Q) :
    tLc (tI G W (items p it)) (gT G.K t) (tT G W0 (testsL p.t ifs)) (tE G W0 (p.e elt)) own σV H Q := by
  obtain ⟨B, σ, g, r, q⟩ := h
  refine ⟨B, σ, g, r, (Pst.bind (show Pst B σ σV H W _ ((items p it σ).bind fun ds s₁ => if plainOwn s₁ own then noErr ((lcL own (lcTurn p elt t ifs) ds s₁).bind fun l s => if l.length ≤ line then .ok ((.list l : PyData), true) (backS s₁ s own) else .bad) else .bad) from q)).imp fun ds σ1 q J H1 r1 st wk D hD => ?_⟩
  split at q
  · rename_i po
    obtain ⟨x, sF, e, q⟩ := noErr_ok q
    obtain ⟨L, sE, eL, e⟩ := bind_ok e
    split at e
    · rename_i hL
      cases e
      have gD : (B.ex D).of G := g
      have h0D : B.H0 D = none := r1.ext D hD
      refine ⟨fun i m Hc => m = ds.length - i ∧ i ≤ ds.length ∧ ∃ (σc : S) (acc : List V) (dacc l : List PyData), Rep (B.ex D) Hc (wipeS σc own) (L2.wipe σV own) ∧ Kp (RO σ1 σV) H1 Hc ∧ (∀ a, RO (wipeS σc own) (L2.wipe σV own) a → RO σ1 σV a) ∧
        Hc D = some (.lst acc) ∧ Rps B.K (Av (B.ex D) (wipeS σc own) (L2.wipe σV own)) Hc acc dacc ∧ lcL own (lcTurn p elt t ifs) (ds.drop i) σc = .ok l sE ∧ dacc ++ l = L, ⟨ds.length, rfl, Nat.zero_le _, σ1, [], [], L, ?_⟩, ?_⟩
      · exact ⟨(r1.newEx hD).wipe own, (Kp.new hD).less hD |> fun k => k, ro_wipe, upd_same, .nil, eL, rfl⟩
      · rintro i m Hc ⟨rfl, hi, σc, acc, dacc, l, rc, kc, roc, hDc, hacc, el, hl⟩
        have kA : Kp (Av B σ1 σV) H1 Hc := kc.weak fun _ => .inl
        by_cases hlt : i < ds.length
        · refine .inr ⟨wk.go Hc i kA hlt, fun Hn => i + 1 ≤ ds.length ∧ ∃ (σc : S) (acc : List V) (dacc l : List PyData), Rep (B.ex D) Hn (wipeS σc own) (L2.wipe σV own) ∧ Kp (RO σ1 σV) H1 Hn ∧ (∀ a, RO (wipeS σc own) (L2.wipe σV own) a → RO σ1 σV a) ∧
            Hn D = some (.lst acc) ∧ Rps B.K (Av (B.ex D) (wipeS σc own) (L2.wipe σV own)) Hn acc dacc ∧ lcL own (lcTurn p elt t ifs) (ds.drop (i + 1)) σc = .ok l sE ∧ dacc ++ l = L, fun H' hn => ⟨_, (by omega), rfl, hn⟩, fun x H' y => ?_⟩
          obtain ⟨k1, hx⟩ := wk.yld Hc i x H' kA y
          have hd : ds[i]? = some ds[i] := by simp [hlt]
          have hx := hx _ hd
          rw [getElem_drop hd] at el
          obtain ⟨xs, s3, et, el⟩ := bind_ok (show (lcTurn p elt t ifs ds[i] (wipeS σc own)).bind (fun xs s => (lcL own (lcTurn p elt t ifs) (ds.drop (i + 1)) s).bind fun ys s => .ok (xs ++ ys) s) = .ok l sE from el)
          obtain ⟨ys, s3', el2, e⟩ := bind_ok el
          cases e
          obtain ⟨_, s4, ea, et⟩ := bind_ok et
          obtain ⟨b, s5, eb, et⟩ := bind_ok et
          have ea := asgR_ok ea
          have r' := rc.grow k1
          have k2 : Kp (RO σ1 σV) H1 H' := kc.trans k1 fun _ z => z.elim
          have hx' : Rp (B.ex D).K (Av (B.ex D) (wipeS σc own) (L2.wipe σV own)) H' x ds[i] := hx.weak fun a z => by
            rcases z with z | (z | z)
            · exact .inl (.inl (roc a z))
            · exact .inl (.inr z)
            · exact .inr (by rw [z]; exact hD)
          have hacc' := (hacc.keep (k1.weak fun _ z => z.elim) rc.nt)
          have hD' : H' D = some (.lst acc) := k1.at_ _ _ hDc fun z => z
          rw [show G.K = (B.ex D).K from g.1.symm]
          refine asg_ok r' hx' ea fun σV' r4 off ro4 => ?_
          have hw : L2.wipe σV' own = L2.wipe σV own := by
            have o : Off own σV σV' := Off.wiped.trans (by rw [hown] at off ⊢; exact off)
            exact o.wipe
          refine ⟨hw, tT.mk gD r4 ?_⟩
          rw [eb]
          intro H3 r5 st5
          have hD3 : H3 D = some (.lst acc) := st5.kp.at_ _ _ hD' fun z => r4.exr D z (.inr rfl)
          have k3 : Kp (RO σ1 σV) H1 H3 := k2.trans st5.kp fun a z => .inl (roc a (ro4 a z))
          have hacc3 := Rps.stp r4 st5 (hacc'.weak fun a z => z.elim (fun y => .inl (ro4 a y)) .inr)
          have wp : ∀ {σw : S} {Hw : Hp}, Rep (B.ex D) Hw σw σV' → Rep (B.ex D) Hw (wipeS σw own) (L2.wipe σV own) := fun rw_ => by
            have := rw_.wipe own
            rw [hw] at this
            exact this
          have rw_ : ∀ {σw : S}, ∀ a, RO (wipeS σw own) (L2.wipe σV own) a → RO σw σV' a := fun {σw} a z => ro_wipe (σ := σw) (σV := σV') (own := own) a (by rw [hw]; exact z)
          cases b with
          | false =>
            cases et
            exact ⟨hlt, s3, acc, dacc, ys, wp r5, k3, fun a z => roc a (ro4 a (st5.ro a (rw_ a z))), hD3, hacc3.weak fun a z => z.elim (fun y => .inl (rw_ a y)) .inr, el2, hl⟩
          | true =>
            obtain ⟨xv, s6, ex, et⟩ := bind_ok et
            cases et
            refine tE.mk gD r5 ?_
            rw [ex]
            intro v H4 r6 st6 hv
            have hD4 : H4 D = some (.lst acc) := st6.kp.at_ _ _ hD3 fun z => r5.exr D z (.inr rfl)
            have k4 : Kp (RO σ1 σV) H1 H4 := k3.trans st6.kp fun a z => .inl (roc a (ro4 a (st5.ro a z)))
            have hacc4 := Rps.stp r5 st6 hacc3
            have hlen : acc.length < line := by
              have h1 := hacc.len
              have h2 : (dacc ++ ([xv.1] ++ ys)).length ≤ line := by rw [hl]; exact hL
              simp only [List.length_append, List.length_cons, List.length_nil] at h2
              omega
            refine ⟨acc, hD4, hlen, hlt, s3, acc ++ [v], dacc ++ [xv.1], ys, (wp r6).putEx hD4 h0D, ?_, fun a z => roc a (ro4 a (st5.ro a (st6.ro a (rw_ a z)))), upd_same, ?_, el2, by simpa using hl⟩
            · exact k4.trans (Kp.put (A := fun b => b = D) rfl) fun a z => .inr (by rw [z]; exact hD)
            · have h := hacc4.app (.cons (hv.rp r6) .nil)
              exact (h.keep (Kp.put (.inr (.inr rfl))) r6.nt).weak fun a z => z.elim (fun y => .inl (rw_ a y)) .inr
        · have hie : i = ds.length := by omega
          subst hie
          rw [List.drop_length] at el
          cases el
          have hl : dacc = L := by simpa using hl
          subst hl
          refine .inl ⟨wk.stop Hc kA, ?_⟩
          have kD : Kp (fun b => Av B σ1 σV b ∨ b = D) H1 Hc := kc.weak fun _ z => .inl (.inl z)
          obtain ⟨rb, rob⟩ := Rep.back r1 rc hD kD roc po
          have nD : ¬ Av B (backS σ1 sE own) σV D := fun z => by
            rcases z with z | z
            · exact rb.exr D z (.inr rfl)
            · exact r1.exT D z hD
          refine q _ _ rb.unex (st.trans ⟨kc, fun a z => roc a (rob a z)⟩) ⟨D, rfl, st.kp.tr D hD, nD, rb, acc, hDc, ?_⟩
          exact hacc.weak fun a z => z.elim (fun y => .inl (rob a y)) .inr
    · cases e
  · exact q.elim
theorem snd_lc {P : Prg} {it elt : R} {own : List Nat} {t : T} {ifs : List R} {f tg ite : Expr} {tests : List Expr} {sc : Scope} {pos : Pos} (ih : SndN Γ G lv sps p) (c : Ctx Γ G lv sps Θ X) (tk : Takes X W)
    (hb : blkC Θ.N Θ.sc sc ((tgNames tg).zip own) = true) (hz : (((tgNames tg).zip own).map (·.2) == own) = true) (ho : (own == tgSlots t) = true) (hi : ifs.length ≤ 1) (ht : chkT (inBlk Θ sc) t tg = true)
    (hit : chkI Θ (chkE m Γ Θ) tg it ite = true) (hifs : all2 (chkE m Γ (inBlk Θ sc)) ifs tests = true) (he : chkE m Γ (inBlk Θ sc) elt f = true) :
    Snd G X W (.ListComp f [⟨tg, ite, tests, 0⟩] sc pos) (stepE P p (.lc elt own t it ifs)) (stepT P p (.lc elt own t it ifs)) := by
  obtain ⟨pi, fo⟩ := chk_items ih c tk hit
  have bk := blkOk_by hb
  rw [← c.N, ← c.sc] at bk
  have pe := pe_lc (pos := pos) (tt := tT G W0 (testsL p.t ifs)) (te := tE G W0 (p.e elt)) (g := gT G.K t) c.gx.calm (by rw [c.N]; exact c.nd) pi bk (fun s H C cl fp => chk_tg (c.blk s H sc cl C fp) ht) (fun s H C cl fp => lc_tests ih (c.blk s H sc cl C fp) takes0 hi hifs)
    (fun s H C cl fp => (ih m (inBlk Θ sc) elt f _ W0 (c.blk s H sc cl C fp) takes0 he).pe) (fun x => fo _ x)
  rw [eq_of_beq hz] at pe
  exact snd_of c.K (peI pe fun σV H Q h => lc_law (eq_of_beq ho) h) fun _ => rfl
end
end Pv
/-! Ps3: comprehensions of two clauses. -/
namespace Pv
open PySem PySem.Spec PyProof.Rows L2
section
variable {Γ : Gs} {G : Gk} {lv : Nat} {sps : Nat → Sp} {Θ : Sx} {X : Cx} {W : WX} {p : Ev} {m : Nat}
theorem wipeS_wipeS (s : S) {own own2 : List Nat} (h : ∀ i ∈ own2, i ∈ own) : wipeS (wipeS s own2) own = wipeS s own := by
  refine List.ext_getElem? fun j => ?_
  rw [wipeS_at, wipeS_at, wipeS_at]
  by_cases h1 : j ∈ own
  · rw [if_pos h1, if_pos h1]
    by_cases h2 : j ∈ own2
    · rw [if_pos h2]; cases s[j]? <;> rfl
    · rw [if_neg h2]
  · rw [if_neg h1, if_neg h1, if_neg fun z => h1 (h j z)]
theorem wipe_wipe (s : L2.St) {own own2 : List Nat} (h : ∀ i ∈ own2, i ∈ own) : L2.wipe (L2.wipe s own2) own = L2.wipe s own := by
  refine List.ext_getElem? fun j => ?_
  rw [wipe_at, wipe_at, wipe_at]
  by_cases h1 : j ∈ own
  · rw [if_pos h1, if_pos h1]
    by_cases h2 : j ∈ own2
    · rw [if_pos h2]; cases s[j]? <;> rfl
    · rw [if_neg h2]
  · rw [if_neg h1, if_neg h1, if_neg fun z => h1 (h j z)]
/-- the walk of a comprehension's inner clause, its list at D -/
theorem lc_inner {elt : R} {own : List Nat} {t : T} {ifs : List R} {B : Vw} {D : Addr} {H1 : Hp} {σ1 sE : S} {σV : L2.St} {J : It} {ds dacc L : List PyData} {acc : List V} {Nx : Hp → Prop} (hown : own = tgSlots t) (gD : (B.ex D).of G) (h0D : B.H0 D = none)
    (r1 : Rep (B.ex D) H1 σ1 σV) (wk : Wk B.K (Av (B.ex D) σ1 σV) H1 J ds) (hD1 : H1 D = some (.lst acc)) (hacc1 : Rps B.K (Av (B.ex D) σ1 σV) H1 acc dacc) (eL : lcL own (lcTurn p elt t ifs) ds σ1 = .ok L sE) (hL : dacc.length + L.length ≤ line)
    (k : ∀ H' acc', Rep (B.ex D) H' (wipeS sE own) (L2.wipe σV own) → Kp (fun a => RO σ1 σV a ∨ a = D) H1 H' → (∀ a, RO (wipeS sE own) (L2.wipe σV own) a → RO σ1 σV a) → H' D = some (.lst acc') → Rps B.K (Av (B.ex D) (wipeS sE own) (L2.wipe σV own)) H' acc' (dacc ++ L) → Nx H') :
    ∃ W1 : Nat → Nat → Hp → Prop, (∃ m, W1 0 m H1) ∧ ∀ i m H, W1 i m H →
      (J.stop i H ∧ Nx H) ∨ (J.go i H ∧ ∃ Nx1 : Hp → Prop, (∀ H', Nx1 H' → ∃ m', m' < m ∧ W1 (i + 1) m' H') ∧ ∀ x H', J.yld i H x H' → gT G.K t x (L2.wipe σV own) H' fun σ2 H2 => L2.wipe σ2 own = L2.wipe σV own ∧ tT G W0 (testsL p.t ifs) σ2 H2 fun b H3 =>
        if b = true then tE G W0 (p.e elt) σ2 H3 fun y H4 => ∃ acc, H4 D = some (.lst acc) ∧ acc.length < sizeLine ∧ Nx1 (upd H4 D (.lst (acc ++ [y]))) else Nx1 H3) := by
  refine ⟨fun i m Hc => m = ds.length - i ∧ i ≤ ds.length ∧ ∃ (σc : S) (acc : List V) (dac l : List PyData), Rep (B.ex D) Hc (wipeS σc own) (L2.wipe σV own) ∧ Kp (fun a => RO σ1 σV a ∨ a = D) H1 Hc ∧ (∀ a, RO (wipeS σc own) (L2.wipe σV own) a → RO σ1 σV a) ∧
    Hc D = some (.lst acc) ∧ Rps B.K (Av (B.ex D) (wipeS σc own) (L2.wipe σV own)) Hc acc dac ∧ lcL own (lcTurn p elt t ifs) (ds.drop i) σc = .ok l sE ∧ dac ++ l = dacc ++ L, ⟨ds.length, rfl, Nat.zero_le _, σ1, acc, dacc, L, ?_⟩, ?_⟩
  · exact ⟨r1.wipe own, .refl, ro_wipe, hD1, hacc1.weak fun a z => z.elim (fun y => .inl (ro_wipe a y)) .inr, eL, rfl⟩
  · rintro i m Hc ⟨rfl, hi, σc, acc, dac, l, rc, kc, roc, hDc, hacc, el, hl⟩
    have kA : Kp (Av (B.ex D) σ1 σV) H1 Hc := kc.weak fun a z => z.elim .inl fun y => .inr (.inr y)
    by_cases hlt : i < ds.length
    · refine .inr ⟨wk.go Hc i kA hlt, fun Hn => i + 1 ≤ ds.length ∧ ∃ (σc : S) (acc : List V) (dac l : List PyData), Rep (B.ex D) Hn (wipeS σc own) (L2.wipe σV own) ∧ Kp (fun a => RO σ1 σV a ∨ a = D) H1 Hn ∧ (∀ a, RO (wipeS σc own) (L2.wipe σV own) a → RO σ1 σV a) ∧
        Hn D = some (.lst acc) ∧ Rps B.K (Av (B.ex D) (wipeS σc own) (L2.wipe σV own)) Hn acc dac ∧ lcL own (lcTurn p elt t ifs) (ds.drop (i + 1)) σc = .ok l sE ∧ dac ++ l = dacc ++ L, fun H' hn => ⟨_, (by omega), rfl, hn⟩, fun x H' y => ?_⟩
      obtain ⟨k1, hx⟩ := wk.yld Hc i x H' kA y
      have hd : ds[i]? = some ds[i] := by simp [hlt]
      have hx := hx _ hd
      rw [getElem_drop hd] at el
      obtain ⟨xs, s3, et, el⟩ := bind_ok (show (lcTurn p elt t ifs ds[i] (wipeS σc own)).bind (fun xs s => (lcL own (lcTurn p elt t ifs) (ds.drop (i + 1)) s).bind fun ys s => .ok (xs ++ ys) s) = .ok l sE from el)
      obtain ⟨ys, s3', el2, e⟩ := bind_ok el
      cases e
      obtain ⟨_, s4, ea, et⟩ := bind_ok et
      obtain ⟨b, s5, eb, et⟩ := bind_ok et
      have ea := asgR_ok ea
      have r' := rc.grow k1
      have k2 : Kp (fun a => RO σ1 σV a ∨ a = D) H1 H' := kc.trans k1 fun _ z => z.elim
      have hx' : Rp (B.ex D).K (Av (B.ex D) (wipeS σc own) (L2.wipe σV own)) H' x ds[i] := hx.weak fun a z => .inl (by
        rcases z with z | z
        · exact .inl (roc a z)
        · exact .inr z)
      have hacc' := (hacc.keep (k1.weak fun _ z => z.elim) rc.nt)
      have hD' : H' D = some (.lst acc) := k1.at_ _ _ hDc fun z => z
      rw [show G.K = (B.ex D).K from gD.1.symm]
      refine asg_ok r' hx' ea fun σV' r4 off ro4 => ?_
      have hw : L2.wipe σV' own = L2.wipe σV own := by
        have o : Off own σV σV' := Off.wiped.trans (by rw [hown] at off ⊢; exact off)
        exact o.wipe
      refine ⟨hw, tT.mk gD r4 ?_⟩
      rw [eb]
      intro H3 r5 st5
      have hD3 : H3 D = some (.lst acc) := st5.kp.at_ _ _ hD' fun z => r4.exr D z (.inr rfl)
      have k3 : Kp (fun a => RO σ1 σV a ∨ a = D) H1 H3 := k2.trans st5.kp fun a z => .inl (.inl (roc a (ro4 a z)))
      have hacc3 := Rps.stp r4 st5 (hacc'.weak fun a z => z.elim (fun y => .inl (ro4 a y)) .inr)
      have wp : ∀ {σw : S} {Hw : Hp}, Rep (B.ex D) Hw σw σV' → Rep (B.ex D) Hw (wipeS σw own) (L2.wipe σV own) := fun rw_ => by
        have := rw_.wipe own
        rw [hw] at this
        exact this
      have rw_ : ∀ {σw : S}, ∀ a, RO (wipeS σw own) (L2.wipe σV own) a → RO σw σV' a := fun {σw} a z => ro_wipe (σ := σw) (σV := σV') (own := own) a (by rw [hw]; exact z)
      cases b with
      | false =>
        cases et
        exact ⟨hlt, s3, acc, dac, ys, wp r5, k3, fun a z => roc a (ro4 a (st5.ro a (rw_ a z))), hD3, hacc3.weak fun a z => z.elim (fun y => .inl (rw_ a y)) .inr, el2, hl⟩
      | true =>
        obtain ⟨xv, s6, ex, et⟩ := bind_ok et
        cases et
        refine tE.mk gD r5 ?_
        rw [ex]
        intro v H4 r6 st6 hv
        have hD4 : H4 D = some (.lst acc) := st6.kp.at_ _ _ hD3 fun z => r5.exr D z (.inr rfl)
        have k4 : Kp (fun a => RO σ1 σV a ∨ a = D) H1 H4 := k3.trans st6.kp fun a z => .inl (.inl (roc a (ro4 a (st5.ro a z))))
        have hacc4 := Rps.stp r5 st6 hacc3
        have hlen : acc.length < line := by
          have h1 := hacc.len
          have h2 : (dac ++ ([xv.1] ++ ys)).length = dacc.length + L.length := by rw [hl, List.length_append]
          simp only [List.length_append, List.length_cons, List.length_nil] at h2
          omega
        refine ⟨acc, hD4, hlen, hlt, s3, acc ++ [v], dac ++ [xv.1], ys, (wp r6).putEx hD4 h0D, ?_, fun a z => roc a (ro4 a (st5.ro a (st6.ro a (rw_ a z)))), upd_same, ?_, el2, by simpa using hl⟩
        · exact k4.trans (Kp.put (A := fun b => b = D) rfl) fun a z => .inl (.inr z)
        · have h := hacc4.app (.cons (hv.rp r6) .nil)
          exact (h.keep (Kp.put (.inr (.inr rfl))) r6.nt).weak fun a z => z.elim (fun y => .inl (rw_ a y)) .inr
    · have hie : i = ds.length := by omega
      subst hie
      rw [List.drop_length] at el
      cases el
      have hl : dac = dacc ++ L := by simpa using hl
      subst hl
      exact .inl ⟨wk.stop Hc kA, k Hc acc rc kc roc hDc hacc⟩
def lcTurn2 (p : Ev) (elt : R) (own2 : List Nat) (t : T) (ifs : List R) (t2 : T) (it2 : R) (ifs2 : List R) (d : PyData) (s : S) : Res (List PyData) := (asgR t d s).bind fun _ s => (testsL p.t ifs s).bind fun b s =>
  if b then (items p it2 s).bind fun ds2 s => lcL own2 (lcTurn p elt t2 ifs2) ds2 s else .ok [] s
/-- the walk of a comprehension with two clauses -/
theorem lc2_law {it it2 elt : R} {own own2 : List Nat} {t t2 : T} {ifs ifs2 : List R} {σV : L2.St} {H : Hp} {Q : VK} {P : Prg} (hown1 : ∀ i ∈ tgSlots t, i ∈ own) (hown2 : own2 = tgSlots t2) (hsub : ∀ i ∈ own2, i ∈ own) (h : tE G W (stepE P p (.lc2 elt own own2 t it ifs t2 it2 ifs2)) σV H Q) :
    tLc2 (tI G W (items p it)) (gT G.K t) (tT G W0 (testsL p.t ifs)) (tI G W0 (items p it2)) (gT G.K t2) (tT G W0 (testsL p.t ifs2)) (tE G W0 (p.e elt)) own own2 σV H Q := by
  obtain ⟨B, σ, g, r, q⟩ := h
  refine ⟨B, σ, g, r, (Pst.bind (show Pst B σ σV H W _ ((items p it σ).bind fun ds s₁ => if plainOwn s₁ own then noErr ((lcL own (lcTurn2 p elt own2 t ifs t2 it2 ifs2) ds s₁).bind fun l s => if l.length ≤ line then .ok ((.list l : PyData), true) (backS s₁ s own) else .bad) else .bad) from q)).imp fun ds σ1 q J H1 r1 st wk D hD => ?_⟩
  split at q
  · rename_i po
    obtain ⟨x, sF, e, q⟩ := noErr_ok q
    obtain ⟨L, sE, eL, e⟩ := bind_ok e
    split at e
    · rename_i hL
      cases e
      have gD : (B.ex D).of G := g
      have h0D : B.H0 D = none := r1.ext D hD
      refine ⟨fun i m Hc => m = ds.length - i ∧ i ≤ ds.length ∧ ∃ (σc : S) (acc : List V) (dacc l : List PyData), Rep (B.ex D) Hc (wipeS σc own) (L2.wipe σV own) ∧ Kp (RO σ1 σV) H1 Hc ∧ (∀ a, RO (wipeS σc own) (L2.wipe σV own) a → RO σ1 σV a) ∧
        Hc D = some (.lst acc) ∧ Rps B.K (Av (B.ex D) (wipeS σc own) (L2.wipe σV own)) Hc acc dacc ∧ lcL own (lcTurn2 p elt own2 t ifs t2 it2 ifs2) (ds.drop i) σc = .ok l sE ∧ dacc ++ l = L, ⟨ds.length, rfl, Nat.zero_le _, σ1, [], [], L, ?_⟩, ?_⟩
      · exact ⟨(r1.newEx hD).wipe own, (Kp.new hD).less hD |> fun k => k, ro_wipe, upd_same, .nil, eL, rfl⟩
      · rintro i m Hc ⟨rfl, hi, σc, acc, dacc, l, rc, kc, roc, hDc, hacc, el, hl⟩
        have kA : Kp (Av B σ1 σV) H1 Hc := kc.weak fun _ => .inl
        by_cases hlt : i < ds.length
        · refine .inr ⟨wk.go Hc i kA hlt, fun Hn => i + 1 ≤ ds.length ∧ ∃ (σc : S) (acc : List V) (dacc l : List PyData), Rep (B.ex D) Hn (wipeS σc own) (L2.wipe σV own) ∧ Kp (RO σ1 σV) H1 Hn ∧ (∀ a, RO (wipeS σc own) (L2.wipe σV own) a → RO σ1 σV a) ∧
            Hn D = some (.lst acc) ∧ Rps B.K (Av (B.ex D) (wipeS σc own) (L2.wipe σV own)) Hn acc dacc ∧ lcL own (lcTurn2 p elt own2 t ifs t2 it2 ifs2) (ds.drop (i + 1)) σc = .ok l sE ∧ dacc ++ l = L, fun H' hn => ⟨_, (by omega), rfl, hn⟩, fun x H' y => ?_⟩
          obtain ⟨k1, hx⟩ := wk.yld Hc i x H' kA y
          have hd : ds[i]? = some ds[i] := by simp [hlt]
          have hx := hx _ hd
          rw [getElem_drop hd] at el
          obtain ⟨xs, s3, et, el⟩ := bind_ok (show (lcTurn2 p elt own2 t ifs t2 it2 ifs2 ds[i] (wipeS σc own)).bind (fun xs s => (lcL own (lcTurn2 p elt own2 t ifs t2 it2 ifs2) (ds.drop (i + 1)) s).bind fun ys s => .ok (xs ++ ys) s) = .ok l sE from el)
          obtain ⟨ys, s3', el2, e⟩ := bind_ok el
          cases e
          obtain ⟨_, s4, ea, et⟩ := bind_ok et
          obtain ⟨b, s5, eb, et⟩ := bind_ok et
          have ea := asgR_ok ea
          have r' := rc.grow k1
          have k2 : Kp (RO σ1 σV) H1 H' := kc.trans k1 fun _ z => z.elim
          have hx' : Rp (B.ex D).K (Av (B.ex D) (wipeS σc own) (L2.wipe σV own)) H' x ds[i] := hx.weak fun a z => by
            rcases z with z | (z | z)
            · exact .inl (.inl (roc a z))
            · exact .inl (.inr z)
            · exact .inr (by rw [z]; exact hD)
          have hacc' := (hacc.keep (k1.weak fun _ z => z.elim) rc.nt)
          have hD' : H' D = some (.lst acc) := k1.at_ _ _ hDc fun z => z
          rw [show G.K = (B.ex D).K from g.1.symm]
          refine asg_ok r' hx' ea fun σV' r4 off ro4 => ?_
          have hw : L2.wipe σV' own = L2.wipe σV own := by
            have o : Off own σV σV' := Off.wiped.trans (off.mono hown1)
            exact o.wipe
          refine ⟨hw, tT.mk gD r4 ?_⟩
          rw [eb]
          intro H3 r5 st5
          have hD3 : H3 D = some (.lst acc) := st5.kp.at_ _ _ hD' fun z => r4.exr D z (.inr rfl)
          have k3 : Kp (RO σ1 σV) H1 H3 := k2.trans st5.kp fun a z => .inl (roc a (ro4 a z))
          have hacc3 := Rps.stp r4 st5 (hacc'.weak fun a z => z.elim (fun y => .inl (ro4 a y)) .inr)
          have wp : ∀ {σw : S} {Hw : Hp}, Rep (B.ex D) Hw σw σV' → Rep (B.ex D) Hw (wipeS σw own) (L2.wipe σV own) := fun rw_ => by
            have := rw_.wipe own
            rw [hw] at this
            exact this
          have rw_ : ∀ {σw : S}, ∀ a, RO (wipeS σw own) (L2.wipe σV own) a → RO σw σV' a := fun {σw} a z => ro_wipe (σ := σw) (σV := σV') (own := own) a (by rw [hw]; exact z)
          cases b with
          | false =>
            cases et
            exact ⟨hlt, s3, acc, dacc, ys, wp r5, k3, fun a z => roc a (ro4 a (st5.ro a (rw_ a z))), hD3, hacc3.weak fun a z => z.elim (fun y => .inl (rw_ a y)) .inr, el2, hl⟩
          | true =>
            obtain ⟨ds2, s6, ex, et⟩ := bind_ok (show (items p it2 s5).bind (fun ds2 s => lcL own2 (lcTurn p elt t2 ifs2) ds2 s) = .ok xs s3 from et)
            refine ⟨B.ex D, s5, gD, r5, ?_⟩
            rw [ex]
            intro J1 H4 r6 st6 wk1
            have hD4 : H4 D = some (.lst acc) := st6.kp.at_ _ _ hD3 fun z => r5.exr D z (.inr rfl)
            have k4 : Kp (RO σ1 σV) H1 H4 := k3.trans st6.kp fun a z => .inl (roc a (ro4 a (st5.ro a z)))
            have hacc4 := Rps.stp r5 st6 hacc3
            have hlen : dacc.length + xs.length ≤ line := by
              have h2 : (dacc ++ (xs ++ ys)).length ≤ line := by rw [hl]; exact hL
              simp only [List.length_append] at h2
              omega
            rw [show (B.ex D).K = G.K from g.1]
            refine lc_inner hown2 gD h0D r6 wk1 hD4 hacc4 et hlen fun H5 acc' r7 k7 ro7 hD5 hacc5 => ?_
            have w1 : wipeS (wipeS s3 own2) own = wipeS s3 own := wipeS_wipeS s3 hsub
            have w2 : L2.wipe (L2.wipe σV' own2) own = L2.wipe σV own := (wipe_wipe σV' hsub).trans hw
            have r8 := r7.wipe own
            rw [w1, w2] at r8
            have ro8 : ∀ a, RO (wipeS s3 own) (L2.wipe σV own) a → RO (wipeS s3 own2) (L2.wipe σV' own2) a := fun a z => ro_wipe (own := own) a (by rw [w1, w2]; exact z)
            refine ⟨hlt, s3, acc', dacc ++ xs, ys, r8, ?_, fun a z => roc a (ro4 a (st5.ro a (st6.ro a (ro7 a (ro8 a z))))), hD5, hacc5.weak fun a z => z.elim (fun y => .inl (ro8 a y)) .inr, el2, by rw [List.append_assoc]; exact hl⟩
            exact k4.trans k7 fun a z => z.elim (fun y => .inl (roc a (ro4 a (st5.ro a (st6.ro a y))))) fun y => .inr (by rw [y]; exact hD)
        · have hie : i = ds.length := by omega
          subst hie
          rw [List.drop_length] at el
          cases el
          have hl : dacc = L := by simpa using hl
          subst hl
          refine .inl ⟨wk.stop Hc kA, ?_⟩
          have kD : Kp (fun b => Av B σ1 σV b ∨ b = D) H1 Hc := kc.weak fun _ z => .inl (.inl z)
          obtain ⟨rb, rob⟩ := Rep.back r1 rc hD kD roc po
          have nD : ¬ Av B (backS σ1 sE own) σV D := fun z => by
            rcases z with z | z
            · exact rb.exr D z (.inr rfl)
            · exact r1.exT D z hD
          refine q _ _ rb.unex (st.trans ⟨kc, fun a z => roc a (rob a z)⟩) ⟨D, rfl, st.kp.tr D hD, nD, rb, acc, hDc, ?_⟩
          exact hacc.weak fun a z => z.elim (fun y => .inl (rob a y)) .inr
    · cases e
  · exact q.elim
theorem chkI_fold {tg e : Expr} {it : R} (h : chkI Θ (chkE m Γ Θ) tg it e = true) : ∀ env x, foldedSetIterable e env x = pure x := by
  unfold chkI at h
  split at h
  · exact fun _ _ => rfl
  · exact fun _ _ => rfl
  · exact fun _ _ => rfl
  · exact fun _ _ => rfl
  · exact fun _ _ => folded_ok h
theorem snd_lc2 {P : Prg} {it it2 elt : R} {own own2 : List Nat} {t t2 : T} {ifs ifs2 : List R} {f tg ite tg2 ite2 : Expr} {tests tests2 : List Expr} {sc : Scope} {pos : Pos} (ih : SndN Γ G lv sps p) (c : Ctx Γ G lv sps Θ X) (tk : Takes X W)
    (hb : blkC Θ.N Θ.sc sc ((tgNames tg ++ tgNames tg2).zip own) = true) (hz : (((tgNames tg ++ tgNames tg2).zip own).map (·.2) == own) = true) (ho : (own == tgSlots t ++ tgSlots t2) = true) (ho2 : (own2 == tgSlots t2) = true) (hi : ifs.length ≤ 1) (hi2 : ifs2.length ≤ 1) (ht : chkT (inBlk Θ sc) t tg = true) (ht2 : chkT (inBlk Θ sc) t2 tg2 = true)
    (hit : chkI Θ (chkE m Γ Θ) tg it ite = true) (hit2 : chkI (inBlk Θ sc) (chkE m Γ (inBlk Θ sc)) tg2 it2 ite2 = true) (hifs : all2 (chkE m Γ (inBlk Θ sc)) ifs tests = true) (hifs2 : all2 (chkE m Γ (inBlk Θ sc)) ifs2 tests2 = true) (he : chkE m Γ (inBlk Θ sc) elt f = true) :
    Snd G X W (.ListComp f [⟨tg, ite, tests, 0⟩, ⟨tg2, ite2, tests2, 0⟩] sc pos) (stepE P p (.lc2 elt own own2 t it ifs t2 it2 ifs2)) (stepT P p (.lc2 elt own own2 t it ifs t2 it2 ifs2)) := by
  obtain ⟨pi, fo⟩ := chk_items ih c tk hit
  have bk := blkOk_by hb
  rw [← c.N, ← c.sc] at bk
  have ho := eq_of_beq ho
  have ho2 := eq_of_beq ho2
  have fo2 : ∀ env x, foldedSetIterable ite2 env x = pure x := chkI_fold hit2
  have pe := pe_lc2 (pos := pos) (vs1 := own2) (tt := tT G W0 (testsL p.t ifs)) (te := tE G W0 (p.e elt)) (g := gT G.K t) (wi1 := tI G W0 (items p it2)) (g1 := gT G.K t2) (tt1 := tT G W0 (testsL p.t ifs2)) c.gx.calm (by rw [c.N]; exact c.nd) pi bk (by rw [eq_of_beq hz, ho, ho2]; intro i h; exact List.mem_append_right _ h)
    (fun s H C cl fp => chk_tg (c.blk s H sc cl C fp) ht) (fun s H C cl fp => lc_tests ih (c.blk s H sc cl C fp) takes0 hi hifs)
    (fun s H C cl fp => (chk_items ih (c.blk s H sc cl C fp) takes0 hit2).1) (fun s H C cl fp => chk_tg (c.blk s H sc cl C fp) ht2) (fun s H C cl fp => lc_tests ih (c.blk s H sc cl C fp) takes0 hi2 hifs2)
    (fun s H C cl fp => (ih m (inBlk Θ sc) elt f _ W0 (c.blk s H sc cl C fp) takes0 he).pe) (fun x => fo _ x) fo2
  rw [eq_of_beq hz] at pe
  exact snd_of c.K (peI pe fun σV H Q h => lc2_law (by rw [ho]; intro i h; exact List.mem_append_left _ h) ho2 (by rw [ho, ho2]; intro i h; exact List.mem_append_right _ h) h) fun _ => rfl
end
end Pv
/-! Pv10: a def's promise; calls. -/
namespace Pv
open PySem PySem.Spec PyProof.Rows L2
/-! ### what a def promises -/
def ioL {α : Type} : List Bool → List α → List α
  | _, [] => []
  | io, v :: vs => if io.head? = some true then v :: ioL io.tail vs else ioL io.tail vs
def IoA (io : List Bool) (vs : List V) : ASet := fun a => V.ref a ∈ ioL io vs
def ArgL (K : Frag) (A : ASet) (H : Hp) : List Bool → List V → List PyData → Prop
  | _, [], [] => True
  | io, v :: vs, d :: ds => (if io.head? = some true then ∃ a, v = .ref a ∧ RootD K A H a d else Rp K A H v d) ∧ ArgL K A H io.tail vs ds
  | _, _, _ => False
def IosAt (K : Frag) (A : ASet) (H : Hp) : List Bool → List V → List PyData → Prop
  | [], _, ios => ios = []
  | true :: io, v :: vs, d :: ios => (∃ a, v = .ref a ∧ RootD K A H a d) ∧ IosAt K A H io vs ios
  | false :: io, _ :: vs, ios => IosAt K A H io vs ios
  | _, _, _ => False
structure ArgsAt (K : Frag) (Ex : ASet) (H : Hp) (io : List Bool) (vs : List V) (ds : List PyData) : Prop where
  at_ : ArgL K (fun b => Ex b ∨ IoA io vs b) H io vs ds
  inj : (ioL io vs).Nodup
  ex : ∀ a, IoA io vs a → ¬ Ex a
  nt : NoTup (fun b => Ex b ∨ IoA io vs b) H
  exT : ∀ a, Ex a → H a ≠ none
def RetAt (K : Frag) (A : ASet) (H H' : Hp) (io : List Bool) (vs : List V) (v : V) (d : PyData) (fr : Bool) (ios : List PyData) : Prop :=
  if fr then ∃ a, v = .ref a ∧ H a = none ∧ RootD K (fun b => A b ∨ b = a) H' a d ∧ IosAt K (fun b => A b ∨ b = a) H' io vs ios
  else Rp K A H' v d ∧ IosAt K A H' io vs ios
def spF (G : Gk) (np : Nat) (io : List Bool) (c : List PyData → CRes) : Sp := fun vs H Q E => ∃ (Ex : ASet) (ds : List PyData), vs.length = np ∧ ArgsAt G.K Ex H io vs ds ∧ match c ds with
  | .ret d fr ios => ∀ v H', Kp (IoA io vs) H H' → RetAt G.K (fun b => Ex b ∨ IoA io vs b) H H' io vs v d fr ios → Q v H'
  | .err c d ios => ∀ (C dx : Addr) (w : V) (H' : Hp), G.cls c = some C → Kp (IoA io vs) H H' → IosAt G.K (fun b => Ex b ∨ IoA io vs b) H' io vs ios → H' dx = some (.xd [("value", w)]) → ¬ (Ex dx ∨ IoA io vs dx) →
      Rp G.K (fun b => Ex b ∨ IoA io vs b) H' w d → E (.ref C) (some dx) H'
  | .bad => False
section
variable {B : Vw} {H H' : Hp} {σ σ' : S} {σV : L2.St}
/-- roots' contents changed in the heap, the slots' cells with them -/
theorem Rep.reroot {Sx Ex' : ASet} (r : Rep B H σ σV) (hlen : σ'.length = σ.length) (k : Kp Sx H H') (hS : ∀ a, Sx a → RO σ σV a) (hE : ∀ b, B.Ex b → Ex' b) (hN : ∀ b, Ex' b → B.Ex b ∨ (H b = none ∧ H' b ≠ none ∧ ∀ ys, ¬ Rd H' b (.tup ys)))
    (h : ∀ i c', σ'[i]? = some (some c') → (σ[i]? = some (some c') ∧ ∀ a, Rt σ σV i a → ¬ Sx a) ∨ (∃ d' d a, ((c' = .ow d' ∧ σ[i]? = some (some (.ow d))) ∨ (c' = .io d' ∧ σ[i]? = some (some (.io d)))) ∧ σV[i]? = some (some (.ref a)) ∧
      RootD B.K (fun b => RO σ σV b ∨ Ex' b) H' a d')) : Rep { B with Ex := Ex' } H' σ' σV ∧ ∀ a, RO σ' σV a → RO σ σV a := by
  have rt : ∀ i a, Rt σ' σV i a → Rt σ σV i a := fun i a ⟨⟨d, hd⟩, hv⟩ => by
    refine ⟨?_, hv⟩
    rcases hd with hd | hd
    · rcases h i _ hd with ⟨z, _⟩ | ⟨d', d0, a', z, _⟩
      · exact ⟨d, .inl z⟩
      · rcases z with ⟨_, z⟩ | ⟨z, _⟩
        · exact ⟨_, .inl z⟩
        · cases z
    · rcases h i _ hd with ⟨z, _⟩ | ⟨d', d0, a', z, _⟩
      · exact ⟨d, .inr z⟩
      · rcases z with ⟨z, _⟩ | ⟨_, z⟩
        · cases z
        · exact ⟨_, .inr z⟩
  have ro : ∀ a, RO σ' σV a → RO σ σV a := fun a ⟨i, z⟩ => ⟨i, rt i a z⟩
  have kA : Kp (Av B σ σV) H H' := k.weak fun a z => .inl (hS a z)
  have av : ∀ a, Av { B with Ex := Ex' } σ' σV a → RO σ σV a ∨ Ex' a := fun a z => z.imp (ro a) id
  have av2 : ∀ a, RO σ σV a ∨ Ex' a → Av B σ σV a ∨ H a = none := fun a z => by
    rcases z with z | z
    · exact .inl (.inl z)
    · rcases hN a z with z | z
      · exact .inl (.inr z)
      · exact .inr z.1
  have av3 : ∀ a, Av { B with Ex := Ex' } σ' σV a → Av B σ σV a ∨ H a = none := fun a z => av2 a (av a z)
  have nS : ∀ a, ¬ Av B σ σV a → ¬ Sx a := fun a n z => n (.inl (hS a z))
  have roT : ∀ i a, Rt σ σV i a → H a ≠ none := fun i a z => by
    obtain ⟨⟨d, hd⟩, hv⟩ := z
    rcases hd with hd | hd
    · obtain ⟨a', e, _, q, _⟩ := r.rt_ow hd
      rw [hv] at e; cases e
      obtain ⟨xs, e⟩ := q.at_
      rw [e]; exact fun z => by cases z
    · obtain ⟨a', e, _, q, _⟩ := r.rt_io hd
      rw [hv] at e; cases e
      obtain ⟨xs, e⟩ := q.at_
      rw [e]; exact fun z => by cases z
  have cell : ∀ i c', σ'[i]? = some (some c') → ∃ v, σV[i]? = some (some v) ∧ CellOk { B with Ex := Ex' } (Av { B with Ex := Ex' } σ' σV) H' i v c' := fun i c' e => by
    have kp : ∀ {v : V} {d : PyData}, Rp B.K (Av B σ σV) H v d → Rp B.K (Av { B with Ex := Ex' } σ' σV) H' v d := fun q => (q.all.keep kA.all r.nt.all).weak av3
    have kr : ∀ {a : Addr} {d : PyData}, RootD B.K (Av B σ σV) H a d → ¬ Sx a → RootD B.K (Av { B with Ex := Ex' } σ' σV) H' a d := fun {a d} q n => by
      cases d with
      | list ds =>
        obtain ⟨xs, e, q⟩ := q
        exact ⟨xs, k.at_ _ _ e n, (q.all.keep kA.all r.nt.all).weak av3⟩
      | _ => exact q.elim
    rcases h i c' e with ⟨z, n⟩ | ⟨d', d, a, z, ev, q⟩
    · obtain ⟨v, ev, hc⟩ := r.cell i c' z
      refine ⟨v, ev, ?_⟩
      cases c' with
      | pl d => exact kp hc
      | ow d => obtain ⟨a, ea, q, q2⟩ := hc; exact ⟨a, ea, kr q (n a ⟨⟨d, .inl z⟩, by rw [ev, ea]⟩), q2⟩
      | io d => obtain ⟨a, ea, q, q2⟩ := hc; exact ⟨a, ea, kr q (n a ⟨⟨d, .inr z⟩, by rw [ev, ea]⟩), q2⟩
      | ex c d =>
        obtain ⟨a, dx, C, w, ea, q, e1, e2, n1, n2, q2⟩ := hc
        have tr : ∀ {b : Addr} {o : HO}, H b = some o → ¬ Av B σ σV b → ¬ Av { B with Ex := Ex' } σ' σV b := fun e n z => (av3 _ z).elim n fun y => by rw [e] at y; cases y
        exact ⟨a, dx, C, w, ea, q, k.at_ _ _ e1 (nS _ n1), k.at_ _ _ e2 (nS _ n2), tr e1 n1, tr e2 n2, kp q2⟩
    · refine ⟨_, ev, ?_⟩
      rcases z with ⟨rfl, z⟩ | ⟨rfl, z⟩
      · obtain ⟨a', e', _, _, q2⟩ := r.rt_ow z
        rw [ev] at e'; cases e'
        exact ⟨a, rfl, q.weak av, q2⟩
      · obtain ⟨a', e', _, _, q2⟩ := r.rt_io z
        rw [ev] at e'; cases e'
        exact ⟨a, rfl, q.weak av, q2⟩
  refine ⟨⟨hlen.trans r.len, cell, fun i j a x y => r.inj i j a (rt i a x) (rt j a y), fun a z y => ?_, fun b e => r.ext b (k.tr b e), fun b o e n => ?_, fun b hb ys z => ?_, fun a ha e => ?_⟩, ro⟩
  · obtain ⟨i, z⟩ := z
    rcases hN a y with y | y
    · exact r.exr a ⟨i, rt i a z⟩ y
    · exact roT i a (rt i a z) y.1
  · refine k.at_ _ _ (r.kp b o e n) fun z => ?_
    obtain ⟨i, ⟨d, hd⟩, hv⟩ := hS b z
    rcases hd with hd | hd
    · obtain ⟨a', e', _, _, q⟩ := r.rt_ow hd
      rw [hv] at e'; cases e'
      rw [q] at e; cases e
    · obtain ⟨a', e', _, _, q⟩ := r.rt_io hd
      rw [hv] at e'; cases e'
      exact n i q
  · rcases hb with ⟨i, hb⟩ | hb
    · obtain ⟨⟨d, hd⟩, hv⟩ := hb
      have lst : ∃ xs, H' b = some (.lst xs) := by
        rcases hd with hd | hd
        · obtain ⟨v, ev, a, ea, q, _⟩ := cell i _ hd
          rw [hv] at ev; cases ev; cases ea; exact q.at_
        · obtain ⟨v, ev, a, ea, q, _⟩ := cell i _ hd
          rw [hv] at ev; cases ev; cases ea; exact q.at_
      obtain ⟨xs, q⟩ := lst
      rcases z with z | ⟨o, z⟩ <;> (rw [q] at z; cases z)
    · rcases hN b hb with hb | hb
      · cases e : H b with
        | none => exact r.exT b hb e
        | some o =>
          have q := k.at_ b o e fun y => r.exr b (hS b y) hb
          refine r.nt b (.inr hb) ys ?_
          rcases z with z | ⟨u, z⟩
          · rw [q] at z; exact .inl (e.trans z)
          · rw [q] at z; exact .inr ⟨u, e.trans z⟩
      · exact hb.2.2 ys z
  · rcases hN a ha with ha | ha
    · exact r.exT a ha (k.tr a e)
    · exact ha.2.1 e
end
/-! ### arguments -/
section
variable {Γ : Gs} {G : Gk} {lv : Nat} {sps : Nat → Sp} {Θ : Sx} {X : Cx} {W : WX} {p : Ev} {m : Nat} {B : Vw} {H H' H1 : Hp} {σ σ' σ1 : S} {σV : L2.St}
def ArgRel (B : Vw) (σ : S) (σV : L2.St) (H : Hp) : List Bool → List V → List (Nat ⊕ PyData) → Prop
  | _, [], [] => True
  | io, v :: vs, .inl i :: xs => (io.head? = some true ∧ σV[i]? = some (some v)) ∧ ArgRel B σ σV H io.tail vs xs
  | io, v :: vs, .inr d :: xs => (io.head? ≠ some true ∧ Rp B.K (Av B σ σV) H v d) ∧ ArgRel B σ σV H io.tail vs xs
  | _, _, _ => False
def tArg (G : Gk) (W : WX) (ev : EvE) (e : R) (io : List Bool) : TE := if io.head? = some true then (match isVar e with | some i => tVar i | none => fun _ _ _ => False) else tE G W (ev e)
def tArgs (G : Gk) (W : WX) (ev : EvE) : List R → List Bool → TA
  | [], _ => tNil
  | e :: es, io => tCons (tArg G W ev e io) (tArgs G W ev es io.tail)
theorem preA_ok (g : B.of G) {ev : EvE} : ∀ {es : List R} {io : List Bool} {σ : S} {H : Hp} {Q : List V → Hp → Prop}, Rep B H σ σV →
    Pst B σ σV H W (fun xs σ' => ∀ vs H', Rep B H' σ' σV → Stp B σ σ' σV H H' → ArgRel B σ' σV H' io vs xs → Q vs H') (preA ev es io σ) → tArgs G W ev es io σV H Q
  | [], io, σ, H, Q, r, h => h [] H r .refl trivial
  | e :: es, io, σ, H, Q, r, h => by
    unfold preA at h
    show tArg G W ev e io σV H fun x H1 => tArgs G W ev es io.tail σV H1 fun xs H2 => Q (x :: xs) H2
    unfold tArg
    by_cases hio : io.head? = some true
    · rw [if_pos hio]
      rw [show (io.head? == some true) = true by rw [hio]; rfl] at h
      cases hv : isVar e with
      | none => rw [hv] at h; exact h.elim
      | some i =>
        rw [hv] at h
        dsimp only at h ⊢
        split at h
        · rename_i hs
          obtain ⟨d, hd⟩ := Option.isSome_iff_exists.mp hs
          obtain ⟨v, ev'⟩ := getP_slot r hd
          refine ⟨v, ev', preA_ok g r (h.bind.imp fun xs σ' q vs H' r' s p => ?_)⟩
          exact q (v :: vs) H' r' s ⟨⟨hio, ev'⟩, p⟩
        · exact h.elim
    · rw [if_neg hio]
      rw [show (io.head? == some true) = false by simpa using hio] at h
      dsimp only at h
      refine tE.mk g r (h.bind.imp fun d σ' q v H' r' s hval => ?_)
      refine preA_ok g r' ((Pst.back s q).bind.imp fun xs σ2 q2 vs H2 r2 s2 p => ?_)
      exact q2 (v :: vs) H2 r2 (s.trans s2) ⟨⟨hio, Rp.stp r' s2 (hval.rp r')⟩, p⟩
theorem args_pa (ih : SndN Γ G lv sps p) (c : Ctx Γ G lv sps Θ X) (tk : Takes X W) : ∀ {rs : List R} {es : List Expr} (io : List Bool), all2 (chkE m Γ Θ) rs es = true → PA X es (tArgs G W p.e rs io)
  | [], [], _, _ => pa_nil
  | r :: rs, e :: es, io, h => by
    obtain ⟨h1, h2⟩ := and_ h
    refine pa_cons ?_ (args_pa ih c tk io.tail h2) (chk_starEach h1)
    unfold tArg
    split
    · split
      · rename_i i hv
        have hr := isVar_eq hv
        subst hr
        cases m with
        | zero => cases h1
        | succ m =>
          cases e with
          | Name x pos => exact isSlot_ok c h1
          | _ => cases h1
      · exact ⟨fun pins s σ H Q I q => q.elim⟩
    · exact (ih m Θ r e X W c tk h1).pe
  | [], _ :: _, _, h => by cases h
  | _ :: _, [], _, h => by cases h
/-- the callee runs, nothing being shown -/
theorem run_fnG {k : Nat} {f : Addr} {fd : FuncData} {ps : List Str} {sp : Sp} {pins : List (Addr × Obj)} {σ : L2.St} {s : Shared} {Q : VK} {us : List Value} {vs : List V} (F : FnG X.prog X.w X.K X.mg X.base k f fd ps sp) (hg : X.A.guards = some []) (hr : Room k X.A) (hb : Binds X.K fd ps [])
    (tk : Takes X W) (I : Inv X pins σ H s) (r : Vals vs us) (h : sp vs H Q (WE W σ)) : wpAny (model X.prog X.w) X.A (call (.ref f) us) (EP X pins σ Q) X.xe s := by
  have len1 : us.length = ps.length := r.length.symm.trans (F.len _ _ _ _ h)
  have bt : BindsTo s fd ⟨us, []⟩ (ps.zip us) := by
    have z := hb s us I.kIn (by simpa using len1)
    simpa using z
  refine wpAny_call (codeAny_mono (F.run X.A X.stack s H ⟨us, []⟩ us vs Q _ hg hr I.env0 bt r h) fun res s2 hq => ?_)
  match res, hq with
  | .error e, hq => exact passAt tk σ pins H s e s2 I hq
  | .ok (.ret u), hq => exact I.after hq
theorem pe_callG {k : Nat} {f : Addr} {fd : FuncData} {ps : List Str} {sp : Sp} {x : Str} {e : Expr} {es : List Expr} {t : TA} {pos p2 : Pos} (F : FnG X.prog X.w X.K X.mg X.base k f fd ps sp) (hg : X.A.guards = some []) (hr : Room k X.A) (hgl : Gl X x) (hm : X.mg x = some (.ref f)) (hk : PySem.W.keepIn X.K (.ref f) = true)
    (hb : Binds X.K fd ps []) (tk : Takes X W) (ha : PA X (e :: es) t) (hdb : (x == ("__debug__" : Str)) = false) (he : starEach (e :: es) X.env = (false, eval e X.env) :: starEach es X.env) (hpl : (backTo pos (starEach es X.env)).any (·.1) = false) :
    PE X (.Call (.Name x p2) (e :: es) [] pos) (fun σ H Q => t σ H fun vs H1 => sp vs H1 Q (WE W σ)) := by
  constructor
  intro pins s σ H Q I h
  refine wpAny_Call_Name_kw (ld_glob I hgl hm (PySem.W.callWith_K (h₀ := X.base) I.ok.mod.kin hk ?_ he hpl) hdb)
  exact thn (ha.run pos pins s σ H _ I h) fun us s1 ⟨vs, H1, J, r, q⟩ => ⟨J.kIn, run_fnG F hg hr hb tk J r q⟩
theorem pe_callG0 {k : Nat} {f : Addr} {fd : FuncData} {ps : List Str} {sp : Sp} {x : Str} {pos p2 : Pos} (F : FnG X.prog X.w X.K X.mg X.base k f fd ps sp) (hg : X.A.guards = some []) (hr : Room k X.A) (hgl : Gl X x) (hm : X.mg x = some (.ref f)) (hk : PySem.W.keepIn X.K (.ref f) = true)
    (hb : Binds X.K fd ps []) (tk : Takes X W) (hdb : (x == ("__debug__" : Str)) = false) : PE X (.Call (.Name x p2) [] [] pos) (fun σ H Q => tNil σ H fun vs H1 => sp vs H1 Q (WE W σ)) := by
  constructor
  intro pins s σ H Q I h
  refine wpAny_Call_Name_kw (ld_glob I hgl hm (PySem.W.callWith_K0 I.kIn hk ?_) hdb)
  exact run_fnG (us := []) F hg hr hb tk I .nil h
/-! ### the caller's side -/
theorem noDup_nd : ∀ {l : List Nat}, noDup l = true → l.Nodup
  | [], _ => .nil
  | i :: l, h => by
    obtain ⟨h1, h2⟩ := and_ h
    exact List.nodup_cons.mpr ⟨by simpa using h1, noDup_nd h2⟩
theorem fillA_root {d : PyData} (r : Rep B H σ σV) {i : Nat} {v : V} (e : σ[i]? = some (some (.ow d)) ∨ σ[i]? = some (some (.io d))) (ev : σV[i]? = some (some v)) : ∃ a, v = .ref a ∧ Rt σ σV i a ∧ RootD B.K (Av B σ σV) H a d := by
  rcases e with e | e
  · obtain ⟨a, e', rt, q, _⟩ := r.rt_ow e
    rw [ev] at e'; cases e'
    exact ⟨a, rfl, rt, q⟩
  · obtain ⟨a, e', rt, q, _⟩ := r.rt_io e
    rw [ev] at e'; cases e'
    exact ⟨a, rfl, rt, q⟩
theorem fillA_ok (r : Rep B H σ σV) : ∀ {xs : List (Nat ⊕ PyData)} {io : List Bool} {vs : List V} {ds : List PyData}, ArgRel B σ σV H io vs xs → fillA σ xs = some ds →
    ArgL B.K (Av B σ σV) H io vs ds ∧ (∀ a, IoA io vs a → ∃ i ∈ slotsOf xs, Rt σ σV i a) ∧ (∀ i ∈ slotsOf xs, ∃ a, Rt σ σV i a ∧ IoA io vs a) ∧ ((slotsOf xs).Nodup → (ioL io vs).Nodup)
  | [], io, [], ds, _, e => by
    cases e
    exact ⟨trivial, fun a h => by simp [IoA, ioL] at h, fun i h => by simp [slotsOf] at h, fun _ => .nil⟩
  | .inl i :: xs, io, v :: vs, ds, h, e => by
    obtain ⟨⟨hio, ev⟩, h⟩ := h
    have key : ∃ d ds', (σ[i]? = some (some (.ow d)) ∨ σ[i]? = some (some (.io d))) ∧ fillA σ xs = some ds' ∧ ds = d :: ds' := by
      unfold fillA at e
      split at e
      · rename_i d q
        obtain ⟨ds', q2, q3⟩ := Option.map_eq_some_iff.mp e
        exact ⟨d, ds', .inl q, q2, q3.symm⟩
      · rename_i d q
        obtain ⟨ds', q2, q3⟩ := Option.map_eq_some_iff.mp e
        exact ⟨d, ds', .inr q, q2, q3.symm⟩
      · cases e
    obtain ⟨d, ds', hc, e2, rfl⟩ := key
    obtain ⟨a, rfl, rt, q⟩ := fillA_root r hc ev
    obtain ⟨i1, i2, i3, i4⟩ := fillA_ok r h e2
    have hL : ioL io (V.ref a :: vs) = V.ref a :: ioL io.tail vs := by
      show (if io.head? = some true then _ else _) = _
      rw [if_pos hio]
    refine ⟨⟨by rw [if_pos hio]; exact ⟨a, rfl, q⟩, i1⟩, fun b hb => ?_, fun j hj => ?_, fun nd => ?_⟩
    · unfold IoA at hb
      rw [hL] at hb
      rcases List.mem_cons.mp hb with hb | hb
      · cases hb; exact ⟨i, by simp [slotsOf], rt⟩
      · obtain ⟨j, hj, q⟩ := i2 b hb
        exact ⟨j, by simp [slotsOf, hj], q⟩
    · rcases List.mem_cons.mp (show j ∈ i :: slotsOf xs from hj) with hj | hj
      · subst hj; exact ⟨a, rt, by unfold IoA; rw [hL]; simp⟩
      · obtain ⟨b, q1, q2⟩ := i3 j hj
        exact ⟨b, q1, by unfold IoA; rw [hL]; exact List.mem_cons_of_mem _ q2⟩
    · obtain ⟨n1, n2⟩ := List.nodup_cons.mp (show (i :: slotsOf xs).Nodup from nd)
      rw [hL]
      refine List.nodup_cons.mpr ⟨fun hm => ?_, i4 n2⟩
      obtain ⟨j, hj, q⟩ := i2 a hm
      exact n1 (by rw [r.inj i j a rt q]; exact hj)
  | .inr d :: xs, io, v :: vs, ds, h, e => by
    obtain ⟨⟨hio, hv⟩, h⟩ := h
    obtain ⟨ds', e2, e3⟩ := Option.map_eq_some_iff.mp (show (fillA σ xs).map (d :: ·) = some ds from e)
    subst e3
    obtain ⟨i1, i2, i3, i4⟩ := fillA_ok r h e2
    have hL : ioL io (v :: vs) = ioL io.tail vs := by
      show (if io.head? = some true then _ else _) = _
      rw [if_neg hio]
    refine ⟨⟨by rw [if_neg hio]; exact hv, i1⟩, fun b hb => ?_, fun j hj => ?_, fun nd => ?_⟩
    · unfold IoA at hb; rw [hL] at hb; exact i2 b hb
    · obtain ⟨b, q1, q2⟩ := i3 j hj
      exact ⟨b, q1, by unfold IoA; rw [hL]; exact q2⟩
    · rw [hL]; exact i4 nd
  | [], _, _ :: _, _, h, _ => h.elim
  | .inl _ :: _, _, [], _, h, _ => h.elim
  | .inr _ :: _, _, [], _, h, _ => h.elim
theorem ioBack_ok {K : Frag} {A : ASet} {s0 : S} : ∀ {xs : List (Nat ⊕ PyData)} {io : List Bool} {vs : List V} {ios : List PyData} {s s' : S}, ArgRel B σ σV H io vs xs → IosAt K A H' io vs ios → ioBack s xs ios = some s' →
    s'.length = s.length ∧ ∀ j c', s'[j]? = some (some c') → (j ∉ slotsOf xs ∧ s[j]? = some (some c')) ∨
      (j ∈ slotsOf xs ∧ ∃ d' d a, ((c' = .ow d' ∧ s[j]? = some (some (.ow d))) ∨ (c' = .io d' ∧ s[j]? = some (some (.io d)))) ∧ σV[j]? = some (some (.ref a)) ∧ RootD K A H' a d')
  | [], io, [], ios, s, s', _, hI, e => by
    cases ios with
    | nil => cases e; exact ⟨rfl, fun j c' h => .inl ⟨by simp [slotsOf], h⟩⟩
    | cons _ _ => cases e
  | .inr d :: xs, io, v :: vs, ios, s, s', h, hI, e => by
    obtain ⟨⟨hio, _⟩, h⟩ := h
    have hI' : IosAt K A H' io.tail vs ios := by
      cases io with
      | nil => exact hI
      | cons b io => cases b with
        | true => exact (hio rfl).elim
        | false => exact hI
    have q := ioBack_ok (s0 := s0) (xs := xs) h hI' (show ioBack s xs ios = some s' by cases ios <;> exact e)
    exact q
  | .inl i :: xs, io, v :: vs, ios, s, s', h, hI, e => by
    obtain ⟨⟨hio, ev⟩, h⟩ := h
    cases io with
    | nil => cases hio
    | cons b io =>
      cases hio
      cases ios with
      | nil => exact hI.elim
      | cons d' ios =>
        obtain ⟨⟨a, rfl, hr⟩, hI⟩ := hI
        obtain ⟨s1, e1, e2⟩ := Option.bind_eq_some_iff.mp (show (setRoot s i fun _ => some d').bind (fun s => ioBack s xs ios) = some s' from e)
        obtain ⟨l1, l2⟩ := ioBack_ok (s0 := s0) h hI e2
        have key : ∃ c d, ((c = .ow d' ∧ s[i]? = some (some (.ow d))) ∨ (c = .io d' ∧ s[i]? = some (some (.io d)))) ∧ s1 = s.set i (some c) := by
          unfold setRoot at e1
          split at e1
          · rename_i d q; cases e1; exact ⟨_, d, .inl ⟨rfl, q⟩, rfl⟩
          · rename_i d q; cases e1; exact ⟨_, d, .inr ⟨rfl, q⟩, rfl⟩
          · cases e1
        obtain ⟨c, d, hc, rfl⟩ := key
        have hi : i < s.length := by rcases hc with ⟨_, q⟩ | ⟨_, q⟩ <;> exact (List.getElem?_eq_some_iff.mp q).1
        refine ⟨by simpa using l1, fun j c' hj => ?_⟩
        rcases l2 j c' hj with ⟨n, q⟩ | ⟨n, d2, d3, a2, q, ev2, q2⟩
        · by_cases hji : j = i
          · subst hji
            rw [List.getElem?_set_self hi] at q
            cases q
            exact .inr ⟨by simp [slotsOf], d', d, a, hc, ev, hr⟩
          · rw [List.getElem?_set_ne (Ne.symm hji)] at q
            exact .inl ⟨by simp only [slotsOf, List.mem_cons, not_or]; exact ⟨hji, n⟩, q⟩
        · refine .inr ⟨by simp [slotsOf, n], ?_⟩
          by_cases hji : j = i
          · subst hji
            rw [List.getElem?_set_self hi] at q
            rcases q with ⟨q, q'⟩ | ⟨q, q'⟩
            · cases q'
              rcases hc with ⟨z, hc⟩ | ⟨z, hc⟩
              · exact ⟨d2, d, a2, .inl ⟨q, hc⟩, ev2, q2⟩
              · cases z
            · cases q'
              rcases hc with ⟨z, hc⟩ | ⟨z, hc⟩
              · cases z
              · exact ⟨d2, d, a2, .inr ⟨q, hc⟩, ev2, q2⟩
          · rw [List.getElem?_set_ne (Ne.symm hji)] at q
            exact ⟨d2, d3, a2, q, ev2, q2⟩
  | [], _, _ :: _, _, _, _, h, _, _ => h.elim
  | .inl _ :: _, _, [], _, _, _, h, _, _ => h.elim
  | .inr _ :: _, _, [], _, _, _, h, _, _ => h.elim
theorem ArgL.imp {K : Frag} {A A' : ASet} (w : ∀ b, A' b → A b) : ∀ {io : List Bool} {vs : List V} {ds : List PyData}, ArgL K A H io vs ds → ArgL K A' H io vs ds
  | _, [], [], h => trivial
  | io, v :: vs, d :: ds, ⟨h1, h2⟩ => ⟨by
      split at h1
      · rename_i q; rw [if_pos q]; obtain ⟨a, e, r⟩ := h1; exact ⟨a, e, r.weak w⟩
      · rename_i q; rw [if_neg q]; exact h1.weak w, ArgL.imp w h2⟩
  | _, [], _ :: _, h => h.elim
  | _, _ :: _, [], h => h.elim
theorem IosAt.imp {K : Frag} {A A' : ASet} (w : ∀ b, A' b → A b) : ∀ {io : List Bool} {vs : List V} {ds : List PyData}, IosAt K A H io vs ds → IosAt K A' H io vs ds
  | [], _, _, h => h
  | true :: io, v :: vs, d :: ds, h => by
    obtain ⟨⟨a, e, r⟩, h2⟩ := h
    exact ⟨⟨a, e, r.weak w⟩, IosAt.imp w h2⟩
  | false :: io, _ :: vs, ds, h => IosAt.imp (io := io) (vs := vs) (ds := ds) w h
  | true :: _, [], _, h => h.elim
  | true :: _, _ :: _, [], h => h.elim
  | false :: _, [], _, h => h.elim
/-- the caller's side of a call -/
theorem call_law {np : Nat} {io : List Bool} {c : List PyData → CRes} {xs : List (Nat ⊕ PyData)} {ds : List PyData} {vs : List V} {Q : VK} (g : B.of G) (r : Rep B H σ σV) (ha : ArgRel B σ σV H io vs xs) (hn : noDup (slotsOf xs) = true) (hf : fillA σ xs = some ds) (hnp : vs.length = np)
    (h : Pst B σ σV H W (fun d σ' => ∀ v H', Rep B H' σ' σV → Stp B σ σ' σV H H' → Val B H σ' σV H' v d → Q v H') (callRes (c ds) xs σ)) : spF G np io c vs H Q (WE W σV) := by
  obtain ⟨a1, a2, a3, a4⟩ := fillA_ok r ha hf
  have ioR : ∀ a, IoA io vs a → RO σ σV a := fun a z => let ⟨i, _, q⟩ := a2 a z; ⟨i, q⟩
  have toA : ∀ b, Av B σ σV b → (Av B σ σV b ∧ ¬ IoA io vs b) ∨ IoA io vs b := fun b z => by
    by_cases q : IoA io vs b
    · exact .inr q
    · exact .inl ⟨z, q⟩
  have ofA : ∀ b, ((Av B σ σV b ∧ ¬ IoA io vs b) ∨ IoA io vs b) → Av B σ σV b := fun b z => z.elim (·.1) fun q => .inl (ioR b q)
  have roT : ∀ a, Av B σ σV a → H a ≠ none := fun a z e => r.notAv e z
  refine ⟨fun b => Av B σ σV b ∧ ¬ IoA io vs b, ds, hnp, ⟨by rw [← g.1]; exact a1.imp ofA, a4 (noDup_nd hn), fun a z q => q.2 z, fun b hb => r.nt b (ofA b hb), fun a z => roT a z.1⟩, ?_⟩
  have back : ∀ {ios : List PyData} {s' : S} {H' : Hp} {Ex' : ASet}, Kp (IoA io vs) H H' → (∀ b, B.Ex b → Ex' b) → (∀ b, Ex' b → B.Ex b ∨ (H b = none ∧ H' b ≠ none ∧ ∀ ys, ¬ Rd H' b (.tup ys))) → IosAt B.K (fun b => RO σ σV b ∨ Ex' b) H' io vs ios → ioBack σ xs ios = some s' →
      Rep { B with Ex := Ex' } H' s' σV ∧ ∀ a, RO s' σV a → RO σ σV a := fun {ios s' H' Ex'} k hE hN hI e => by
    obtain ⟨l1, l2⟩ := ioBack_ok (s0 := σ) ha hI e
    refine r.reroot l1 k ioR hE hN fun i c' hc => ?_
    rcases l2 i c' hc with ⟨n, q⟩ | ⟨n, d', d, a, q, ev, hr⟩
    · refine .inl ⟨q, fun a rt z => ?_⟩
      obtain ⟨j, hj, q2⟩ := a2 a z
      exact n (by rw [r.inj i j a rt q2]; exact hj)
    · exact .inr ⟨d', d, a, q, ev, hr⟩
  cases hc : c ds with
  | bad => rw [hc] at h; exact h.elim
  | ret d fr ios =>
    rw [hc] at h
    obtain ⟨s', e, q⟩ := (Pst.bind (show Pst B σ σV H W _ ((ofO (ioBack σ xs ios) σ).bind fun s' _ => .ok (d, fr) s') from h)).ofO
    intro v H' k hret
    rw [← g.1] at hret
    cases fr with
    | false =>
      obtain ⟨hv, hI⟩ : Rp B.K _ H' v d ∧ IosAt B.K _ H' io vs ios := hret
      obtain ⟨r', ro⟩ := back (Ex' := B.Ex) k (fun _ z => z) (fun _ z => .inl z) (hI.imp toA) e
      exact q v H' r' ⟨k.weak ioR, ro⟩ (hv.weak fun b z => toA b (z.elim (fun y => .inl (ro b y)) .inr))
    | true =>
      obtain ⟨a, rfl, hn, hr, hI⟩ : ∃ a, v = .ref a ∧ H a = none ∧ RootD B.K _ H' a d ∧ IosAt B.K _ H' io vs ios := hret
      obtain ⟨zs, hz⟩ := hr.at_
      obtain ⟨r', ro⟩ := back (Ex' := (B.ex a).Ex) k (fun _ z => .inl z) (fun b z => z.imp id fun q => by subst q; exact ⟨hn, (by rw [hz]; exact fun z => (by cases z)), fun ys z => by rcases z with z | ⟨o, z⟩ <;> (rw [hz] at z; cases z)⟩)
        (hI.imp fun b z => by
          rcases z with z | (z | z)
          · exact .inl (toA b (.inl z))
          · exact .inl (toA b (.inr z))
          · exact .inr z) e
      refine q _ H' (Rep.unex r') ⟨k.weak ioR, ro⟩ ⟨a, rfl, hn, fun z => ?_, r', hr.weak fun b z => ?_⟩
      · exact r.notAv hn (z.elim (fun y => .inl (ro a y)) .inr)
      · rcases z with z | (z | z)
        · exact .inl (toA b (.inl (ro b z)))
        · exact .inl (toA b (.inr z))
        · exact .inr z
  | err cc d ios =>
    rw [hc] at h
    obtain ⟨s', e, q⟩ := (Pst.bind (show Pst B σ σV H W _ ((ofO (ioBack σ xs ios) σ).bind fun s' _ => (.err cc d s' : Res DF)) from h)).ofO
    intro C dx w H' hC k hI hdx ndx hw
    rw [← g.1] at hI hw
    obtain ⟨r', ro⟩ := back (Ex' := B.Ex) k (fun _ z => z) (fun _ z => .inl z) (hI.imp toA) e
    exact q C dx w H' (by rw [g.2]; exact hC) r' ⟨k.weak ioR, ro⟩ hdx (fun z => ndx (toA dx (z.elim (fun y => .inl (ro dx y)) .inr))) (hw.weak fun b z => toA b (z.elim (fun y => .inl (ro b y)) .inr))
end
end Pv
/-! Pv11: calls of own defs. -/
namespace Pv
open PySem PySem.Spec PyProof.Rows L2
section
variable {Γ : Gs} {G : Gk} {lv : Nat} {sps : Nat → Sp} {Θ : Sx} {X : Cx} {W : WX} {p : Ev} {m : Nat} {B : Vw} {H H' H1 : Hp} {σ σ' σ1 : S} {σV : L2.St}
theorem ArgRel.len : ∀ {io : List Bool} {vs : List V} {xs : List (Nat ⊕ PyData)}, ArgRel B σ σV H io vs xs → vs.length = xs.length
  | _, [], [], _ => rfl
  | io, _ :: vs, .inl _ :: xs, h => by have := ArgRel.len h.2; simp [this]
  | io, _ :: vs, .inr _ :: xs, h => by have := ArgRel.len h.2; simp [this]
  | _, [], _ :: _, h => h.elim
  | _, _ :: _, [], h => h.elim
theorem gl_fn (c : Ctx Γ G lv sps Θ X) {f : Nat} {x : Str} (h : ((Γ.fnAt f).map (·.1) == some x) = true) : ∃ ps fa fd, FnAt X.K X.mg x ps (kcsOf Γ f) fa fd ∧ FnG X.prog X.w X.K X.mg X.base lv fa fd ps (sps f) := by
  cases e : Γ.fnAt f with
  | none => rw [e] at h; cases h
  | some q =>
    rw [e] at h
    obtain ⟨y, ps⟩ := q
    obtain rfl : y = x := Option.some.inj (eq_of_beq h)
    obtain ⟨fa, fd, a, b⟩ := c.fns f y ps e
    exact ⟨ps, fa, fd, a, b⟩
theorem snd_call {P : Prg} {f : Nat} {x : Str} {es : List R} {fs : List Expr} {pos p2 : Pos} (hsp : ∀ f fd, P.fns[f]? = some fd → sps f = spF G fd.np fd.io (p.c f)) (ih : SndN Γ G lv sps p) (c : Ctx Γ G lv sps Θ X) (tk : Takes X W) (hx : ((Γ.fnAt f).map (·.1) == some x) = true) (h : gl Θ x = true)
    (ha : all2 (chkE m Γ Θ) es fs = true) : Snd G X W (.Call (.Name x p2) fs [] pos) (stepE P p (.call f es)) (stepT P p (.call f es)) := by
  obtain ⟨g1, g2, g3⟩ := gl_ok c h
  obtain ⟨ps, fa, fd, q1, q2⟩ := gl_fn c hx
  refine snd_of c.K ?_ fun _ => rfl
  cases hf : P.fns[f]? with
  | none =>
    refine ⟨fun pins s σ H Q I ⟨B, σ', g, r, q⟩ => ?_⟩
    have q : Pst B σ' σ H W _ (match P.fns[f]? with
      | some fd => (preA p.e es fd.io σ').bind fun xs s => if noDup (slotsOf xs) && xs.length == fd.np then (ofO (fillA s xs) s).bind fun ds s => callRes (p.c f ds) xs s else .bad
      | none => .bad) := q
    rw [hf] at q
    exact q.elim
  | some fn =>
    have law : ∀ σV H Q, tE G W (stepE P p (.call f es)) σV H Q → tArgs G W p.e es fn.io σV H fun vs H1 => sps f vs H1 Q (WE W σV) := fun σV H Q ⟨B, σ, g, r, q⟩ => by
      have q : Pst B σ σV H W _ (match P.fns[f]? with
        | some fd => (preA p.e es fd.io σ).bind fun xs s => if noDup (slotsOf xs) && xs.length == fd.np then (ofO (fillA s xs) s).bind fun ds s => callRes (p.c f ds) xs s else .bad
        | none => .bad) := q
      rw [hf] at q
      refine preA_ok g r ((Pst.bind q).imp fun xs σ' q vs H' r' st ar => ?_)
      split at q
      · rename_i hn
        obtain ⟨n1, n2⟩ := and_ hn
        obtain ⟨ds, e, q⟩ := (Pst.bind q).ofO
        rw [hsp f fn hf]
        refine call_law g r' ar n1 e (by rw [ar.len]; exact eq_of_beq n2) ((Pst.back st q).imp fun d s' k v H2 r2 s2 hv => k v H2 r2 (st.trans s2) (hv.since st.kp.tr))
      · exact q.elim
    cases fs with
    | nil =>
      have : es = [] := by
        cases es with
        | nil => rfl
        | cons _ _ => cases ha
      subst this
      exact peI (pe_callG0 q2 c.gx.gd c.room g1 q1.mg_ q1.kp q1.binds tk g2) law
    | cons e' fs =>
      cases es with
      | nil => cases ha
      | cons e es => exact peI (pe_callG q2 c.gx.gd c.room g1 q1.mg_ q1.kp q1.binds tk (args_pa ih c tk fn.io ha) g2 (chk_starEach (and_ ha).1) (all2_star (and_ ha).2)) law
/-! ### with keywords -/
theorem zip_lookup {α β : Type} {F : α → β → Prop} (j : Nat) : ∀ {ks : List Nat} {xs : List α} {ys : List β} {x : α}, Paired F xs ys → (ks.zip xs).lookup j = some x → ∃ y, (ks.zip ys).lookup j = some y ∧ F x y
  | [], _, _, _, _, h => by simp at h
  | k :: ks, _, _, _, .nil, h => by simp at h
  | k :: ks, a :: xs, b :: ys, x, .cons p1 p2, h => by
    rw [List.zip_cons_cons, List.lookup_cons] at h ⊢
    cases e : j == k with
    | true => rw [e] at h; cases h; exact ⟨b, rfl, p1⟩
    | false => rw [e] at h; exact zip_lookup j p2 h
theorem kwOrder_rel {α β : Type} {F : α → β → Prop} {ks : List Nat} {xs : List α} {ys : List β} (p : Paired F xs ys) : ∀ {n j : Nat} {zs : List α}, kwOrder ks xs j n = some zs → ∃ zs', kwOrder ks ys j n = some zs' ∧ Paired F zs zs'
  | 0, j, zs, h => by cases h; exact ⟨[], rfl, .nil⟩
  | n + 1, j, zs, h => by
    unfold kwOrder at h ⊢
    obtain ⟨x, h1, h2⟩ := Option.bind_eq_some_iff.mp h
    obtain ⟨zs0, h3, rfl⟩ := Option.map_eq_some_iff.mp h2
    obtain ⟨y, e1, f1⟩ := zip_lookup j p h1
    obtain ⟨zs', e2, f2⟩ := kwOrder_rel p h3
    exact ⟨y :: zs', by rw [e1, e2]; rfl, .cons f1 f2⟩
theorem paired_flip {α β : Type} {F : α → β → Prop} : ∀ {xs : List α} {ys : List β}, Paired F xs ys → Paired (fun b a => F a b) ys xs
  | _, _, .nil => .nil
  | _, _, .cons a b => .cons a (paired_flip b)
theorem rps_paired {K : Frag} {A : ASet} : ∀ {vs : List V} {ds : List PyData}, Rps K A H vs ds → Paired (Rp K A H) vs ds
  | _, _, .nil => .nil
  | _, _, .cons a b => .cons a (rps_paired b)
theorem paired_rps {K : Frag} {A : ASet} : ∀ {vs : List V} {ds : List PyData}, Paired (Rp K A H) vs ds → Rps K A H vs ds
  | _, _, .nil => .nil
  | _, _, .cons a b => .cons a (paired_rps b)
theorem vals_paired : ∀ {vs : List V} {us : List Value}, Vals vs us → Paired RelV vs us
  | _, _, .nil => .nil
  | _, _, .cons a b => .cons a (vals_paired b)
theorem paired_vals : ∀ {vs : List V} {us : List Value}, Paired RelV vs us → Vals vs us
  | _, _, .nil => .nil
  | _, _, .cons a b => .cons a (paired_vals b)
theorem kw_pk (ih : SndN Γ G lv sps p) (c : Ctx Γ G lv sps Θ X) (tk : Takes X W) : ∀ {rs : List R} {kws : List Keyword}, all2 (fun r (q : Keyword) => chkE m Γ Θ r q.value) rs kws = true → PK X kws (tEs G W p.e rs)
  | [], [], _ => pk_nil
  | r :: rs, ⟨nm, e, kp⟩ :: kws, h => by
    obtain ⟨h1, h2⟩ := and_ h
    exact pk_cons (ih m Θ r e X W c tk h1).pe (kw_pk ih c tk h2)
  | [], _ :: _, h => by cases h
  | _ :: _, [], h => by cases h
theorem kw_names {ps : List Str} {pos : Pos} {env : Env} : ∀ {ks : List Nat} {kws : List Keyword}, all2 (fun k (q : Keyword) => q.arg == ps[k]? && q.arg.isSome) ks kws = true →
    (backToKw pos (keywordEach kws env)).all (·.1.isSome) = true ∧ (backToKw pos (keywordEach kws env)).filterMap (·.1) = (ks.filterMap fun k => ps[k]?) ∧ (backToKw pos (keywordEach kws env)).any (·.1.isNone) = false
  | [], [], _ => ⟨rfl, rfl, rfl⟩
  | k :: ks, ⟨nm, e, kp⟩ :: kws, h => by
    obtain ⟨h1, h2⟩ := and_ h
    obtain ⟨h3, h4⟩ := and_ h1
    obtain ⟨a, b, d⟩ := kw_names (pos := pos) (env := env) h2
    have h3 : nm = ps[k]? := eq_of_beq h3
    cases nm with
    | none => cases h4
    | some y =>
      refine ⟨?_, ?_, ?_⟩
      · show (true && (backToKw pos (keywordEach kws env)).all (·.1.isSome)) = true
        rw [a]; rfl
      · show y :: (backToKw pos (keywordEach kws env)).filterMap (·.1) = _
        rw [b, List.filterMap_cons, ← h3]
      · show (false || (backToKw pos (keywordEach kws env)).any (·.1.isNone)) = false
        rw [d]; rfl
  | [], _ :: _, h => by cases h
  | _ :: _, [], h => by cases h
theorem argRel_all (r : Rep B H σ σV) {io : List Bool} (hio : ∀ b ∈ io, b = false) : ∀ {vs : List V} {ds : List PyData}, Rps B.K (Av B σ σV) H vs ds → ArgRel B σ σV H io vs (ds.map .inr)
  | _, _, .nil => trivial
  | _, _, .cons h hs => by
    have hd : io.head? ≠ some true := fun z => by
      cases io with
      | nil => cases z
      | cons b io => cases z; have := hio true (by simp); cases this
    exact ⟨⟨hd, h⟩, argRel_all r (io := io.tail) (fun b hb => hio b (List.mem_of_mem_tail hb)) hs⟩
theorem fillA_all : ∀ {ds : List PyData}, fillA σ (ds.map .inr) = some ds
  | [] => rfl
  | d :: ds => by
    show (fillA σ (ds.map .inr)).map (d :: ·) = _
    rw [fillA_all]; rfl
theorem slots_all : ∀ {ds : List PyData}, slotsOf (ds.map .inr) = []
  | [] => rfl
  | d :: ds => by
    show slotsOf (ds.map .inr) = []
    exact slots_all
/-- the callee runs, keywords given -/
theorem run_fnGK {k : Nat} {f : Addr} {x : Str} {fd : FuncData} {ps : List Str} {sp : Sp} {pins : List (Addr × Obj)} {σ : L2.St} {s : Shared} {Q : VK} {us ws : List Value} {vs zs zs' : List V} {n : Nat} {ks : List Nat} {kcs : List (Nat × List Nat)} (F : FnG X.prog X.w X.K X.mg X.base k f fd ps sp) (hg : X.A.guards = some []) (hr : Room k X.A)
    (hb : FnAt X.K X.mg x ps kcs f fd) (hq : (n, ks) ∈ kcs) (tk : Takes X W) (I : Inv X pins σ H s) (r : Vals vs us) (rz : Vals zs ws) (hn : vs.length = n) (hz : zs.length = ks.length) (ho : kwOrder ks zs n (ps.length - n) = some zs') (h : sp (vs ++ zs') H Q (WE W σ)) :
    wpAny (model X.prog X.w) X.A (call (.ref f) us ((ks.filterMap fun k => ps[k]?).zip ws)) (EP X pins σ Q) X.xe s := by
  obtain ⟨wz, hwz, pz⟩ := kwOrder_rel (vals_paired rz) ho
  have bt := hb.kb (n, ks) hq s us ws wz I.kIn (by rw [← r.length]; exact hn) (by rw [← rz.length]; exact hz) hwz
  refine wpAny_call (codeAny_mono (F.run X.A X.stack s H _ (us ++ wz) (vs ++ zs') Q _ hg hr I.env0 bt (r.append (paired_vals pz)) h) fun res s2 hq => ?_)
  match res, hq with
  | .error e, hq => exact passAt tk σ pins H s e s2 I hq
  | .ok (.ret u), hq => exact I.after hq
def tCallN (sp : Sp) (W : WX) (ks : List Nat) (n j : Nat) (t tk : TA) : TE := fun σ H Q => t σ H fun vs H1 => tk σ H1 fun zs H2 => vs.length = n ∧ zs.length = ks.length ∧ ∃ zs', kwOrder ks zs n (j - n) = some zs' ∧ sp (vs ++ zs') H2 Q (WE W σ)
theorem pe_callGK {k n : Nat} {f : Addr} {fd : FuncData} {ps : List Str} {sp : Sp} {x : Str} {es : List Expr} {kws : List Keyword} {t t2 : TA} {ks : List Nat} {kcs : List (Nat × List Nat)} {pos p2 : Pos} (F : FnG X.prog X.w X.K X.mg X.base k f fd ps sp) (hg : X.A.guards = some []) (hr : Room k X.A) (hgl : Gl X x)
    (hb : FnAt X.K X.mg x ps kcs f fd) (hq : (n, ks) ∈ kcs) (tk : Takes X W) (ha : PA X es t) (hk : PK X kws t2) (hdb : (x == ("__debug__" : Str)) = false) (hst : (es = [] ∧ t = tNil) ∨ ∃ e es', es = e :: es' ∧ starEach (e :: es') X.env = (false, eval e X.env) :: starEach es' X.env) (hpl : (backTo pos (starEach es X.env)).any (·.1) = false)
    (hall : (backToKw pos (keywordEach kws X.env)).all (·.1.isSome) = true) (hks : (backToKw pos (keywordEach kws X.env)).filterMap (·.1) = (ks.filterMap fun k => ps[k]?)) (hno : (backToKw pos (keywordEach kws X.env)).any (·.1.isNone) = false) :
    PE X (.Call (.Name x p2) es kws pos) (tCallN sp W ks n ps.length t t2) := by
  constructor
  intro pins s σ H Q I h
  have pl : ((backTo pos (starEach es X.env)).any (·.1) || (backToKw pos (keywordEach kws X.env)).any (·.1.isNone)) = false := by rw [hpl, hno]; rfl
  have fin : ∀ {us : List Value} {vs : List V} {H1 : Hp} {s1 : Shared}, Inv X pins σ H1 s1 → Vals vs us → (t2 σ H1 fun zs H2 => vs.length = n ∧ zs.length = ks.length ∧ ∃ zs', kwOrder ks zs n (ps.length - n) = some zs' ∧ sp (vs ++ zs') H2 Q (WE W σ)) →
      wpAny (model X.prog X.w) X.A (evalAll ((backToKw pos (keywordEach kws X.env)).map (·.2))) (fun ws s₂ => X.K.In s₂.heap ∧ wpAny (model X.prog X.w) X.A (call (.ref f) ([] ++ us) (((backToKw pos (keywordEach kws X.env)).filterMap (·.1)).zip ws)) (EP X pins σ Q) X.xe s₂) X.xe s1 := fun {us vs H1 s1} J r q =>
    thn (hk.run pos pins s1 σ H1 _ J q) fun ws s2 ⟨zs, H2, J2, rz, l1, l2, zs', ho, q2⟩ => ⟨J2.kIn, by rw [hks]; exact run_fnGK F hg hr hb hq tk J2 r rz l1 l2 ho q2⟩
  rcases hst with ⟨rfl, rfl⟩ | ⟨e, es', rfl, hst⟩
  · refine wpAny_Call_Name_kw (ld_glob I hgl hb.mg_ (PySem.W.callWith_KW0 (h₀ := X.base) I.ok.mod.kin hb.kp hall ?_ pl) hdb)
    exact fin I .nil h
  · refine wpAny_Call_Name_kw (ld_glob I hgl hb.mg_ (PySem.W.callWith_KW (h₀ := X.base) I.ok.mod.kin hb.kp hall ?_ pl hst) hdb)
    exact thn (ha.run pos pins s σ H _ I h) fun us s1 ⟨vs, H1, J, r, q⟩ => fin J r q
theorem evL_len {ev : EvE} : ∀ {es : List R} {s s' : S} {ds : List PyData}, evL ev es s = .ok ds s' → ds.length = es.length
  | [], s, s', ds, h => by cases h; rfl
  | e :: es, s, s', ds, h => by
    obtain ⟨d, s1, _, h⟩ := bind_ok (show ((ev e s).bind fun d s => (evL ev es s).bind fun ds s => .ok (d.1 :: ds) s) = .ok ds s' from h)
    obtain ⟨l, s2, h2, h⟩ := bind_ok h
    cases h
    simp [evL_len h2]
theorem snd_callk {P : Prg} {f : Nat} {x : Str} {es kws : List R} {ks : List Nat} {fs : List Expr} {kwds : List Keyword} {pos p2 : Pos} (hsp : ∀ f fd, P.fns[f]? = some fd → sps f = spF G fd.np fd.io (p.c f)) (hnp : ∀ (f : Nat) (fd : FnD) (x : Str) (ps : List Str), P.fns[f]? = some fd → Γ.fnAt f = some (x, ps) → fd.np = ps.length)
    (ih : SndN Γ G lv sps p) (c : Ctx Γ G lv sps Θ X) (tk : Takes X W)
    (hx : (match Γ.fnAt f with
        | some (y, ps) => y == x && decide (es.length + kws.length = ps.length) && decide (ks.length = kws.length) && all2 (fun k (q : Keyword) => q.arg == ps[k]? && q.arg.isSome) ks kwds
        | none => false) = true) (hk : Γ.kcs.contains (f, es.length, ks) = true) (h : gl Θ x = true) (ha : all2 (chkE m Γ Θ) es fs = true) (hb : all2 (fun r (q : Keyword) => chkE m Γ Θ r q.value) kws kwds = true) :
    Snd G X W (.Call (.Name x p2) fs kwds pos) (stepE P p (.callk f es ks kws)) (stepT P p (.callk f es ks kws)) := by
  obtain ⟨g1, g2, g3⟩ := gl_ok c h
  refine snd_of c.K ?_ fun _ => rfl
  cases hf : P.fns[f]? with
  | none =>
    refine ⟨fun pins s σ H Q I ⟨B, σ', g, r, q⟩ => ?_⟩
    have q : Pst B σ' σ H W _ (match P.fns[f]? with
      | some fd => if fd.io.any id then .bad else (evL p.e es σ').bind fun ds s => (evL p.e kws s).bind fun ws s =>
        (ofO (kwOrder ks ws es.length (fd.np - es.length)) s).bind fun zs s => if (ds ++ zs).length = fd.np then callRes (p.c f (ds ++ zs)) ((ds ++ zs).map .inr) s else .bad
      | none => .bad) := q
    rw [hf] at q
    exact q.elim
  | some fn =>
    cases hΓ : Γ.fnAt f with
    | none => rw [hΓ] at hx; cases hx
    | some yp =>
      obtain ⟨y, ps⟩ := yp
      rw [hΓ] at hx
      dsimp only at hx
      obtain ⟨hx, x4⟩ := and_ hx
      obtain ⟨hx, x3⟩ := and_ hx
      obtain ⟨x1, x2⟩ := and_ hx
      obtain rfl : y = x := eq_of_beq x1
      have x3 := of_decide_eq_true x3
      obtain ⟨fa, fd, q1, q2⟩ := c.fns f y ps hΓ
      have hnp := hnp f fn y ps hf hΓ
      obtain ⟨n1, n2, n3⟩ := kw_names (pos := pos) (env := X.env) x4
      have hkc : (es.length, ks) ∈ kcsOf Γ f := by
        unfold kcsOf
        refine List.mem_map.mpr ⟨(f, es.length, ks), List.mem_filter.mpr ⟨by simpa using hk, by simp⟩, rfl⟩
      have hst : (fs = [] ∧ tEs G W p.e es = tNil) ∨ ∃ e es', fs = e :: es' ∧ starEach (e :: es') X.env = (false, eval e X.env) :: starEach es' X.env := by
        cases fs with
        | nil =>
          cases es with
          | nil => exact .inl ⟨rfl, rfl⟩
          | cons _ _ => cases ha
        | cons e' fs =>
          cases es with
          | nil => cases ha
          | cons _ _ => exact .inr ⟨_, _, rfl, chk_starEach (and_ ha).1⟩
      refine peI (pe_callGK (pos := pos) (p2 := p2) q2 c.gx.gd c.room g1 q1 hkc tk (es_pa ih c tk ha) (kw_pk ih c tk hb) g2 hst (all2_star ha) n1 n2 n3) fun σV H Q ⟨B, σ, g, r, q⟩ => ?_
      have q : Pst B σ σV H W _ (match P.fns[f]? with
        | some fd => if fd.io.any id then .bad else (evL p.e es σ).bind fun ds s => (evL p.e kws s).bind fun ws s =>
          (ofO (kwOrder ks ws es.length (fd.np - es.length)) s).bind fun zs s => if (ds ++ zs).length = fd.np then callRes (p.c f (ds ++ zs)) ((ds ++ zs).map .inr) s else .bad
        | none => .bad) := q
      rw [hf] at q
      dsimp only at q
      split at q
      · exact q.elim
      · rename_i hio
        have hio : ∀ b ∈ fn.io, b = false := fun b hb => by
          cases b with
          | false => rfl
          | true => exact (hio (List.any_eq_true.mpr ⟨true, hb, rfl⟩)).elim
        cases e1 : evL p.e es σ with
        | bad => rw [e1] at q; exact q.elim
        | err c' d' s' =>
          rw [e1] at q
          exact evL_ok g r (by rw [e1]; exact q)
        | ok ds s1 =>
          refine evL_ok g r (by
            rw [e1] at q ⊢
            intro vs H1 r1 st1 rs
            refine evL_ok g r1 ((Pst.back st1 (Pst.bind (show Pst B σ σV H W _ ((evL p.e kws s1).bind fun ws s =>
              (ofO (kwOrder ks ws es.length (fn.np - es.length)) s).bind fun zs s => if (ds ++ zs).length = fn.np then callRes (p.c f (ds ++ zs)) ((ds ++ zs).map .inr) s else .bad) from q))) |> fun z => ?_)
            cases e2 : evL p.e kws s1 with
            | bad => rw [e2] at z; exact z.elim
            | err c' d' s' => rw [e2] at z; exact z
            | ok ws s2 =>
              rw [e2] at z
              intro ws' H2 r2 st2 rw_
              obtain ⟨zs, ho, z⟩ := (Pst.bind z).ofO
              split at z
              · rename_i hl
                obtain ⟨zs', ho', pz⟩ := kwOrder_rel (paired_flip (rps_paired rw_)) ho
                have hl1 : vs.length = es.length := by rw [rs.len, evL_len e1]
                have hl2 : ws'.length = ks.length := by rw [rw_.len, evL_len e2, x3]
                have rall : Rps B.K (Av B s2 σV) H2 (vs ++ zs') (ds ++ zs) := (Rps.stp r1 st2 rs).app (paired_rps (paired_flip pz))
                refine ⟨hl1, hl2, zs', by rw [← hnp]; exact ho', ?_⟩
                rw [hsp f fn hf]
                exact call_law g r2 (argRel_all r2 hio rall) (by rw [slots_all]; rfl) fillA_all (by rw [rall.len]; exact hl) ((Pst.back (st1.trans st2) z).imp fun d s' k v H3 r3 s3 hv => k v H3 r3 ((st1.trans st2).trans s3) (hv.since (st1.trans st2).kp.tr))
              · exact z.elim)
end
end Pv
/-! Pv12: statements. -/
namespace Pv
open PySem PySem.Spec PyProof.Rows L2
structure StpS (σ σ' : S) (σV σV' : L2.St) (H H' : Hp) : Prop where
  kp : Kp (RO σ σV) H H'
  ro : ∀ a, RO σ' σV' a → RO σ σV a ∨ H a = none
section
variable {B : Vw} {H H' H1 H2 : Hp} {σ σ' σ1 σ2 : S} {σV σV' σV1 σV2 : L2.St} {v : V} {d : PyData} {W : WX} {G : Gk} {D : Ends}
theorem StpS.refl : StpS σ σ σV σV H H := ⟨.refl, fun _ h => .inl h⟩
theorem StpS.trans (x : StpS σ σ1 σV σV1 H H1) (y : StpS σ1 σ2 σV1 σV2 H1 H2) : StpS σ σ2 σV σV2 H H2 :=
  ⟨x.kp.trans y.kp fun a z => x.ro a z, fun a z => (y.ro a z).elim (x.ro a) fun q => .inr (x.kp.tr a q)⟩
theorem Stp.s (x : Stp B σ σ1 σV H H1) : StpS σ σ1 σV σV H H1 := ⟨x.kp, fun a z => .inl (x.ro a z)⟩
theorem StpS.slots (h : ∀ a, RO σ' σV' a → RO σ σV a) : StpS σ σ' σV σV' H H := ⟨.refl, fun a z => .inl (h a z)⟩
def RtV (B : Vw) (H' : Hp) (σ' : S) (σV' : L2.St) (v : V) (d : PyData) (fr : Bool) : Prop :=
  if fr then ∃ a, v = .ref a ∧ B.H0 a = none ∧ ¬ Av B σ' σV' a ∧ Rep (B.ex a) H' σ' σV' ∧ RootD B.K (Av (B.ex a) σ' σV') H' a d else Rp B.K (Av B σ' σV') H' v d
theorem Val.rtv {d : DF} (r : Rep B H σ' σV) (h : Val B H σ σV H' v d) (hs : σ = σ') : RtV B H' σ' σV v d.1 d.2 := by
  subst hs
  obtain ⟨d, fr⟩ := d
  cases fr with
  | false => exact h
  | true => obtain ⟨a, e, n, q⟩ := h; exact ⟨a, e, r.ext a n, q⟩
def EndS (B : Vw) (σ : S) (σV : L2.St) (H : Hp) (D : Ends) (fl : Pv.Flow) (σ' : S) : Prop := ∀ σV' H', Rep B H' σ' σV' → StpS σ σ' σV σV' H H' → match fl with
  | .nx => D.nx σV' H'
  | .bk => D.bk σV' H'
  | .ct => D.ct σV' H'
  | .rt d fr => ∀ v, RtV B H' σ' σV' v d fr → D.rt v H'
def PstS (B : Vw) (σ : S) (σV : L2.St) (H : Hp) (W : WX) (D : Ends) : Res Pv.Flow → Prop
  | .ok fl σ' => EndS B σ σV H D fl σ'
  | .err c d σ' => ∀ (C dx : Addr) (w : V) (σV' : L2.St) (H' : Hp), B.cls c = some C → Rep B H' σ' σV' → StpS σ σ' σV σV' H H' → H' dx = some (.xd [("value", w)]) → ¬ Av B σ' σV' dx → Rp B.K (Av B σ' σV') H' w d → W (.ref C) (some dx) σV' H'
  | .bad => False
def tS (G : Gk) (W : WX) (p : S → Res Pv.Flow) : TS := fun D σV H => ∃ B σ, B.of G ∧ Rep B H σ σV ∧ PstS B σ σV H W D (p σ)
theorem PstS.back {r : Res Pv.Flow} (x : StpS σ σ1 σV σV1 H H1) (h : PstS B σ σV H W D r) : PstS B σ1 σV1 H1 W D r := by
  cases r with
  | ok fl s =>
    intro σV' H' r st
    exact h σV' H' r (x.trans st)
  | err c d s =>
    intro C dx w σV' H' hc r st e n q
    exact h C dx w σV' H' hc r (x.trans st) e n q
  | bad => exact h
theorem PstS.expr {α : Type} {r : Res α} {f : α → S → Res Pv.Flow} (h : PstS B σ σV H W D (r.bind f)) : Pst B σ σV H W (fun a σ' => PstS B σ σV H W D (f a σ')) r := by
  cases r with
  | ok a s => exact h
  | err c d s =>
    intro C dx w H' hc r st e n q
    exact h C dx w σV H' hc r st.s e n q
  | bad => exact h
theorem PstS.ofO {α : Type} {o : Option α} {s : S} {f : α → S → Res Pv.Flow} (h : PstS B σ σV H W D ((ofO o s).bind f)) : ∃ a, o = some a ∧ PstS B σ σV H W D (f a s) := by
  cases o with
  | none => exact h.elim
  | some a => exact ⟨a, rfl, h⟩
theorem ro_own {i : Nat} {a : Addr} {d : PyData} (b : Addr) : RO (σ.set i (some (.ow d))) (σV.set i (some (.ref a))) b → RO σ σV b ∨ b = a := fun ⟨j, ⟨d', hd⟩, hv⟩ => by
  by_cases hj : j = i
  · subst hj
    by_cases hi : j < σV.length
    · rw [List.getElem?_set_self hi] at hv
      cases hv
      exact .inr rfl
    · rw [List.getElem?_eq_none (by simpa using hi)] at hv
      cases hv
  · rw [List.getElem?_set_ne (Ne.symm hj)] at hd hv
    exact .inl ⟨j, ⟨d', hd⟩, hv⟩
/-- a value is stored in a slot -/
theorem store_rep {i : Nat} {d : DF} (r : Rep B H σ σV) (h : Val B H1 σ σV H v d) (t : ∀ a, H1 a = none → B.H0 a = none) :
    Rep B H (σ.set i (some (if d.2 then .ow d.1 else .pl d.1))) (σV.set i (some v)) ∧ ∀ a, RO (σ.set i (some (if d.2 then .ow d.1 else .pl d.1))) (σV.set i (some v)) a → RO σ σV a ∨ H1 a = none := by
  obtain ⟨d, fr⟩ := d
  cases fr with
  | false => exact ⟨r.set h, fun a z => .inl (ro_set a z)⟩
  | true =>
    obtain ⟨a, rfl, n, na, re, hr⟩ := h
    by_cases hi : i < σ.length
    · exact ⟨Rep.own hi re na (t a n) hr, fun b z => (ro_own b z).imp id fun q => by rw [q]; exact n⟩
    · have e1 : ∀ c, σ.set i c = σ := fun c => List.set_eq_of_length_le (Nat.le_of_not_lt hi)
      have e2 : ∀ c, σV.set i c = σV := fun c => List.set_eq_of_length_le (by rw [← r.len]; exact Nat.le_of_not_lt hi)
      rw [e1, e2]
      exact ⟨r, fun b z => .inl z⟩
theorem Rep.release {i : Nat} {a : Addr} {c : Cell} (r : Rep B H σ σV) (e : σ[i]? = some (some (.ow d))) (ev : σV[i]? = some (some (.ref a))) (c0 : c = .ow d) : Rep (B.ex a) H (σ.set i none) σV ∧ ∀ b, Av (B.ex a) (σ.set i none) σV b → Av B σ σV b := by
  have ne : ∀ {j : Nat} {c : Cell}, (σ.set i none)[j]? = some (some c) → j ≠ i ∧ σ[j]? = some (some c) := fun {j c} e => by
    by_cases hj : j = i
    · subst hj
      by_cases hi : j < σ.length
      · rw [List.getElem?_set_self hi] at e; cases e
      · rw [List.getElem?_eq_none (by simpa using hi)] at e; cases e
    · rw [List.getElem?_set_ne (Ne.symm hj)] at e
      exact ⟨hj, e⟩
  have rti : Rt σ σV i a := ⟨⟨d, .inl e⟩, ev⟩
  have old : ∀ j b, Rt (σ.set i none) σV j b → j ≠ i ∧ Rt σ σV j b := fun j b ⟨⟨d', hd⟩, hv⟩ => by
    have hj : j ≠ i := by rcases hd with hd | hd <;> exact (ne hd).1
    exact ⟨hj, ⟨d', hd.imp (fun z => (ne z).2) fun z => (ne z).2⟩, hv⟩
  have av : ∀ b, Av (B.ex a) (σ.set i none) σV b → Av B σ σV b := fun b z => z.elim (fun ⟨j, y⟩ => .inl ⟨j, (old j b y).2⟩) fun z => z.elim .inr fun q => .inl ⟨i, by rw [q]; exact rti⟩
  refine ⟨⟨by simpa using r.len, fun j c ec => ?_, fun j k b x y => r.inj j k b (old j b x).2 (old k b y).2, fun b ⟨j, x⟩ z => ?_, r.ext, r.kp, fun b hb => r.nt b (av b hb), fun b hb => ?_⟩, av⟩
  · obtain ⟨hj, ec⟩ := ne ec
    obtain ⟨u, eu, hc⟩ := r.cell j c ec
    have hc' : CellOk (B.ex a) (Av B σ σV) H j u c := by cases c <;> exact hc
    exact ⟨u, eu, hc'.weak av⟩
  · rcases z with z | z
    · exact r.exr b ⟨j, (old j b x).2⟩ z
    · obtain ⟨hj, y⟩ := old j b x
      rw [z] at y
      exact hj (r.inj j i a y rti)
  · rcases hb with hb | hb
    · exact r.exT b hb
    · rw [hb]; exact fun z => r.notAv z (.inl ⟨i, rti⟩)
end
section
variable {Γ : Gs} {G : Gk} {lv : Nat} {sps : Nat → Sp} {Θ : Sx} {X : Cx} {W : WX} {p : Ev} {m : Nat}
/-- around a statement -/
structure Stx (X : Cx) (W : WX) : Prop where
  tk : Takes X W
  ps : PassesOwn (model X.prog X.w) X.A X.env X.xe
  kind : X.env.scope.kind = .function
  stk : X.stack = X.env :: X.outer
  frm : X.env.frame = some X.env.locals
  ex : X.ex = []
theorem psI {st : Stmt} {t t' : TS} (h : PS X st t) (k : ∀ D σ H, t' D σ H → t D σ H) : PS X st t' := ⟨fun pins s σ H D I q => h.run pins s σ H D I (k _ _ _ q)⟩
theorem pssI {st : List Stmt} {t t' : TS} (h : PSs X st t) (k : ∀ D σ H, t' D σ H → t D σ H) : PSs X st t' := ⟨fun pins s σ H D I q => h.run pins s σ H D I (k _ _ _ q)⟩
theorem ps_cases {st : Stmt} {t' : TS} (h : ∀ D σ H, t' D σ H → ∃ t, PS X st t ∧ t D σ H) : PS X st t' := ⟨fun pins s σ H D I q => by
  obtain ⟨t, hp, q⟩ := h D σ H q
  exact hp.run pins s σ H D I q⟩
theorem pss_nilS {ev : Q → S → Res Pv.Flow} : PSs X [] (tS G W (seqL ev [])) := pssI pss_nil fun D σV H ⟨B, σ, g, r, h⟩ => h σV H r .refl
theorem pss_consS {ev : Q → S → Res Pv.Flow} {q : Q} {qs : List Q} {st : Stmt} {sts : List Stmt} (h1 : PS X st (tS G W (ev q))) (h2 : PSs X sts (tS G W (seqL ev qs))) : PSs X (st :: sts) (tS G W (seqL ev (q :: qs))) :=
  pssI (pss_cons h1 h2) fun D σV H ⟨B, σ, g, r, h⟩ => by
    refine ⟨B, σ, g, r, ?_⟩
    have h : PstS B σ σV H W D ((ev q σ).bind fun fl s => match fl with | .nx => seqL ev qs s | fl => .ok fl s) := h
    cases e : ev q σ with
    | bad => rw [e] at h; exact h
    | err c d s => rw [e] at h; exact h
    | ok fl s =>
      rw [e] at h
      cases fl with
      | nx => exact fun σV' H' r' st => ⟨B, s, g, r', PstS.back st h⟩
      | bk => exact h
      | ct => exact h
      | rt d f => exact h
/-! ### the small ones -/
theorem s_doc {P : Prg} {x : Str} {j : Nat} {p1 p2 : Pos} : PS X (.Expr (.Constant (.str x) j p1) p2) (tS G W (stepS P p .doc)) := psI ps_doc fun D σV H ⟨B, σ, g, r, h⟩ => h σV H r .refl
theorem s_pass {P : Prg} {p1 : Pos} : PS X (.Pass p1) (tS G W (stepS P p .pass)) := psI ps_pass fun D σV H ⟨B, σ, g, r, h⟩ => h σV H r .refl
theorem s_brk {P : Prg} {p1 : Pos} : PS X (.Break p1) (tS G W (stepS P p .brk)) := psI ps_break fun D σV H ⟨B, σ, g, r, h⟩ => h σV H r .refl
theorem s_expr {P : Prg} {e : R} {f : Expr} {p1 : Pos} (h : PE X f (tE G W (p.e e))) (hs : swapsWith f none p1.line X.env = pure false) : PS X (.Expr f p1) (tS G W (stepS P p (.expr e))) :=
  psI (ps_expr h hs) fun D σV H ⟨B, σ, g, r, q⟩ => tE.mk g r ((PstS.expr (show PstS B σ σV H W D ((p.e e σ).bind fun _ s => .ok .nx s) from q)).imp fun d σ' q v H' r' st hv => q σV H' r' st.s)
theorem s_asg {P : Prg} {e : R} {i : Nat} {st : Stmt} (h : PS X st (tAsg (tE G W (p.e e)) (gName i))) : PS X st (tS G W (stepS P p (.asg (.nm i) e))) :=
  psI h fun D σV H ⟨B, σ, g, r, q⟩ => tE.mk g r ((PstS.expr (show PstS B σ σV H W D ((p.e e σ).bind fun d s => .ok .nx (s.set i (some (if d.2 then .ow d.1 else .pl d.1)))) from q)).imp fun d σ' q v H' r' st hv => by
    obtain ⟨r2, ro⟩ := store_rep (i := i) r' hv fun a z => r.ext a z
    exact q _ _ r2 ⟨st.kp, fun a z => (ro a z).imp (st.ro a) id⟩)
theorem s_asgT {P : Prg} {e : R} {is : List Nat} {st : Stmt} (h : PS X st (tAsg (tE G W (p.e e)) (gT G.K (.tp is)))) : PS X st (tS G W (stepS P p (.asg (.tp is) e))) :=
  psI h fun D σV H ⟨B, σ, g, r, q⟩ => tE.mk g r ((PstS.expr (show PstS B σ σV H W D ((p.e e σ).bind fun d s => setR (asgT (.tp is) d.1 s)) from q)).imp fun d σ' q v H' r' st hv => by
    cases ea : asgT (.tp is) d.1 σ' with
    | none => rw [ea] at q; exact q.elim
    | some s2 =>
      rw [ea] at q
      rw [show G.K = B.K from g.1.symm]
      exact asg_ok r' (hv.rp r') ea fun σV' r2 off ro => q σV' H' r2 (st.s.trans (.slots ro)))
theorem s_ret {P : Prg} {e : R} {f : Expr} {p1 : Pos} (hv : ∀ i, isVar e = some i → PE X f (tVar i)) (h : PE X f (tE G W (p.e e))) : PS X (.Return (some f) p1) (tS G W (stepS P p (.ret e))) := by
  cases hi : isVar e with
  | some i =>
    refine psI (ps_ret (hv i hi)) fun D σV H ⟨B, σ, g, r, q⟩ => ?_
    have q : PstS B σ σV H W D (match isVar e with
      | some i => match σ[i]? with
        | some (some (.pl d)) => .ok (.rt d false) σ
        | some (some (.ow d)) => .ok (.rt d true) (σ.set i none)
        | _ => .bad
      | none => (p.e e σ).bind fun d s => .ok (.rt d.1 d.2) s) := q
    rw [hi] at q
    dsimp only at q
    split at q
    · rename_i d hd
      obtain ⟨v, ev, hr⟩ := r.pl hd
      exact ⟨v, ev, q σV H r .refl v hr⟩
    · rename_i d hd
      obtain ⟨a, ev, rt, hr, h0⟩ := r.rt_ow hd
      obtain ⟨r2, av⟩ := r.release hd ev rfl
      have na : ¬ Av B (σ.set i none) σV a := fun z => by
        rcases z with z | z
        · exact r2.exr a z (.inr rfl)
        · exact r.exr a ⟨i, rt⟩ z
      exact ⟨_, ev, q σV H r2.unex (.slots fun b z => (av b (.inl z)).elim id fun y => by
        obtain ⟨j, z⟩ := z
        exact (r2.exr b ⟨j, z⟩ (.inl y)).elim) _ ⟨a, rfl, h0, na, r2, hr.weak av⟩⟩
    · exact q.elim
  | none =>
    refine psI (ps_ret h) fun D σV H ⟨B, σ, g, r, q⟩ => ?_
    have q : PstS B σ σV H W D (match isVar e with
      | some i => match σ[i]? with
        | some (some (.pl d)) => .ok (.rt d false) σ
        | some (some (.ow d)) => .ok (.rt d true) (σ.set i none)
        | _ => .bad
      | none => (p.e e σ).bind fun d s => .ok (.rt d.1 d.2) s) := q
    rw [hi] at q
    refine tE.mk g r (q.expr.imp fun d σ' q v H' r' st hv => ?_)
    refine q σV H' r' st.s v ?_
    obtain ⟨d, fr⟩ := d
    cases fr with
    | false => exact hv
    | true => obtain ⟨a, e, n, z⟩ := hv; exact ⟨a, e, r.ext a n, z⟩
theorem s_ifs {P : Prg} {c : R} {a b : List Q} {f : Expr} {xs ys : List Stmt} {p1 : Pos} (hc : PT X f (tT G W (p.t c))) (ha : PSs X xs (tS G W (seqL p.s a))) (hb : PSs X ys (tS G W (seqL p.s b))) : PS X (.If f xs ys p1) (tS G W (stepS P p (.ifs c a b))) :=
  psI (ps_if hc ha hb) fun D σV H ⟨B, σ, g, r, q⟩ => tT.mk g r ((PstS.expr (show PstS B σ σV H W D ((p.t c σ).bind fun d s => if d then seqL p.s a s else seqL p.s b s) from q)).imp fun d σ' q H' r' st => by
    have q := PstS.back st.s q
    cases d with
    | true => exact ⟨B, σ', g, r', q⟩
    | false => exact ⟨B, σ', g, r', q⟩)
/-! ### for -/
theorem s_for {P : Prg} {t : T} {it : R} {b : List Q} {tg ite : Expr} {body : List Stmt} {p1 : Pos} (c : Ctx Γ G lv sps Θ X) (hx : Stx X W) (hi : PI X tg ite (tI G W (items p it))) (hg : PG X tg (gT G.K t)) (hb : PSs X body (tS G W (seqL p.s b))) (hs : ∀ x, foldedSetIterable ite X.env x = pure x) :
    PS X (.For tg ite body [] p1) (tS G W (stepS P p (.for_ t it b))) := by
  refine psI (ps_for hx.ps c.gx.calm hi hg hb hs) fun D σV H ⟨B, σ, g, r, q⟩ => ⟨B, σ, g, r, ?_⟩
  refine (PstS.expr (show PstS B σ σV H W D ((items p it σ).bind fun ds s => forL (fun d s => (asgR t d s).bind fun _ s => seqL p.s b s) ds s) from q)).imp fun ds σ1 q J H1 r1 st wk => ?_
  have q := PstS.back st.s q
  refine ⟨fun i m σVc Hc => m = ds.length - i ∧ i ≤ ds.length ∧ ∃ σc, Rep B Hc σc σVc ∧ StpS σ1 σc σV σVc H1 Hc ∧ PstS B σ1 σV H1 W D (forL (fun d s => (asgR t d s).bind fun _ s => seqL p.s b s) (ds.drop i) σc),
    ⟨ds.length, rfl, Nat.zero_le _, σ1, r1, .refl, q⟩, ?_⟩
  rintro i m σVc Hc ⟨rfl, hi', σc, rc, sc, qc⟩
  have kA : Kp (Av B σ1 σV) H1 Hc := sc.kp.weak fun _ => .inl
  by_cases hlt : i < ds.length
  · have hd : ds[i]? = some ds[i] := by simp [hlt]
    rw [getElem_drop hd] at qc
    refine .inr ⟨wk.go Hc i kA hlt, fun σV' H' => ∃ m', m' < ds.length - i ∧ m' = ds.length - (i + 1) ∧ i + 1 ≤ ds.length ∧ ∃ σc, Rep B H' σc σV' ∧ StpS σ1 σc σV σV' H1 H' ∧ PstS B σ1 σV H1 W D (forL (fun d s => (asgR t d s).bind fun _ s => seqL p.s b s) (ds.drop (i + 1)) σc),
      fun σ' H' h => h, fun x H' y => ?_⟩
    obtain ⟨k1, hx'⟩ := wk.yld Hc i x H' kA y
    have hx' := hx' _ hd
    have r' := rc.grow k1
    have hv : Rp B.K (Av B σc σVc) H' x ds[i] := hx'.weak fun a z => by
      rcases z with z | z
      · exact (sc.ro a z).imp .inl id
      · exact .inl (.inr z)
    have qc : PstS B σ1 σV H1 W D (((asgR t ds[i] σc).bind fun _ s => seqL p.s b s).bind fun fl s => match fl with
      | .nx => forL (fun d s => (asgR t d s).bind fun _ s => seqL p.s b s) (ds.drop (i + 1)) s
      | .ct => forL (fun d s => (asgR t d s).bind fun _ s => seqL p.s b s) (ds.drop (i + 1)) s
      | .bk => .ok .nx s
      | .rt d f => .ok (.rt d f) s) := qc
    unfold asgR at qc
    cases ea : asgT t ds[i] σc with
    | none => rw [ea] at qc; exact qc.elim
    | some σ4 =>
      rw [ea] at qc
      have qc : PstS B σ1 σV H1 W D ((seqL p.s b σ4).bind fun fl s => match fl with
        | .nx => forL (fun d s => (asgR t d s).bind fun _ s => seqL p.s b s) (ds.drop (i + 1)) s
        | .ct => forL (fun d s => (asgR t d s).bind fun _ s => seqL p.s b s) (ds.drop (i + 1)) s
        | .bk => .ok .nx s
        | .rt d f => .ok (.rt d f) s) := qc
      rw [show G.K = B.K from g.1.symm]
      refine asg_ok r' hv ea fun σV4 r4 off ro4 => ⟨B, σ4, g, r4, ?_⟩
      have s4 : StpS σ1 σ4 σV σV4 H1 H' := sc.trans ⟨k1.weak fun _ z => z.elim, fun a z => .inl (ro4 a z)⟩
      cases eb : seqL p.s b σ4 with
      | bad => rw [eb] at qc; exact qc
      | err k d s => rw [eb] at qc; exact PstS.back s4 qc
      | ok fl s =>
        rw [eb] at qc
        cases fl with
        | nx => exact fun σV' H2 r2 st2 => ⟨_, by omega, rfl, hlt, s, r2, s4.trans st2, qc⟩
        | ct => exact fun σV' H2 r2 st2 => ⟨_, by omega, rfl, hlt, s, r2, s4.trans st2, qc⟩
        | bk => exact fun σV' H2 r2 st2 => qc σV' H2 r2 (s4.trans st2)
        | rt d f => exact fun σV' H2 r2 st2 => qc σV' H2 r2 (s4.trans st2)
  · have hie : i = ds.length := by omega
    subst hie
    rw [List.drop_length] at qc
    exact .inl ⟨wk.stop Hc kA, qc σVc Hc rc sc⟩
/-! ### while -/
theorem s_whl {P : Prg} {c : R} {b : List Q} {f : Expr} {body : List Stmt} {p1 : Pos} (hx : Stx X W) (hc : PT X f (tT G W (p.t c))) (hb : PSs X body (tS G W (seqL p.s b))) : PS X (.While f body [] p1) (tS G W (stepS P p (.whl c b))) := by
  refine psI (ps_while hx.ps hc hb) fun D σV H ⟨B, σ, g, r, q⟩ => ?_
  have q : PstS B σ σV H W D (whileL (p.t c) (seqL p.s b) whileMost σ) := q
  refine ⟨fun m σVc Hc => ∃ σc, Rep B Hc σc σVc ∧ PstS B σc σVc Hc W D (whileL (p.t c) (seqL p.s b) m σc), ⟨whileMost, σ, r, q⟩, ?_⟩
  rintro m σVc Hc ⟨σc, rc, qc⟩
  cases m with
  | zero => exact qc.elim
  | succ m =>
    have qc : PstS B σc σVc Hc W D ((p.t c σc).bind fun d s => if d then (seqL p.s b s).bind fun fl s => match fl with
      | .nx => whileL (p.t c) (seqL p.s b) m s
      | .ct => whileL (p.t c) (seqL p.s b) m s
      | .bk => .ok .nx s
      | .rt d f => .ok (.rt d f) s
      else .ok .nx s) := qc
    refine tT.mk g rc (qc.expr.imp fun d σ2 q2 H2 r2 st2 => ?_)
    have q2 := PstS.back st2.s q2
    cases d with
    | false => exact q2 σVc H2 r2 .refl
    | true =>
      have q2 : PstS B σ2 σVc H2 W D ((seqL p.s b σ2).bind fun fl s => match fl with
        | .nx => whileL (p.t c) (seqL p.s b) m s
        | .ct => whileL (p.t c) (seqL p.s b) m s
        | .bk => .ok .nx s
        | .rt d f => .ok (.rt d f) s) := q2
      refine ⟨fun σ' H' => ∃ m', m' < m + 1 ∧ ∃ σc, Rep B H' σc σ' ∧ PstS B σc σ' H' W D (whileL (p.t c) (seqL p.s b) m' σc), fun _ _ z => z, B, σ2, g, r2, ?_⟩
      cases eb : seqL p.s b σ2 with
      | bad => rw [eb] at q2; exact q2
      | err k d s => rw [eb] at q2; exact q2
      | ok fl s =>
        rw [eb] at q2
        cases fl with
        | nx => exact fun σV' H3 r3 st3 => ⟨m, Nat.lt_succ_self _, s, r3, PstS.back st3 q2⟩
        | ct => exact fun σV' H3 r3 st3 => ⟨m, Nat.lt_succ_self _, s, r3, PstS.back st3 q2⟩
        | bk => exact q2
        | rt d f => exact q2
end
end Pv
/-! Pe1: the package's error class: __init__ runs. -/
namespace Pv
open PySem PySem.Spec PyProof.Rows L2
section
open PySem.W
theorem mcall_pos {o : Expr} {name : Str} {apos pos : Pos} {env : Env} {ov : Value} {args : List (Bool × Sem Value)} {kws : List (Option Str × Sem Value)} {n : Nat} (h : (apos.endLine == pos.line) = true) (hf : methodCallForm n args kws = true) :
    methodCall o name apos pos env ov n args kws = (do
      let (f, first) ← holding [ov] (getMethod ov name (do return (← importBound o env).getD true))
      callWith pos f first args kws) := by
  unfold methodCall methodCallPos calleeOf
  rw [hf]
  simp only [if_true, h, Bool.not_true, Bool.false_or, if_true, pure_bind]
theorem init_run {prog : Program} {w : World} {A : Around} {R : Result → Shared → Prop} {K : Frag} {a C D f cc cda t0 : Addr} {u : Value} {hp : Heap} {g : Array GenState} {d : Drawn} {t : Nat} {os : OsState} {mg mb : Str → Option Value} {fd : FuncData} {sc : Scope} {slf val fld : Str}
    (P : PeDef K prog D f fd sc slf val fld cc cda) (Q : PeCls K C D fld) (X : K.In hp) (hKa : K.lookup a = none) (hg : hp.Ns mainGlobals mg) (hms : mg "super" = none) (hb : hp.Ns builtinsNs mb) (hmb : mb "super" = some (.type "super")) (lim : hp.NoLimit)
    (hop : nsIn K cStatics "thirdparty.any" = some none) (htop : (prog.main.scope.names.lookup ("super" : Str)).isSome = false) (ha : hp.get? a = some (excObj C t0 none .none)) (room : A.depth < recursionLimit)
    (hR : ∀ h' t' dx t1, (∀ b o, b ≠ a → hp.get? b = some o → h'.get? b = some o) → hp.objs.size ≤ dx → h'.get? a = some (excObj C t1 (some dx) .none) → h'.Ns1 dx (fun y => if y = fld then some u else none) → R (.ok (.ret .none)) ⟨h', g, d, t', os⟩) :
    codeAny (model prog w) A (.call (.ref f) ⟨[.ref a, u], []⟩) R ⟨hp, g, d, t, os⟩ := by
  obtain ⟨name, qual, params, body, dV, kV, doc, pm, ct, oc, an, od, osl, msg, j, p0, p1, p2, p3, p4, p5, p6, p7, p8, p9, ar, vs, file, tf, ccl, cl, cdd, cld, ccs, csl, cdD, efd, lk, hbody, hcd, hpar, har, hcode, hvs, hfile, hcell, hD, hpos⟩ := P.ex
  obtain ⟨cd, hcl, hm, hh⟩ := Q.cd
  obtain ⟨bmB, newId, FB, hini⟩ := Q.ini
  subst efd
  refine ks_codeAny_call_defAt (fd := ksFn name qual params body sc dV kV doc pm an (.ref cda) ct cc) (body := body) (binds := [(slf, .ref a), (val, u)]) room (X _ _ lk) rfl lim (codeRec_of X hcd) rfl (.of_eq (P.bind _ _)) P.hcell (fun y hy => ?_) (fun h₁ hns hk₁ => ?_) P.hco P.hgen P.hk
  · rcases List.mem_cons.mp hy with rfl | hy
    · exact P.hka
    · obtain rfl : y = (val, u) := by simpa using hy
      exact P.hkv
  subst hbody
  -- the ground: all but the exception
  have X1 : K.In h₁ := X.keeps hk₁
  have ha1 : h₁.get? a = some (excObj C t0 none .none) := hk₁ _ _ ha
  have aL : a ≠ hp.objs.size := Nat.ne_of_lt (Heap.lt_size ha)
  have XG : K.In (hideAll hp [a]) := fun b o e => hideAll_get [a] (X b o e) fun z => by
    rw [show b = a by simpa using z, hKa] at e; cases e
  have F1 : Fr (hideAll hp [a]) hp.objs.size h₁ (fun y => [(slf, Value.ref a), (val, u)].reverse.lookup y) := ⟨hns, fun b o e => hk₁ b o (of_hideAll _ e), Nat.le_of_eq (hideAll_size _ _)⟩
  have N1 : News (hideAll hp [a]) hp.objs.size h₁ [(a, excObj C t0 none .none)] := fun p hp' => by
    obtain rfl : p = (a, excObj C t0 none .none) := by simpa using hp'
    exact ⟨ha1, aL, hideAll_none _ (by simp)⟩
  have I1 : InstAt h₁ a (excObj C t0 none .none) C none := ⟨ha1, rfl, rfl, trivial⟩
  have mself : (fun y => [(slf, Value.ref a), (val, u)].reverse.lookup y) slf = some (.ref a) := by
    show [(val, u), (slf, Value.ref a)].lookup slf = _
    rw [List.lookup_cons, show (slf == val) = false by simpa using P.ne, List.lookup_cons, beq_self_eq_true]
  have mval : (fun y => [(slf, Value.ref a), (val, u)].reverse.lookup y) val = some u := by
    show [(val, u), (slf, Value.ref a)].lookup val = _
    rw [List.lookup_cons, beq_self_eq_true]
  obtain ⟨oD, hD1, hD2⟩ : ∃ oD, h₁.get? D = some oD ∧ oD.data = .cls cdD := by
    unfold clsIn at hD
    split at hD
    · rename_i c' d' cd' sl ho
      cases hD
      exact ⟨_, X1 _ _ ho, rfl⟩
    · cases hD
  refine ks_wpAt_execs_cons (ks_wpAt_Expr_any (ks_wpAt_MethodCall (pl := _) ?_ (by
    refine congrArg _ (funext fun ov => congrArg _ (funext fun _ => ?_))
    exact mcall_pos hpos rfl)) (by unfold interactive; simp [callEnv, newEnv, P.hk]) rfl)
  refine ks_wpAt_super_base (ar := ar) P.hks P.hkc rfl rfl (X1 _ _ lk) rfl hpar rfl (X1 _ _ hcode) rfl hvs hfile htop ?_
  refine ks_loadName_global P.hk P.hks (Calls.loadGlobal_builtin (hg.keeps hk₁) hms (hb.keeps hk₁) hmb ⟨rfl, ?_⟩)
  refine wpAny_loadName_free P.hk P.hkc rfl ⟨_, X1 _ _ hcell, rfl⟩ ?_
  rw [har]
  refine wpAny_loadName_local P.hk P.hka hns mself ?_
  refine ks_wpAny_isType_cls hD1 hD2 ⟨rfl, ?_⟩
  refine ks_wpAny_call_super hD1 hD2 ha1 rfl (fun c e => by cases e) (looks_mroIn X1 Q.sub) (fun h2 e2 k2 => ?_)
  obtain ⟨F2, N2, l2⟩ := ks_newsPush (s := ⟨h₁, g, d, t + 2, os⟩) (o := ks_superObj D a C) F1 N1 rfl e2 k2
  have ha2 : h2.get? a = some (excObj C t0 none .none) := k2 _ _ ha1
  refine kxs_method (s := ⟨h2, g, d, t + 2, os⟩) kxs_ValueError F2 XG N2 (List.mem_cons_self) (ox := excObj C t0 none .none) (odx := none) ⟨ha2, rfl, rfl, trivial⟩ hop Q.sup Q.ve rfl (fun q h3 F3 N3 l3 => ?_)
  have ns1 : h₁.objs.size ≠ a := (Nat.ne_of_lt (Heap.lt_size ha1)).symm
  have nq : q ≠ a := (Nat.ne_of_lt (l3 (a, excObj C t0 none .none) (by simp))).symm
  refine kxs_callWith1 N3 (List.mem_cons_self) (spliced_more (Calls.Constant_str (spliced_none ⟨kxs_at N3 (List.mem_cons_self), ?_⟩)))
  refine kxs_call F3 XG N3 FB hini (List.mem_cons_self) (.tail nq (.tail ns1 (.head fun p hp' => by cases hp'))) (by show 1 ≤ sizeLine; rw [sizeLine_eq]; omega) (fun t1 h4 F4 N4 l4 => ?_)
  have ha4 : h4.get? a = some (excObj C t1 none .none) := (N4 (a, excObj C t1 none .none) (by simp)).1
  refine wpAt_of_wpAny (wpAny_execs_cons (plainObj_wpAny_Assign_Attribute ?_ rfl))
  refine wpAny_Name (wpAny_loadName_local P.hk P.hkv F4.ns mval ?_) P.dbg.2
  refine wpAny_Name (wpAny_loadName_local P.hk P.hka F4.ns mself ?_) P.dbg.1
  refine set_plain (XG.keeps F4.keep) (ox := excObj C t1 none .none) (od := none) ⟨ha4, rfl, rfl, trivial⟩ Q.sa ?_
  refine PySem.HandSPX.exc_osa (XG.keeps F4.keep) ha4 hcl hm hh Q.no (fun h5 tk5 dx k5 dn dne hx5 hn5 => ?_)
  refine wpAny_execs_nil (hR h5 tk5 dx t1 (fun b o hb e => k5 b o hb (F4.keep b o (hideAll_get [a] e (by simpa using hb)))) (Nat.le_trans (Nat.le_of_lt F4.ns.lt) dn) hx5 hn5)
end
end Pv
/-! Pe2: raise, try. -/
namespace Pv
open PySem PySem.Spec PyProof.Rows L2
section
variable {X : Cx} {pins : List (Addr × Obj)} {σ : L2.St} {H : Hp} {s : Shared}
/-- C(e), C under the package's error class -/
theorem pmk_pe {x : Str} {C D fI cc cda : Addr} {fd : FuncData} {sc : Scope} {slf val fld : Str} {e : Expr} {te : TE} {p pos : Pos} (T : OexC X.K C) (iC : PySem.W.findIn X.K (.ref C) "__init__" = some (some (.ref fI))) (tI : PySem.W.typeIn X.K (.ref fI) = some (.type "function"))
    (P : PeDef X.K X.prog D fI fd sc slf val fld cc cda) (Q' : PeCls X.K C D fld) (hop : PySem.W.nsIn X.K cStatics "thirdparty.any" = some none) (htop : (X.prog.main.scope.names.lookup ("super" : Str)).isSome = false) (hr : Room 1 X.A) (hsup : X.mg "super" = none) (hg : Gl X x) (hm : X.mg x = some (.ref C))
    (he : PE X e te) (hdb : (x == ("__debug__" : Str)) = false) (hst : starEach [e] X.env = (false, eval e X.env) :: starEach [] X.env) :
    PMk X (.Call (.Name x p) [e] [] pos) (fun σ H Q => te σ H fun y H1 => ∀ dx, H1 dx = none → Q (.ref C) (some dx) (upd H1 dx (.xd [(fld, y)]))) := by
  intro pins s σ H Q I h
  obtain ⟨nm, q, N, bs, bm, sn, sub, ab, col, dd, k0, k1, k2, k3, k5, hC, hbm⟩ := T.cls
  refine wpAny_Call_Name_kw (ld_glob I hg hm (PySem.W.callWith_K (h₀ := X.base) I.ok.mod.kin T.kC ?_ hst rfl) hdb)
  rw [hst]
  refine Calls.spliced_cons (thn (he.run pins s σ H _ I h) fun u s1 hh => Calls.spliced_nil ?_)
  obtain ⟨y, H1, I1, ru, q1⟩ := hh
  refine ⟨I1.kIn, ?_⟩
  show wpAny _ _ (call (.ref C) [u]) _ _ _
  obtain ⟨hp, g, dr, tk, os⟩ := s1
  have kk : ∀ b o, hp.get? b = some o → ((hp.push (PySem.W.kdv_tup [u])).push (PySem.HandSPX.excO C hp.objs.size)).get? b = some o := fun b o e => Heap.get?_push_of_some _ (Heap.get?_push_of_some _ e)
  have hget : ((hp.push (PySem.W.kdv_tup [u])).push (PySem.HandSPX.excO C hp.objs.size)).get? (hp.objs.size + 1) = some (PySem.HandSPX.excO C hp.objs.size) := by heap_get
  have hsz : hp.objs.size + 2 ≤ ((hp.push (PySem.W.kdv_tup [u])).push (PySem.HandSPX.excO C hp.objs.size)).objs.size := by rw [Heap.size_push, Heap.size_push]; exact Nat.le_refl _
  obtain ⟨mb, hb1, hb2⟩ := I1.mod.blt
  have bk : ∀ b o, X.base.get? b = some o → ((hp.push (PySem.W.kdv_tup [u])).push (PySem.HandSPX.excO C hp.objs.size)).get? b = some o := fun b o e => kk b o (I1.bk b o e)
  refine wpAny_call (PySem.HandSPX.call_own PySem.F.excBase_ValueError (fun Y => PySem.HandSPX.refsVE_contains Y bm hbm) (I1.kIn _ _ hC) (PySem.W.looks_findIn I1.kIn iC) (fun sf => PySem.W.bind_fn I1.kIn sf tI) (by show 1 ≤ sizeLine; rw [sizeLine_eq]; omega) ?_)
  refine init_run (t0 := hp.objs.size) P Q' (fun b o e => kk b o (I1.kIn b o e)) ?_ (I1.mod.glob.keeps bk) hsup (hb1.keeps bk) ((hb2 "super" (by decide)).trans (by decide +kernel)) (I1.mod.nolimit.keeps bk) hop htop hget (hr.make C [u] []).depth (fun h' t' dx t1 k dn hx hn => ?_)
  · cases e : X.K.lookup (hp.objs.size + 1) with
    | none => rfl
    | some o =>
      have z := Heap.lt_size (I1.kIn _ _ e)
      have z : hp.objs.size + 1 < hp.objs.size := z
      omega
  · have dn2 : hp.objs.size ≤ dx := by omega
    have hfr : H1 dx = none := I1.hok.fresh dn2
    have hfa : H1 (hp.objs.size + 1) = none := I1.hok.fresh (Nat.le_succ _)
    have hda : dx ≠ hp.objs.size + 1 := fun z => by
      obtain ⟨o, es, ep, e1, e2, _⟩ := hn
      rw [z, hx] at e1
      have z2 := Option.some.inj e1
      subst z2
      cases e2
    obtain ⟨G, g1, g2⟩ := restrict h' fun b => decide (b ≠ hp.objs.size + 1)
    have gk : ∀ b, b ≠ hp.objs.size + 1 → G.get? b = h'.get? b := fun b hb => g1 b (decide_eq_true hb)
    have ge : G.get? (hp.objs.size + 1) = none := g2 _ (by simp)
    have nha : ∀ {b : Addr} {o : Obj}, hp.get? b = some o → b ≠ hp.objs.size + 1 := fun {b o} z => Nat.ne_of_lt (Nat.lt_succ_of_lt (Heap.lt_size z))
    have J : Inv X pins σ (upd H1 dx (.xd [(fld, y)])) ⟨G, g, dr, t', os⟩ := I1.laid (fun b o z => (gk b (nha z)).trans (k b o (nha z) (kk b o z))) dn2
      ⟨_, hn.at fun o y => (gk dx hda).trans y, fun f => by
        rw [List.lookup_cons]
        cases z : f == fld with
        | true =>
          rw [if_pos (eq_of_beq z)]
          exact ru
        | false =>
          rw [if_neg (by simpa using z)]
          exact trivial⟩
    exact ⟨rfl, hp.objs.size + 1, _, _, ⟨G, g, dr, t', os⟩, _, .ref C, some dx, rfl, J, fun b o z => by
      by_cases hb : b = hp.objs.size + 1
      · rw [hb, ge] at z; cases z
      · exact (gk b hb).symm.trans z, ge, hx, ⟨rfl, rfl⟩, rfl, rfl, by rw [upd_ne (Ne.symm hda)]; exact hfa, rfl, I1.bare, raises_own T.exC T.tyC, q1 dx hfr⟩
/-- the object of a caught error -/
def ErrO (cls : Value) (d : Option Addr) (a : Addr) : HO := .ext fun h => ∃ (oe : Obj) (vs : Array Value), h.get? a = some oe ∧ Zc cls d oe ∧ oe.data = .fields vs
theorem errO_ok {P : Program} {w : World} {H : Hp} {h : Heap} {a : Addr} {cls : Value} {d : Option Addr} {oe : Obj} {vs : Array Value} (e : h.get? a = some oe) (z : Zc cls d oe) (hd : oe.data = .fields vs) : ObjOk P w H h a (ErrO cls d a) :=
  ⟨⟨oe, vs, e, z, hd⟩, ⟨oe, e⟩, fun _ _ ⟨o, v, q, r⟩ k => ⟨o, v, k o q, r⟩⟩
/-- an object that stands in the heap, new since the entry, is tracked -/
theorem Inv.track {a : Addr} {cls : Value} {d : Option Addr} {oe : Obj} {vs : Array Value} (I : Inv X pins σ H s) (ha : s.heap.get? a = some oe) (hz : Zc cls d oe) (hd : oe.data = .fields vs) (hn : H a = none) (h0 : X.s_0.heap.get? a = none) (hp : ∀ p ∈ X.pn ++ pins, p.1 ≠ a) :
    Inv X pins σ (upd H a (ErrO cls d a)) s := by
  have nL : X.env.locals ≠ a := fun z => by
    obtain ⟨m, ⟨o, es, ep, ho, hdd, _⟩, _⟩ := I.loc
    rw [z, ha] at ho; cases ho; rw [hd] at hdd; cases hdd
  have nC : ∀ x c, X.env.cells.lookup x = some c → c ≠ a := fun x c e z => by
    obtain ⟨v, o, ho, hdd⟩ := I.cell x c e
    rw [z, ha] at ho; cases ho; rw [hd] at hdd; cases hdd
  have n0 : ∀ {b : Addr} {o : Obj}, X.s_0.heap.get? b = some o → b ≠ a := fun {b o} e z => by rw [z, h0] at e; cases e
  refine ⟨I.ok, I.os, I.bare, ⟨I.base.keep, I.base.slot, fun b o e n hx => by rw [upd_ne (n0 e)]; exact I.base.free b o e n hx, I.base.there, fun b xs e => ?_, fun b o u e => ?_, fun b ps e => ?_⟩, I.loc, I.cell, by rw [upd_ne nL]; exact I.free,
    fun x c e => by rw [upd_ne (nC x c e)]; exact I.freeC x c e, fun p h => ?_, fun b o e => ?_, I.len⟩
  · have q := I.base.tups b xs e
    rw [upd_ne (ne_of_none q hn)]; exact q
  · have q := I.base.frzs b o u e
    rw [upd_ne (ne_of_none q hn)]; exact q
  · obtain ⟨m, q⟩ := I.base.tbls b ps e
    exact ⟨m, by rw [upd_ne (ne_of_none q hn)]; exact q⟩
  · obtain ⟨q1, q2, q3⟩ := I.pin p h
    exact ⟨q1, by rw [upd_ne (hp p h)]; exact q2, q3⟩
  · by_cases hb : b = a
    · subst hb
      rw [upd_same] at e
      cases e
      exact errO_ok ha hz hd
    · rw [upd_ne hb] at e
      exact (I.hok b o e).stay (fun _ _ _ q => q) (fun c q => by rw [upd_ne (ne_of_none q hn)]; exact q) fun c xs q => by rw [upd_ne (ne_of_none q hn)]; exact q
/-- what 'except x as n: m = n' wishes of the body's exceptions -/
def wTr (K : Frag) (c : Value) (i j : Nat) (Wout : WX) (D : Ends) : WX := fun cls d σ H =>
  ∃ b, PySem.W.exmOne K cls c = some b ∧ (b = true → ∀ a, H a = none → D.nx (((σ.set i (some (.ref a))).set j (some (.ref a))).set i none) (upd H a (ErrO cls d a))) ∧ (b = false → Wout cls d σ H)
section
variable {x n m : Str} {c : Value} {i j : Nat} {body : List Stmt} {np p1 p2 p3 pos pos' : Pos} {tb : WX → TS} {Wout : WX}
theorem ps_tr (hex : X.ex = []) (hs : X.stack = X.env :: X.outer) (hf : X.env.frame = some X.env.locals) (hN : X.N.Nodup) (hi : X.N[i]? = some n) (hj : X.N[j]? = some m) (hln : X.env.kindOf n = some .local) (hlm : X.env.kindOf m = some .local) (hdn : (n == ("__debug__" : Str)) = false) (hcn : (n == ("__classdict__" : Str)) = false)
    (hc : Names X x c) (tk : Takes X Wout) (hsw : swapsWithSole [.Name m p1] (.Name n p2) p3.line X.env = pure false)
    (hb : ∀ (W : WX) (pn : List (Addr × Obj)) (xe : Value → Shared → Prop), Takes (X.tr pn xe) W → PassesOwn (model X.prog X.w) X.A X.env xe → PSs (X.tr pn xe) body (tb W)) :
    PS X (.Try body [.ExceptHandler (some (.Name x np)) (some n) [.Assign [.Name m p1] (.Name n p2) p3] pos'] [] [] pos) (fun D σ H => tb (wTr X.K c i j Wout D) D σ H) := by
  constructor
  intro pins s σ H D I h
  have ok := I.ok
  have fr : X.A.frames = some (X.env :: X.outer) := ok.frames.trans (by rw [hs])
  refine wpAny_Try_except ?_
  have wish : Takes (X.tr (X.pn ++ pins) (fun e s₁ => wpAny (model X.prog X.w) X.A (noteFrame e X.env) (fun _ s₂ => wpAny (model X.prog X.w) X.A (setFlight e none) (fun _ s₃ => wpAny (model X.prog X.w) X.A (handleBy e X.env [.ExceptHandler (some (.Name x np)) (some n) [.Assign [.Name m p1] (.Name n p2) p3] pos']) (SP X pins D) X.xe s₃) X.xe s₂) X.xe s₁)) (wTr X.K c i j Wout D) := by
    rintro u s2 ⟨a, B, sI, pins2, σ2, H2, cls, d, rfl, J2, nb, up, sky, na, os, ag, b, e1, yes, no⟩
    have J : Inv X pins σ2 H2 sI := J2.ofTry ok
    have sky2 : Sky B (X.env :: X.outer) a (Zc cls d) X.env.locals s2.heap := by rw [← hs]; exact sky
    show wpAny _ X.A (noteFrame (.ref a) X.env) _ _ _
    refine Sky.land Zc.steady fr hf sky2 fun h3 fl up3 => ?_
    obtain ⟨oe, vs, he, hz, hd⟩ := fl.there
    have J3 : Inv X pins σ2 H2 { s2 with heap := h3 } := J.landed nb fl.1 (up.trans up3) os ag
    have notIn : ∀ {l : List Env}, h3.FunFrames B l → a ∉ frs l := fun {l} ff hm => by
      obtain ⟨_, o, q, hnf⟩ := ff.mem hm
      rw [he] at q; cases q
      exact hnf _ hd
    have nfr : a ∉ frs (X.env :: X.outer) := notIn fl.2.2.1
    have nL : a ≠ X.env.locals := fun z => nfr (List.mem_filterMap.mpr ⟨X.env, List.mem_cons_self, by rw [hf, z]⟩)
    have nF : a ∉ X.fs := fun hm => by
      obtain ⟨e, q1, q2⟩ := List.mem_filterMap.mp hm
      exact nfr (List.mem_filterMap.mpr ⟨e, List.mem_cons_of_mem _ q1, q2⟩)
    have nI : sI.heap.get? a = none := by
      cases q : sI.heap.get? a with
      | none => rfl
      | some o =>
        have z := nb a o q (by rw [hs]; exact nfr)
        rw [fl.2.1] at z
        cases z
    have n0 : X.ex = [] → X.s_0.heap.get? a = none := fun hx => by
      cases q : X.s_0.heap.get? a with
      | none => rfl
      | some o =>
        obtain ⟨o2, z⟩ := J.base.there a o q (by rw [hx]; exact fun z => nomatch z)
        rw [nI] at z
        cases z
    have npn : ∀ p ∈ X.pn ++ pins, p.1 ≠ a := fun p hp z => by
      have y := (J.pin p hp).1
      rw [z, nI] at y
      cases y
    have S3 := J3.suite he hd na nL nF
    refine wpAny_handleBy_cons (codeAny_handlers_test ?_) (by intro q; cases q)
    have LT : PySem.W.Looks (model X.prog X.w) h3 (typeOf (.ref a)) cls := fun A Q E s k q => wpAny_typeOf_ref (k _ _ he) (by rw [hz.1]; exact q)
    have LM := PySem.W.exm_one (M := model X.prog X.w) J3.kIn LT e1
    have test : ∀ {Q : Value → Shared → Prop} {E : Value → Shared → Prop}, Q c { s2 with heap := h3 } → wpAny (model X.prog X.w) (X.A.mark (some (.ref a))) (eval (.Name x np) X.env) Q E { s2 with heap := h3 } := fun {Q E} q => by
      obtain ⟨g1, g2, g3⟩ := hc
      rcases g3 with g3 | ⟨g3, g4, g5⟩
      · exact ld_glob (X := X.suite a ((a, oe) :: (X.pn ++ pins))) S3 g1 g3 q g2
      · exact ld_blt (X := X.suite a ((a, oe) :: (X.pn ++ pins))) S3 g1 g3 g4 q g5 g2
    refine test (LM.here ?_)
    cases b with
    | true =>
      refine codeAny_handlers_suite_as (HandSPX.lands_againZ fl fun h4 fl4 up4 => ?_)
      obtain ⟨oe4, vs4, he4, hz4, hd4⟩ := fl4.there
      have J4 : Inv X pins σ2 H2 { s2 with heap := h4 } := J.landed nb fl4.1 ((up.trans up3).trans up4) os ag
      have S4 := J4.suite he4 hd4 na nL nF
      refine store_ok (X := X.suite a ((a, oe4) :: (X.pn ++ pins))) (v := .ref a) S4 hN hi (.inl hln) rfl (fun s5 S5 => ?_) (.inr hln)
      have pe : PE (X.suite a ((a, oe4) :: (X.pn ++ pins))) (.Name n p2) (tVar i) := pe_var (X := X.suite a ((a, oe4) :: (X.pn ++ pins))) hi (.inl hln) hdn hcn
      have pg : PG (X.suite a ((a, oe4) :: (X.pn ++ pins))) (.Name m p1) (gName j) := pg_name (X := X.suite a ((a, oe4) :: (X.pn ++ pins))) hN hj (.inl hlm) (.inr hlm)
      have hil : i < σ2.length := by rw [J.len]; exact (List.getElem?_eq_some_iff.mp hi).1
      refine wpAny_mono ((pss_one (ps_asg pe pg hsw rfl rfl)).run [] s5 _ H2 { nx := fun σ' H' => σ' = (σ2.set i (some (.ref a))).set j (some (.ref a)) ∧ H' = H2, rt := fun _ _ => False } S5 ⟨.ref a, List.getElem?_set_self hil, rfl, rfl⟩) (fun f s6 hsp => ?_) (fun _ _ z => False.elim z)
      cases f with
      | next =>
        obtain ⟨σ6, H6, S6, e6, e7⟩ := hsp
        subst e6 e7
        have at6 := (S6.pin (a, oe4) (List.mem_append_left _ List.mem_cons_self)).1
        have J6 : Inv X pins _ _ s6 := S6.unsuite ok
        exact gone_ok (Inv.track J6 at6 hz4 hd4 na (n0 hex) npn) hN hi hln fun s7 J7 => ⟨_, _, J7, yes rfl a na⟩
      | brk => obtain ⟨_, _, _, z⟩ := hsp; exact z.elim
      | cont => obtain ⟨_, _, _, z⟩ := hsp; exact z.elim
      | ret u => obtain ⟨_, _, _, _, _, z⟩ := hsp; exact z.elim
    | false =>
      show wpAny _ X.A (handleBy (.ref a) X.env []) _ _ _
      refine wpAny_handleBy_nil ?_
      obtain ⟨k1, k2, k3, oe', vs', T, oT, ts, q1, q2, q3, q4, q5⟩ := id fl
      unfold PySem.passOn
      refine wpAny_bind (wpAny_field q1 q3 q4 ?_)
      rw [if_neg (show ¬ ((Value.ref T == Value.none) = true) from by simp)]
      have fin : wpAny (model X.prog X.w) X.A (setFlight (.ref a) X.env.frame) (fun _ s4 => wpAny (model X.prog X.w) X.A (throw (.ref a) : Sem PySem.Flow) (SP X pins D) X.xe s4) X.xe { s2 with heap := h3 } := by
        rw [hf]
        exact HandSPX.setFlight_upZ fl fun h4 hh4 up4 => wpAny_throw (tk _ _ ⟨a, B, sI, pins, σ2, H2, cls, d, rfl, J, nb, (up.trans up3).trans up4, .inr (.inr (by rw [hs]; exact hh4)), na, os, ag, no rfl⟩)
      first
        | exact wpAny_bind (wpAny_pure (wpAny_bind fin))
        | exact wpAny_bind fin
  refine wpAny_mono ((hb _ _ _ wish PassesOwn.looking).run [] s σ H D (I.toTry _) h) (fun f s1 hsp => ?_) (fun e s1 he => he)
  cases f with
  | next => obtain ⟨σ', H', J, q⟩ := hsp; exact wpAny_execs_nil ⟨σ', H', J.ofTry ok, q⟩
  | brk => obtain ⟨σ', H', J, q⟩ := hsp; exact ⟨σ', H', J.ofTry ok, q⟩
  | cont => obtain ⟨σ', H', J, q⟩ := hsp; exact ⟨σ', H', J.ofTry ok, q⟩
  | ret u => obtain ⟨v, σ', H', J, r, q⟩ := hsp; exact ⟨v, σ', H', J.ofTry ok, r, q⟩
end
end
end Pv
/-! Pe3: errors as values; raise and try as readings. -/
namespace PySem.W
open PySem PySem.Spec PySem.Calls PyProof.Rows
section
variable {prog : Program} {w : World} {A : Around} {E : Value → Shared → Prop} {s : Shared} {K : Frag} {x D : Addr} {ox : Obj} {od : Option Obj}
theorem pv_findObj {C : Addr} {name : Str} {a g : Value} (hc : (clsIn K C).isSome = true) (ha : findIn K (.ref C) name = some (some a)) (hg : specialIn K a "__get__" = some (some g)) (ht : takesIn K a = some true) : findObj K C od name = some (.bind g a) := by
  obtain ⟨cd, hc⟩ := Option.isSome_iff_exists.mp hc
  unfold findObj
  rw [hc, Option.bind_some, ha, Option.bind_some]
  simp [hg, ht]
theorem pv_class {Q : Option Value → Shared → Prop} (Y : L2.ExcC K D) (X : K.In s.heap) (I : InstAt s.heap x ox D od) (h : Q (some (.ref D)) { s with toks := s.toks + 1 }) : wpAny (model prog w) A (getAttr? (.ref x) "__class__") Q E s := by
  have found : findObj K D od "__class__" = some (.bind (.builtin "getset_descriptor.__get__") (.builtin "object.__class__")) := pv_findObj (by obtain ⟨cd, hc, _⟩ := any_some Y.hd; rw [hc]; rfl) Y.ha Y.hn Y.ht
  obtain ⟨hp, g, d, t, os⟩ := s
  have l0 := I.type (M := model prog w)
  have l1 := looks_findIn (M := model prog w) X Y.hg
  have l2 := looks_findIn (M := model prog w) X Y.hk
  have l3 := looks_find (M := model prog w) X I found
  have isE : Looks (model prog w) hp (isInstance (.ref x) (.type "BaseException")) true := l0.andThen (looks_subIn X Y.hs)
  have b2 : (Value.builtin "BaseException.__getattribute__" == Value.builtin "object.__getattribute__") = false := by decide +kernel
  have b1 : (onTheHeap (Value.ref D) && Value.builtin "BaseException.__getattribute__" == Value.builtin "object.__getattribute__") = false := by rw [b2]; rfl
  unfold getAttr? getAttrBy? getAttrBy
  refine wpAny_bind (wpAny_mkText (wpAny_bind (wpAny_attempt (wpAny_holding (wpAny_bind (l0.at (wpAny_bind (l1.at ?_))))))))
  show wpAny _ _ (if (onTheHeap (Value.ref D) && Value.builtin "BaseException.__getattribute__" == Value.builtin "object.__getattribute__") = true then _ else _) _ _ _
  rw [b1, if_neg Bool.false_ne_true]
  unfold getAttrByItsOwn hookBefore
  refine wpAny_bind ?_
  rw [if_pos (show onTheHeap (Value.ref D) = true from rfl)]
  refine l2.at (wpAny_bind (wpAny_attempt (wpAny_holding ?_)))
  unfold callGetattribute
  rw [show (false && onTheHeap (Value.builtin "BaseException.__getattribute__")) = false from rfl, if_neg Bool.false_ne_true]
  unfold boundAndCalled
  rw [PySem.F.excAttr_ValueError.ga.bind (.ref x)]
  refine wpAny_bind (wpAny_pure ?_)
  show wpAny _ _ (call (.builtin "BaseException.__getattribute__") [.ref x, .str "__class__" t]) _ _ _
  refine wpAny_call (codeAny_call_builtin PySem.F.excAttr_ValueError.ga.plain PySem.F.entry_bexc_ga ?_)
  refine @check_slot (model prog w) _ _ ⟨hp, g, d, t + 1, os⟩ "BaseException.__getattribute__" "BaseException" "__getattribute__" (.ref x) [.str "__class__" t] [] _ (by decide +kernel) (by decide +kernel) isE (PySem.F.args_bexc_ga (.ref x) (.str "__class__" t)) ?_
  unfold Builtin.«object.__getattribute__»
  refine wpAny_bind (wpAny_of_eq (a := ((Value.ref x : Value), [Value.str "__class__" t])) (by first | rfl | (simp only [slotArgs]; rfl)) (wpAny_bind (wpAny_pure (wpAny_bind (l0.at (wpAny_bind (l3.at ?_)))))))
  show wpAny _ _ (holding [Value.builtin "object.__class__"] (call (.builtin "getset_descriptor.__get__") [.builtin "object.__class__", .ref x, .ref D]) >>= ret) _ _ _
  refine wpAny_bind (wpAny_holding (wpAny_call (class_get (s := ⟨hp, g, d, t + 1, os⟩) (ox := ox) (od := od) X I Y.hm (wpAny_pure ?_))))
  show wpAny _ _ (handedOut (.ref D)) _ _ _
  rw [handedOut_of (v := .ref D) rfl]
  first
    | exact wpAny_pure (wpAny_pure h)
    | exact wpAny_pure h
    | exact wpAny_pure (wpAny_bind (wpAny_pure (wpAny_pure h)))
theorem pv_kitx (Y : L2.ExcC K D) : KitX K (.ref x) (.ref D) (fun h => ∃ ox od, InstAt h x ox D od) where
  ty := fun _ _ _ ⟨_, _, I⟩ => I.type
  it := fun _ _ X _ => by
    obtain ⟨cdD, hcD, _⟩ := any_some Y.hd
    unfold clsIn at hcD
    split at hcD
    · rename_i c' d' cd' sl' ho
      intro A' Q' E' s' k q
      unfold isType loadHead
      exact wpAny_bind (wpAny_loadPart (k _ _ (X _ _ ho)) (wpAny_pure q))
    · cases hcD
  ne := fun h tp dd its n sl X htp => by
    obtain ⟨cdD, hcD, _⟩ := any_some Y.hd
    refine Bool.eq_false_iff.mpr fun q => ?_
    have e : D = tp := Value.ref.inj (beq_iff_eq.mp q)
    subst e
    unfold clsIn at hcD
    split at hcD
    · rename_i c' d' cd' sl' ho
      have z := (X _ _ ho).symm.trans htp
      cases z
    · cases hcD
  ca := fun X ⟨_, _, I⟩ k => pv_class Y X I k
end
end PySem.W
namespace Pv
open PySem PySem.Spec PyProof.Rows L2
section
variable {Γ : Gs} {G : Gk} {lv : Nat} {sps : Nat → Sp} {Θ : Sx} {X : Cx} {W : WX} {p : Ev} {m : Nat} {B : Vw} {H H' H1 : Hp} {σ σ' σ1 : S} {σV : L2.St} {pins : List (Addr × Obj)} {s : Shared}
/-- an error object and its dict, in the heap -/
theorem errv_inst {A : ASet} {v : V} {c : Nat} {d : PyData} (I : Inv X pins σV H s) (h : ErrV B A H v c d) : ∃ (a C dx : Addr) (oe od : Obj) (w : V) (u : Value), v = .ref a ∧ B.cls c = some C ∧ PySem.W.InstAt s.heap a oe C (some od) ∧ PySem.W.lookIn ("value" : Str) od = some (some u) ∧ RelV w u ∧ Rp B.K A H w d := by
  obtain ⟨a, dx, C, w, rfl, hc, e1, e2, n1, n2, r⟩ := h
  obtain ⟨⟨oe, vs, ho, hz, hd⟩, _, _⟩ := I.hok a _ e1
  obtain ⟨mA, hns, hr⟩ := I.hok dx _ e2
  obtain ⟨od, hod, hl⟩ := lookIn_ns hns
  obtain ⟨u, hu, ru⟩ := RelO.some_of (v := w) (o := mA "value") (by
    have z := hr "value"
    rw [List.lookup_cons, beq_self_eq_true] at z
    exact z)
  exact ⟨a, C, dx, oe, od, w, u, rfl, hc, ⟨ho, hz.1, by unfold PySem.W.notCls; rw [hd] <;> rfl, by rw [hz.2]; exact hod⟩, by rw [hl, hu], ru, r⟩
theorem cell_ex {i c : Nat} {d : PyData} (r : Rep B H σ σV) (e : σ[i]? = some (some (.ex c d))) : ∃ v, σV[i]? = some (some v) ∧ ErrV B (Av B σ σV) H v c d := r.cell i _ e
/-- z.value -/
theorem snd_xval {P : Prg} {i : Nat} {z : Str} {p1 pos : Pos} (c : Ctx Γ G lv sps Θ X) (h : isSlot Θ i z = true) : Snd G X W (.Attribute (.Name z p1) "value" pos) (stepE P p (.xval i)) (stepT P p (.xval i)) := by
  have pv := isSlot_ok (pos := p1) c h
  refine snd_of c.K ⟨fun pins s σV H Q I ⟨B, σ, g, r, q⟩ => ?_⟩ fun _ => rfl
  have q : Pst B σ σV H W _ (match σ[i]? with
    | some (some (.ex _ v)) => .ok (v, false) σ
    | _ => .bad) := q
  split at q
  · rename_i k d hd
    obtain ⟨v, ev, he⟩ := cell_ex r hd
    refine attr_of rfl (thn (pv.run pins s σV H (fun y H1 => y = v ∧ H1 = H) I ⟨v, ev, rfl, rfl⟩) fun u s1 hh => ?_)
    obtain ⟨y, H1, I1, ru, rfl, rfl⟩ := hh
    obtain ⟨a, C, dx, oe, od, w, u2, rfl, hc, J, hl, rw_, rd⟩ := errv_inst I1 he
    obtain rfl : u = Value.ref a := ru
    obtain ⟨x1, x2⟩ := c.xs.xc k C (by rw [← g.2]; exact hc)
    obtain ⟨_, fI, D, cc, cda, fd, sc, sl, val, _, _, _, pc⟩ := c.xs.make k C (by rw [← g.2]; exact hc)
    exact HandSPX.exc_get I1.kIn J x2.ga x2.gg x2.exC (PySem.W.findObj_own x2.hdC pc.no rfl hl) (handed_of rw_) ⟨w, H1, I1.tok _, rw_, q w H1 r .refl rd⟩
  · exact q.elim
/-- z is None, z an error or None -/
theorem snd_xnone {P : Prg} {yes : Bool} {i k : Nat} {z : Str} {o : CmpOp} {p1 p2 pos : Pos} (c : Ctx Γ G lv sps Θ X) (ho : isExp o yes = true) (h : isSlot Θ i z = true) :
    Snd G X W (.Compare (.Name z p1) [o] [.Constant .none k p2] pos) (stepE P p (.xnone yes i)) (stepT P p (.xnone yes i)) := by
  have pv := isSlot_ok (pos := p1) c h
  have key : ∀ σV H (Q : VK), tE G W (stepE P p (.xnone yes i)) σV H Q → tUn (rIsN yes) (tVar i) σV H Q := fun σV H Q ⟨B, σ, g, r, q⟩ => by
    have q : Pst B σ σV H W _ (match σ[i]? with
      | some (some (.ex _ _)) => .ok ((.bool !yes : PyData), false) σ
      | some (some (.pl .none)) => .ok ((.bool yes : PyData), false) σ
      | _ => .bad) := q
    split at q
    · rename_i k' d hd
      obtain ⟨v, ev, a, dx, C, w, rfl, _⟩ := cell_ex r hd
      refine ⟨_, ev, ?_⟩
      show Q (.bl (decide (V.ref a = .non) == yes)) H
      have e : (decide (V.ref a = .non) == yes) = !yes := by cases yes <;> rfl
      rw [e]
      exact q _ H r .refl (.bl _)
    · rename_i hd
      obtain ⟨v, ev, he⟩ := r.pl hd
      refine ⟨_, ev, ?_⟩
      cases he
      show Q (.bl (decide (V.non = .non) == yes)) H
      have e : (decide (V.non = .non) == yes) = yes := by cases yes <;> rfl
      rw [e]
      exact q _ H r .refl (.bl _)
    · exact q.elim
  refine ⟨peI (pe_cmp (isN_of (k := k) (pos2 := p2) ho pv) rfl) key, ptI (pt_cmp (isN_of (k := k) (pos2 := p2) ho pv) rfl) fun σV H Q ⟨B, σ, g, r, q⟩ => key σV H _ ⟨B, σ, g, r, ?_⟩⟩
  have q : Pst B σ σV H W (fun b σ' => ∀ H', Rep B H' σ' σV → Stp B σ σ' σV H H' → Q b H') ((match σ[i]? with
    | some (some (.ex _ _)) => (.ok ((.bool !yes : PyData), false) σ : Res DF)
    | some (some (.pl .none)) => .ok ((.bool yes : PyData), false) σ
    | _ => .bad).bind fun d s => .ok (tru d.1) s) := q
  show Pst B σ σV H W _ (match σ[i]? with
    | some (some (.ex _ _)) => (.ok ((.bool !yes : PyData), false) σ : Res DF)
    | some (some (.pl .none)) => .ok ((.bool yes : PyData), false) σ
    | _ => .bad)
  split at q
  · intro v H' r' st hv
    cases (show Rp B.K (Av B σ σV) H' v (.bool !yes) from hv)
    exact ⟨_, rfl, q H' r' st⟩
  · intro v H' r' st hv
    cases (show Rp B.K (Av B σ σV) H' v (.bool yes) from hv)
    exact ⟨_, rfl, q H' r' st⟩
  · exact q.elim
/-- isinstance(z, C) -/
theorem snd_isx {P : Prg} {i k : Nat} {x y z : Str} {p1 p2 p3 pos : Pos} (hu : P.exc = Γ.ups) (c : Ctx Γ G lv sps Θ X) (hx : x = "isinstance") (h1 : gl Θ x = true) (h2 : gl Θ y = true) (h : isSlot Θ i z = true) (hy : (Γ.excAt k == some y) = true) :
    Snd G X W (.Call (.Name x p1) [.Name z p2, .Name y p3] [] pos) (stepE P p (.isx i k)) (stepT P p (.isx i k)) := by
  obtain ⟨g1, g2, g3⟩ := gl_ok c h1
  obtain ⟨k1, k2, k3⟩ := gl_ok c h2
  obtain ⟨C', hC', mC⟩ := c.xs.nm k y (eq_of_beq hy)
  have hm : X.mg x = none := by rw [hx]; exact c.blt2 _ (by simp)
  have pv := isSlot_ok (pos := p2) c h
  have pa : PA X [.Name z p2, .Name y p3] (tCons (tVar i) (tCons (tC (.ref C')) tNil)) := pa_cons pv (pa_cons (pe_glob k1 mC rfl k2) pa_nil)
  have cr : CallR X (.builtin "isinstance") (fun xs H Q => ∃ v, xs = [v, .ref C'] ∧ ((∃ (B : Vw) (A : ASet) (c : Nat) (C : Addr) (d : PyData) (b : Bool), ErrV B A H v c d ∧ B.cls c = some C ∧ ExcC X.K C ∧ PySem.W.kitOne X.K (.ref C) (.ref C') = some b ∧ Q (.bl b) H) ∨ (v = .non ∧ Q (.bl false) H))) := by
    intro pins s σ H xs us Q I r h
    obtain ⟨v, rfl, h⟩ := h
    cases r with
    | cons rx rr =>
      cases rr with
      | cons rt rr =>
        cases rr
        rcases h with ⟨B, A, cn, C, d, b, he, hc, Y, hk, q⟩ | ⟨rfl, q⟩
        · obtain ⟨a, C2, dx, oe, od, w, u2, rfl, hc2, J, _⟩ := errv_inst I he
          rw [hc] at hc2; cases hc2
          cases rx
          cases rt
          exact PySem.W.kia_one (PySem.W.pv_kitx Y) I.kIn ⟨_, _, J⟩ hk (fun z => nomatch z) fun tk => ⟨.bl b, H, I.kept (t' := tk) fun _ _ z => z, rfl, q⟩
        · cases rt
          cases rx
          exact PySem.W.kia_one PySem.W.kitx_none I.kIn True.intro (c.xs.non k C' hC') (fun z => nomatch z) fun tk => ⟨.bl false, H, I.kept (t' := tk) fun _ _ z => z, rfl, q⟩
  refine snd_of c.K (peI (pe_callB cr g1 hm (by rw [hx]; decide +kernel) pa g3 g2 rfl rfl) fun σV H Q ⟨B, σ, g, r, q⟩ => ?_) fun _ => rfl
  have q : Pst B σ σV H W _ (match σ[i]? with
    | some (some (.ex j _)) => (match P.exc[j]? with
      | some up => .ok ((.bool (up.contains k) : PyData), false) σ
      | none => .bad)
    | some (some (.pl .none)) => .ok ((.bool false : PyData), false) σ
    | _ => .bad) := q
  split at q
  · rename_i j d hd
    obtain ⟨v, ev, he⟩ := cell_ex r hd
    split at q
    · rename_i up hup
      obtain ⟨a, dx, C, w, e0, hc, rest⟩ := id he
      have hc' : G.cls j = some C := by rw [← g.2]; exact hc
      obtain ⟨_, kit⟩ := c.xs.up j C up k C' hc' (by rw [← hu]; exact hup) hC'
      exact ⟨v, ev, v, rfl, .inl ⟨B, _, j, C, d, _, he, hc, (c.xs.xc j C hc').1, kit, q _ H r .refl (.bl _)⟩⟩
    · exact q.elim
  · rename_i hd
    obtain ⟨v, ev, he⟩ := r.pl hd
    cases he
    exact ⟨_, ev, _, rfl, .inr ⟨rfl, q _ H r .refl (.bl _)⟩⟩
  · exact q.elim
end
section
variable {Γ : Gs} {G : Gk} {lv : Nat} {sps : Nat → Sp} {Θ : Sx} {X : Cx} {W : WX} {p : Ev} {m : Nat}
/-- raise C(e) -/
theorem s_raise {P : Prg} {c k : Nat} {e : R} {f : Expr} {y : Str} {p1 p2 p3 : Pos} (cx : Ctx Γ G lv sps Θ X) (hx : Stx X W) (hlv : p.lv = lv) (h : PE X f (tE G W (p.e e))) (hst : starEach [f] X.env = (false, eval f X.env) :: starEach [] X.env) (hy : (Γ.excAt c == some y) = true) (hg : gl Θ y = true) :
    PS X (.Raise (some (.Call (.Name y p1) [f] [] p2)) none p3) (tS G W (stepS P p (.raise c e))) := by
  obtain ⟨g1, g2, g3⟩ := gl_ok cx hg
  obtain ⟨C, hC, mC⟩ := cx.xs.nm c y (eq_of_beq hy)
  obtain ⟨T, fI, D, cc, cda, fd, sc, sl, val, iC, tI, pd, pc⟩ := cx.xs.make c C hC
  by_cases hl : p.lv < 4
  · refine ⟨fun pins s σ H D I ⟨B, σ', g, r, q⟩ => ?_⟩
    have q : PstS B σ' σ H W D (if p.lv < 4 then .bad else (p.e e σ').bind fun d s => .err c d.1 s) := q
    rw [if_pos hl] at q
    exact q.elim
  · refine psI (ps_raise cx.gx.calm hx.tk (pmk_pe T iC tI pd pc cx.xs.hop cx.xs.htop (cx.room.mono (by omega)) cx.xs.sup g1 mC h g2 hst)) fun E σV H ⟨B, σ, g, r, q⟩ => ?_
    have q : PstS B σ σV H W E (if p.lv < 4 then .bad else (p.e e σ).bind fun d s => .err c d.1 s) := q
    rw [if_neg hl] at q
    refine tE.mk g r (q.expr.imp fun d σ' q v H' r' st hv dx hdx => ?_)
    have nd : ¬ Av B σ' σV dx := fun z => r'.notAv hdx z
    exact q C dx v σV (upd H' dx (.xd [("value", v)])) (by rw [g.2]; exact hC) (r'.new hdx) (st.s.trans ⟨.new hdx, fun a z => .inl z⟩) upd_same nd ((hv.rp r').keep (.new hdx) r'.nt)
theorem ro_drop {σ : S} {σV : L2.St} {i : Nat} {x : Option V} (a : Addr) : RO (σ.set i none) (σV.set i x) a → RO σ σV a := fun ⟨j, ⟨d', hd⟩, hv⟩ => by
  by_cases hj : j = i
  · subst hj
    by_cases hi : j < σ.length
    · rw [List.getElem?_set_self hi] at hd
      rcases hd with hd | hd <;> cases hd
    · rw [List.getElem?_eq_none (by simpa using hi)] at hd
      rcases hd with hd | hd <;> cases hd
  · rw [List.getElem?_set_ne (Ne.symm hj)] at hd hv
    exact ⟨j, ⟨d', hd⟩, hv⟩
/-- a slot takes a caught error -/
theorem Rep.setEx {B : Vw} {H : Hp} {σ : S} {σV : L2.St} {i c : Nat} {v : V} {d : PyData} (r : Rep B H σ σV) (h : ErrV B (Av B σ σV) H v c d) : Rep B H (σ.set i (some (.ex c d))) (σV.set i (some v)) ∧ ∀ a, RO (σ.set i (some (.ex c d))) (σV.set i (some v)) a → RO σ σV a := by
  have old : ∀ j b, Rt (σ.set i (some (.ex c d))) (σV.set i (some v)) j b → Rt σ σV j b := fun j b ⟨⟨d', hd⟩, hv⟩ => by
    by_cases hj : j = i
    · subst hj
      by_cases hi : j < σ.length
      · rw [List.getElem?_set_self hi] at hd
        rcases hd with hd | hd <;> cases hd
      · rw [List.getElem?_eq_none (by simpa using hi)] at hd
        rcases hd with hd | hd <;> cases hd
    · rw [List.getElem?_set_ne (Ne.symm hj)] at hd hv
      exact ⟨⟨d', hd⟩, hv⟩
  have av : ∀ b, Av B (σ.set i (some (.ex c d))) (σV.set i (some v)) b → Av B σ σV b := fun b z => z.elim (fun ⟨j, y⟩ => .inl ⟨j, old j b y⟩) .inr
  refine ⟨⟨by simpa using r.len, fun j c' ec => ?_, fun j k a x y => r.inj j k a (old j a x) (old k a y), fun a ⟨j, x⟩ => r.exr a ⟨j, old j a x⟩, r.ext, r.kp, fun b hb => r.nt b (av b hb), r.exT⟩, fun a ⟨j, x⟩ => ⟨j, old j a x⟩⟩
  by_cases hj : j = i
  · subst hj
    have hi : j < σ.length := by
      have := (List.getElem?_eq_some_iff.mp ec).1
      simpa using this
    rw [List.getElem?_set_self hi] at ec
    cases ec
    have hc : CellOk B (Av B σ σV) H j v (.ex c d) := h
    exact ⟨v, by rw [List.getElem?_set_self (by rw [← r.len]; exact hi)], hc.weak av⟩
  · rw [List.getElem?_set_ne (Ne.symm hj)] at ec
    obtain ⟨u, eu, hc⟩ := r.cell j c' ec
    exact ⟨u, by rw [List.getElem?_set_ne (Ne.symm hj)]; exact eu, hc.weak av⟩
/-- try: .. except C as e: x = e -/
theorem s_try {P : Prg} {b : List Q} {c ie io : Nat} {y n xm : Str} {body : List Stmt} {p1 p2 p3 p4 p5 p6 : Pos} (hu : P.exc = Γ.ups) (cx : Ctx Γ G lv sps Θ X) (hx : Stx X W) (hy : (Γ.excAt c == some y) = true) (hg : gl Θ y = true) (hne : ie ≠ io)
    (hi : Θ.N[ie]? = some n) (hj : Θ.N[io]? = some xm) (hln : Θ.sc.names.lookup n = some .local) (hlm : Θ.sc.names.lookup xm = some .local) (hdn : (n == ("__debug__" : Str)) = false) (hcn : (n == ("__classdict__" : Str)) = false)
    (hb : ∀ (W : WX) (pn : List (Addr × Obj)) (xe : Value → Shared → Prop), Takes (X.tr pn xe) W → PassesOwn (model X.prog X.w) X.A X.env xe → PSs (X.tr pn xe) body (tS G W (seqL p.s b))) :
    PS X (.Try body [.ExceptHandler (some (.Name y p1)) (some n) [.Assign [.Name xm p2] (.Name n p3) p4] p5] [] [] p6) (tS G W (stepS P p (.try_ b c ie io))) := by
  obtain ⟨g1, g2, g3⟩ := gl_ok cx hg
  obtain ⟨C, hC, mC⟩ := cx.xs.nm c y (eq_of_beq hy)
  have kn : X.env.kindOf n = some .local := by show X.env.scope.names.lookup n = _; rw [cx.sc]; exact hln
  have km : X.env.kindOf xm = some .local := by show X.env.scope.names.lookup xm = _; rw [cx.sc]; exact hlm
  refine psI (ps_tr hx.ex hx.stk hx.frm (by rw [cx.N]; exact cx.nd) (by rw [cx.N]; exact hi) (by rw [cx.N]; exact hj) kn km hdn hcn ⟨g1, g2, .inl mC⟩ hx.tk rfl hb) fun D σV H ⟨B, σ, g, r, q⟩ => ⟨B, σ, g, r, ?_⟩
  have q : PstS B σ σV H W D (match seqL p.s b σ with
    | .err k v s => (match P.exc[k]? with
      | some up => if up.contains c then .ok .nx ((s.set io (some (.ex k v))).set ie none) else .err k v s
      | none => .bad)
    | r => r) := q
  cases e : seqL p.s b σ with
  | bad => rw [e] at q; exact q
  | ok fl s => rw [e] at q; exact q
  | err k d s =>
    rw [e] at q
    dsimp only at q
    split at q
    · rename_i up hup
      intro C2 dx w σV' H' hc r' st edx ndx hw
      have hc' : G.cls k = some C2 := by rw [← g.2]; exact hc
      obtain ⟨exm, _⟩ := cx.xs.up k C2 up c C hc' (by rw [← hu]; exact hup) hC
      refine ⟨up.contains c, exm, fun hyes a na => ?_, fun hno => ?_⟩
      · rw [if_pos hyes] at q
        have hda : dx ≠ a := fun z => by rw [z, na] at edx; cases edx
        have r2 := r'.new (o := ErrO (.ref C2) (some dx) a) na
        have ev : ErrV B (Av B s σV') (upd H' a (ErrO (.ref C2) (some dx) a)) (.ref a) k d := ⟨a, dx, C2, w, rfl, hc, upd_same, by rw [upd_ne hda]; exact edx, fun z => r'.notAv na z, ndx, hw.keep (.new na) r'.nt⟩
        obtain ⟨r3, ro3⟩ := Rep.setEx (i := io) r2 ev
        have r4 := r3.drop (i := ie) none
        have eq : (((σV'.set ie (some (.ref a))).set io (some (.ref a))).set ie none) = (σV'.set io (some (.ref a))).set ie none := by
          rw [List.set_comm _ _ hne, List.set_set]
        rw [eq]
        refine q _ _ r4 ⟨st.kp.trans (.new na) fun b z => .inr z, fun b z => ?_⟩
        exact st.ro b (ro3 b (ro_drop b z))
      · rw [if_neg (by rw [hno]; decide)] at q
        exact q C2 dx w σV' H' hc r' st edx ndx hw
    · exact q.elim
end
end Pv
/-! Pv13: more statements; the checker of statements; soundness of all. -/
namespace Pv
open PySem PySem.Spec PyProof.Rows L2
section
variable {B : Vw} {H H' H1 : Hp} {σ σ' σ1 : S} {σV : L2.St} {D : Ends} {W : WX}
/-- a root's content set: in the heap and in the slots -/
theorem setRoot_ok {i : Nat} {f : PyData → Option PyData} (r : Rep B H σ σV) (e : setRoot σ i f = some σ') : ∃ (a : Addr) (d d' : PyData), f d = some d' ∧ σV[i]? = some (some (.ref a)) ∧ Rt σ σV i a ∧ RootD B.K (Av B σ σV) H a d ∧
    ∀ ys, RootD B.K (Av B σ σV) (upd H a (.lst ys)) a d' → Rep B (upd H a (.lst ys)) σ' σV ∧ StpS σ σ' σV σV H (upd H a (.lst ys)) := by
  have key : ∃ d d' c, f d = some d' ∧ ((c = .ow d' ∧ σ[i]? = some (some (.ow d))) ∨ (c = .io d' ∧ σ[i]? = some (some (.io d)))) ∧ σ' = σ.set i (some c) := by
    unfold setRoot at e
    split at e
    · rename_i d q
      obtain ⟨d', h1, h2⟩ := Option.map_eq_some_iff.mp e
      exact ⟨d, d', _, h1, .inl ⟨rfl, q⟩, h2.symm⟩
    · rename_i d q
      obtain ⟨d', h1, h2⟩ := Option.map_eq_some_iff.mp e
      exact ⟨d, d', _, h1, .inr ⟨rfl, q⟩, h2.symm⟩
    · cases e
  obtain ⟨d, d', c, hf, hc, rfl⟩ := key
  have hR : ∃ a, σV[i]? = some (some (.ref a)) ∧ Rt σ σV i a ∧ RootD B.K (Av B σ σV) H a d := by
    rcases hc with ⟨_, q⟩ | ⟨_, q⟩
    · obtain ⟨a, h1, h2, h3, _⟩ := r.rt_ow q; exact ⟨a, h1, h2, h3⟩
    · obtain ⟨a, h1, h2, h3, _⟩ := r.rt_io q; exact ⟨a, h1, h2, h3⟩
  obtain ⟨a, ev, rt, hr⟩ := hR
  have hi : i < σ.length := by rcases hc with ⟨_, q⟩ | ⟨_, q⟩ <;> exact (List.getElem?_eq_some_iff.mp q).1
  refine ⟨a, d, d', hf, ev, rt, hr, fun ys hy => ?_⟩
  have k : Kp (fun b => b = a) H (upd H a (.lst ys)) := Kp.put rfl
  obtain ⟨r2, ro⟩ := r.reroot (Ex' := B.Ex) (σ' := σ.set i (some c)) (by simp) k (fun b z => ⟨i, by rw [z]; exact rt⟩) (fun _ z => z) (fun _ z => .inl z) fun j c' hj => by
    by_cases hji : j = i
    · subst hji
      rw [List.getElem?_set_self hi] at hj
      cases hj
      exact .inr ⟨d', d, a, hc, ev, hy⟩
    · rw [List.getElem?_set_ne (Ne.symm hji)] at hj
      exact .inl ⟨hj, fun b z y => hji (r.inj j i a (by rw [← y]; exact z) rt)⟩
  exact ⟨r2, k.weak fun b z => ⟨i, by rw [z]; exact rt⟩, fun b z => .inl (ro b z)⟩
/-- a list root: its new content -/
theorem root_new {K : Frag} {A : ASet} {a : Addr} {ds : List PyData} {xs ys : List V} (nt : NoTup A H) (hA : A a) (h : Rps K A H ys ds) : RootD K A (upd H a (.lst ys)) a (.list ds) := ⟨ys, upd_same, h.keep (Kp.put hA) nt⟩
end
section
variable {Γ : Gs} {G : Gk} {lv : Nat} {sps : Nat → Sp} {Θ : Sx} {X : Cx} {W : WX} {p : Ev} {m : Nat}
theorem s_setix {P : Prg} {i : Nat} {j e : R} {fo fj f : Expr} {pos p1 : Pos} (h : PE X f (tE G W (p.e e))) (ho : PE X fo (tVar i)) (hj : PE X fj (tE G W (p.e j))) (hix : ∀ v, assign (.Subscript fo fj p1) X.env v = (do
      let ov ← holding [v] (eval fo X.env)
      let iv ← holding [v, ov] (eval fj X.env)
      standAt p1
      holding [v, ov, iv] (setItem ov iv v)
      release [v, ov, iv] [])) (hs : swapsWithSole [.Subscript fo fj p1] f pos.line X.env = pure false) (hw : swappedStores [.Subscript fo fj p1] f X.env = pure none) :
    PS X (.Assign [.Subscript fo fj p1] f pos) (tS G W (stepS P p (.setix i j e))) := by
  refine psI (ps_asg h (pg_sub ho hj set_list hix) hs hw rfl) fun D σV H ⟨B, σ, g, r, q⟩ => ?_
  refine tE.mk g r ((PstS.expr (show PstS B σ σV H W D ((p.e e σ).bind fun d s => if (getP s i).isSome then (p.e j s).bind fun j s => setR (setRoot s i (setD j.1 d.1)) else .bad) from q)).imp fun d σ1 q v H1 r1 st1 hv => ?_)
  split at q
  · rename_i hs
    obtain ⟨d0, hd0⟩ := Option.isSome_iff_exists.mp hs
    obtain ⟨o, eo⟩ := getP_slot r1 hd0
    refine ⟨o, eo, tE.mk g r1 ((PstS.back st1.s q).expr.imp fun k σ2 q v2 H2 r2 st2 hk => ?_)⟩
    cases er : setRoot σ2 i (setD k.1 d.1) with
    | none => rw [er] at q; exact q.elim
    | some σ3 =>
      rw [er] at q
      obtain ⟨a, dd, d', hf, ev, rt, hr, fin⟩ := setRoot_ok r2 er
      rw [eo] at ev
      cases ev
      unfold setD at hf
      split at hf
      · rename_i l
        split at hf
        · rename_i n hkn
          obtain ⟨t, hix2, hf⟩ := Option.map_eq_some_iff.mp hf
          subst hf
          obtain ⟨xs, hx, rs⟩ := hr
          have hk := hk.rp r2
          rw [hkn] at hk
          cases hk
          have hv2 := Rp.stp r1 st2 (hv.rp r1)
          refine ⟨a, xs, n, t, rfl, rfl, hx, ?_, ?_⟩
          · rw [rs.len]; exact hix2
          · obtain ⟨r3, st3⟩ := fin (xs.set t v) (root_new (xs := xs) r2.nt (.inl ⟨i, rt⟩) (rs.set t hv2))
            exact q _ _ r3 (st2.s.trans st3)
        · cases hf
      · cases hf
  · exact q.elim
/-! ### l.append(e), l.extend(e), x op= e -/
theorem getP_lst {B : Vw} {H : Hp} {σ : S} {σV : L2.St} {i : Nat} {l : List PyData} (r : Rep B H σ σV) (h : getP σ i = some (.list l)) : ∃ a, σV[i]? = some (some (.ref a)) ∧ tyV B.K "list" (.ref a) H := by
  obtain ⟨v, ev⟩ := getP_slot r h
  obtain ⟨a, xs, rfl, hl, _⟩ := (getP_ok r h ev).lst
  exact ⟨a, ev, .inl ⟨rfl, xs, hl.sq⟩⟩
theorem s_app {P : Prg} {i : Nat} {e : R} {fo f : Expr} {pos p1 p2 : Pos} (c : Ctx Γ G lv sps Θ X) (ho : PE X fo (tVar i)) (h : PE X f (tE G W (p.e e))) (hbase : attributeBase fo "append" X.env (eval fo X.env) = eval fo X.env) (hst : starEach [f] X.env = (false, eval f X.env) :: starEach [] X.env) (hline : (p1.endLine == p2.line) = true) :
    PS X (.Expr (.Call (.Attribute fo "append" p1) [f] [] p2) pos) (tS G W (stepS P p (.app i e))) := by
  refine psI (ps_expr (pe_bm PySem.F.plainAttrs_list PySem.F.slot_list_append PySem.F.type_list_append mt_append ho (pa_cons h pa_nil hst) hbase (by rw [hst]; rfl) hline hst rfl) rfl) fun D σV H ⟨B, σ, g, r, q⟩ => ?_
  have q : PstS B σ σV H W D (match getP σ i with
    | some (.list _) => (p.e e σ).bind fun d s => setR (setRoot s i (appD d.1))
    | _ => .bad) := q
  split at q
  · rename_i l hl
    obtain ⟨a, ev, ty⟩ := getP_lst r hl
    refine ⟨_, ev, by rw [c.K, ← g.1]; exact ty, tE.mk g r (q.expr.imp fun d σ1 q v H1 r1 st1 hv => ?_)⟩
    cases er : setRoot σ1 i (appD d.1) with
    | none => rw [er] at q; exact q.elim
    | some σ2 =>
      rw [er] at q
      obtain ⟨b, dd, d', hf, ev2, rt, hr, fin⟩ := setRoot_ok r1 er
      rw [ev] at ev2
      cases ev2
      unfold appD at hf
      split at hf
      · rename_i l2
        split at hf
        · rename_i hlen
          cases hf
          obtain ⟨xs, hx, rs⟩ := hr
          refine ⟨a, xs, v, rfl, rfl, hx, by rw [rs.len]; exact hlen, ?_⟩
          obtain ⟨r3, st3⟩ := fin (xs ++ [v]) (root_new (xs := xs) r1.nt (.inl ⟨i, rt⟩) (rs.app (.cons (hv.rp r1) .nil)))
          exact q _ _ r3 (st1.s.trans st3)
        · cases hf
      · cases hf
  · exact q.elim
theorem s_ext {P : Prg} {i : Nat} {e : R} {fo f : Expr} {pos p1 p2 : Pos} (c : Ctx Γ G lv sps Θ X) (ho : PE X fo (tVar i)) (h : PE X f (tE G W (p.e e))) (hbase : attributeBase fo "extend" X.env (eval fo X.env) = eval fo X.env) (hst : starEach [f] X.env = (false, eval f X.env) :: starEach [] X.env) (hline : (p1.endLine == p2.line) = true) :
    PS X (.Expr (.Call (.Attribute fo "extend" p1) [f] [] p2) pos) (tS G W (stepS P p (.ext i e))) := by
  refine psI (ps_expr (pe_bm PySem.F.plainAttrs_list PySem.F.slot_list_extend PySem.F.type_list_extend mt_extend ho (pa_cons h pa_nil hst) hbase (by rw [hst]; rfl) hline hst rfl) rfl) fun D σV H ⟨B, σ, g, r, q⟩ => ?_
  have q : PstS B σ σV H W D (match getP σ i, isVar e with
    | some (.list _), none => (p.e e σ).bind fun d s => if d.2 then setR (setRoot s i (extD d.1)) else .bad
    | _, _ => .bad) := q
  split at q
  · rename_i l hl _
    obtain ⟨a, ev, ty⟩ := getP_lst r hl
    refine ⟨_, ev, by rw [c.K, ← g.1]; exact ty, tE.mk g r (q.expr.imp fun d σ1 q v H1 r1 st1 hv => ?_)⟩
    obtain ⟨d, fr⟩ := d
    cases fr with
    | false => exact q.elim
    | true =>
      obtain ⟨bn, rfl, hbn, nb, rb, hrb⟩ := hv
      have q : PstS B σ σV H W D (setR (setRoot σ1 i (extD d))) := q
      clear hl
      cases er : setRoot σ1 i (extD d) with
      | none => rw [er] at q; exact q.elim
      | some σ2 =>
        obtain ⟨b, dd, d', hf, ev2, rt, hr, fin⟩ := setRoot_ok r1 er
        rw [ev] at ev2
        cases ev2
        unfold extD at hf
        split at hf
        · rename_i l2
          split at hf
          · rename_i m2
            split at hf
            · rename_i hlen
              cases hf
              obtain ⟨xs, hx, rs⟩ := hr
              obtain ⟨zs, hz, rz⟩ := hrb
              refine ⟨a, bn, xs, zs, rfl, rfl, hx, hz, by rw [rs.len, rz.len]; exact hlen, ?_⟩
              obtain ⟨r3, st3⟩ := fin (xs ++ zs) (root_new (xs := xs) r1.nt (.inl ⟨i, rt⟩) (rs.app (rz.weak fun b z => z.elim .inl fun y => .inr (.inl y))))
              rw [er] at q
              exact q _ _ r3 (st1.s.trans st3)
            · cases hf
          · cases hf
        · cases hf
  · exact q.elim
theorem ip_mul : PIp X .Mult (fun x y H Q => ∃ i j, x = .int i ∧ y = .int j ∧ IntMulOk i j ∧ Q (.int (i * j)) H) := by
  intro pins s σ H x y v u Q I r1 r2 h
  obtain ⟨i, j, rfl, rfl, m, q⟩ := h
  obtain ⟨t, rfl⟩ := r1
  obtain ⟨t', rfl⟩ := r2
  exact PySem.P.imul_int ⟨.int _, H, I.tok _, ⟨_, rfl⟩, q⟩ m
def augOf : Bop → Operator
  | .add => .Add | .sub => .Sub | _ => .Mult
theorem s_aug {P : Prg} {i : Nat} {o : Bop} {e : R} {x : Str} {f : Expr} {pos p1 : Pos} (c : Ctx Γ G lv sps Θ X) (ht : isTgt Θ i x = true) (h : PE X f (tE G W (p.e e))) (ho : o = .add ∨ o = .sub ∨ o = .mul) : PS X (.AugAssign (.Name x p1) (augOf o) f pos) (tS G W (stepS P p (.aug i o e))) := by
  have ip : PIp X (augOf o) (fun x y H Q => ∃ i j z, x = .int i ∧ y = .int j ∧ augD o i (.int j) = some z ∧ Q (.int z) H) := by
    rcases ho with rfl | rfl | rfl
    · intro pins s σ H x y v u Q I r1 r2 ⟨i, j, z, e1, e2, e3, q⟩
      cases e3
      exact ip_add pins s σ H x y v u Q I r1 r2 ⟨i, j, e1, e2, q⟩
    · intro pins s σ H x y v u Q I r1 r2 ⟨i, j, z, e1, e2, e3, q⟩
      cases e3
      exact ip_sub pins s σ H x y v u Q I r1 r2 ⟨i, j, e1, e2, q⟩
    · intro pins s σ H x y v u Q I r1 r2 ⟨i, j, z, e1, e2, e3, q⟩
      unfold augD at e3
      dsimp only at e3
      split at e3
      · rename_i hm
        cases e3
        exact ip_mul pins s σ H x y v u Q I r1 r2 ⟨i, j, e1, e2, CMul.ok (hm.elim (fun z => .inl (by omega)) fun z => .inr (by omega)), q⟩
      · cases e3
  have hN : X.N[i]? = some x := by
    unfold isTgt at ht
    rw [c.N]; exact eq_of_beq (and_ ht).1
  have nd : X.N.Nodup := by rw [c.N]; exact c.nd
  have hl : Loc X.env.scope x ∧ (X.fn x = true ∨ X.env.scope.names.lookup x = some .local) := by
    unfold isTgt at ht
    rcases Bool.or_eq_true_iff.mp (and_ ht).2 with h2 | h2
    · have h2 := c.loc x .local (by simp) (eq_of_beq h2)
      rw [← c.sc] at h2
      exact ⟨.inl h2, .inr h2⟩
    · have h3 := c.fn x (eq_of_beq h2)
      have h2 := c.loc x .cell (by simp) (eq_of_beq h2)
      rw [← c.sc] at h2
      exact ⟨.inr h2, .inl h3⟩
  refine psI (ps_aug nd hN hl.1 h ip hl.2) fun D σV H ⟨B, σ, g, r, q⟩ => ?_
  have q : PstS B σ σV H W D (match getP σ i with
    | some (.int x) => (p.e e σ).bind fun d s => (ofO (augD o x d.1) s).bind fun z s => .ok .nx (s.set i (some (.pl (.int z))))
    | _ => .bad) := q
  split at q
  · rename_i n hn
    obtain ⟨v, ev⟩ := getP_slot r hn
    obtain rfl := (getP_ok r hn ev).int
    refine ⟨_, ev, tE.mk g r (q.expr.imp fun d σ1 q v H1 r1 st1 hv => ?_)⟩
    obtain ⟨z, hz, q⟩ := q.ofO
    have hd : ∃ j, d.1 = .int j := by
      unfold augD at hz
      split at hz <;> first | exact ⟨_, by assumption⟩ | cases hz
    obtain ⟨j, hj⟩ := hd
    have hv := hv.rp r1
    rw [hj] at hv hz
    cases hv
    exact ⟨n, j, z, rfl, rfl, hz, q _ _ (r1.set (.int z)) (st1.s.trans (.slots fun b y => ro_set b y))⟩
  · exact q.elim
/-! ### a, b = x, y -/
theorem s_par0 {P : Prg} {is : List Nat} {es : List R} {st : Stmt} {te : TE} (ht : ∀ σV H Q, tE G W (fun s => (evL p.e es s).bind fun ds s => if ds.length ≤ line then .ok ((.tuple ds : PyData), false) s else .bad) σV H Q → te σV H Q) (hl : es.length ≤ line) (h : PS X st (tAsg te (gT G.K (.tp is)))) :
    PS X st (tS G W (stepS P p (.par is es))) :=
  psI h fun D σV H ⟨B, σ, g, r, q⟩ => ht _ _ _ (tE.mk g r (by
    have q : PstS B σ σV H W D ((evL p.e es σ).bind fun ds s => setR (setAll s is ds)) := q
    cases e : evL p.e es σ with
    | bad => rw [e] at q; exact q.elim
    | err c d s =>
      rw [e] at q
      intro C dx w H' hc r st e n q'
      exact q C dx w σV H' hc r st.s e n q'
    | ok ds s =>
      rw [e] at q
      have q : PstS B σ σV H W D (setR (setAll s is ds)) := q
      have hd : ds.length ≤ line := by rw [evL_len e]; exact hl
      show Pst B σ σV H W _ (if ds.length ≤ line then .ok ((.tuple ds : PyData), false) s else .bad)
      rw [if_pos hd]
      intro v H' r' st hv
      cases ea : setAll s is ds with
      | none => rw [ea] at q; exact q.elim
      | some s2 =>
        rw [ea] at q
        rw [show G.K = B.K from g.1.symm]
        exact asg_ok (t := .tp is) r' hv ea fun σV' r2 off ro => q σV' H' r2 (st.s.trans (.slots ro))))
theorem s_par2 {P : Prg} {i j : Nat} {a b : R} {fa fb : Expr} {x y : Str} {px py pt pt2 pos : Pos} {kt k2 : Nat} (cx : Ctx Γ G lv sps Θ X) (ha : PA X [fa, fb] (tEs G W p.e [a, b])) (hi : Θ.N[i]? = some x) (hj : Θ.N[j]? = some y) (hij : i ≠ j) (lx : Θ.sc.names.lookup x = some .local) (ly : Θ.sc.names.lookup y = some .local)
    (hw : swappedStores [.Tuple [.Name x px, .Name y py] kt pt] (.Tuple [fa, fb] k2 pt2) X.env = pure (some [x, y])) : PS X (.Assign [.Tuple [.Name x px, .Name y py] kt pt] (.Tuple [fa, fb] k2 pt2) pos) (tS G W (stepS P p (.par [i, j] [a, b]))) := by
  refine psI (ps_par cx.gx.calm (by rw [cx.N]; exact cx.nd) (by rw [cx.N]; exact hi) (by rw [cx.N]; exact hj) hij (by rw [cx.sc]; exact lx) (by rw [cx.sc]; exact ly) ha hw rfl) fun D σV H ⟨B, σ, g, r, q⟩ => ?_
  refine evL_ok g r ((PstS.expr (show PstS B σ σV H W D ((evL p.e [a, b] σ).bind fun ds s => setR (setAll s [i, j] ds)) from q)).imp fun ds σ1 q vs H1 r1 st rs => ?_)
  match ds, vs, rs, q with
  | [d, e], [v, u], .cons h1 (.cons h2 .nil), q =>
    obtain ⟨r2, _⟩ : Rep B H1 (σ1.set i (some (.pl d))) (σV.set i (some v)) ∧ True := ⟨r1.set h1, trivial⟩
    have r3 := r2.set (i := j) (h2.weak fun b z => z.elim (fun y => .inl (ro_set b y)) .inr)
    exact ⟨v, u, rfl, q _ _ r3 (st.s.trans (.slots fun b z => ro_set b (ro_set b z)))⟩
  | [], [], .nil, q => exact q.elim
  | [d], [v], .cons h1 .nil, q => exact q.elim
  | _ :: _ :: _ :: _, _ :: _ :: _ :: _, .cons _ (.cons _ (.cons _ _)), q => exact q.elim
theorem s_par3 {P : Prg} {i j l : Nat} {a b c : R} {fa fb fc : Expr} {x y z : Str} {px py pz pt pt2 pos : Pos} {kt k2 : Nat} (cx : Ctx Γ G lv sps Θ X) (ha : PA X [fa, fb, fc] (tEs G W p.e [a, b, c])) (hi : Θ.N[i]? = some x) (hj : Θ.N[j]? = some y) (hl : Θ.N[l]? = some z) (hij : i ≠ j) (hil : i ≠ l) (hjl : j ≠ l)
    (lx : Θ.sc.names.lookup x = some .local) (ly : Θ.sc.names.lookup y = some .local) (lz : Θ.sc.names.lookup z = some .local)
    (hw : swappedStores [.Tuple [.Name x px, .Name y py, .Name z pz] kt pt] (.Tuple [fa, fb, fc] k2 pt2) X.env = pure (some [x, y, z])) : PS X (.Assign [.Tuple [.Name x px, .Name y py, .Name z pz] kt pt] (.Tuple [fa, fb, fc] k2 pt2) pos) (tS G W (stepS P p (.par [i, j, l] [a, b, c]))) := by
  refine psI (ps_par3 cx.gx.calm (by rw [cx.N]; exact cx.nd) (by rw [cx.N]; exact hi) (by rw [cx.N]; exact hj) (by rw [cx.N]; exact hl) hij hil hjl (by rw [cx.sc]; exact lx) (by rw [cx.sc]; exact ly) (by rw [cx.sc]; exact lz) ha hw rfl) fun D σV H ⟨B, σ, g, r, q⟩ => ?_
  refine evL_ok g r ((PstS.expr (show PstS B σ σV H W D ((evL p.e [a, b, c] σ).bind fun ds s => setR (setAll s [i, j, l] ds)) from q)).imp fun ds σ1 q vs H1 r1 st rs => ?_)
  match ds, vs, rs, q with
  | [d, e, f], [v, u, w], .cons h1 (.cons h2 (.cons h3 .nil)), q =>
    have r2 := r1.set (i := i) h1
    have r3 := r2.set (i := j) (h2.weak fun b z => z.elim (fun y => .inl (ro_set b y)) .inr)
    have r4 := r3.set (i := l) (h3.weak fun b z => z.elim (fun y => .inl (ro_set b (ro_set b y))) .inr)
    exact ⟨v, u, w, rfl, q _ _ r4 (st.s.trans (.slots fun b z => ro_set b (ro_set b (ro_set b z))))⟩
  | [], [], .nil, q => exact q.elim
  | [d], [v], .cons h1 .nil, q => exact q.elim
  | [_, _], [_, _], .cons _ (.cons _ .nil), q => exact q.elim
  | _ :: _ :: _ :: _ :: _, _ :: _ :: _ :: _ :: _, .cons _ (.cons _ (.cons _ (.cons _ _))), q => exact q.elim
end
end Pv
/-! Pv14: the checker of statements; all of them. -/
namespace Pv
open PySem PySem.Spec PyProof.Rows L2
def isLoc (S : Sx) (x : Str) : Bool := S.sc.names.lookup x == some NameKind.local
def starred : Expr → Bool
  | .Starred _ _ => true
  | _ => false
def parNames (sc : Scope) (line : Nat) (ts : List Expr) : List Str := ts.filterMap fun
    | .Name id pos => if (sc.names.lookup id == some NameKind.local) && pos.line == line then some id else none
    | _ => none
def swLine (ts : List Expr) : Nat := (ts.head?.map (·.pos.line)).getD 0
def swY (sc : Scope) (ts vs : List Expr) : Bool := !(vs.any starred) && !(vs.all (foldedForSure 8)) && !(vs.all (constantsAlone 8)) && vs.length == ts.length && (ts.length == 2 || ts.length == 3) &&
  (parNames sc (swLine ts) ts).length == ts.length && (parNames sc (swLine ts) ts).eraseDups.length == (parNames sc (swLine ts) ts).length
def swN (sc : Scope) (ts vs : List Expr) : Bool := !(vs.any starred) && (!(ts.length == 2 || ts.length == 3) || vs.length != ts.length || (parNames sc (swLine ts) ts).length != ts.length || vs.all (foldedForSure 8))
section
variable {X : Cx} {ts vs : List Expr} {k1 k2 : Nat} {p1 p2 : Pos}
theorem sw_eq (hk : X.env.scope.kind = .function) : swappedStores [.Tuple ts k1 p1] (.Tuple vs k2 p2) X.env = (if (!(ts.length == 2 || ts.length == 3) || vs.length != ts.length) = true then pure none else if (vs.any starred) = true then pure none else
    if ((parNames X.env.scope (swLine ts) ts).length != ts.length || (parNames X.env.scope (swLine ts) ts).eraseDups.length != (parNames X.env.scope (swLine ts) ts).length) = true then pure none else
    if (vs.all (foldedForSure 8)) = true then pure none else (do
      if vs.all (constantsAlone 8) then unsupported "assign.tuple-of-constant-expressions:order-of-the-stores"
      pure (some (parNames X.env.scope (swLine ts) ts)))) := by
  have hb : X.env.blockKind = .function := by unfold Env.blockKind; rw [hk]; rfl
  unfold swappedStores
  simp only [hb, bne_self_eq_false, Bool.or_false]
  rfl
theorem swY_ok (hk : X.env.scope.kind = .function) (h : swY X.env.scope ts vs = true) : swappedStores [.Tuple ts k1 p1] (.Tuple vs k2 p2) X.env = pure (some (parNames X.env.scope (swLine ts) ts)) := by
  unfold swY at h
  simp only [Bool.and_eq_true, Bool.not_eq_true', beq_iff_eq] at h
  obtain ⟨⟨⟨⟨⟨⟨h1, h2⟩, h3⟩, h4⟩, h5⟩, h6⟩, h7⟩ := h
  rw [sw_eq hk, h1, h2, h3, h4, h5, h7]
  simp [h6]
theorem swN_ok (hk : X.env.scope.kind = .function) (h : swN X.env.scope ts vs = true) : swappedStores [.Tuple ts k1 p1] (.Tuple vs k2 p2) X.env = pure none := by
  unfold swN at h
  simp only [Bool.and_eq_true, Bool.not_eq_true', Bool.or_eq_true] at h
  obtain ⟨h1, h2⟩ := h
  rw [sw_eq hk, h1]
  rcases h2 with ((h2 | h2) | h2) | h2
  · rw [h2]; rfl
  · rw [h2, Bool.or_true, if_pos rfl]
  · rw [h2, Bool.true_or]
    split <;> rfl
  · rw [h2]
    split
    · rfl
    · split
      · rfl
      · split <;> rfl
end
end Pv
/-! Pv15: all expressions, all statements. -/
namespace Pv
open PySem PySem.Spec PyProof.Rows L2
/-- what of the program the checker's tables stand for -/
structure Ok (Γ : Gs) (G : Gk) (P : Prg) (sps : Nat → Sp) (c : Nat → List PyData → CRes) : Prop where
  sp : ∀ f fd, P.fns[f]? = some fd → sps f = spF G fd.np fd.io (c f)
  np : ∀ (f : Nat) (fd : FnD) (x : Str) (ps : List Str), P.fns[f]? = some fd → Γ.fnAt f = some (x, ps) → fd.np = ps.length
  exc : P.exc = Γ.ups
section
variable {Γ : Gs} {G : Gk} {lv : Nat} {sps : Nat → Sp} {Θ : Sx} {X : Cx} {W : WX} {p : Ev} {P : Prg}
theorem opt_and {a b : Bool} (h : (a && b) = true) : a = true ∧ b = true := and_ h
theorem snd_step (ih : SndN Γ G lv sps p) (ok : Ok Γ G P sps p.c) : ∀ (m : Nat) (Θ : Sx) (r : R) (e : Expr) (X : Cx) (W : WX), Ctx Γ G lv sps Θ X → Takes X W → chkE m Γ Θ r e = true → Snd G X W e (stepE P p r) (stepT P p r) := by
  intro m Θ r e X W c tk h
  cases m with
  | zero => cases h
  | succ m =>
    unfold chkE at h
    split at h
    · exact snd_var ih c tk h
    · exact snd_non ih c tk
    · rw [eq_of_beq h]; exact snd_bl ih c tk
    · rw [eq_of_beq h]; exact snd_int ih c tk
    · obtain ⟨h1, h2⟩ := and_ h; exact snd_cns ih c tk h1 (eq_of_beq h2)
    · rw [eq_of_beq h]; exact snd_str ih c tk
    · exact snd_tup ih c tk h
    · exact snd_lst ih c tk h
    · obtain ⟨h, h3⟩ := and_ h; obtain ⟨h1, h2⟩ := and_ h; rw [eq_of_beq h1]; exact snd_bin ih c tk h2 h3
    · exact snd_neg ih c tk h
    · obtain ⟨h, h3⟩ := and_ h; obtain ⟨h1, h2⟩ := and_ h; rw [eq_of_beq h1]; exact snd_cmp ih c tk h2 h3
    · obtain ⟨h, h5⟩ := and_ h; obtain ⟨h, h4⟩ := and_ h; obtain ⟨h, h3⟩ := and_ h; obtain ⟨h1, h2⟩ := and_ h; rw [eq_of_beq h1, eq_of_beq h2]; exact snd_chain ih c tk h3 h4 h5
    · obtain ⟨h1, h2⟩ := and_ h; exact snd_isn ih c tk h1 h2
    · obtain ⟨h, h3⟩ := and_ h; obtain ⟨h1, h2⟩ := and_ h; rw [eq_of_beq h2]; exact snd_isb ih c tk h1 h3
    · exact snd_and ih c tk h
    · exact snd_or ih c tk h
    · exact snd_not ih c tk h
    · obtain ⟨h, h3⟩ := and_ h; obtain ⟨h1, h2⟩ := and_ h; exact snd_ife ih c tk h1 h2 h3
    · obtain ⟨h, h3⟩ := and_ h; obtain ⟨h1, h2⟩ := and_ h; exact snd_call ok.sp ih c tk h1 h2 h3
    · obtain ⟨h, h6⟩ := and_ h; obtain ⟨h, h5⟩ := and_ h; obtain ⟨h, h4⟩ := and_ h; obtain ⟨h, h3⟩ := and_ h; obtain ⟨h1, h2⟩ := and_ h; exact snd_callk ok.sp ok.np ih c tk h1 h2 h4 h5 h6
    · obtain ⟨h, h3⟩ := and_ h; obtain ⟨h1, h2⟩ := and_ h; exact snd_sumL ih c tk (eq_of_beq h1) h2 h3
    · obtain ⟨h, h4⟩ := and_ h; obtain ⟨h, h3⟩ := and_ h; obtain ⟨h1, h2⟩ := and_ h; exact snd_gcd ih c tk h1 h2 h3 h4
    · obtain ⟨h, h5⟩ := and_ h; obtain ⟨h, h4⟩ := and_ h; obtain ⟨h, h3⟩ := and_ h; obtain ⟨h1, h2⟩ := and_ h; exact snd_bi ih c tk h1 (eq_of_beq h2) h3 (by simpa using h4) h5
    · obtain ⟨h, h3⟩ := and_ h; obtain ⟨h1, h2⟩ := and_ h; exact snd_idx ih c tk h1 h2 h3
    · obtain ⟨h, h3⟩ := and_ h; obtain ⟨h1, h2⟩ := and_ h; exact snd_slc ih c tk h1 h2 h3
    · obtain ⟨h, h8⟩ := and_ h; obtain ⟨h, h7⟩ := and_ h; obtain ⟨h, h6⟩ := and_ h; obtain ⟨h, h5⟩ := and_ h; obtain ⟨h, h4⟩ := and_ h; obtain ⟨h, h3⟩ := and_ h; obtain ⟨h1, h2⟩ := and_ h
      exact snd_lc ih c tk h1 h2 h3 (of_decide_eq_true h4) h5 h6 h7 h8
    · obtain ⟨h, h13⟩ := and_ h; obtain ⟨h, h12⟩ := and_ h; obtain ⟨h, h11⟩ := and_ h; obtain ⟨h, h10⟩ := and_ h; obtain ⟨h, h9⟩ := and_ h; obtain ⟨h, h8⟩ := and_ h; obtain ⟨h, h7⟩ := and_ h; obtain ⟨h, h6⟩ := and_ h; obtain ⟨h, h5⟩ := and_ h; obtain ⟨h, h4⟩ := and_ h; obtain ⟨h, h3⟩ := and_ h; obtain ⟨h1, h2⟩ := and_ h
      exact snd_lc2 ih c tk h1 h2 h3 h4 (of_decide_eq_true h5) (of_decide_eq_true h6) h7 h8 h9 h10 h11 h12 h13
    · obtain ⟨h, h5⟩ := and_ h; obtain ⟨h, h4⟩ := and_ h; obtain ⟨h, h3⟩ := and_ h; obtain ⟨h1, h2⟩ := and_ h; exact snd_isi ih c tk (eq_of_beq h1) (eq_of_beq h2) h3 h4 h5
    · obtain ⟨h, h5⟩ := and_ h; obtain ⟨h, h4⟩ := and_ h; obtain ⟨h, h3⟩ := and_ h; obtain ⟨h1, h2⟩ := and_ h; exact snd_isx ok.exc c (eq_of_beq h1) h2 h3 h4 h5
    · obtain ⟨h1, h2⟩ := and_ h; rw [eq_of_beq h1]; exact snd_xval c h2
    · obtain ⟨h1, h2⟩ := and_ h; exact snd_xnone c h1 h2
    · cases h
/-! ### name = value -/
def AsgN (Γ : Gs) (G : Gk) (lv : Nat) (sps : Nat → Sp) (p : Ev) : Prop :=
  ∀ (m : Nat) (Θ : Sx) (r : R) (f : Expr) (X : Cx) (W : WX) (i : Nat) (y : Str) (px pos : Pos), Ctx Γ G lv sps Θ X → Takes X W → X.env.scope.kind = .function → chkE m Γ Θ r f = true → isTgt Θ i y = true → PS X (.Assign [.Name y px] f pos) (tAsg (tE G W (p.e r)) (gName i))
theorem sw_none {f : Expr} {y : Str} {px : Pos} {l : Nat} {env : Env} (h : ∀ a b c d, f ≠ .ListComp a b c d) (h2 : ∀ a b c d, f ≠ .SetComp a b c d) (h3 : ∀ a b c d e, f ≠ .DictComp a b c d e) : swapsWith f (some (.Name y px)) l env = pure false := by
  cases f <;> first | rfl | exact (h _ _ _ _ rfl).elim | exact (h2 _ _ _ _ rfl).elim | exact (h3 _ _ _ _ _ rfl).elim
theorem chk_nosc {m : Nat} {r : R} {a : Expr} {b : List Comprehension} {s : Scope} {q : Pos} : chkE m Γ Θ r (.SetComp a b s q) = false := by
  cases m with
  | zero => rfl
  | succ m => cases r <;> first | rfl | (unfold chkE; split <;> first | rfl | (rename_i q; cases q))
theorem chk_nodc {m : Nat} {r : R} {a a2 : Expr} {b : List Comprehension} {s : Scope} {q : Pos} : chkE m Γ Θ r (.DictComp a a2 b s q) = false := by
  cases m with
  | zero => rfl
  | succ m => cases r <;> first | rfl | (unfold chkE; split <;> first | rfl | (rename_i q; cases q))
theorem sw_nonTuple {f : Expr} {ts : List Expr} {k : Nat} {p1 : Pos} {env : Env} (h : ∀ a b c, f ≠ .Tuple a b c) : swappedStores [.Tuple ts k p1] f env = pure none := by
  cases f <;> first | rfl | exact (h _ _ _ rfl).elim
theorem asg_step (ih : SndN Γ G lv sps p) (ok : Ok Γ G P sps p.c) : AsgN Γ G lv sps ⟨stepE P p, stepT P p, stepS P p, p.c, p.lv⟩ := by
  intro m Θ r f X W i y px pos c tk hk h ht
  have pe := (snd_step ih ok m Θ r f X W c tk h).pe
  have pg : PG X (.Name y px) (gName i) := pg_nm c ht
  by_cases hl : ∃ a b s q, f = .ListComp a b s q
  · obtain ⟨a, b, s, q, rfl⟩ := hl
    cases hb : (X.env.blockKind == .function && X.env.kindOf y == some .local && px.line == q.line && !(s.names.any fun (n, k) => n == y && (k == .local || k == .cell))) with
    | false => exact ps_asg pe pg (by show (pure _ : Sem Bool) = _; exact congrArg pure hb) rfl rfl
    | true =>
      obtain ⟨hb1, hb4⟩ := and_ hb
      obtain ⟨hb1, hb3⟩ := and_ hb1
      obtain ⟨hb1, hb2⟩ := and_ hb1
      have hsw : ∀ l, swapsWith (.ListComp a b s q) (some (.Name y px)) l X.env = pure true := fun l => by show (pure _ : Sem Bool) = _; exact congrArg pure hb
      cases m with
      | zero => cases h
      | succ m =>
        unfold chkE at h
        split at h
        all_goals first
          | (cases h; done)
          | (rename_i e; cases e; done)
          | skip
        · rename_i elt own t it ifs f' tg ite tests sc pos' heq
          cases heq
          obtain ⟨h, h8⟩ := and_ h; obtain ⟨h, h7⟩ := and_ h; obtain ⟨h, h6⟩ := and_ h; obtain ⟨h, h5⟩ := and_ h; obtain ⟨h, h4⟩ := and_ h; obtain ⟨h, h3⟩ := and_ h; obtain ⟨h1, h2⟩ := and_ h
          obtain ⟨pi, fo⟩ := chk_items ih c tk h6
          have bk := blkOk_by h1
          rw [← c.N, ← c.sc] at bk
          have hiN : X.N[i]? = some y := by
            unfold isTgt at ht
            rw [c.N]; exact eq_of_beq (and_ ht).1
          have ps := ps_setLc (i := i) (spos := pos) (tt := tT G W0 (testsL p.t ifs)) (te := tE G W0 (p.e elt)) (g := gT G.K t) c.gx.calm (by rw [c.N]; exact c.nd) hiN (eq_of_beq hb2) (hsw _) pi bk (fun s H C cl fp => chk_tg (c.blk s H _ cl C fp) h5)
            (fun s H C cl fp => lc_tests ih (c.blk s H _ cl C fp) takes0 (of_decide_eq_true h4) h7) (fun s H C cl fp => (ih m (inBlk Θ _) elt _ _ W0 (c.blk s H _ cl C fp) takes0 h8).pe) (fun x => fo _ x)
          rw [eq_of_beq h2] at ps
          exact psI ps fun D σV H q => lc_law (P := P) (eq_of_beq h3) q
        · rename_i elt own own2 t it ifs t2 it2 ifs2 f' tg ite tests tg2 ite2 tests2 sc pos' heq
          cases heq
          obtain ⟨h, h13⟩ := and_ h; obtain ⟨h, h12⟩ := and_ h; obtain ⟨h, h11⟩ := and_ h; obtain ⟨h, h10⟩ := and_ h; obtain ⟨h, h9⟩ := and_ h; obtain ⟨h, h8⟩ := and_ h; obtain ⟨h, h7⟩ := and_ h; obtain ⟨h, h6⟩ := and_ h; obtain ⟨h, h5⟩ := and_ h; obtain ⟨h, h4⟩ := and_ h; obtain ⟨h, h3⟩ := and_ h; obtain ⟨h1, h2⟩ := and_ h
          obtain ⟨pi, fo⟩ := chk_items ih c tk h9
          have bk := blkOk_by h1
          rw [← c.N, ← c.sc] at bk
          have ho := eq_of_beq h3
          have ho2 := eq_of_beq h4
          have fo2 : ∀ env x, foldedSetIterable ite2 env x = pure x := chkI_fold h10
          have hiN : X.N[i]? = some y := by
            unfold isTgt at ht
            rw [c.N]; exact eq_of_beq (and_ ht).1
          have ps := ps_setLc2 (i := i) (spos := pos) (vs1 := own2) (tt := tT G W0 (testsL p.t ifs)) (te := tE G W0 (p.e elt)) (g := gT G.K t) (wi1 := tI G W0 (items p it2)) (g1 := gT G.K t2) (tt1 := tT G W0 (testsL p.t ifs2)) c.gx.calm (by rw [c.N]; exact c.nd) hiN (eq_of_beq hb2) (hsw _) pi bk (by rw [eq_of_beq h2, ho, ho2]; intro i h; exact List.mem_append_right _ h)
            (fun s H C cl fp => chk_tg (c.blk s H _ cl C fp) h7) (fun s H C cl fp => lc_tests ih (c.blk s H _ cl C fp) takes0 (of_decide_eq_true h5) h11)
            (fun s H C cl fp => (chk_items ih (c.blk s H _ cl C fp) takes0 h10).1) (fun s H C cl fp => chk_tg (c.blk s H _ cl C fp) h8) (fun s H C cl fp => lc_tests ih (c.blk s H _ cl C fp) takes0 (of_decide_eq_true h6) h12)
            (fun s H C cl fp => (ih m (inBlk Θ _) elt _ _ W0 (c.blk s H _ cl C fp) takes0 h13).pe) (fun x => fo _ x) fo2
          rw [eq_of_beq h2] at ps
          exact psI ps fun D σV H q => lc2_law (P := P) (by rw [ho]; intro i h; exact List.mem_append_left _ h) ho2 (by rw [ho, ho2]; intro i h; exact List.mem_append_right _ h) q
  · exact ps_asg pe pg (sw_none (l := pos.line) (fun a b s q e => hl ⟨a, b, s, q, e⟩) (fun a b s q e => by rw [e, chk_nosc] at h; cases h) (fun a a2 b s q e => by rw [e, chk_nodc] at h; cases h)) rfl rfl
end
end Pv
/-! Pv16: the checker of statements; soundness of all statements. -/
namespace Pv
open PySem PySem.Spec PyProof.Rows L2
def notComp : Expr → Bool
  | .ListComp _ _ _ _ => false
  | .SetComp _ _ _ _ => false
  | .DictComp _ _ _ _ _ => false
  | _ => true
def notTup : Expr → Bool
  | .Tuple _ _ _ => false
  | _ => true
def isNmT (S : Sx) (i : Nat) (e : Expr) : Bool := match e with | .Name x _ => isTgt S i x | _ => false
def parC (S : Sx) (is : List Nat) (ts vs : List Expr) : Bool := swN S.sc ts vs || (swY S.sc ts vs && (match is, ts with
  | [i, j], [.Name x _, .Name y _] => i != j && isLoc S x && isLoc S y && parNames S.sc (swLine ts) ts == [x, y]
  | [i, j, l], [.Name x _, .Name y _, .Name z _] => i != j && i != l && j != l && isLoc S x && isLoc S y && isLoc S z && parNames S.sc (swLine ts) ts == [x, y, z]
  | _, _ => false))
def chkS : Nat → Gs → Sx → Q → Stmt → Bool
  | 0, _, _, _, _ => false
  | n + 1, Γ, S, q, st => match q, st with
    | .doc, .Expr (.Constant (.str _) _ _) _ => true
    | .pass, .Pass _ => true
    | .brk, .Break _ => true
    | .expr e, .Expr f _ => notComp f && chkE n Γ S e f
    | .asg (.nm i) e, .Assign [.Name x _] f _ => isTgt S i x && chkE n Γ S e f
    | .asg (.tp is) e, .Assign [.Tuple ts k p] f _ => chkT S (.tp is) (.Tuple ts k p) && notTup f && chkE n Γ S e f
    | .par is es, .Assign [.Tuple ts k p] (.Tuple vs _ _) _ => chkT S (.tp is) (.Tuple ts k p) && decide (es.length ≤ 1000) && parC S is ts vs && all2 (chkE n Γ S) es vs
    | .setix i j e, .Assign [.Subscript (.Name x _) fj _] f _ => plainIx fj && isSlot S i x && chkE n Γ S j fj && chkE n Γ S e f
    | .app i e, .Expr (.Call (.Attribute (.Name x _) a p1) [f] [] p2) _ => a == ("append" : Str) && (p1.endLine == p2.line) && isSlot S i x && chkE n Γ S e f
    | .ext i e, .Expr (.Call (.Attribute (.Name x _) a p1) [f] [] p2) _ => a == ("extend" : Str) && (p1.endLine == p2.line) && isSlot S i x && chkE n Γ S e f
    | .aug i o e, .AugAssign (.Name x _) op f _ => (match o with | .add => true | .sub => true | .mul => true | _ => false) && op == augOf o && isTgt S i x && chkE n Γ S e f
    | .ifs c a b, .If f xs ys _ => chkE n Γ S c f && all2 (chkS n Γ S) a xs && all2 (chkS n Γ S) b ys
    | .for_ t it b, .For tg ite body [] _ => chkT S t tg && chkI S (chkE n Γ S) tg it ite && all2 (chkS n Γ S) b body
    | .whl c b, .While f body [] _ => chkE n Γ S c f && all2 (chkS n Γ S) b body
    | .ret e, .Return (some f) _ => chkE n Γ S e f
    | .raise c e, .Raise (some (.Call (.Name y _) [f] [] _)) none _ => (Γ.excAt c == some y) && gl S y && chkE n Γ S e f
    | .try_ b c ie io, .Try body [.ExceptHandler (some (.Name y _)) (some n') [.Assign [.Name xm _] (.Name n2 _) _] _] [] [] _ => n' == n2 && (Γ.excAt c == some y) && gl S y && ie != io && (S.N[ie]? == some n') && (S.N[io]? == some xm) && isLoc S n' && isLoc S xm &&
        !(n' == ("__debug__" : Str)) && !(n' == ("__classdict__" : Str)) && all2 (chkS n Γ S) b body
    | _, _ => false
section
variable {Γ : Gs} {G : Gk} {lv : Nat} {sps : Nat → Sp} {Θ : Sx} {X : Cx} {W : WX} {p : Ev} {P : Prg}
def SndS (Γ : Gs) (G : Gk) (lv : Nat) (sps : Nat → Sp) (p : Ev) : Prop :=
  ∀ (m : Nat) (Θ : Sx) (q : Q) (st : Stmt) (X : Cx) (W : WX), Ctx Γ G lv sps Θ X → Stx X W → chkS m Γ Θ q st = true → PS X st (tS G W (p.s q))
theorem sts_ok {m : Nat} (ih : SndS Γ G lv sps p) (c : Ctx Γ G lv sps Θ X) (hx : Stx X W) : ∀ {qs : List Q} {sts : List Stmt}, all2 (chkS m Γ Θ) qs sts = true → PSs X sts (tS G W (seqL p.s qs))
  | [], [], _ => pss_nilS
  | q :: qs, st :: sts, h => pss_consS (ih m Θ q st X W c hx (and_ h).1) (sts_ok ih c hx (and_ h).2)
  | [], _ :: _, h => by cases h
  | _ :: _, [], h => by cases h
theorem Ctx.tr (c : Ctx Γ G lv sps Θ X) (pn : List (Addr × Obj)) (xe : Value → Shared → Prop) : Ctx Γ G lv sps Θ (X.tr pn xe) :=
  { gx := ⟨c.gx.hu, c.gx.calm, c.gx.hd, c.gx.gd⟩, K := c.K, N := c.N, sc := c.sc, nd := c.nd, fn := c.fn, loc := c.loc, room := c.room, blt := c.blt, blt2 := c.blt2, xs := c.xs, cns := c.cns, lib := c.lib, fns := c.fns }
theorem loc_eq (c : Ctx Γ G lv sps Θ X) {x : Str} (h : isLoc Θ x = true) : Θ.sc.names.lookup x = some .local := eq_of_beq h
theorem tgt_N {i : Nat} {x : Str} (h : isTgt Θ i x = true) : Θ.N[i]? = some x := by
  unfold isTgt at h
  exact eq_of_beq (and_ h).1
theorem stm_step (ihE : SndN Γ G lv sps p) (ihA : AsgN Γ G lv sps p) (ihS : SndS Γ G lv sps p) (hlv : p.lv = lv) (ok : Ok Γ G P sps p.c) : ∀ (m : Nat) (Θ : Sx) (q : Q) (st : Stmt) (X : Cx) (W : WX), Ctx Γ G lv sps Θ X → Stx X W → chkS m Γ Θ q st = true → PS X st (tS G W (stepS P p q)) := by
  intro m Θ q st X W c hx h
  have tk := hx.tk
  cases m with
  | zero => cases h
  | succ m =>
    unfold chkS at h
    split at h
    · exact s_doc
    · exact s_pass
    · exact s_brk
    · rename_i e f pos
      obtain ⟨h1, h2⟩ := and_ h
      exact s_expr (ihE m Θ e f X W c tk h2).pe (by cases f <;> first | rfl | cases h1)
    · rename_i i e x px f pos
      obtain ⟨h1, h2⟩ := and_ h
      exact s_asg (ihA m Θ e f X W i x px pos c tk hx.kind h2 h1)
    · rename_i is e ts k p' f pos
      obtain ⟨h, h3⟩ := and_ h
      obtain ⟨h1, h2⟩ := and_ h
      exact s_asgT (ps_asg (ihE m Θ e f X W c tk h3).pe (chk_tg c h1) (by cases f <;> rfl) (sw_nonTuple fun a b d z => by rw [z] at h2; cases h2) rfl)
    · rename_i is es ts k p' vs k2 p2 pos
      obtain ⟨h, h4⟩ := and_ h
      obtain ⟨h, h3⟩ := and_ h
      obtain ⟨h1, h2⟩ := and_ h
      have hl : es.length ≤ line := Nat.le_trans (of_decide_eq_true h2) (by decide)
      unfold parC at h3
      rcases Bool.or_eq_true_iff.mp h3 with h3 | h3
      · exact s_par0 (fun _ _ _ q => q) hl (ps_asg (snd_tup (P := P) ihE c tk h4).pe (chk_tg c h1) rfl (swN_ok hx.kind (by rw [c.sc]; exact h3)) rfl)
      · obtain ⟨h5, h6⟩ := and_ h3
        have sw := swY_ok (k1 := k) (p1 := p') (k2 := k2) (p2 := p2) (vs := vs) (ts := ts) hx.kind (by rw [c.sc]; exact h5)
        have hlen : vs.length = ts.length := by
          unfold swY at h5
          simp only [Bool.and_eq_true, beq_iff_eq] at h5
          exact h5.1.1.1.2
        rw [c.sc] at sw
        split at h6
        · rename_i i j x px y py _ _ _
          obtain ⟨h6, h10⟩ := and_ h6
          obtain ⟨h6, h9⟩ := and_ h6
          obtain ⟨h7, h8⟩ := and_ h6
          rw [eq_of_beq h10] at sw
          have ht : isTgt Θ i x = true ∧ isTgt Θ j y = true := by
            obtain ⟨a, b⟩ := and_ h1
            exact ⟨a, (and_ b).1⟩
          match vs, hlen, es, h4 with
          | [fa, fb], _, [a, b], h4 => exact s_par2 c (es_pa ihE c tk h4) (tgt_N ht.1) (tgt_N ht.2) (by simpa using h7) (eq_of_beq h8) (eq_of_beq h9) sw
          | [fa, fb], _, [], h4 => cases h4
          | [fa, fb], _, [a], h4 => have := (and_ h4).2; cases this
          | [fa, fb], _, a :: b :: d :: r, h4 => have := (and_ (and_ h4).2).2; cases this
        · rename_i i j l x px y py z pz _ _ _
          obtain ⟨h6, h13⟩ := and_ h6
          obtain ⟨h6, h12⟩ := and_ h6
          obtain ⟨h6, h11⟩ := and_ h6
          obtain ⟨h6, h10⟩ := and_ h6
          obtain ⟨h6, h9⟩ := and_ h6
          obtain ⟨h7, h8⟩ := and_ h6
          rw [eq_of_beq h13] at sw
          have ht : isTgt Θ i x = true ∧ isTgt Θ j y = true ∧ isTgt Θ l z = true := by
            obtain ⟨a, b⟩ := and_ h1
            obtain ⟨b, d⟩ := and_ b
            exact ⟨a, b, (and_ d).1⟩
          match vs, hlen, es, h4 with
          | [fa, fb, fc], _, [a, b, d], h4 => exact s_par3 c (es_pa ihE c tk h4) (tgt_N ht.1) (tgt_N ht.2.1) (tgt_N ht.2.2) (by simpa using h7) (by simpa using h8) (by simpa using h9) (eq_of_beq h10) (eq_of_beq h11) (eq_of_beq h12) sw
          | [fa, fb, fc], _, [], h4 => cases h4
          | [fa, fb, fc], _, [a], h4 => have := (and_ h4).2; cases this
          | [fa, fb, fc], _, [a, b], h4 => have := (and_ (and_ h4).2).2; cases this
          | [fa, fb, fc], _, a :: b :: d :: e :: r, h4 => have := (and_ (and_ (and_ h4).2).2).2; cases this
        · cases h6
    · rename_i i j e x p1 fj p2 f pos
      obtain ⟨h, h4⟩ := and_ h
      obtain ⟨h, h3⟩ := and_ h
      obtain ⟨h1, h2⟩ := and_ h
      exact s_setix (ihE m Θ e f X W c tk h4).pe (isSlot_ok c h2) (ihE m Θ j fj X W c tk h3).pe (fun v => by cases fj <;> first | rfl | cases h1) (by cases f <;> rfl) (by cases f <;> rfl)
    · rename_i i e x p0 a p1 f p2 pos
      obtain ⟨h, h4⟩ := and_ h
      obtain ⟨h, h3⟩ := and_ h
      obtain ⟨h1, h2⟩ := and_ h
      rw [eq_of_beq h1]
      exact s_app c (isSlot_ok c h3) (ihE m Θ e f X W c tk h4).pe rfl (chk_starEach h4) h2
    · rename_i i e x p0 a p1 f p2 pos
      obtain ⟨h, h4⟩ := and_ h
      obtain ⟨h, h3⟩ := and_ h
      obtain ⟨h1, h2⟩ := and_ h
      rw [eq_of_beq h1]
      exact s_ext c (isSlot_ok c h3) (ihE m Θ e f X W c tk h4).pe rfl (chk_starEach h4) h2
    · rename_i i o e x p0 op f pos
      obtain ⟨h, h4⟩ := and_ h
      obtain ⟨h, h3⟩ := and_ h
      obtain ⟨h1, h2⟩ := and_ h
      rw [eq_of_beq h2]
      exact s_aug c h3 (ihE m Θ e f X W c tk h4).pe (by cases o <;> first | exact .inl rfl | exact .inr (.inl rfl) | exact .inr (.inr rfl) | cases h1)
    · rename_i cc a b f xs ys pos
      obtain ⟨h, h3⟩ := and_ h
      obtain ⟨h1, h2⟩ := and_ h
      exact s_ifs (ihE m Θ cc f X W c tk h1).pt (sts_ok ihS c hx h2) (sts_ok ihS c hx h3)
    · rename_i t it b tg ite body pos
      obtain ⟨h, h3⟩ := and_ h
      obtain ⟨h1, h2⟩ := and_ h
      obtain ⟨pi, fo⟩ := chk_items ihE c tk h2
      exact s_for c hx pi (chk_tg c h1) (sts_ok ihS c hx h3) fun x => fo _ x
    · rename_i cc b f body pos
      obtain ⟨h1, h2⟩ := and_ h
      exact s_whl hx (ihE m Θ cc f X W c tk h1).pt (sts_ok ihS c hx h2)
    · rename_i e f pos
      refine s_ret (fun i hv => ?_) (ihE m Θ e f X W c tk h).pe
      have hr := isVar_eq hv
      subst hr
      cases m with
      | zero => cases h
      | succ m =>
        cases f with
        | Name x pos => exact isSlot_ok c h
        | _ => cases h
    · rename_i k e y p1 f p2 p3
      obtain ⟨h, h3⟩ := and_ h
      obtain ⟨h1, h2⟩ := and_ h
      exact s_raise (k := 0) c hx hlv (ihE m Θ e f X W c tk h3).pe (chk_starEach h3) h1 h2
    · rename_i b k ie io body y p1 n' xm p2 n2 p3 p4 p5 p6
      obtain ⟨h, h11⟩ := and_ h; obtain ⟨h, h10⟩ := and_ h; obtain ⟨h, h9⟩ := and_ h; obtain ⟨h, h8⟩ := and_ h; obtain ⟨h, h7⟩ := and_ h; obtain ⟨h, h6⟩ := and_ h; obtain ⟨h, h5⟩ := and_ h; obtain ⟨h, h4⟩ := and_ h; obtain ⟨h, h3⟩ := and_ h; obtain ⟨h1, h2⟩ := and_ h
      rw [← eq_of_beq h1]
      exact s_try ok.exc c hx h2 h3 (by simpa using h4) (eq_of_beq h5) (eq_of_beq h6) (eq_of_beq h7) (eq_of_beq h8) (by simpa using h9) (by simpa using h10) fun W' pn xe tk' ps' => sts_ok ihS (c.tr pn xe) ⟨tk', ps', hx.kind, hx.stk, hx.frm, hx.ex⟩ h11
    · cases h
/-- evaluation within a def is sound -/
theorem evN_ok (hc : ∀ n, Ok Γ G P sps (evN P lv c n).c) : ∀ n : Nat, SndN Γ G lv sps (evN P lv c n) ∧ AsgN Γ G lv sps (evN P lv c n) ∧ SndS Γ G lv sps (evN P lv c n)
  | 0 => ⟨fun m Θ r e X W _ _ _ => ⟨⟨fun pins s σ H Q I ⟨B, σ', g, r, q⟩ => q.elim⟩, ⟨fun pins s σ H Q I ⟨B, σ', g, r, q⟩ => q.elim⟩⟩, fun m Θ r f X W i y px pos _ _ _ _ _ => ⟨fun pins s σ H D I ⟨B, σ', g, r, q⟩ => q.elim⟩,
      fun m Θ q st X W _ _ _ => ⟨fun pins s σ H D I ⟨B, σ', g, r, q⟩ => q.elim⟩⟩
  | n + 1 => by
    obtain ⟨h1, h2, h3⟩ := evN_ok hc n
    have e : (evN P lv c n).lv = lv := by cases n <;> rfl
    exact ⟨snd_step h1 (hc n), asg_step h1 (hc n), stm_step h1 h2 h3 e (hc n)⟩
end
end Pv
/-! Pv17: a def's body keeps its promise; all defs. -/
namespace Pv
open PySem PySem.Spec PyProof.Rows L2
section
variable {K : Frag} {A : ASet} {H H' : Hp}
theorem start_at (i : Nat) : ∀ (io : List Bool) (ds : List PyData), (Pv.start io ds)[i]? = (ds[i]?).map fun d => some (if io[i]? = some true then .io d else .pl d) := by
  induction i with
  | zero =>
    intro io ds
    cases ds with
    | nil => cases io <;> rfl
    | cons d ds =>
      cases io with
      | nil => rfl
      | cons b io => cases b <;> rfl
  | succ i ih =>
    intro io ds
    cases ds with
    | nil => cases io <;> rfl
    | cons d ds =>
      cases io with
      | nil => exact ih [] ds
      | cons b io => cases b <;> exact ih io ds
theorem start_len : ∀ (io : List Bool) (ds : List PyData), (Pv.start io ds).length = ds.length
  | _, [] => by cases ‹List Bool› <;> rfl
  | true :: io, d :: ds => by show (Pv.start io ds).length + 1 = _; rw [start_len io ds]; rfl
  | false :: io, d :: ds => by show (Pv.start io ds).length + 1 = _; rw [start_len io ds]; rfl
  | [], d :: ds => by show (Pv.start [] ds).length + 1 = _; rw [start_len [] ds]; rfl
theorem ArgL.get : ∀ {io : List Bool} {vs : List V} {ds : List PyData} {i : Nat} {d : PyData}, ArgL K A H io vs ds → ds[i]? = some d → ∃ v, vs[i]? = some v ∧ (io[i]? = some true → ∃ a, v = .ref a ∧ RootD K A H a d) ∧ (io[i]? ≠ some true → Rp K A H v d)
  | _, [], [], _, _, _, e => by simp at e
  | io, v :: vs, d0 :: ds, 0, d, h, e => by
    simp at e
    subst e
    refine ⟨v, rfl, fun q => ?_, fun q => ?_⟩
    · have h1 := h.1
      rw [if_pos (by rw [List.head?_eq_getElem?]; exact q)] at h1
      exact h1
    · have h1 := h.1
      rw [if_neg (by rw [List.head?_eq_getElem?]; exact q)] at h1
      exact h1
  | io, v :: vs, d0 :: ds, i + 1, d, h, e => by
    obtain ⟨u, h1, h2, h3⟩ := ArgL.get (i := i) h.2 (by simpa using e)
    rw [List.getElem?_tail] at h2 h3
    exact ⟨u, by simpa using h1, h2, h3⟩
  | _, [], _ :: _, _, _, h, _ => h.elim
  | _, _ :: _, [], _, _, h, _ => h.elim
theorem ArgL.len : ∀ {io : List Bool} {vs : List V} {ds : List PyData}, ArgL K A H io vs ds → vs.length = ds.length
  | _, [], [], _ => rfl
  | _, _ :: _, _ :: _, h => by simp [ArgL.len h.2]
  | _, [], _ :: _, h => h.elim
  | _, _ :: _, [], h => h.elim
theorem ioL_mem {α : Type} : ∀ {io : List Bool} {vs : List α} {i : Nat} {v : α}, io[i]? = some true → vs[i]? = some v → v ∈ ioL io vs
  | _, [], _, _, _, h => by simp at h
  | io, u :: vs, 0, v, h1, h2 => by
    simp at h2
    subst h2
    show _ ∈ (if io.head? = some true then u :: ioL io.tail vs else ioL io.tail vs)
    rw [if_pos (by rw [List.head?_eq_getElem?]; exact h1)]
    exact List.mem_cons_self
  | io, u :: vs, i + 1, v, h1, h2 => by
    have q := ioL_mem (io := io.tail) (vs := vs) (i := i) (v := v) (by rw [List.getElem?_tail]; exact h1) (by simpa using h2)
    show _ ∈ (if io.head? = some true then u :: ioL io.tail vs else ioL io.tail vs)
    split
    · exact List.mem_cons_of_mem _ q
    · exact q
theorem ioL_inj {α : Type} : ∀ {io : List Bool} {vs : List α} {i j : Nat} {v : α}, (ioL io vs).Nodup → io[i]? = some true → io[j]? = some true → vs[i]? = some v → vs[j]? = some v → i = j
  | _, [], _, _, _, _, _, _, h, _ => by simp at h
  | io, u :: vs, 0, 0, v, _, _, _, _, _ => rfl
  | io, u :: vs, 0, j + 1, v, nd, h1, h2, h3, h4 => by
    simp at h3
    subst h3
    have e : ioL io (u :: vs) = u :: ioL io.tail vs := if_pos (by rw [List.head?_eq_getElem?]; exact h1)
    rw [e] at nd
    exact ((List.nodup_cons.mp nd).1 (ioL_mem (i := j) (by rw [List.getElem?_tail]; exact h2) (by simpa using h4))).elim
  | io, u :: vs, i + 1, 0, v, nd, h1, h2, h3, h4 => by
    simp at h4
    subst h4
    have e : ioL io (u :: vs) = u :: ioL io.tail vs := if_pos (by rw [List.head?_eq_getElem?]; exact h2)
    rw [e] at nd
    exact ((List.nodup_cons.mp nd).1 (ioL_mem (i := i) (by rw [List.getElem?_tail]; exact h1) (by simpa using h3))).elim
  | io, u :: vs, i + 1, j + 1, v, nd, h1, h2, h3, h4 => by
    have nd' : (ioL io.tail vs).Nodup := by
      have z : (if io.head? = some true then u :: ioL io.tail vs else ioL io.tail vs).Nodup := nd
      split at z
      · exact (List.nodup_cons.mp z).2
      · exact z
    rw [ioL_inj (i := i) (j := j) nd' (by rw [List.getElem?_tail]; exact h1) (by rw [List.getElem?_tail]; exact h2) (by simpa using h3) (by simpa using h4)]
theorem ios_all : ∀ {io : List Bool} {s : S} {ios : List PyData}, iosOf io s = some ios → ∀ i : Nat, io[i]? = some true → ∃ d, s[i]? = some (some (Cell.io d))
  | [], s, ios, _, i, h => by simp at h
  | true :: io, some (.io d) :: s, ios, e, 0, h => ⟨d, rfl⟩
  | true :: io, some (.io d) :: s, ios, e, i + 1, h => by
    obtain ⟨r, e1, e2⟩ := Option.map_eq_some_iff.mp (show (iosOf io s).map (d :: ·) = some ios from e)
    obtain ⟨d', q⟩ := ios_all e1 i (by simpa using h)
    exact ⟨d', by simpa using q⟩
  | false :: io, x :: s, ios, e, 0, h => by simp at h
  | false :: io, x :: s, ios, e, i + 1, h => by
    have e1 : iosOf io s = some ios := by
      cases x with
      | none => exact e
      | some c => cases c <;> exact e
    obtain ⟨d', q⟩ := ios_all e1 i (by simpa using h)
    exact ⟨d', by simpa using q⟩
  | true :: io, [], ios, e, _, _ => by cases e
  | false :: io, [], ios, e, _, _ => by cases e
  | true :: io, none :: s, ios, e, _, _ => by cases e
  | true :: io, some (.pl _) :: s, ios, e, _, _ => by cases e
  | true :: io, some (.ow _) :: s, ios, e, _, _ => by cases e
  | true :: io, some (.ex _ _) :: s, ios, e, _, _ => by cases e
theorem ios_at : ∀ {io : List Bool} {s : S} {vs : List V} {ios : List PyData}, iosOf io s = some ios → io.length ≤ vs.length → (∀ (i : Nat) (d : PyData), io[i]? = some true → s[i]? = some (some (Cell.io d)) → ∃ a, vs[i]? = some (V.ref a) ∧ RootD K A H' a d) → IosAt K A H' io vs ios
  | [], s, vs, ios, e, _, _ => by cases e; rfl
  | true :: io, some (.io d) :: s, [], ios, e, h, _ => by simp at h
  | false :: io, _ :: s, [], ios, e, h, _ => by simp at h
  | true :: io, some (.io d) :: s, v :: vs, ios, e, h, k => by
    obtain ⟨r, e1, e2⟩ := Option.map_eq_some_iff.mp (show (iosOf io s).map (d :: ·) = some ios from e)
    subst e2
    obtain ⟨a, q1, q2⟩ := k 0 d rfl rfl
    exact ⟨⟨a, by simpa using q1, q2⟩, ios_at e1 (by simpa using h) fun i d' h1 h2 => by
      obtain ⟨a, z1, z2⟩ := k (i + 1) d' (by simpa using h1) (by simpa using h2)
      exact ⟨a, by simpa using z1, z2⟩⟩
  | false :: io, x :: s, v :: vs, ios, e, h, k => by
    have e1 : iosOf io s = some ios := by
      cases x with
      | none => exact e
      | some c => cases c <;> exact e
    exact ios_at (io := io) (s := s) e1 (by simpa using h) fun i d' h1 h2 => by
      obtain ⟨a, z1, z2⟩ := k (i + 1) d' (by simpa using h1) (by simpa using h2)
      exact ⟨a, by simpa using z1, z2⟩
  | true :: io, [], vs, ios, e, _, _ => by cases e
  | false :: io, [], vs, ios, e, _, _ => by cases e
  | true :: io, none :: s, vs, ios, e, _, _ => by cases e
  | true :: io, some (.pl _) :: s, vs, ios, e, _, _ => by cases e
  | true :: io, some (.ow _) :: s, vs, ios, e, _, _ => by cases e
  | true :: io, some (.ex _ _) :: s, vs, ios, e, _, _ => by cases e
end
/-- what the def's run stands upon -/
def vw0 (G : Gk) (Ex : ASet) (H : Hp) (io : List Bool) (vs : List V) : Vw := { K := G.K, H0 := H, io := fun i => if io[i]? = some true then (match vs[i]? with | some (.ref a) => some a | _ => none) else none, Ex := Ex, cls := G.cls }
section
variable {G : Gk} {Ex : ASet} {H : Hp} {io : List Bool} {vs : List V} {ds : List PyData} {n : Nat}
theorem vw0_io {i : Nat} {a : Addr} : (vw0 G Ex H io vs).io i = some a ↔ io[i]? = some true ∧ vs[i]? = some (.ref a) := by
  show (if io[i]? = some true then (match vs[i]? with | some (.ref a) => some a | _ => none) else none) = some a ↔ _
  constructor
  · intro h
    split at h
    · rename_i q
      split at h
      · rename_i b e
        cases h
        exact ⟨q, e⟩
      · cases h
    · cases h
  · rintro ⟨h1, h2⟩
    rw [if_pos h1, h2]
theorem rep0 (h : ArgsAt G.K Ex H io vs ds) : Rep (vw0 G Ex H io vs) H (Pv.start io ds ++ List.replicate n none) (vs.map some ++ List.replicate n none) := by
  have hl := h.at_.len
  have cellAt : ∀ (i : Nat) (c : Cell), (Pv.start io ds ++ List.replicate n none)[i]? = some (some c) → ∃ d, ds[i]? = some d ∧ c = if io[i]? = some true then Cell.io d else Cell.pl d := fun i c e => by
    by_cases hi : i < ds.length
    · rw [List.getElem?_append_left (by rw [start_len]; exact hi), start_at] at e
      obtain ⟨d, hd, q⟩ := Option.map_eq_some_iff.mp e
      exact ⟨d, hd, (Option.some.inj q).symm⟩
    · rw [List.getElem?_append_right (by rw [start_len]; omega)] at e
      rw [List.getElem?_replicate] at e
      split at e <;> cases e
  have slotAt : ∀ (i : Nat) (v : V), vs[i]? = some v → (vs.map some ++ List.replicate n none)[i]? = some (some v) := fun i v e => by
    have hi : i < vs.length := (List.getElem?_eq_some_iff.mp e).1
    rw [List.getElem?_append_left (by simpa using hi), List.getElem?_map, e]; rfl
  have rtAt : ∀ (i : Nat) (a : Addr), Rt (Pv.start io ds ++ List.replicate n none) (vs.map some ++ List.replicate n none) i a → io[i]? = some true ∧ vs[i]? = some (.ref a) := fun i a ⟨⟨d, hd⟩, hv⟩ => by
    have key : ∃ c d', ds[i]? = some d' ∧ c = (if io[i]? = some true then Cell.io d' else .pl d') ∧ (c = .ow d ∨ c = .io d) := by
      rcases hd with hd | hd
      · obtain ⟨d', q1, q2⟩ := cellAt i _ hd; exact ⟨_, d', q1, q2, .inl rfl⟩
      · obtain ⟨d', q1, q2⟩ := cellAt i _ hd; exact ⟨_, d', q1, q2, .inr rfl⟩
    obtain ⟨c, d', q1, q2, q3⟩ := key
    have hio : io[i]? = some true := by
      by_cases z : io[i]? = some true
      · exact z
      · rw [if_neg z] at q2
        subst q2
        rcases q3 with q3 | q3 <;> cases q3
    obtain ⟨v, e1, _⟩ := h.at_.get q1
    rw [slotAt i v e1] at hv
    cases hv
    exact ⟨hio, e1⟩
  have av : ∀ b, Av (vw0 G Ex H io vs) (Pv.start io ds ++ List.replicate n none) (vs.map some ++ List.replicate n none) b → Ex b ∨ IoA io vs b := fun b z => by
    rcases z with ⟨i, z⟩ | z
    · obtain ⟨q1, q2⟩ := rtAt i b z
      exact .inr (ioL_mem q1 q2)
    · exact .inl z
  refine ⟨by rw [List.length_append, List.length_append, start_len, List.length_map, hl, List.length_replicate, List.length_replicate], fun i c e => ?_, fun i j a x y => ?_, fun a ⟨i, z⟩ => ?_, fun _ e => e, fun _ _ e _ => e, fun b hb => h.nt b (av b hb), h.exT⟩
  · obtain ⟨d, hd, rfl⟩ := cellAt i c e
    obtain ⟨v, e1, e2, e3⟩ := h.at_.get hd
    refine ⟨v, slotAt i v e1, ?_⟩
    by_cases z : io[i]? = some true
    · rw [if_pos z]
      obtain ⟨a, rfl, r⟩ := e2 z
      exact ⟨a, rfl, r.weak av, vw0_io.mpr ⟨z, e1⟩⟩
    · rw [if_neg z]
      exact (e3 z).weak av
  · obtain ⟨p1, p2⟩ := rtAt i a x
    obtain ⟨p3, p4⟩ := rtAt j a y
    exact ioL_inj h.inj p1 p3 p2 p4
  · obtain ⟨p1, p2⟩ := rtAt i a z
    exact h.ex a (ioL_mem p1 p2)
theorem ex_ret {σ' : S} {σV' : L2.St} {H' : Hp} {ios : List PyData} (hv : io.length ≤ vs.length) (r : Rep (vw0 G Ex H io vs) H' σ' σV') (e : iosOf io σ' = some ios) :
    Kp (IoA io vs) H H' ∧ (∀ b, Ex b ∨ IoA io vs b → Av (vw0 G Ex H io vs) σ' σV' b) ∧ IosAt G.K (fun b => Ex b ∨ IoA io vs b) H' io vs ios := by
  have up : ∀ b, Ex b ∨ IoA io vs b → Av (vw0 G Ex H io vs) σ' σV' b := fun b z => by
    rcases z with z | z
    · exact .inr z
    · obtain ⟨i, h1, h2⟩ : ∃ i : Nat, io[i]? = some true ∧ vs[i]? = some (V.ref b) := by
        clear r e hv
        revert z
        unfold IoA
        induction vs generalizing io with
        | nil => intro z; cases io <;> simp [ioL] at z
        | cons v vs ihv =>
          intro z
          have z : V.ref b ∈ (if io.head? = some true then v :: ioL io.tail vs else ioL io.tail vs) := z
          split at z
          · rename_i q
            rcases List.mem_cons.mp z with z | z
            · exact ⟨0, by rw [← List.head?_eq_getElem?]; exact q, by rw [z]; rfl⟩
            · obtain ⟨i, h1, h2⟩ := ihv z
              exact ⟨i + 1, by rw [List.getElem?_tail] at h1; exact h1, by simpa using h2⟩
          · obtain ⟨i, h1, h2⟩ := ihv z
            exact ⟨i + 1, by rw [List.getElem?_tail] at h1; exact h1, by simpa using h2⟩
      obtain ⟨d, hd⟩ := ios_all e i h1
      obtain ⟨a, ev, rt, _, ha⟩ := r.rt_io hd
      obtain ⟨_, z2⟩ := vw0_io.mp ha
      rw [h2] at z2
      cases z2
      exact .inl ⟨i, rt⟩
  refine ⟨⟨fun b o q n => r.kp b o q fun i z => ?_, r.ext⟩, up, ios_at e hv fun i d h1 h2 => ?_⟩
  · obtain ⟨z1, z2⟩ := vw0_io.mp z
    exact n (ioL_mem z1 z2)
  · obtain ⟨a, ev, rt, hr, ha⟩ := r.rt_io h2
    exact ⟨a, (vw0_io.mp ha).2, hr.weak up⟩
theorem ex_ret2 {σ' : S} {σV' : L2.St} {H' : Hp} {ios : List PyData} {a0 : Addr} (hv : io.length ≤ vs.length) (r : Rep (vw0 G Ex H io vs) H' σ' σV') (r2 : Rep ((vw0 G Ex H io vs).ex a0) H' σ' σV') (e : iosOf io σ' = some ios) :
    IosAt G.K (fun b => (Ex b ∨ IoA io vs b) ∨ b = a0) H' io vs ios := by
  obtain ⟨_, up, _⟩ := ex_ret hv r e
  refine ios_at e hv fun i d h1 h2 => ?_
  obtain ⟨a, ev, rt, hr, ha⟩ := r2.rt_io h2
  exact ⟨a, (vw0_io.mp ha).2, hr.weak fun b z => z.elim (fun y => (up b y).elim .inl fun x => .inr (.inl x)) fun y => .inr (.inr y)⟩
/-- a def's body: from the evaluator's answer to the promise -/
theorem body_law {P : Prg} {p : Ev} {fd : FnD} {Q : VK} {E : XK} {W : WX} (hW : W = fun cls d _ H => E cls d H) (hns : fd.ns = n + fd.np) (h : spF G fd.np fd.io (runF p fd) vs H Q E) :
    tS G W (seqL p.s fd.body) { nx := fun _ H' => Q .non H', rt := Q } (vs.map some ++ List.replicate n none) H := by
  obtain ⟨Ex, ds, hnp, ha, q⟩ := h
  subst hW
  unfold runF at q
  have en : fd.ns - fd.np = n := by omega
  rw [en] at q
  by_cases h0 : ds.length ≠ fd.np ∨ fd.io.length ≠ fd.np
  · rw [if_pos h0] at q
    exact q.elim
  · rw [if_neg h0] at q
    have hlen : ds.length = fd.np ∧ fd.io.length = fd.np := by
      constructor
      · exact Classical.byContradiction fun z => h0 (.inl z)
      · exact Classical.byContradiction fun z => h0 (.inr z)
    have hv : fd.io.length ≤ vs.length := by rw [hlen.2, hnp]; exact Nat.le_refl _
    refine ⟨vw0 G Ex H fd.io vs, _, ⟨rfl, rfl⟩, rep0 (n := n) ha, ?_⟩
    cases e : seqL p.s fd.body (Pv.start fd.io ds ++ List.replicate n none) with
    | bad => rw [e] at q; exact q
    | err c v s =>
      rw [e] at q
      dsimp only at q
      cases ei : iosOf fd.io s with
      | none => rw [ei] at q; exact q.elim
      | some ios =>
        rw [ei] at q
        intro C dx w σV' H' hc r st edx ndx hw
        obtain ⟨k, up, hi⟩ := ex_ret hv r ei
        exact q C dx w H' hc k hi edx (fun z => ndx (up dx z)) (hw.weak up)
    | ok fl s =>
      rw [e] at q
      dsimp only at q
      cases ei : iosOf fd.io s with
      | none => rw [ei] at q; exact q.elim
      | some ios =>
        rw [ei] at q
        intro σV' H' r st
        obtain ⟨k, up, hi⟩ := ex_ret hv r ei
        cases fl with
        | nx => exact q .non H' k ⟨.non, hi⟩
        | bk => exact q.elim
        | ct => exact q.elim
        | rt d f =>
          intro v hr
          refine q v H' k ?_
          cases f with
          | false => exact ⟨hr.weak up, hi⟩
          | true =>
            obtain ⟨a, rfl, h0, na, r2, hd⟩ := hr
            exact ⟨a, rfl, h0, hd.weak fun b z => z.elim (fun y => (up b y).elim .inl fun x => .inr (.inl x)) fun y => .inr (.inr y), ex_ret2 hv r r2 ei⟩
end
end Pv
/-! Pv18: all defs of the module. -/
namespace Pv
open PySem PySem.Spec PyProof.Rows L2
section
variable {Pr : Program} {w : World} {K : Frag} {mg : Str → Option Value} {base : Heap}
/-- a def of the text, by its body, nothing being shown -/
theorem fnG_of {k : Nat} {f : Addr} {name qual : Str} {params : Arguments} {body : List Stmt} {scope : Scope} {dV kV doc pm cdv ct oc : Value} {an od : Option Addr} {osl : Array (Option Value)} {N ps : List Str} {sp : Sp}
    (lk : K.lookup f = some ⟨oc, od, .func (PySem.W.fnOf name qual params body scope dV kV doc pm an cdv ct), osl⟩) (hcd : PySem.W.codeIn K cdv qual = true) (Sc : FnScope N ps scope) (len : ∀ vs H Q E, sp vs H Q E → vs.length = ps.length)
    (hb : ∀ (A : Around) (outer : List Env) (s : Shared) (H : Hp) (vs : List V) (Q : VK) (E : XK), A.guards = some [] → Room k (A.deeper (envOfC qual scope s.heap.objs.size f cdv)) → sp vs H Q E →
      ∃ t, PSs (cxOf (L2.CX Pr w) Pr w K mg base N qual scope f cdv A outer s H E) body t ∧ t { nx := fun _ H' => Q .non H', rt := Q } (L2.start N vs) H) :
    FnG Pr w K mg base (k + 1) f (PySem.W.fnOf name qual params body scope dV kV doc pm an cdv ct) ps sp := by
  refine ⟨len, fun A outer s H args us vs Q E hg hr e0 bt r hsp => ?_⟩
  have hl := len vs H Q E hsp
  have kin : K.In s.heap := e0.mod.kin.keeps fun b o e => (e0.bs b o e).1
  have lim : s.heap.NoLimit := e0.mod.nolimit.keeps fun b o e => (e0.bs b o e).1
  have hk : ∀ y ∈ ps.zip us, scope.names.lookup y.1 = some .local ∨ (scope.names.lookup y.1 = some .cell ∧ ((cellsFrom (s.heap.objs.size + 1) scope.names []).lookup y.1).isSome = true) := by
    rintro ⟨x, v⟩ hy
    exact (Sc.par x (List.of_mem_zip hy).1).imp id fun q => ⟨q, PySem.W.cellsFrom_some _ _ _ (.inl q)⟩
  refine codeAny_call_function hr.depth (kin _ _ lk) rfl Sc.co Sc.gen rfl (PySem.W.codeRec_of kin hcd) (bt _ _ _ _ (wpAny_newFunctionEnv_cells Sc.kind hk fun env he s1 x => ?_))
  subst he
  obtain ⟨t, pt, ht⟩ := hb A outer s H vs Q E hg (hr.deeper _) hsp
  have I := inv_start (CX := L2.CX Pr w) (P := Pr) (w := w) (E := E) Sc hr.hd e0 hl r x
  refine ⟨lim.keeps x.toInCall.keep, codeAny_func (wpAny_mono (pt.run [] s1 (L2.start N vs) H _ I ht) (fun fl s2 hs => ?_) fun e s2 hs => hs)⟩
  match fl, hs with
  | .ret u, hs =>
    obtain ⟨v, σ2, H2, J, rv, q⟩ := hs
    exact ⟨v, H2, J.os, J.bare, J.base, J.hok, rv, q⟩
  | .next, hs =>
    obtain ⟨σ2, H2, J, q⟩ := hs
    exact ⟨.non, H2, J.os, J.bare, J.base, J.hok, rfl, q⟩
  | .brk, hs => obtain ⟨_, _, _, q⟩ := hs; exact q.elim
  | .cont, hs => obtain ⟨_, _, _, q⟩ := hs; exact q.elim
theorem fnG_false {f : Addr} {fd : FuncData} {ps : List Str} {sp : Sp} {k : Nat} (h : ∀ vs H Q E, ¬ sp vs H Q E) : FnG Pr w K mg base k f fd ps sp := ⟨fun vs H Q E q => (h vs H Q E q).elim, fun A outer s H args us vs Q E _ _ _ _ _ q => (h vs H Q E q).elim⟩
/-- what the module says of the def number f -/
structure DefAt (Γ : Gs) (K : Frag) (mg : Str → Option Value) (f : Nat) (fn : FnD) (x : Str) (ps : List Str) : Prop where
  ex : ∃ (fa : Addr) (name qual : Str) (params : Arguments) (body : List Stmt) (scope : Scope) (dV kV doc pm cdv ct oc : Value) (an od : Option Addr) (osl : Array (Option Value)) (N : List Str) (m : Nat),
    FnAt K mg x ps (kcsOf Γ f) fa (PySem.W.fnOf name qual params body scope dV kV doc pm an cdv ct) ∧ K.lookup fa = some ⟨oc, od, .func (PySem.W.fnOf name qual params body scope dV kV doc pm an cdv ct), osl⟩ ∧ PySem.W.codeIn K cdv qual = true ∧ FnScope N ps scope ∧
    all2 (chkS m Γ ⟨N, scope, scope⟩) fn.body body = true ∧ fn.np = ps.length ∧ fn.ns = N.length
structure ModG (Γ : Gs) (G : Gk) (P : Prg) (Pr : Program) (K : Frag) (mg : Str → Option Value) : Prop where
  KG : K = G.K
  blt : ∀ b, mg (biName b) = none
  blt2 : ∀ x ∈ (["range", "isinstance", "int", "bool", "str", "tuple", "list", "enumerate", "zip"] : List Str), mg x = none
  xs : Xs Γ G K Pr mg
  cns : ∀ x i, Γ.cns.lookup x = some i → ∃ t, mg x = some (.int i t)
  lib : ∀ x id, Γ.lib.lookup x = some id → mg x = some (.builtin id)
  df : ∀ f x ps, Γ.fnAt f = some (x, ps) → ∃ fn, P.fns[f]? = some fn ∧ DefAt Γ K mg f fn x ps
  exc : P.exc = Γ.ups
def spK (G : Gk) (P : Prg) (k f : Nat) : Sp := match P.fns[f]? with
  | some fd => spF G fd.np fd.io (runK P k f)
  | none => fun _ _ _ _ => False
theorem fnG_all {Γ : Gs} {G : Gk} {P : Prg} (M : ModG Γ G P Pr K mg) : ∀ (k f : Nat) (x : Str) (ps : List Str), Γ.fnAt f = some (x, ps) → ∃ fa fd, (FnAt K mg x ps (kcsOf Γ f) fa fd ∧ ∃ o, K.lookup fa = some o ∧ o.data = .func fd) ∧ FnG Pr w K mg base k fa fd ps (spK G P k f)
  | 0, f, x, ps, h => by
    obtain ⟨fn, hP, fa, name, qual, params, body, scope, dV, kV, doc, pm, cdv, ct, oc, an, od, osl, N, m, at_, lk, _⟩ := M.df f x ps h
    refine ⟨fa, _, ⟨at_, _, lk, rfl⟩, fnG_false fun vs H Q E q => ?_⟩
    unfold spK at q
    rw [hP] at q
    obtain ⟨_, _, _, _, q⟩ := q
    exact q
  | k + 1, f, x, ps, h => by
    obtain ⟨fn, hP, fa, name, qual, params, body, scope, dV, kV, doc, pm, cdv, ct, oc, an, od, osl, N, m, at_, lk, hcd, Sc, chk, hnp, hns⟩ := M.df f x ps h
    have hsp : spK G P (k + 1) f = spF G fn.np fn.io (runF (evN P k (runK P k) deep) fn) := by
      unfold spK
      rw [hP]
      have e : (runK P (k + 1) f) = runF (evN P k (runK P k) deep) fn := by
        funext ds
        show (match P.fns[f]? with | none => CRes.bad | some fd => runF (evN P k (runK P k) deep) fd ds) = _
        rw [hP]
      dsimp only
      rw [e]
    rw [hsp]
    refine ⟨fa, _, ⟨at_, _, lk, rfl⟩, fnG_of lk hcd Sc (fun vs H Q E q => ?_) fun A outer s H vs Q E hg hr q => ?_⟩
    · obtain ⟨_, _, q, _⟩ := q
      rw [q, hnp]
    · have hlen : vs.length = ps.length := by
        obtain ⟨_, _, q, _⟩ := q
        rw [q, hnp]
      have hpl : ps.length ≤ N.length := by
        have e := congrArg List.length Sc.pre
        rw [List.length_take] at e
        omega
      have ok : ∀ n, Ok Γ G P (spK G P k) (evN P k (runK P k) n).c := fun n => by
        have e : (evN P k (runK P k) n).c = runK P k := by cases n <;> rfl
        rw [e]
        refine ⟨fun f fd hf => by unfold spK; rw [hf], fun f fd x ps h1 h2 => ?_, M.exc⟩
        obtain ⟨fn', hP', _, _, _, _, _, _, _, _, _, _, _, _, _, _, _, _, _, _, _, _, _, _, _, hnp', _⟩ := M.df f x ps h2
        rw [h1] at hP'
        cases hP'
        exact hnp'
      have cx : Ctx Γ G k (spK G P k) ⟨N, scope, scope⟩ (cxOf (L2.CX Pr w) Pr w K mg base N qual scope fa cdv A outer s H E) :=
        { gx := ⟨by have := hr.un; show (A.deeper _).units + 150 < cLine; omega, rfl, hr.hd, hg⟩, K := M.KG, N := rfl, sc := rfl, nd := Sc.nd, fn := fun _ _ => rfl, loc := fun _ _ _ q => q, room := hr, blt := M.blt, blt2 := M.blt2, xs := M.xs, cns := M.cns, lib := M.lib,
          fns := fun f x ps h => let ⟨fa, fd, a, b⟩ := fnG_all M k f x ps h; ⟨fa, fd, a.1, b⟩ }
      have sx : Stx (cxOf (L2.CX Pr w) Pr w K mg base N qual scope fa cdv A outer s H E) (fun cls d _ H => E cls d H) := ⟨takes_of rfl rfl rfl rfl, passes_of rfl, Sc.kind, rfl, rfl, rfl⟩
      have st := sts_ok (evN_ok ok deep).2.2 cx sx chk
      refine ⟨_, st, ?_⟩
      have e : L2.start N vs = vs.map some ++ List.replicate (N.length - vs.length) none := rfl
      rw [e]
      exact body_law (P := P) rfl (by rw [hns, hnp]; omega) q
end
end Pv
/-! Pv19: the end: the law's def called. -/
namespace Pv
open PySem PySem.Spec PyProof.Rows L2
section
variable {Pr : Program} {w : World} {K : Frag} {mg mb : Str → Option Value}
def intsP (ns : List Int) : PyData := .list (ns.map PyData.int)
theorem rps_ints {A : ASet} {H : Hp} : ∀ ns : List Int, Rps K A H (ns.map V.int) (ns.map PyData.int)
  | [] => .nil
  | n :: ns => .cons (.int n) (rps_ints ns)
/-- the promise, at the script -/
theorem sp_at {G : Gk} {P : Prg} {k f : Nat} {fd : FnD} {H : Hp} {a : Addr} {ns : List Int} {fr : Bool} {ios : List PyData} (hf : P.fns[f]? = some fd) (hnp : fd.np = 1) (hio : fd.io = [false]) (hl : ∀ A, ¬ A a → LsAt G.K A H a (ns.map V.int)) (ha : runK P k f [intsP ns] = .ret (.bool true) fr ios) :
    spK G P k f [.ref a] H (fun v _ => v = .bl true) fun _ _ _ => False := by
  unfold spK
  rw [hf]
  dsimp only
  rw [hnp, hio]
  have no : ∀ b, ¬ IoA [false] [V.ref a] b := fun b z => by simp [IoA, ioL] at z
  refine ⟨fun _ => False, [intsP ns], rfl, ⟨⟨?_, trivial⟩, by simp [ioL], fun b z => (no b z).elim, fun b z => (z.elim id (no b)).elim, fun b z => z.elim⟩, ?_⟩
  · rw [if_neg (by simp)]
    exact .lst (hl _ fun z => z.elim id (no a)) (rps_ints ns)
  · rw [ha]
    intro v H' _ hr
    cases fr with
    | false =>
      have h := (show Rp G.K _ H' v (.bool true) ∧ _ from hr).1
      cases h
      rfl
    | true =>
      obtain ⟨b, _, _, h, _⟩ := (show ∃ b, v = .ref b ∧ H b = none ∧ RootD G.K _ H' b (.bool true) ∧ _ from hr)
      exact h.elim
theorem pv_call {k : Nat} {fa a : Addr} {fd : FuncData} {x : Str} {sp : Sp} {s1 : Shared} {vs : List Value} {ns : List Int} (KX : K.In s1.heap) (hns : s1.heap.Ns mainGlobals mg) (hb : s1.heap.Ns builtinsNs mb) (hbb : ∀ x : Str, x ≠ "__name__" → mb x = bootBuiltins x) (hlim : s1.heap.NoLimit) (hg : s1.gens = #[])
    (ha : s1.heap.get? a = some { cls := .type "list", data := .seq vs.toArray }) (hi : IntsAre vs ns) (hl : ns.length ≤ sizeLine) (hr : Room k callerA) (F : ∀ base : Heap, FnG Pr w K mg base k fa fd [x] sp) (hbind : BindsTo s1 fd ⟨[.ref a], []⟩ [(x, .ref a)])
    (hsp : ∀ H : Hp, (∀ A, ¬ A a → LsAt K A H a (ns.map V.int)) → sp [.ref a] H (fun v _ => v = .bl true) fun _ _ _ => False) :
    codeAny (model Pr w) callerA (.call (.ref fa) ⟨[.ref a], []⟩) (fun r s' => r = .ok (.ret (.bool true)) ∧ OldK s1.heap s'.heap ∧ s'.os = s1.os ∧ AllBare s'.gens) s1 := by
  have rv := vals_ints hi
  have lenV := hi.length
  have main : ∀ H : Hp, Only H → (∀ A, ¬ A a → LsAt K A H a (ns.map V.int)) → HOk Pr w H s1.heap → (∀ b, H b ≠ none → b = a) → (H a ≠ none → K.lookup a = none) →
      codeAny (model Pr w) callerA (.call (.ref fa) ⟨[.ref a], []⟩) (fun r s' => r = .ok (.ret (.bool true)) ∧ OldK s1.heap s'.heap ∧ s'.os = s1.os ∧ AllBare s'.gens) s1 := by
    intro H only hL hok one hK
    have isA : ∀ {b : Addr} {u : HO}, H b = some u → b = a := fun {b u} q => one b (by rw [q]; exact fun z => by cases z)
    have dictFree : ∀ {b : Addr} {o : Obj} {es : Array DictEntry} {ep : Nat}, s1.heap.get? b = some o → o.data = .dict es ep → H b = none := fun {b o es ep} e d => by
      cases q : H b with
      | none => rfl
      | some u =>
        have e2 := isA q
        subst e2
        rw [ha] at e; cases e
        cases (show Data.seq vs.toArray _ = Data.dict es ep from d)
    have nsH : ∀ {b : Addr} {m : Str → Option Value}, s1.heap.Ns b m → (hidT s1.heap H).Ns b m := fun {b m} ⟨o, es, ep, e, d, r⟩ => ⟨o, es, ep, hidT_get e (dictFree e d), d, r⟩
    have inH : K.In (hidT s1.heap H) := fun b o e => hidT_get (KX b o e) (by
      cases q : H b with
      | none => rfl
      | some u =>
        have e2 := isA q
        subst e2
        rw [hK (by rw [q]; exact fun z => by cases z)] at e
        cases e)
    obtain ⟨mc, c1, c2⟩ := hlim
    have e0 : Env0 Pr w K mg (hidT s1.heap H) callerA [] s1 H := ⟨rfl, ⟨inH, nsH hns, ⟨mb, nsH hb, hbb⟩, ⟨mc, nsH c1, c2⟩⟩, fun b o e => of_hidT e, Nat.le_of_eq (hidT_size _ _), trivial, fun b hb => (by cases hb), hok, .of_eq hg⟩
    refine codeAny_mono ((F _).run callerA [] s1 H ⟨[.ref a], []⟩ [.ref a] [.ref a] _ _ rfl hr e0 hbind (.cons rfl .nil) (hsp H hL)) fun res s2 h => ?_
    match res, h with
    | .error e, h =>
      obtain ⟨_, _, _, _, _, _, _, _, _, _, _, _, z⟩ := (show L2.CX Pr w [] H s1 (fun _ _ _ => False) e s2 from h)
      exact z.elim
    | .ok (.ret u), h =>
      obtain ⟨v, H2, os, bare, un, hok2, rr, q⟩ := (show CE [] Pr w H s1 (fun v _ => v = .bl true) u s2 from h)
      subst q
      obtain rfl : u = Value.bool true := rr
      refine ⟨rfl, OldK.of_keep fun b o e => ?_, os, bare⟩
      cases q : H b with
      | none => exact un.keep b o e q (fun z => by cases z) (fun z => by cases z)
      | some u =>
        rcases only b with z | ⟨ob, xs, z⟩
        · rw [q] at z; cases z
        · obtain ⟨e1, _⟩ := hok b _ z
          obtain ⟨e2, _⟩ := hok2 b _ (un.frzs b ob _ z)
          rw [e] at e1; cases e1
          exact e2
  cases hk : K.lookup a with
  | some o =>
    have e := KX a o hk
    rw [ha] at e
    cases e
    refine main (fun _ => none) (fun _ => .inl rfl) (fun A _ => .inr ⟨vs.toArray, 0, hk, by rw [List.size_toArray, lenV]; exact hl, by simpa using rv⟩) (fun b u z => by cases z) (fun b z => (z rfl).elim) fun z => (z rfl).elim
  | none =>
    have at_ : ∀ b, b = a → (if b = a then some (HO.frz { cls := .type "list", data := .seq vs.toArray } (.lst (ns.map V.int))) else none) = some (HO.frz { cls := .type "list", data := .seq vs.toArray } (.lst (ns.map V.int))) := fun b e => if_pos e
    refine main (fun b => if b = a then some (HO.frz { cls := .type "list", data := .seq vs.toArray } (.lst (ns.map V.int))) else none) (fun b => ?_) (fun A n => .inl ⟨.inr ⟨_, at_ a rfl⟩, n⟩) (fun b u z => ?_) (fun b z => ?_) fun _ => hk
    · by_cases hb : b = a
      · exact .inr ⟨_, _, at_ b hb⟩
      · exact .inl (if_neg hb)
    · by_cases hb : b = a
      · have z2 := (at_ b hb).symm.trans z
        cases z2
        subst hb
        exact ⟨ha, by rw [List.length_map]; exact hl, vs, _, rv, ha⟩
      · cases (if_neg hb).symm.trans z
    · exact Classical.byContradiction fun hb => z (if_neg hb)
/-- the goal behind the head, from the evaluator's answer -/
theorem pv_walk {l : PySem.W.OpenLaw} {n k f : Nat} {q : Program} {loose : List Str} {XP : (Str → Option Value) → Heap → Prop} {YP : World → Heap → Prop} {d : DefRec} {K : Params → Frag} {x : Str} {Γ : Gs} {P : Prg} {fn : FnD}
    (hn : l.most = some n) (hn2 : n ≤ sizeLine) (hdf : d.params.defaults = []) (hr : Room k callerA) (hY : ∀ (w : World) (h : Heap), YP w h → (K w.params).In h) (hΓ : Γ.fnAt f = some (d.name, [x])) (hP : P.fns[f]? = some fn) (hnp : fn.np = 1) (hio : fn.io = [false])
    (F : ∀ (w : World) (mg : Str → Option Value) (h : Heap), (K w.params).In h → h.Ns mainGlobals mg → ∃ G : Gk, ModG Γ G P l.prog (K w.params) mg)
    (ans : ∀ ns : List Int, ns.length ≤ n → ∃ fr ios, runK P k f [intsP ns] = .ret (.bool true) fr ios) :
    PySem.W.WalkO q loose XP YP l.row.toRowW d [] (fun f vs => PySem.call f vs) := by
  refine Att.attach_call hn hdf fun w s0 s1 mg mb fa o pm cd doc a vs ns Gr Y ho hd hcd hmg hobj hints hlen hg => ?_
  have KX := hY w _ Y
  obtain ⟨G, M⟩ := F w mg _ KX Gr.T.g
  obtain ⟨fr, ios, ha⟩ := ans ns hlen
  have all : ∀ base : Heap, ∃ fa fd, (FnAt (K w.params) mg d.name [x] (kcsOf Γ f) fa fd ∧ ∃ o, (K w.params).lookup fa = some o ∧ o.data = .func fd) ∧ FnG l.prog w (K w.params) mg base k fa fd [x] (spK G P k f) := fun base => fnG_all M k f d.name [x] hΓ
  obtain ⟨fa0, fd0, ⟨at0, o0, lk0, e0⟩, _⟩ := all s1.heap
  have e1 : fa0 = fa := by
    have z := at0.mg_.symm.trans hmg
    cases z
    rfl
  subst e1
  have same : ∀ base : Heap, FnG l.prog w (K w.params) mg base k fa0 fd0 [x] (spK G P k f) := fun base => by
    obtain ⟨fa2, fd2, ⟨at2, o2, lk2, e2⟩, g2⟩ := all base
    have z := at2.mg_.symm.trans hmg
    cases z
    rw [lk0] at lk2
    cases lk2
    rw [e0] at e2
    cases e2
    exact g2
  have bt := at0.binds s1 [.ref a] KX rfl
  exact pv_call KX Gr.T.g Gr.T.b Gr.T.builtins Gr.T.nolimit hg hobj hints (Nat.le_trans hlen hn2) hr same bt fun H hL => sp_at hP hnp hio (fun A n => by rw [← M.KG]; exact hL A n) ha
end
end Pv
/-! Pv20: the module's facts from checks. -/
namespace Pv
open PySem PySem.Spec PyProof.Rows L2
structure DefS where
  id : Nat
  name : Str
  ps : List Str
  N : List Str
  top : Nat
deriving Inhabited
def scB (N ps : List Str) (sc : Scope) : Bool := (match sc.kind with | .function => true | _ => false) && !sc.isCoroutine && !sc.isGenerator && decide N.Nodup && decide (N.take ps.length = ps) &&
  (ps.all fun x => sc.names.lookup x == some NameKind.local || sc.names.lookup x == some NameKind.cell) && (sc.names.all fun y => y.2 != NameKind.free)
theorem scB_ok {N ps : List Str} {sc : Scope} (h : scB N ps sc = true) : FnScope N ps sc := by
  unfold scB at h
  obtain ⟨h, h7⟩ := and_ h
  obtain ⟨h, h6⟩ := and_ h
  obtain ⟨h, h5⟩ := and_ h
  obtain ⟨h, h4⟩ := and_ h
  obtain ⟨h, h3⟩ := and_ h
  obtain ⟨h1, h2⟩ := and_ h
  refine ⟨?_, by simpa using h2, by simpa using h3, of_decide_eq_true h4, of_decide_eq_true h5, fun x hx => ?_, fun y hy => ?_⟩
  · split at h1
    · assumption
    · cases h1
  · have z := List.all_eq_true.mp h6 x hx
    rcases Bool.or_eq_true_iff.mp z with z | z
    · exact .inl (eq_of_beq z)
    · exact .inr (eq_of_beq z)
  · have z := List.all_eq_true.mp h7 y hy
    simpa using z
def stAt (body : List Stmt) (i : Nat) : Stmt := body.getD i (.Pass default)
def defB (Γ : Gs) (body : List Stmt) (fn : FnD) (D : DefS) : Bool := scB D.N D.ps (defScope (stAt body D.top)) && all2 (chkS 60 Γ ⟨D.N, defScope (stAt body D.top), defScope (stAt body D.top)⟩) fn.body (defBody (stAt body D.top)) &&
  decide (fn.np = D.ps.length) && decide (fn.ns = D.N.length)
def AllD {α : Type} (F : α → Prop) : List α → Prop
  | [] => True
  | d :: ds => F d ∧ AllD F ds
theorem AllD.mem {α : Type} {F : α → Prop} : ∀ {ds : List α} {d : α}, AllD F ds → d ∈ ds → F d
  | [], _, _, e => by cases e
  | x :: ds, d, h, e => by
    rcases List.mem_cons.mp e with rfl | e
    · exact h.1
    · exact AllD.mem h.2 e
/-- all defs of the tables pass -/
def defsB (Γ : Gs) (body : List Stmt) (fns : List FnD) (ds : List DefS) : Bool := ds.all fun D => match fns[D.id]? with
  | some fn => defB Γ body fn D
  | none => false
/-- keyword calls -/
def KB (fd : FuncData) (ps : List Str) (q : Nat × List Nat) : Prop := ∀ us ws zs : List Value, us.length = q.1 → ws.length = q.2.length → kwOrder q.2 ws q.1 (ps.length - q.1) = some zs → bindArgs fd ⟨us, (q.2.filterMap fun k => ps[k]?).zip ws⟩ = pure (ps.zip (us ++ zs))
def KBs (fd : FuncData) (ps : List Str) : List (Nat × List Nat) → Prop
  | [] => True
  | q :: r => KB fd ps q ∧ KBs fd ps r
theorem KBs.mem {fd : FuncData} {ps : List Str} {q : Nat × List Nat} : ∀ {l : List (Nat × List Nat)}, KBs fd ps l → q ∈ l → KB fd ps q
  | _ :: _, ⟨h, _⟩, .head _ => h
  | _ :: _, ⟨_, h⟩, .tail _ m => KBs.mem h m
/-- how the def binds -/
def BD (Γ : Gs) (body : List Stmt) (f : Nat) (D : DefS) : Prop := ∀ (kV doc pm cdv ct : Value) (an : Option Addr),
  (∀ us : List Value, us.length = D.ps.length → bindArgs (PySem.W.fnOf D.name D.name (defArgs (stAt body D.top)) (defBody (stAt body D.top)) (defScope (stAt body D.top)) .none kV doc pm an cdv ct) ⟨us, []⟩ = pure (D.ps.zip us)) ∧
  KBs (PySem.W.fnOf D.name D.name (defArgs (stAt body D.top)) (defBody (stAt body D.top)) (defScope (stAt body D.top)) .none kV doc pm an cdv ct) D.ps (kcsOf Γ f)
/-- where the def stands -/
def KD (K : Frag) (body : List Stmt) (D : DefS) : Prop := ∃ (fa : Addr) (kV doc pm cdv ct oc : Value) (an od : Option Addr) (osl : Array (Option Value)), PySem.W.nsIn K mainGlobals D.name = some (some (.ref fa)) ∧
  K.lookup fa = some ⟨oc, od, .func (PySem.W.fnOf D.name D.name (defArgs (stAt body D.top)) (defBody (stAt body D.top)) (defScope (stAt body D.top)) .none kV doc pm an cdv ct), osl⟩ ∧ PySem.W.codeIn K cdv D.name = true ∧ PySem.W.keepIn K (.ref fa) = true
theorem df_of {Γ : Gs} {K : Frag} {mg : Str → Option Value} {P : Prg} {h : Heap} {body : List Stmt} {ds : List DefS} (X : K.In h) (Gn : h.Ns mainGlobals mg) (hΓ : Γ.fns = ds.map fun D => (D.id, D.name, D.ps)) (hB : defsB Γ body P.fns ds = true) (hK : AllD (fun D => KD K body D) ds) (hb : AllD (fun D => BD Γ body D.id D) ds) :
    ∀ f x ps, Γ.fnAt f = some (x, ps) → ∃ fn, P.fns[f]? = some fn ∧ DefAt Γ K mg f fn x ps := by
  intro f x ps hf
  have hm := lookup_mem hf
  rw [hΓ] at hm
  obtain ⟨D, hD, e⟩ := List.mem_map.mp hm
  cases e
  have hd := List.all_eq_true.mp hB D hD
  split at hd
  · rename_i fn hfn
    unfold defB at hd
    obtain ⟨hd, h4⟩ := and_ hd
    obtain ⟨hd, h3⟩ := and_ hd
    obtain ⟨h1, h2⟩ := and_ hd
    obtain ⟨fa, kV, doc, pm, cdv, ct, oc, an, od, osl, k1, k2, k3, k4⟩ := hK.mem hD
    obtain ⟨b1, b2⟩ := hb.mem hD kV doc pm cdv ct an
    exact ⟨fn, hfn, fa, D.name, D.name, _, _, _, .none, kV, doc, pm, cdv, ct, oc, an, od, osl, D.N, 60, ⟨PySem.W.mg_of X Gn k1, k4, Binds.all b1, fun q hq s us ws zs _ l1 l2 l3 => .of_eq (b2.mem hq us ws zs l1 l2 l3)⟩, k2, k3, scB_ok h1, h2, of_decide_eq_true h3, of_decide_eq_true h4⟩
  · cases hd
end Pv
/-! Pv21: the classes of errors from checks; the module's facts. -/
namespace Pv
open PySem PySem.Spec PyProof.Rows L2
def nsI (K : Frag) (x : Str) (i : Int) : Bool := match PySem.W.nsIn K mainGlobals x with
  | some (some (.int j _)) => j == i
  | _ => false
def nsB (K : Frag) (x : Str) (id : String) : Bool := match PySem.W.nsIn K mainGlobals x with
  | some (some (.builtin j)) => j == id
  | _ => false
def nsO (K : Frag) (x : Str) : Bool := match PySem.W.nsIn K mainGlobals x with
  | some none => true
  | _ => false
def clsAt (K : Frag) (Γ : Gs) (c : Nat) : Option Addr := match Γ.excAt c with
  | some y => (match PySem.W.nsIn K mainGlobals y with
    | some (some (.ref C)) => some C
    | _ => none)
  | none => none
def oexB (K : Frag) (C : Addr) : Bool := (match K.lookup C with
  | some ⟨.type "type", _, .cls cd, sl⟩ => (match cd.mro, sl.toList with
    | .ref C' :: bm, [_, _, _, _, some (.builtin n), _] => C' == C && n == "ValueError.__new__" && !cd.hasDel && cd.hasDict && PySem.HandSPX.refsVE bm
    | _, _ => false)
  | _ => false) && decide (PySem.W.findIn K (.ref C) "__setattr__" = some (some (.builtin "object.__setattr__"))) && decide (PySem.W.subIn K (.ref C) (.type "BaseException") = some true) && decide (PySem.W.typeIn K (.ref C) = some (.type "type")) && PySem.W.keepIn K (.ref C)
theorem oexB_ok {K : Frag} {C : Addr} (h : oexB K C = true) : OexC K C := by
  unfold oexB at h
  obtain ⟨h, h5⟩ := and_ h
  obtain ⟨h, h4⟩ := and_ h
  obtain ⟨h, h3⟩ := and_ h
  obtain ⟨h1, h2⟩ := and_ h
  refine ⟨?_, of_decide_eq_true h2, of_decide_eq_true h3, of_decide_eq_true h4, h5⟩
  split at h1
  · rename_i dd cd sl ho
    split at h1
    · rename_i C' bm k0 k1 k2 k3 n k5 hm hs
      obtain ⟨h1, q5⟩ := and_ h1
      obtain ⟨h1, q4⟩ := and_ h1
      obtain ⟨h1, q3⟩ := and_ h1
      obtain ⟨q1, q2⟩ := and_ h1
      obtain rfl := eq_of_beq q1
      obtain rfl := eq_of_beq q2
      obtain ⟨nm, bs, mro, ns, qn, hd, sn, sub, ab, col, del⟩ := cd
      dsimp only at hm q3 q4
      subst hm q4
      have q3 : del = false := by simpa using q3
      subst q3
      have e : sl = #[k0, k1, k2, k3, some (.builtin "ValueError.__new__"), k5] := by
        obtain ⟨l⟩ := sl
        simp only at hs
        rw [hs]
      subst e
      exact ⟨nm, qn, ns, bs, bm, sn, sub, ab, col, dd, k0, k1, k2, k3, k5, ho, q5⟩
    · cases h1
  · cases h1
abbrev veMro : List Value := [.type "ValueError", .type "Exception", .type "BaseException", .type "object"]
def peClsB (K : Frag) (C D : Addr) : Bool := (match PySem.W.clsIn K C with
  | some cd => PySem.HandSPX.refsVE cd.mro && cd.hasDict
  | none => false) && decide (PySem.W.mroIn K C (.ref D) = some true) && decide (PySem.W.ks_superIn K C D "__init__" = some (some (.builtin "ValueError.__init__"))) && decide (PySem.W.subIn K (.ref C) (.type "ValueError") = some true) &&
  PySem.W.excInitIn K C veMro "ValueError.__new__" && decide (PySem.W.findIn K (.ref C) "__setattr__" = some (some (.builtin "object.__setattr__"))) && decide (PySem.W.findIn K (.ref C) "value" = some none)
theorem peClsB_ok {K : Frag} {C D : Addr} (h : peClsB K C D = true) : PeCls K C D "value" := by
  unfold peClsB at h
  obtain ⟨h, h7⟩ := and_ h
  obtain ⟨h, h6⟩ := and_ h
  obtain ⟨h, h5⟩ := and_ h
  obtain ⟨h, h4⟩ := and_ h
  obtain ⟨h, h3⟩ := and_ h
  obtain ⟨h1, h2⟩ := and_ h
  refine ⟨?_, of_decide_eq_true h2, of_decide_eq_true h3, of_decide_eq_true h4, ⟨_, _, PySem.F.excBase_ValueError, h5⟩, of_decide_eq_true h6, of_decide_eq_true h7⟩
  split at h1
  · rename_i cd hc
    obtain ⟨q1, q2⟩ := and_ h1
    exact ⟨cd, hc, q1, q2⟩
  · cases h1
def exccB (K : Frag) (D : Addr) : Bool := decide (PySem.W.findIn K (.ref D) "__getattribute__" = some (some (.builtin "BaseException.__getattribute__"))) && decide (PySem.W.findIn K (.ref D) "__getattr__" = some none) && decide (PySem.W.subIn K (.ref D) (.type "BaseException") = some true) && PySem.W.hasDictIn K D &&
  decide (PySem.W.findIn K (.ref D) "__class__" = some (some (.builtin "object.__class__"))) && decide (PySem.W.specialIn K (.builtin "object.__class__") "__get__" = some (some (.builtin "getset_descriptor.__get__"))) && decide (PySem.W.takesIn K (.builtin "object.__class__") = some true) && decide (PySem.W.mroIn K D (.type "object") = some true)
theorem exccB_ok {K : Frag} {D : Addr} (h : exccB K D = true) : ExcC K D ∧ XfC K D := by
  unfold exccB at h
  obtain ⟨h, h8⟩ := and_ h
  obtain ⟨h, h7⟩ := and_ h
  obtain ⟨h, h6⟩ := and_ h
  obtain ⟨h, h5⟩ := and_ h
  obtain ⟨h, h4⟩ := and_ h
  obtain ⟨h, h3⟩ := and_ h
  obtain ⟨h1, h2⟩ := and_ h
  exact ⟨⟨of_decide_eq_true h1, of_decide_eq_true h2, of_decide_eq_true h3, h4, of_decide_eq_true h5, of_decide_eq_true h6, of_decide_eq_true h7, of_decide_eq_true h8⟩, ⟨of_decide_eq_true h1, of_decide_eq_true h2, of_decide_eq_true h3, h4⟩⟩
/-- all of one class -/
def excB (K : Frag) (Γ : Gs) (D fI : Addr) (c : Nat) : Bool := match clsAt K Γ c, Γ.ups[c]? with
  | some C, some up => oexB K C && decide (PySem.W.findIn K (.ref C) "__init__" = some (some (.ref fI))) && peClsB K C D && exccB K C && decide (PySem.W.kitOne K (.type "NoneType") (.ref C) = some false) &&
      (Γ.excs.all fun q => match clsAt K Γ q.1 with
        | some C' => decide (PySem.W.exmOne K (.ref C) (.ref C') = some (up.contains q.1)) && decide (PySem.W.kitOne K (.ref C) (.ref C') = some (up.contains q.1))
        | none => false)
  | _, _ => false
/-- the error class's __init__ in the module -/
def PeFact (K : Frag) (prog : Program) (ini : Stmt) (D fI : Addr) : Prop := ∃ (cc cda : Addr) (kV doc pm ct oc : Value) (an od : Option Addr) (osl : Array (Option Value)) (vs : Array Value) (file : Str) (tf : Tok) (ccl cl : Value) (cdd cld : Option Addr) (ccs csl : Array (Option Value)),
  PySem.W.findIn K (.ref D) "__init__" = some (some (.ref fI)) ∧ PySem.W.typeIn K (.ref fI) = some (.type "function") ∧
  K.lookup fI = some ⟨oc, od, .func (PySem.W.ksFn "__init__" "PicturesError.__init__" (defArgs ini) (defBody ini) (defScope ini) .none kV doc pm an (.ref cda) ct cc), osl⟩ ∧ PySem.W.codeIn K (.ref cda) "PicturesError.__init__" = true ∧
  K.lookup cda = some ⟨ccl, cdd, .fields vs, ccs⟩ ∧ vs[2]? = some (.str file tf) ∧ ((prog.main.file : Str) == file) = true ∧ K.lookup cc = some ⟨cl, cld, .cell (some (.ref D)), csl⟩ ∧ (PySem.W.clsIn K D).isSome = true
/-- the text of __init__ -/
structure IniOk (ini : Stmt) : Prop where
  body : ∃ (msg : Str) (j : Nat) (p0 p1 p2 p3 p4 p5 p6 p7 p8 p9 : Pos), defBody ini = [.Expr (.Call (.Attribute (.Call (.Name "super" p0) [] [] p1) "__init__" p2) [.Constant (.str msg) j p3] [] p4) p5, .Assign [.Attribute (.Name "self" p6) "value" p7] (.Name "value" p8) p9] ∧ (p2.endLine == p4.line) = true
  par : ∃ ar, ((defArgs ini).posonlyargs ++ (defArgs ini).args).head? = some ar ∧ ar.arg = "self"
  bind : ∀ (kV doc pm cdv ct : Value) (an : Option Addr) (cc : Addr) (a u : Value), bindArgs (PySem.W.ksFn "__init__" "PicturesError.__init__" (defArgs ini) (defBody ini) (defScope ini) .none kV doc pm an cdv ct cc) ⟨[a, u], []⟩ = pure [(("self" : Str), a), (("value" : Str), u)]
  hks : (defScope ini).names.lookup ("super" : Str) = some .globalImplicit
  hkc : (defScope ini).names.lookup ("__class__" : Str) = some .free
  hka : (defScope ini).names.lookup ("self" : Str) = some .local
  hkv : (defScope ini).names.lookup ("value" : Str) = some .local
  hcell : ∀ x ∈ (defScope ini).names, x.2 ≠ .cell
  hco : (defScope ini).isCoroutine = false
  hgen : (defScope ini).isGenerator = false
  hk : (defScope ini).kind = .function
theorem modG_of {Γ : Gs} {K : Frag} {mg : Str → Option Value} {P : Prg} {Pr : Program} {h : Heap} {body : List Stmt} {ds : List DefS} {ini : Stmt} {D fI : Addr} (X : K.In h) (Gn : h.Ns mainGlobals mg) (hΓ : Γ.fns = ds.map fun D => (D.id, D.name, D.ps)) (hB : defsB Γ body P.fns ds = true) (hK : AllD (fun D => KD K body D) ds) (hb : AllD (fun D => BD Γ body D.id D) ds)
    (hexc : P.exc = Γ.ups) (h1 : (([.len, .tuple, .list, .listr, .sum, .sumL, .all, .any, .sorted, .min, .max, .min2, .max2, .abs, .int, .repr, .sortedSet, .lenSet, .index, .count, .gcd] : List Bi).all fun b => nsO K (biName b)) = true)
    (h2 : ((["range", "isinstance", "int", "bool", "str", "tuple", "list", "enumerate", "zip", "super"] : List Str).all fun x => nsO K x) = true) (h3 : (Γ.cns.all fun q => nsI K q.1 q.2) = true) (h5 : (Γ.lib.all fun q => nsB K q.1 q.2) = true) (hI : IniOk ini) (hP : PeFact K Pr ini D fI) (h4 : (Γ.excs.all fun q => excB K Γ D fI q.1) = true)
    (hop : PySem.W.nsIn K cStatics "thirdparty.any" = some none) (htop : (Pr.main.scope.names.lookup ("super" : Str)).isSome = false) : ∃ G : Gk, ModG Γ G P Pr K mg := by
  have none_ : ∀ {x : Str}, nsO K x = true → mg x = none := fun {x} q => by
    unfold nsO at q
    split at q
    · rename_i e; exact PySem.W.mg_none_of X Gn e
    · cases q
  have hcl : ∀ c C, clsAt K Γ c = some C → excB K Γ D fI c = true := fun c C e => by
    unfold clsAt at e
    split at e
    · rename_i y hy; exact List.all_eq_true.mp h4 _ (lookup_mem hy)
    · cases e
  have hup : ∀ c C, clsAt K Γ c = some C → ∃ up, Γ.ups[c]? = some up ∧ OexC K C ∧ PySem.W.findIn K (.ref C) "__init__" = some (some (.ref fI)) ∧ PeCls K C D "value" ∧ (ExcC K C ∧ XfC K C) ∧ PySem.W.kitOne K (.type "NoneType") (.ref C) = some false ∧
      ∀ c' C', clsAt K Γ c' = some C' → PySem.W.exmOne K (.ref C) (.ref C') = some (up.contains c') ∧ PySem.W.kitOne K (.ref C) (.ref C') = some (up.contains c') := fun c C e => by
    have q := hcl c C e
    unfold excB at q
    rw [e] at q
    cases hu : Γ.ups[c]? with
    | none => rw [hu] at q; cases q
    | some up =>
      rw [hu] at q
      dsimp only at q
      obtain ⟨q, q6⟩ := and_ q
      obtain ⟨q, q5⟩ := and_ q
      obtain ⟨q, q4⟩ := and_ q
      obtain ⟨q, q3⟩ := and_ q
      obtain ⟨q1, q2⟩ := and_ q
      refine ⟨up, rfl, oexB_ok q1, of_decide_eq_true q2, peClsB_ok q3, exccB_ok q4, of_decide_eq_true q5, fun c' C' e' => ?_⟩
      have hy : ∃ y, Γ.excAt c' = some y := by
        unfold clsAt at e'
        split at e'
        · rename_i y hy; exact ⟨y, hy⟩
        · cases e'
      obtain ⟨y, hy⟩ := hy
      have z := List.all_eq_true.mp q6 _ (lookup_mem hy)
      dsimp only at z
      rw [e'] at z
      obtain ⟨z1, z2⟩ := and_ z
      exact ⟨of_decide_eq_true z1, of_decide_eq_true z2⟩
  obtain ⟨cc, cda, kV, doc, pm, ct, oc, an, od, osl, vs, file, tf, ccl, cl, cdd, cld, ccs, csl, f1, f2, f3, f4, f5, f6, f7, f8, f9⟩ := hP
  obtain ⟨cdD, hD⟩ := Option.isSome_iff_exists.mp f9
  obtain ⟨msg, j, p0, p1, p2, p3, p4, p5, p6, p7, p8, p9, eb, epos⟩ := hI.body
  obtain ⟨ar, ea, eself⟩ := hI.par
  have pd : PeDef K Pr D fI (PySem.W.ksFn "__init__" "PicturesError.__init__" (defArgs ini) (defBody ini) (defScope ini) .none kV doc pm an (.ref cda) ct cc) (defScope ini) "self" "value" "value" cc cda :=
    { ex := ⟨_, _, _, _, _, _, _, _, _, _, _, _, _, msg, j, p0, p1, p2, p3, p4, p5, p6, p7, p8, p9, ar, vs, file, tf, ccl, cl, cdd, cld, ccs, csl, cdD, rfl, f3, eb, f4, ea, eself, f5, f6, f7, f8, hD, epos⟩, bind := fun a u => hI.bind _ _ _ _ _ _ _ a u, ne := by decide, hks := hI.hks, hkc := hI.hkc, hka := hI.hka, hkv := hI.hkv, hcell := hI.hcell, hco := hI.hco,
      hgen := hI.hgen, hk := hI.hk, dbg := ⟨by decide, by decide⟩ }
  refine ⟨⟨K, clsAt K Γ⟩, ⟨rfl, fun b => ?_, fun x hx => ?_, ⟨fun c y hy => ?_, fun c C e => ?_, fun c C e => ?_, fun c C up c' C' e hu e' => ?_, fun c' C' e' => ?_, hop, htop, none_ (List.all_eq_true.mp h2 _ (by simp))⟩, fun x i hx => ?_, fun x i hx => ?_, df_of X Gn hΓ hB hK hb, hexc⟩⟩
  · exact none_ (List.all_eq_true.mp h1 b (by cases b <;> simp))
  · exact none_ (List.all_eq_true.mp h2 x (by
      simp only [List.mem_cons, List.not_mem_nil, or_false] at hx ⊢
      rcases hx with h | h | h | h | h | h | h | h | h <;> simp [h]))
  · have q := List.all_eq_true.mp h4 _ (lookup_mem hy)
    unfold excB at q
    dsimp only at q
    cases e : clsAt K Γ c with
    | none => rw [e] at q; cases q
    | some C =>
      refine ⟨C, e, ?_⟩
      unfold clsAt at e
      rw [hy] at e
      dsimp only at e
      split at e
      · rename_i C2 e2
        cases e
        exact PySem.W.mg_of X Gn e2
      · cases e
  · obtain ⟨up, _, o1, o2, o3, _⟩ := hup c C e
    exact ⟨o1, fI, D, cc, cda, _, _, _, _, o2, f2, pd, o3⟩
  · obtain ⟨up, _, _, _, _, o4, _⟩ := hup c C e
    exact o4
  · obtain ⟨up2, u1, _, _, _, _, _, o6⟩ := hup c C e
    rw [hu] at u1
    cases u1
    exact o6 c' C' e'
  · obtain ⟨up, _, _, _, _, _, o5, _⟩ := hup c' C' e'
    exact o5
  · have hx' : ∃ q ∈ Γ.cns, q.1 = x ∧ q.2 = i := by
      clear h1 h2 h4 hcl hup
      generalize Γ.cns = l at hx
      induction l with
      | nil => cases hx
      | cons q l ih =>
        rw [List.lookup_cons] at hx
        cases e : x == q.1 with
        | true => rw [e] at hx; cases hx; exact ⟨q, List.mem_cons_self, (eq_of_beq e).symm, rfl⟩
        | false => rw [e] at hx; obtain ⟨r, h, z⟩ := ih hx; exact ⟨r, List.mem_cons_of_mem _ h, z⟩
    obtain ⟨q, hq, rfl, rfl⟩ := hx'
    have z := List.all_eq_true.mp h3 q hq
    unfold nsI at z
    split at z
    · rename_i j t e
      exact ⟨t, by rw [PySem.W.mg_of X Gn e, eq_of_beq z]⟩
    · cases z
  · have hx' : ∃ q ∈ Γ.lib, q.1 = x ∧ q.2 = i := by
      clear h1 h2 h4 hcl hup
      generalize Γ.lib = l at hx
      induction l with
      | nil => cases hx
      | cons q l ih =>
        rw [List.lookup_cons] at hx
        cases e : x == q.1 with
        | true => rw [e] at hx; cases hx; exact ⟨q, List.mem_cons_self, (eq_of_beq e).symm, rfl⟩
        | false => rw [e] at hx; obtain ⟨r, h, z⟩ := ih hx; exact ⟨r, List.mem_cons_of_mem _ h, z⟩
    obtain ⟨q, hq, rfl, rfl⟩ := hx'
    have z := List.all_eq_true.mp h5 q hq
    unfold nsB at z
    split at z
    · rename_i j e
      rw [PySem.W.mg_of X Gn e, eq_of_beq z]
    · cases z
theorem pe_mk {K : Frag} {prog : Program} {ini : Stmt} {D fI cc cda : Addr} {kV doc pm ct oc : Value} {an od : Option Addr} {osl : Array (Option Value)} {vs : Array Value} {file : Str} {tf : Tok} {ccl cl : Value} {cdd cld : Option Addr} {ccs csl : Array (Option Value)}
    (_ : PySem.W.nsIn K mainGlobals "PicturesError" = some (some (.ref D))) (h1 : PySem.W.findIn K (.ref D) "__init__" = some (some (.ref fI))) (h2 : PySem.W.typeIn K (.ref fI) = some (.type "function"))
    (h3 : K.lookup fI = some ⟨oc, od, .func (PySem.W.ksFn "__init__" "PicturesError.__init__" (defArgs ini) (defBody ini) (defScope ini) .none kV doc pm an (.ref cda) ct cc), osl⟩) (h4 : PySem.W.codeIn K (.ref cda) "PicturesError.__init__" = true)
    (h5 : K.lookup cda = some ⟨ccl, cdd, .fields vs, ccs⟩) (h6 : vs[2]? = some (.str file tf)) (h7 : ((prog.main.file : Str) == file) = true) (h8 : K.lookup cc = some ⟨cl, cld, .cell (some (.ref D)), csl⟩) (h9 : (PySem.W.clsIn K D).isSome = true) : PeFact K prog ini D fI :=
  ⟨cc, cda, kV, doc, pm, ct, oc, an, od, osl, vs, file, tf, ccl, cl, cdd, cld, ccs, csl, h1, h2, h3, h4, h5, h6, h7, h8, h9⟩
theorem kd_mk {K : Frag} {body : List Stmt} {D : DefS} {ds : List DefS} {fa : Addr} {kV doc pm cdv ct oc : Value} {an od : Option Addr} {osl : Array (Option Value)} (h1 : PySem.W.nsIn K mainGlobals D.name = some (some (.ref fa)))
    (h2 : K.lookup fa = some ⟨oc, od, .func (PySem.W.fnOf D.name D.name (defArgs (stAt body D.top)) (defBody (stAt body D.top)) (defScope (stAt body D.top)) .none kV doc pm an cdv ct), osl⟩) (h3 : PySem.W.codeIn K cdv D.name = true) (h4 : PySem.W.keepIn K (.ref fa) = true) (r : AllD (fun D => KD K body D) ds) :
    AllD (fun D => KD K body D) (D :: ds) := ⟨⟨fa, kV, doc, pm, cdv, ct, oc, an, od, osl, h1, h2, h3, h4⟩, r⟩
theorem kd_nil {K : Frag} {body : List Stmt} : AllD (fun D => KD K body D) [] := trivial
end Pv
namespace GP
open PySem Pv
def off : FnD := { np := 0, io := [true], ns := 0, body := [] }
/-- 100 p:picturework.sign_in: 0 sort, 1 picture, 2 one, 3 other -/
def p_picturework_sign_in : FnD := { np := 4, io := [false, false, false, false], ns := 4, body := [
  .ifs (.cmp .lt (.var 2) (.var 3)) [.ret (.idx (.idx (.idx (.var 1) (.var 3)) (.int 1)) (.var 2))] [],
  .ret (.idx (.idx (.var 0) (.int 2)) (.idx (.idx (.idx (.var 1) (.var 2)) (.int 1)) (.var 3)))] }
/-- 101 p:picturework.stand_in: 0 sort, 1 picture, 2 numbers, 3 point, 4 at -/
def p_picturework_stand_in : FnD := { np := 4, io := [false, false, false, false], ns := 5, body := [
  .ret (.tup [.idx (.idx (.var 1) (.var 3)) (.int 0), .bi .tuple [.lc (.call 100 [.var 0, .var 1, .var 4, .var 3]) [4] (.nm 4) (.var 2) []]])] }
/-- 102 p:likework.placings_in: 0 sort, 1 small, 2 large, 3 found, 4 way, 5 more, 6 some, 7 at -/
def p_likework_placings_in : FnD := { np := 3, io := [false, false, false], ns := 8, body := [
  .asg (.nm 3) (.lst [.tup []]),
  .for_ (.nm 4) (.var 1) [.asg (.nm 5) (.lc2 (.bin .add (.var 6) (.tup [.var 7])) [6, 7] [7] (.nm 6) (.var 3) [] (.nm 7) (.rng [.bi .len [.var 2]]) [.cmp .notin (.var 7) (.var 6)]), .asg (.nm 3) (.lc (.var 6) [6] (.nm 6) (.var 5) [.cmp .eq (.call 101 [.var 0, .var 2, .slc (.var 6) none (some (.neg (.int 1))), .idx (.var 6) (.neg (.int 1))]) (.var 4)])],
  .ret (.var 3)] }
/-- 103 p:likework.least_in: 0 sort, 1 picture, 2 some, 3 form, 4 turn, 5 ways, 6 least, 7 numbers, 8 at, 9 way -/
def p_likework_least_in : FnD := { np := 2, io := [false, false], ns := 10, body := [
  .par [2, 3] [.lst [.tup []], .tup []],
  .for_ (.nm 4) (.rng [.bi .len [.var 1]]) [.asg (.nm 2) (.lc2 (.bin .add (.var 7) (.tup [.var 8])) [7, 8] [8] (.nm 7) (.var 2) [] (.nm 8) (.rng [.bi .len [.var 1]]) [.cmp .notin (.var 8) (.var 7)]), .asg (.nm 5) (.lc (.call 101 [.var 0, .var 1, .slc (.var 7) none (some (.neg (.int 1))), .idx (.var 7) (.neg (.int 1))]) [7] (.nm 7) (.var 2) []), .asg (.nm 6) (.bi .min [.var 5]), .asg (.nm 2) (.lc (.var 7) [7, 9] (.tp [7, 9]) (.zip (.var 2) (.var 5)) [.cmp .eq (.var 9) (.var 6)]), .asg (.nm 3) (.bin .add (.var 3) (.tup [.var 6]))],
  .ret (.var 3)] }
/-- 104 p:checks.is_integer: 0 value -/
def p_checks_is_integer : FnD := { np := 1, io := [false], ns := 1, body := [
  .ret (.and [.isi (.var 0) [.int], .not (.isi (.var 0) [.bool])])] }
/-- 105 p:checks.is_between: 0 value, 1 low, 2 high -/
def p_checks_is_between : FnD := { np := 3, io := [false, false, false], ns := 3, body := [
  .ret (.and [.call 104 [.var 0], .chain .le .le (.var 1) (.var 0) (.var 2)])] }
/-- 106 p:checks.is_tuple: 0 value, 1 low, 2 high -/
def p_checks_is_tuple : FnD := { np := 3, io := [false, false, false], ns := 3, body := [
  .ret (.and [.isi (.var 0) [.tuple], .cmp .ge (.bi .len [.var 0]) (.var 1), .or [.isn true (.var 2), .cmp .le (.bi .len [.var 0]) (.var 2)]])] }
/-- 107 p:checks.anew: 0 value, 1 part -/
def p_checks_anew : FnD := { np := 1, io := [false], ns := 2, body := [
  .ifs (.isi (.var 0) [.list]) [.ret (.lc (.call 107 [.var 1]) [1] (.nm 1) (.var 0) [])] [],
  .ifs (.isi (.var 0) [.tuple]) [.ret (.bi .tuple [.lc (.call 107 [.var 1]) [1] (.nm 1) (.var 0) []])] [],
  .ret (.var 0)] }
/-- 108 p:sorts.is_sort: 0 value, 1 most, 2 item, 3 at -/
def p_sorts_is_sort : FnD := { np := 1, io := [false], ns := 4, body := [
  .ifs (.or [.not (.call 106 [.var 0, .int 3, .int 3]), .not (.call 105 [.idx (.var 0) (.int 0), .int 1, .int 2])]) [.ret (.bl false)] [],
  .asg (.nm 1) (.ife (.cmp .eq (.idx (.var 0) (.int 0)) (.int 1)) (.int 4) (.int 3)),
  .ifs (.or [.not (.call 105 [.idx (.var 0) (.int 1), .int 1, .var 1]), .not (.call 106 [.idx (.var 0) (.int 2), .idx (.var 0) (.int 1), .idx (.var 0) (.int 1)])]) [.ret (.bl false)] [],
  .ifs (.not (.bi .all [.lc (.call 105 [.var 2, .int 0, .bin .sub (.idx (.var 0) (.int 1)) (.int 1)]) [2] (.nm 2) (.idx (.var 0) (.int 2)) []])) [.ret (.bl false)] [],
  .ret (.bi .all [.lc (.cmp .eq (.idx (.idx (.var 0) (.int 2)) (.idx (.idx (.var 0) (.int 2)) (.var 3))) (.var 3)) [3] (.nm 3) (.rng [.idx (.var 0) (.int 1)]) []])] }
/-- 109 p:sorts.need_sort: 0 sort -/
def p_sorts_need_sort : FnD := { np := 1, io := [false], ns := 1, body := [
  .ifs (.not (.call 108 [.var 0])) [.raise 2 (.call 107 [.var 0])] []] }
/-- 110 p:sorts.is_kind_in: 0 sort, 1 value -/
def p_sorts_is_kind_in : FnD := { np := 2, io := [false, false], ns := 2, body := [
  .ret (.call 105 [.var 1, .int 0, .bin .sub (.idx (.var 0) (.int 0)) (.int 1)])] }
/-- 111 p:sorts.is_sign_in: 0 sort, 1 value -/
def p_sorts_is_sign_in : FnD := { np := 2, io := [false, false], ns := 2, body := [
  .ret (.call 105 [.var 1, .int 0, .bin .sub (.idx (.var 0) (.int 1)) (.int 1)])] }
/-- 112 p:pictures.is_way_in: 0 sort, 1 size, 2 value, 3 item -/
def p_pictures_is_way_in : FnD := { np := 3, io := [false, false, false], ns := 4, body := [
  .ifs (.or [.not (.call 106 [.var 2, .int 2, .int 2]), .not (.call 110 [.var 0, .idx (.var 2) (.int 0)]), .not (.call 106 [.idx (.var 2) (.int 1), .var 1, .var 1])]) [.ret (.bl false)] [],
  .ret (.bi .all [.lc (.call 111 [.var 0, .var 3]) [3] (.nm 3) (.idx (.var 2) (.int 1)) []])] }
/-- 113 p:pictures.is_picture_in: 0 sort, 1 value, 2 at, 3 way -/
def p_pictures_is_picture_in : FnD := { np := 2, io := [false, false], ns := 4, body := [
  .ifs (.not (.call 106 [.var 1, .int 0, .int 12])) [.ret (.bl false)] [],
  .ret (.bi .all [.lc (.call 112 [.var 0, .var 2, .var 3]) [2, 3] (.tp [2, 3]) (.enm (.var 1)) []])] }
/-- 114 p:pictures.need_picture: 0 sort, 1 picture -/
def p_pictures_need_picture : FnD := { np := 2, io := [false, false], ns := 2, body := [
  .ifs (.not (.call 113 [.var 0, .var 1])) [.raise 5 (.call 107 [.var 1])] []] }
/-- 115 p:likeness.all_likenesses: 0 sort, 1 one, 2 other -/
def p_likeness_all_likenesses : FnD := { np := 3, io := [false, false, false], ns := 3, body := [
  .ifs (.cmp .ne (.bi .len [.var 1]) (.bi .len [.var 2])) [.ret (.lst [])] [],
  .ret (.call 102 [.var 0, .var 1, .var 2])] }
/-- 116 p:likeness.need_two: 0 sort, 1 one, 2 other -/
def p_likeness_need_two : FnD := { np := 3, io := [false, false, false], ns := 3, body := [
  .expr (.call 109 [.var 0]),
  .expr (.call 114 [.var 0, .var 1]),
  .expr (.call 114 [.var 0, .var 2])] }
/-- 117 p:likeness.likenesses: 0 sort, 1 one, 2 other -/
def p_likeness_likenesses : FnD := { np := 3, io := [false, false, false], ns := 3, body := [
  .expr (.call 116 [.var 0, .var 1, .var 2]),
  .ret (.bi .tuple [.call 115 [.var 0, .var 1, .var 2]])] }
/-- 118 p:likeness.likeness: 0 sort, 1 one, 2 other, 3 found -/
def p_likeness_likeness : FnD := { np := 3, io := [false, false, false], ns := 4, body := [
  .expr (.call 116 [.var 0, .var 1, .var 2]),
  .asg (.nm 3) (.call 115 [.var 0, .var 1, .var 2]),
  .ret (.ife (.var 3) (.idx (.var 3) (.int 0)) (.non))] }
/-- 119 p:likeness.least_form: 0 sort, 1 picture -/
def p_likeness_least_form : FnD := { np := 2, io := [false, false], ns := 2, body := [
  .expr (.call 109 [.var 0]),
  .expr (.call 114 [.var 0, .var 1]),
  .ret (.call 103 [.var 0, .var 1])] }
/-- 120 p:likeness.placings: 0 sort, 1 small, 2 large -/
def p_likeness_placings : FnD := { np := 3, io := [false, false, false], ns := 3, body := [
  .expr (.call 116 [.var 0, .var 1, .var 2]),
  .ret (.bi .tuple [.call 102 [.var 0, .var 1, .var 2]])] }
/-- 121 l:_law_draw#599432: 0 well, 1 many, 2 found, 3 step, 4 mixed -/
def l__law_draw_599432 : FnD := { np := 2, io := [true, false], ns := 5, body := [
  .ifs (.cmp .gt (.idx (.var 0) (.int 0)) (.int 0)) [.asg (.nm 2) (.bin .mod (.bi .int [.idx (.var 0) (.int 0)]) (.var 1)), .setix 0 (.int 0) (.bin .fdiv (.idx (.var 0) (.int 0)) (.var 1)), .ret (.var 2)] [],
  .setix 0 (.int 2) (.bin .add (.idx (.var 0) (.int 2)) (.int 1)),
  .asg (.nm 3) (.idx (.var 0) (.int 2)),
  .asg (.nm 4) (.bin .mod (.bi .int [.bin .add (.bin .add (.bin .mul (.bin .mul (.bin .add (.idx (.var 0) (.int 1)) (.int 31)) (.bin .add (.var 3) (.int 5))) (.int 998244353)) (.bin .mul (.bin .mul (.bin .mul (.var 3) (.var 3)) (.var 3)) (.int 424242427))) (.int 77)]) (.bin .add (.bin .pow (.int 10) (.int 29)) (.int 319))),
  .asg (.nm 4) (.bin .mod (.bi .int [.bin .add (.bin .add (.bin .mul (.var 4) (.var 4)) (.bin .mul (.idx (.var 0) (.int 1)) (.int 7))) (.var 3)]) (.bin .add (.bin .pow (.int 10) (.int 31)) (.int 33))),
  .asg (.nm 4) (.bin .mod (.bi .int [.bin .add (.bin .mul (.bin .mul (.var 4) (.var 4)) (.int 3)) (.bin .mul (.var 4) (.int 11))]) (.bin .add (.bin .pow (.int 10) (.int 33)) (.int 603))),
  .ret (.bin .mod (.bi .int [.bin .fdiv (.var 4) (.int 50021)]) (.var 1))] }
/-- 122 l:_law_sort#a67c84: 0 well, 1 some -/
def l__law_sort_a67c84 : FnD := { np := 1, io := [true], ns := 2, body := [
  .asg (.nm 1) (.lst [.tup [.int 1, .int 2, .tup [.int 0, .int 1]], .tup [.int 1, .int 2, .tup [.int 1, .int 0]], .tup [.int 1, .int 1, .tup [.int 0]], .tup [.int 1, .int 3, .tup [.int 1, .int 0, .int 2]], .tup [.int 1, .int 3, .tup [.int 0, .int 1, .int 2]], .tup [.int 2, .int 1, .tup [.int 0]], .tup [.int 2, .int 2, .tup [.int 0, .int 1]], .tup [.int 2, .int 2, .tup [.int 1, .int 0]]]),
  .ret (.idx (.var 1) (.call 121 [.var 0, .int 8]))] }
/-- 123 l:_law_sign#2cb75e: 0 sort, 1 picture, 2 one, 3 other -/
def l__law_sign_2cb75e : FnD := { np := 4, io := [false, false, false, false], ns := 4, body := [
  .ret (.ife (.cmp .lt (.var 2) (.var 3)) (.idx (.idx (.idx (.var 1) (.var 3)) (.int 1)) (.var 2)) (.idx (.idx (.var 0) (.int 2)) (.idx (.idx (.idx (.var 1) (.var 2)) (.int 1)) (.var 3))))] }
/-- 124 l:_law_part#ad367b: 0 sort, 1 picture, 2 numbers, 3 found, 4 at, 5 point, 6 less -/
def l__law_part_ad367b : FnD := { np := 3, io := [false, false, false], ns := 7, body := [
  .asg (.nm 3) (.lst []),
  .for_ (.tp [4, 5]) (.enm (.var 2)) [.app 3 (.tup [.idx (.idx (.var 1) (.var 5)) (.int 0), .bi .tuple [.lc (.call 123 [.var 0, .var 1, .var 6, .var 5]) [6] (.nm 6) (.slc (.var 2) none (some (.var 4))) []]])],
  .ret (.bi .tuple [.var 3])] }
/-- 125 l:_law_picture#d4dabb: 0 well, 1 sort, 2 size, 3 found, 4 at, 5 less -/
def l__law_picture_d4dabb : FnD := { np := 3, io := [true, false, false], ns := 6, body := [
  .asg (.nm 3) (.lst []),
  .for_ (.nm 4) (.rng [.var 2]) [.app 3 (.tup [.call 121 [.var 0, .idx (.var 1) (.int 0)], .bi .tuple [.lc (.call 121 [.var 0, .idx (.var 1) (.int 1)]) [5] (.nm 5) (.rng [.var 4]) []]])],
  .ret (.bi .tuple [.var 3])] }
/-- 126 l:_law_orders#f8b615: 0 many, 1 found, 2 at, 3 own, 4 spot -/
def l__law_orders_f8b615 : FnD := { np := 1, io := [false], ns := 5, body := [
  .asg (.nm 1) (.lst [.tup []]),
  .for_ (.nm 2) (.rng [.var 0]) [.asg (.nm 1) (.bi .sumL [.lc (.lc (.bin .add (.bin .add (.slc (.var 3) none (some (.var 4))) (.tup [.var 2])) (.slc (.var 3) (some (.var 4)) none)) [4] (.nm 4) (.rng [.bin .add (.var 2) (.int 1)]) []) [3] (.nm 3) (.var 1) []])],
  .ret (.var 1)] }
/-- 127 l:_law_rows#75fa45: 0 many, 1 size, 2 found, 3 turn, 4 own, 5 at -/
def l__law_rows_75fa45 : FnD := { np := 2, io := [false, false], ns := 6, body := [
  .asg (.nm 2) (.lst [.tup []]),
  .for_ (.nm 3) (.rng [.var 1]) [.asg (.nm 2) (.bi .sumL [.lc (.lc (.bin .add (.var 4) (.tup [.var 5])) [5] (.nm 5) (.rng [.var 0]) [.cmp .notin (.var 5) (.var 4)]) [4] (.nm 4) (.var 2) []])],
  .ret (.bi .sorted [.var 2])] }
/-- 128 p:almostwork.power_of: 0 number, 1 times, 2 found, 3 turn -/
def p_almostwork_power_of : FnD := { np := 2, io := [false, false], ns := 4, body := [
  .asg (.nm 2) (.int 1),
  .for_ (.nm 3) (.rng [.var 1]) [.asg (.nm 2) (.bin .mul (.var 2) (.var 0))],
  .ret (.var 2)] }
/-- 129 p:almostwork.chosen: 0 size, 1 many, 2 found, 3 at -/
def p_almostwork_chosen : FnD := { np := 2, io := [false, false], ns := 4, body := [
  .asg (.nm 2) (.int 1),
  .for_ (.nm 3) (.rng [.var 1]) [.asg (.nm 2) (.bin .fdiv (.bin .mul (.var 2) (.bin .sub (.var 0) (.var 3))) (.bin .add (.var 3) (.int 1)))],
  .ret (.var 2)] }
/-- 130 p:almostwork.lacks_in: 0 sort, 1 k, 2 size, 3 ways -/
def p_almostwork_lacks_in : FnD := { np := 3, io := [false, false, false], ns := 4, body := [
  .asg (.nm 3) (.bin .mul (.idx (.var 0) (.int 0)) (.call 128 [.idx (.var 0) (.int 1), .var 1])),
  .ret (.tup [.bin .mul (.bin .mul (.call 129 [.var 2, .var 1]) (.var 3)) (.call 128 [.bin .sub (.var 3) (.int 1), .bin .sub (.var 2) (.var 1)]), .call 128 [.var 3, .bin .sub (.var 2) (.var 1)]])] }
/-- 131 p:almostwork.lowest: 0 above, 1 below, 2 shared -/
def p_almostwork_lowest : FnD := { np := 2, io := [false, false], ns := 3, body := [
  .asg (.nm 2) (.bi .gcd [.var 0, .var 1]),
  .ret (.tup [.bin .fdiv (.var 0) (.var 2), .bin .fdiv (.var 1) (.var 2)])] }
/-- 132 p:almostwork.is_enough: 0 sort, 1 depth, 2 m, 3 size, 4 above, 5 below, 6 k, 7 more, 8 under -/
def p_almostwork_is_enough : FnD := { np := 4, io := [false, false, false, false], ns := 9, body := [
  .par [4, 5] [.int 0, .int 1],
  .for_ (.nm 6) (.rng [.var 1]) [.asg (.tp [7, 8]) (.call 130 [.var 0, .var 6, .var 3]), .par [4, 5] [.bin .add (.bin .mul (.var 4) (.var 8)) (.bin .mul (.var 7) (.var 5)), .bin .mul (.var 5) (.var 8)]],
  .ret (.cmp .lt (.bin .mul (.var 4) (.var 2)) (.var 5))] }
/-- 133 p:almostwork.least_size: 0 sort, 1 depth, 2 k -/
def p_almostwork_least_size : FnD := { np := 2, io := [false, false], ns := 3, body := [
  .ret (.bi .max [.bin .add (.lst [.int 1]) (.lc (.bin .mul (.bin .mul (.var 2) (.idx (.var 0) (.int 0))) (.call 128 [.idx (.var 0) (.int 1), .var 2])) [2] (.nm 2) (.rng [.var 1]) [])])] }
/-- 134 p:almostwork.surely_in: 0 sort, 1 depth, 2 m, 3 low, 4 high, 5 middle -/
def p_almostwork_surely_in : FnD := { np := 3, io := [false, false, false], ns := 6, body := [
  .asg (.nm 3) (.call 133 [.var 0, .var 1]),
  .ifs (.call 132 [.var 0, .var 1, .var 2, .var 3]) [.ret (.var 3)] [],
  .asg (.nm 4) (.bin .mul (.int 2) (.var 3)),
  .whl (.not (.call 132 [.var 0, .var 1, .var 2, .var 4])) [.par [3, 4] [.var 4, .bin .mul (.int 2) (.var 4)]],
  .whl (.cmp .gt (.bin .sub (.var 4) (.var 3)) (.int 1)) [.asg (.nm 5) (.bin .fdiv (.bin .add (.var 3) (.var 4)) (.int 2)), .ifs (.call 132 [.var 0, .var 1, .var 2, .var 5]) [.asg (.nm 4) (.var 5)] [.asg (.nm 3) (.var 5)]],
  .ret (.var 4)] }
/-- 135 p:checks.need_number: 0 number, 1 low, 2 high -/
def p_checks_need_number : FnD := { np := 3, io := [false, false, false], ns := 3, body := [
  .ifs (.or [.cmp .lt (.var 0) (.var 1), .and [.isn false (.var 2), .cmp .gt (.var 0) (.var 2)]]) [.raise 1 (.var 0)] []] }
/-- 136 p:almost.lacks: 0 sort, 1 k, 2 size, 3 above, 4 below -/
def p_almost_lacks : FnD := { np := 3, io := [false, false, false], ns := 5, body := [
  .expr (.call 109 [.var 0]),
  .expr (.call 135 [.var 1, .int 0, .non]),
  .expr (.call 135 [.var 2, .var 1, .non]),
  .asg (.tp [3, 4]) (.call 130 [.var 0, .var 1, .var 2]),
  .ret (.call 131 [.var 3, .var 4])] }
/-- 137 p:almost.surely_from: 0 sort, 1 depth, 2 m -/
def p_almost_surely_from : FnD := { np := 3, io := [false, false, false], ns := 3, body := [
  .expr (.call 109 [.var 0]),
  .expr (.call 135 [.var 1, .int 0, .int 3]),
  .expr (.call 135 [.var 2, .int 1, .int 1000000]),
  .ret (.call 134 [.var 0, .var 1, .var 2])] }
/-- 138 l:_law_source#30e396: 0 script, 1 k, 2 own, 3 others, 4 at, 5 cell, 6 seed -/
def l__law_source_30e396 : FnD := { np := 2, io := [false, false], ns := 7, body := [
  .asg (.nm 2) (.ife (.cmp .lt (.var 1) (.bi .len [.var 0])) (.bi .int [.idx (.var 0) (.var 1)]) (.bin .add (.bin .mul (.int 41) (.var 1)) (.int 5))),
  .asg (.nm 3) (.bin .add (.int 17) (.bin .mul (.int 3) (.bi .len [.var 0]))),
  .for_ (.tp [4, 5]) (.enm (.var 0)) [.asg (.nm 3) (.bin .mod (.bi .int [.bin .add (.bin .mul (.var 3) (.int 1000003)) (.bin .mul (.bi .int [.var 5]) (.bin .add (.bin .mul (.int 2) (.var 4)) (.int 3)))]) (.bin .add (.bin .pow (.int 10) (.int 21)) (.int 117)))],
  .asg (.nm 6) (.bin .mod (.bi .int [.bin .add (.bin .add (.bin .add (.bin .mul (.bi .abs [.var 2]) (.int 7351)) (.bin .mul (.int 3) (.bi .int [.cmp .lt (.var 2) (.int 0)]))) (.bin .mul (.var 3) (.int 131))) (.bin .mul (.int 1009) (.var 1))]) (.bin .add (.bin .pow (.int 10) (.int 24)) (.int 7))),
  .ret (.lst [.bi .max2 [.int 0, .bin .sub (.bi .abs [.var 2]) (.bin .pow (.int 10) (.int 18))], .var 6, .int 1])] }
/-- 139 l:_law_pick#6e1088: 0 source, 1 many, 2 told, 3 turn, 4 mixed -/
def l__law_pick_6e1088 : FnD := { np := 2, io := [true, false], ns := 5, body := [
  .ifs (.cmp .gt (.idx (.var 0) (.int 0)) (.int 0)) [.asg (.nm 2) (.bin .mod (.bi .int [.idx (.var 0) (.int 0)]) (.var 1)), .setix 0 (.int 0) (.bin .fdiv (.idx (.var 0) (.int 0)) (.var 1)), .ret (.var 2)] [],
  .setix 0 (.int 2) (.bin .add (.idx (.var 0) (.int 2)) (.int 1)),
  .asg (.nm 3) (.idx (.var 0) (.int 2)),
  .asg (.nm 4) (.bin .mod (.bi .int [.bin .add (.bin .add (.bin .mul (.bin .mul (.bin .add (.idx (.var 0) (.int 1)) (.int 61)) (.bin .add (.bin .mul (.int 2) (.var 3)) (.int 5))) (.int 736338717)) (.bin .mul (.bin .mul (.var 3) (.var 3)) (.int 90001))) (.int 29)]) (.bin .add (.bin .pow (.int 10) (.int 25)) (.int 13))),
  .asg (.nm 4) (.bin .mod (.bi .int [.bin .add (.bin .add (.bin .mul (.var 4) (.var 4)) (.bin .mul (.int 777) (.var 3))) (.idx (.var 0) (.int 1))]) (.bin .add (.bin .pow (.int 10) (.int 27)) (.int 103))),
  .asg (.nm 4) (.bin .mod (.bi .int [.bin .add (.bin .add (.bin .mul (.bin .mul (.var 4) (.var 4)) (.int 3)) (.bin .mul (.int 5) (.var 4))) (.var 3)]) (.bin .add (.bin .pow (.int 10) (.int 29)) (.int 319))),
  .ret (.bin .mod (.bi .int [.bin .fdiv (.var 4) (.int 100003)]) (.var 1))] }
def gp : List FnD := [p_picturework_sign_in, p_picturework_stand_in, p_likework_placings_in, p_likework_least_in, p_checks_is_integer, p_checks_is_between, p_checks_is_tuple, p_checks_anew, p_sorts_is_sort, p_sorts_need_sort, p_sorts_is_kind_in, p_sorts_is_sign_in, p_pictures_is_way_in, p_pictures_is_picture_in, p_pictures_need_picture, p_likeness_all_likenesses, p_likeness_need_two, p_likeness_likenesses, p_likeness_likeness, p_likeness_least_form, p_likeness_placings, l__law_draw_599432, l__law_sort_a67c84, l__law_sign_2cb75e, l__law_part_ad367b, l__law_picture_d4dabb, l__law_orders_f8b615, l__law_rows_75fa45, p_almostwork_power_of, p_almostwork_chosen, p_almostwork_lacks_in, p_almostwork_lowest, p_almostwork_is_enough, p_almostwork_least_size, p_almostwork_surely_in, p_checks_need_number, p_almost_lacks, p_almost_surely_from, l__law_source_30e396, l__law_pick_6e1088]
def ups : List (List Nat) := [[0], [1, 0], [2, 0], [3, 0], [4, 0], [5, 0], [6, 0], [7, 0], [8, 0], [9, 0], [10, 0], [11, 0], [12, 0], [13, 0], [14, 0], [15, 0], [16, 0], [17, 0], [18, 0], [19, 0], [20, 0], [21, 0], [22, 0], [23, 0], [24, 0], [25, 0], [26, 0], [27, 0], [28, 0], [29, 0], [30, 0], [31, 0], [32, 0], [33, 0], [34, 0], [35, 0], [36, 0]]
def mkP (L : List FnD) : Prg := { fns := (L ++ List.replicate 100 off).take 100 ++ gp, exc := ups }
theorem mkP_len (L : List FnD) : ((L ++ List.replicate 100 off).take 100).length = 100 := by simp
theorem mkP_at (L : List FnD) (i : Nat) : (mkP L).fns[100 + i]? = gp[i]? := by
  show ((L ++ List.replicate 100 off).take 100 ++ gp)[100 + i]? = _
  rw [List.getElem?_append_right (by rw [mkP_len]; omega), mkP_len, show 100 + i - 100 = i by omega]
theorem at_p_picturework_sign_in (L : List FnD) : (mkP L).fns[100]? = some p_picturework_sign_in := mkP_at L 0
theorem at_p_picturework_stand_in (L : List FnD) : (mkP L).fns[101]? = some p_picturework_stand_in := mkP_at L 1
theorem at_p_likework_placings_in (L : List FnD) : (mkP L).fns[102]? = some p_likework_placings_in := mkP_at L 2
theorem at_p_likework_least_in (L : List FnD) : (mkP L).fns[103]? = some p_likework_least_in := mkP_at L 3
theorem at_p_checks_is_integer (L : List FnD) : (mkP L).fns[104]? = some p_checks_is_integer := mkP_at L 4
theorem at_p_checks_is_between (L : List FnD) : (mkP L).fns[105]? = some p_checks_is_between := mkP_at L 5
theorem at_p_checks_is_tuple (L : List FnD) : (mkP L).fns[106]? = some p_checks_is_tuple := mkP_at L 6
theorem at_p_checks_anew (L : List FnD) : (mkP L).fns[107]? = some p_checks_anew := mkP_at L 7
theorem at_p_sorts_is_sort (L : List FnD) : (mkP L).fns[108]? = some p_sorts_is_sort := mkP_at L 8
theorem at_p_sorts_need_sort (L : List FnD) : (mkP L).fns[109]? = some p_sorts_need_sort := mkP_at L 9
theorem at_p_sorts_is_kind_in (L : List FnD) : (mkP L).fns[110]? = some p_sorts_is_kind_in := mkP_at L 10
theorem at_p_sorts_is_sign_in (L : List FnD) : (mkP L).fns[111]? = some p_sorts_is_sign_in := mkP_at L 11
theorem at_p_pictures_is_way_in (L : List FnD) : (mkP L).fns[112]? = some p_pictures_is_way_in := mkP_at L 12
theorem at_p_pictures_is_picture_in (L : List FnD) : (mkP L).fns[113]? = some p_pictures_is_picture_in := mkP_at L 13
theorem at_p_pictures_need_picture (L : List FnD) : (mkP L).fns[114]? = some p_pictures_need_picture := mkP_at L 14
theorem at_p_likeness_all_likenesses (L : List FnD) : (mkP L).fns[115]? = some p_likeness_all_likenesses := mkP_at L 15
theorem at_p_likeness_need_two (L : List FnD) : (mkP L).fns[116]? = some p_likeness_need_two := mkP_at L 16
theorem at_p_likeness_likenesses (L : List FnD) : (mkP L).fns[117]? = some p_likeness_likenesses := mkP_at L 17
theorem at_p_likeness_likeness (L : List FnD) : (mkP L).fns[118]? = some p_likeness_likeness := mkP_at L 18
theorem at_p_likeness_least_form (L : List FnD) : (mkP L).fns[119]? = some p_likeness_least_form := mkP_at L 19
theorem at_p_likeness_placings (L : List FnD) : (mkP L).fns[120]? = some p_likeness_placings := mkP_at L 20
theorem at_l__law_draw_599432 (L : List FnD) : (mkP L).fns[121]? = some l__law_draw_599432 := mkP_at L 21
theorem at_l__law_sort_a67c84 (L : List FnD) : (mkP L).fns[122]? = some l__law_sort_a67c84 := mkP_at L 22
theorem at_l__law_sign_2cb75e (L : List FnD) : (mkP L).fns[123]? = some l__law_sign_2cb75e := mkP_at L 23
theorem at_l__law_part_ad367b (L : List FnD) : (mkP L).fns[124]? = some l__law_part_ad367b := mkP_at L 24
theorem at_l__law_picture_d4dabb (L : List FnD) : (mkP L).fns[125]? = some l__law_picture_d4dabb := mkP_at L 25
theorem at_l__law_orders_f8b615 (L : List FnD) : (mkP L).fns[126]? = some l__law_orders_f8b615 := mkP_at L 26
theorem at_l__law_rows_75fa45 (L : List FnD) : (mkP L).fns[127]? = some l__law_rows_75fa45 := mkP_at L 27
theorem at_p_almostwork_power_of (L : List FnD) : (mkP L).fns[128]? = some p_almostwork_power_of := mkP_at L 28
theorem at_p_almostwork_chosen (L : List FnD) : (mkP L).fns[129]? = some p_almostwork_chosen := mkP_at L 29
theorem at_p_almostwork_lacks_in (L : List FnD) : (mkP L).fns[130]? = some p_almostwork_lacks_in := mkP_at L 30
theorem at_p_almostwork_lowest (L : List FnD) : (mkP L).fns[131]? = some p_almostwork_lowest := mkP_at L 31
theorem at_p_almostwork_is_enough (L : List FnD) : (mkP L).fns[132]? = some p_almostwork_is_enough := mkP_at L 32
theorem at_p_almostwork_least_size (L : List FnD) : (mkP L).fns[133]? = some p_almostwork_least_size := mkP_at L 33
theorem at_p_almostwork_surely_in (L : List FnD) : (mkP L).fns[134]? = some p_almostwork_surely_in := mkP_at L 34
theorem at_p_checks_need_number (L : List FnD) : (mkP L).fns[135]? = some p_checks_need_number := mkP_at L 35
theorem at_p_almost_lacks (L : List FnD) : (mkP L).fns[136]? = some p_almost_lacks := mkP_at L 36
theorem at_p_almost_surely_from (L : List FnD) : (mkP L).fns[137]? = some p_almost_surely_from := mkP_at L 37
theorem at_l__law_source_30e396 (L : List FnD) : (mkP L).fns[138]? = some l__law_source_30e396 := mkP_at L 38
theorem at_l__law_pick_6e1088 (L : List FnD) : (mkP L).fns[139]? = some l__law_pick_6e1088 := mkP_at L 39
end GP
/-! Sp0: equations of the evaluator; loops and comprehensions; data that can be shown and compared. -/
namespace Pv
open PySem
section
variable {P : Prg} {lv n k : Nat} {c : Nat → List PyData → CRes} {p : Ev} {s : S} {α β : Type}
@[simp] theorem evN_e : (evN P lv c (n + 1)).e = stepE P (evN P lv c n) := (rfl)
@[simp] theorem evN_t : (evN P lv c (n + 1)).t = stepT P (evN P lv c n) := (rfl)
@[simp] theorem evN_s : (evN P lv c (n + 1)).s = stepS P (evN P lv c n) := (rfl)
@[simp] theorem evN_c : (evN P lv c n).c = c := by cases n <;> rfl
@[simp] theorem evN_lv : (evN P lv c n).lv = lv := by cases n <;> rfl
theorem bind_congr_ {r r' : Res α} {f : α → S → Res β} (h : r = r') : r.bind f = r'.bind f := by rw [h]
theorem forL_congr_ {body : PyData → S → Res Flow} {ds ds' : List PyData} {s s' : S} (h : ds = ds') (hs : s = s') : forL body ds s = forL body ds' s' := by rw [h, hs]
theorem lcL_congr_ {own : List Nat} {turn : PyData → S → Res (List PyData)} {ds ds' : List PyData} {s s' : S} (h : ds = ds') (hs : s = s') : lcL own turn ds s = lcL own turn ds' s' := by rw [h, hs]
theorem whileL_congr_ {c : S → Res Bool} {body : S → Res Flow} {n : Nat} {s s' : S} (hs : s = s') : whileL c body n s = whileL c body n s' := by rw [hs]
@[simp] theorem bind_ok_ (a : α) (f : α → S → Res β) : (Res.ok a s).bind f = f a s := (rfl)
@[simp] theorem bind_err_ (d : PyData) (f : α → S → Res β) : (Res.err k d s).bind f = .err k d s := (rfl)
@[simp] theorem bind_bad_ (f : α → S → Res β) : (Res.bad).bind f = .bad := (rfl)
@[simp] theorem ofO_some (a : α) : ofO (some a) s = .ok a s := (rfl)
@[simp] theorem ofO_none : ofO (none : Option α) s = .bad := (rfl)
@[simp] theorem eE_var (i : Nat) : stepE P p (.var i) s = match s[i]? with
    | some (some (.pl d)) => .ok (d, false) s
    | some (some (.ow d)) => .ok (d, false) (s.set i (some (.pl d)))
    | some (some (.io d)) => .ok (d, false) (s.set i (some (.pl d)))
    | _ => .bad := (rfl)
@[simp] theorem eE_non : stepE P p .non s = .ok (.none, false) s := (rfl)
@[simp] theorem eE_bl (b : Bool) : stepE P p (.bl b) s = .ok (.bool b, false) s := (rfl)
@[simp] theorem eE_int (i : Int) : stepE P p (.int i) s = .ok (.int i, false) s := (rfl)
theorem eE_str (x : Str) (h : x.length ≤ line) : stepE P p (.str x) s = .ok (.str x, false) s := by
  show (if x.length ≤ line then Res.ok (PyData.str x, false) s else .bad) = _
  rw [if_pos h]
@[simp] theorem eE_tup (es : List R) : stepE P p (.tup es) s = (evL p.e es s).bind fun ds s => if ds.length ≤ line then .ok (.tuple ds, false) s else .bad := (rfl)
@[simp] theorem eE_lst (es : List R) : stepE P p (.lst es) s = (evL p.e es s).bind fun ds s => if ds.length ≤ line then .ok (.list ds, true) s else .bad := (rfl)
@[simp] theorem eE_bin (o : Bop) (a b : R) : stepE P p (.bin o a b) s = opd2 p.e a b s (bop o) := (rfl)
@[simp] theorem eE_neg (a : R) : stepE P p (.neg a) s = opd1 p.e a s fun x => match x with | .int i => some (.int (-i), false) | _ => none := (rfl)
@[simp] theorem eE_cmp (o : Cop) (a b : R) : stepE P p (.cmp o a b) s = opd2 p.e a b s fun x y => bD (cop o x y) := (rfl)
@[simp] theorem eE_chain (o q : Cop) (a b d : R) : stepE P p (.chain o q a b d) s = (chainB p.e o q a b d s).bind fun b s => .ok (.bool b, false) s := (rfl)
@[simp] theorem eE_isn (yes : Bool) (a : R) : stepE P p (.isn yes a) s = opd1 p.e a s fun x => match x with | .none => some (.bool yes, false) | _ => some (.bool !yes, false) := (rfl)
@[simp] theorem eE_isb (yes b : Bool) (a : R) : stepE P p (.isb yes b a) s = opd1 p.e a s fun x => match x with | .bool c => some (.bool ((c == b) == yes), false) | _ => none := (rfl)
@[simp] theorem eE_and (es : List R) : stepE P p (.and es) s = andL p.e es s := (rfl)
@[simp] theorem eE_or (es : List R) : stepE P p (.or es) s = orL p.e es s := (rfl)
@[simp] theorem eE_not (a : R) : stepE P p (.not a) s = opd1 p.e a s fun x => some (.bool !(tru x), false) := (rfl)
@[simp] theorem eE_ife (a b d : R) : stepE P p (.ife d a b) s = (p.t d s).bind fun d s => if d then p.e a s else p.e b s := (rfl)
@[simp] theorem eE_bi (b : Bi) (es : List R) : stepE P p (.bi b es) s = (opds p.e es s).bind fun ds s => ofO (bop2 b ds) s := (rfl)
@[simp] theorem eE_idx (a j : R) : stepE P p (.idx a j) s = opd2 p.e a j s fun x y => (ixop x y).map fun d => (d, false) := (rfl)
@[simp] theorem eE_slc (a : R) (lo hi : Option R) : stepE P p (.slc a lo hi) s = (pre p.e [a] s).bind fun xs s => (evO p.e lo s).bind fun l s => (evO p.e hi s).bind fun h s => (ofO (fill s xs) s).bind fun ds s => ofO (f1 (fun x => slop x l h) ds) s := (rfl)
@[simp] theorem eE_isi (a : R) (ts : List Ty) : stepE P p (.isi a ts) s = opd1 p.e a s fun x => some (.bool (ts.any fun t => isT t x), false) := (rfl)
@[simp] theorem eE_xval (i : Nat) : stepE P p (.xval i) s = match s[i]? with
    | some (some (.ex _ v)) => .ok (v, false) s
    | _ => .bad := (rfl)
@[simp] theorem eE_xnone (yes : Bool) (i : Nat) : stepE P p (.xnone yes i) s = match s[i]? with
    | some (some (.ex _ _)) => .ok (.bool !yes, false) s
    | some (some (.pl .none)) => .ok (.bool yes, false) s
    | _ => .bad := (rfl)
@[simp] theorem eE_isx (i d : Nat) : stepE P p (.isx i d) s = match s[i]? with
    | some (some (.ex k _)) => (match P.exc[k]? with
      | some up => .ok (.bool (up.contains d), false) s
      | none => .bad)
    | some (some (.pl .none)) => .ok (.bool false, false) s
    | _ => .bad := (rfl)
@[simp] theorem eT_var (i : Nat) : stepT P p (.var i) s = ofO ((getP s i).map tru) s := (rfl)
@[simp] theorem eT_not (a : R) : stepT P p (.not a) s = (p.t a s).bind fun b s => .ok (!b) s := (rfl)
@[simp] theorem eT_and (es : List R) : stepT P p (.and es) s = allT p.t es s := (rfl)
@[simp] theorem eT_or (es : List R) : stepT P p (.or es) s = anyT p.t es s := (rfl)
@[simp] theorem eT_ife (a b d : R) : stepT P p (.ife d a b) s = (p.t d s).bind fun d s => if d then p.t a s else p.t b s := (rfl)
@[simp] theorem eT_cmp (o : Cop) (a b : R) : stepT P p (.cmp o a b) s = (stepE P p (.cmp o a b) s).bind fun d s => .ok (tru d.1) s := (rfl)
@[simp] theorem eT_chain (o q : Cop) (a b d : R) : stepT P p (.chain o q a b d) s = (stepE P p (.chain o q a b d) s).bind fun d s => .ok (tru d.1) s := (rfl)
@[simp] theorem eT_isn (y : Bool) (a : R) : stepT P p (.isn y a) s = (stepE P p (.isn y a) s).bind fun d s => .ok (tru d.1) s := (rfl)
@[simp] theorem eT_isb (y b : Bool) (a : R) : stepT P p (.isb y b a) s = (stepE P p (.isb y b a) s).bind fun d s => .ok (tru d.1) s := (rfl)
@[simp] theorem eT_isi (a : R) (ts : List Ty) : stepT P p (.isi a ts) s = (stepE P p (.isi a ts) s).bind fun d s => .ok (tru d.1) s := (rfl)
@[simp] theorem eT_bi (b : Bi) (es : List R) : stepT P p (.bi b es) s = (stepE P p (.bi b es) s).bind fun d s => .ok (tru d.1) s := (rfl)
@[simp] theorem eT_call (f : Nat) (es : List R) : stepT P p (.call f es) s = (stepE P p (.call f es) s).bind fun d s => .ok (tru d.1) s := (rfl)
@[simp] theorem eT_callk (f : Nat) (es : List R) (ks : List Nat) (kws : List R) : stepT P p (.callk f es ks kws) s = (stepE P p (.callk f es ks kws) s).bind fun d s => .ok (tru d.1) s := (rfl)
@[simp] theorem eT_bl (b : Bool) : stepT P p (.bl b) s = .ok b s := (rfl)
@[simp] theorem eS_asgn (i : Nat) (e : R) : stepS P p (.asg (.nm i) e) s = (p.e e s).bind fun d s => .ok .nx (s.set i (some (if d.2 then .ow d.1 else .pl d.1))) := (rfl)
@[simp] theorem eS_asgt (is : List Nat) (e : R) : stepS P p (.asg (.tp is) e) s = (p.e e s).bind fun d s => setR (asgT (.tp is) d.1 s) := (rfl)
@[simp] theorem eS_par (is : List Nat) (es : List R) : stepS P p (.par is es) s = (evL p.e es s).bind fun ds s => setR (setAll s is ds) := (rfl)
@[simp] theorem eS_app (i : Nat) (e : R) : stepS P p (.app i e) s = match getP s i with
    | some (.list _) => (p.e e s).bind fun d s => setR (setRoot s i (appD d.1))
    | _ => .bad := (rfl)
@[simp] theorem eS_setix (i : Nat) (j e : R) : stepS P p (.setix i j e) s = (p.e e s).bind fun d s => if (getP s i).isSome then (p.e j s).bind fun j s => setR (setRoot s i (setD j.1 d.1)) else .bad := (rfl)
@[simp] theorem eS_aug (i : Nat) (o : Bop) (e : R) : stepS P p (.aug i o e) s = match getP s i with
    | some (.int x) => (p.e e s).bind fun d s => (ofO (augD o x d.1) s).bind fun z s => .ok .nx (s.set i (some (.pl (.int z))))
    | _ => .bad := (rfl)
@[simp] theorem eS_ifs (a : R) (x y : List Q) : stepS P p (.ifs a x y) s = (p.t a s).bind fun d s => if d then seqL p.s x s else seqL p.s y s := (rfl)
/-- a loop's turn -/
def turnS (p : Ev) (t : T) (b : List Q) (d : PyData) (s : S) : Res Flow := (asgR t d s).bind fun _ s => seqL p.s b s
@[simp] theorem eS_for (t : T) (it : R) (b : List Q) : stepS P p (.for_ t it b) s = (items p it s).bind fun ds s => forL (turnS p t b) ds s := (rfl)
@[simp] theorem eS_ret (e : R) : stepS P p (.ret e) s = match isVar e with
    | some i => (match s[i]? with
      | some (some (.pl d)) => .ok (.rt d false) s
      | some (some (.ow d)) => .ok (.rt d true) (s.set i none)
      | _ => .bad)
    | none => (p.e e s).bind fun d s => .ok (.rt d.1 d.2) s := (rfl)
@[simp] theorem eS_raise (d : Nat) (e : R) : stepS P p (.raise d e) s = if p.lv < 4 then .bad else (p.e e s).bind fun v s => .err d v.1 s := (rfl)
@[simp] theorem eS_expr (e : R) : stepS P p (.expr e) s = (p.e e s).bind fun _ s => .ok .nx s := (rfl)
@[simp] theorem eS_pass : stepS P p .pass s = .ok .nx s := (rfl)
@[simp] theorem eS_doc : stepS P p .doc s = .ok .nx s := (rfl)
@[simp] theorem eS_try (b : List Q) (d ie io : Nat) : stepS P p (.try_ b d ie io) s = match seqL p.s b s with
    | .err k v s => (match P.exc[k]? with
      | some up => if up.contains d then .ok .nx ((s.set io (some (.ex k v))).set ie none) else .err k v s
      | none => .bad)
    | r => r := (rfl)
@[simp] theorem isVar_var (i : Nat) : isVar (.var i) = some i := (rfl)
@[simp] theorem isVar_non : isVar (.non) = none := (rfl)
@[simp] theorem isVar_bl {a0} : isVar (.bl a0) = none := (rfl)
@[simp] theorem isVar_int {a0} : isVar (.int a0) = none := (rfl)
@[simp] theorem isVar_str {a0} : isVar (.str a0) = none := (rfl)
@[simp] theorem isVar_tup {a0} : isVar (.tup a0) = none := (rfl)
@[simp] theorem isVar_lst {a0} : isVar (.lst a0) = none := (rfl)
@[simp] theorem isVar_bin {a0 a1 a2} : isVar (.bin a0 a1 a2) = none := (rfl)
@[simp] theorem isVar_neg {a0} : isVar (.neg a0) = none := (rfl)
@[simp] theorem isVar_cmp {a0 a1 a2} : isVar (.cmp a0 a1 a2) = none := (rfl)
@[simp] theorem isVar_chain {a0 a1 a2 a3 a4} : isVar (.chain a0 a1 a2 a3 a4) = none := (rfl)
@[simp] theorem isVar_isn {a0 a1} : isVar (.isn a0 a1) = none := (rfl)
@[simp] theorem isVar_isb {a0 a1 a2} : isVar (.isb a0 a1 a2) = none := (rfl)
@[simp] theorem isVar_and {a0} : isVar (.and a0) = none := (rfl)
@[simp] theorem isVar_or {a0} : isVar (.or a0) = none := (rfl)
@[simp] theorem isVar_not {a0} : isVar (.not a0) = none := (rfl)
@[simp] theorem isVar_ife {a0 a1 a2} : isVar (.ife a0 a1 a2) = none := (rfl)
@[simp] theorem isVar_call {a0 a1} : isVar (.call a0 a1) = none := (rfl)
@[simp] theorem isVar_callk {a0 a1 a2 a3} : isVar (.callk a0 a1 a2 a3) = none := (rfl)
@[simp] theorem isVar_bi {a0 a1} : isVar (.bi a0 a1) = none := (rfl)
@[simp] theorem isVar_idx {a0 a1} : isVar (.idx a0 a1) = none := (rfl)
@[simp] theorem isVar_slc {a0 a1 a2} : isVar (.slc a0 a1 a2) = none := (rfl)
@[simp] theorem isVar_rev {a0} : isVar (.rev a0) = none := (rfl)
@[simp] theorem isVar_lc {a0 a1 a2 a3 a4} : isVar (.lc a0 a1 a2 a3 a4) = none := (rfl)
@[simp] theorem isVar_lc2 {a0 a1 a2 a3 a4 a5 a6 a7 a8} : isVar (.lc2 a0 a1 a2 a3 a4 a5 a6 a7 a8) = none := (rfl)
@[simp] theorem isVar_isi {a0 a1} : isVar (.isi a0 a1) = none := (rfl)
@[simp] theorem isVar_isx {a0 a1} : isVar (.isx a0 a1) = none := (rfl)
@[simp] theorem isVar_xval {a0} : isVar (.xval a0) = none := (rfl)
@[simp] theorem isVar_xnone {a0 a1} : isVar (.xnone a0 a1) = none := (rfl)
end
end Pv
/-! Sp1: calls, comprehensions, loops by value. -/
namespace Pv
open PySem
section
variable {P : Prg} {lv n k : Nat} {c : Nat → List PyData → CRes} {p : Ev} {s : S} {α β : Type}
/-- what a call of a def that changes no argument gives -/
def retOf (r : CRes) (s : S) : Res DF := match r with
  | .ret d f [] => .ok (d, f) s
  | .err c v [] => .err c v s
  | _ => .bad
@[simp] theorem retOf_ret (d : PyData) (f : Bool) : retOf (.ret d f []) s = .ok (d, f) s := (rfl)
@[simp] theorem retOf_err (c : Nat) (d : PyData) : retOf (.err c d []) s = .err c d s := (rfl)
theorem ioBack_inr : ∀ (ds ios : List PyData), ioBack s (ds.map .inr) ios = if ios = [] then some s else none
  | [], [] => rfl
  | [], _ :: _ => rfl
  | d :: ds, ios => by
    show ioBack s (ds.map .inr) ios = _
    exact ioBack_inr ds ios
theorem callRes_inr (r : CRes) (ds : List PyData) : callRes r (ds.map .inr) s = retOf r s := by
  cases r with
  | ret d f ios =>
    show (ofO (ioBack s (ds.map .inr) ios) s).bind (fun s' _ => .ok (d, f) s') = _
    rw [ioBack_inr]
    cases ios <;> rfl
  | err c v ios =>
    show (ofO (ioBack s (ds.map .inr) ios) s).bind (fun s' _ => .err c v s') = _
    rw [ioBack_inr]
    cases ios <;> rfl
  | bad => rfl
theorem bind_assoc_ {γ : Type} (r : Res α) (f : α → S → Res β) (g : β → S → Res γ) : (r.bind f).bind g = r.bind fun a s => (f a s).bind g := by
  cases r <;> rfl
theorem head_false {io : List Bool} (h : io.any id = false) : (io.head? == some true) = false ∧ io.tail.any id = false := by
  cases io with
  | nil => exact ⟨rfl, rfl⟩
  | cons b io =>
    simp only [List.any_cons, Bool.or_eq_false_iff] at h
    have hb : b = false := h.1
    subst hb
    exact ⟨rfl, h.2⟩
theorem preA_false (ev : EvE) : ∀ (es : List R) (io : List Bool) (s : S), io.any id = false → preA ev es io s = (evL ev es s).bind fun ds s => .ok (ds.map .inr) s
  | [], io, s, h => rfl
  | e :: es, io, s, h => by
    obtain ⟨h1, h2⟩ := head_false h
    unfold preA evL
    rw [h1]
    dsimp only
    rw [bind_assoc_]
    congr 1
    funext d s'
    rw [preA_false ev es io.tail s' h2, bind_assoc_, bind_assoc_]
    rfl
theorem slotsOf_inr : ∀ ds : List PyData, slotsOf (ds.map .inr) = []
  | [] => rfl
  | d :: ds => slotsOf_inr ds
theorem fillA_inr : ∀ ds : List PyData, fillA s (ds.map .inr) = some ds
  | [] => rfl
  | d :: ds => by
    show (fillA s (ds.map .inr)).map (d :: ·) = _
    rw [fillA_inr ds]; rfl
/-- a call of a def that changes no argument -/
theorem eE_call {f : Nat} {fd : FnD} (hf : P.fns[f]? = some fd) (hio : fd.io.any id = false) (es : List R) : stepE P p (.call f es) s = (evL p.e es s).bind fun ds s => if ds.length = fd.np then retOf (p.c f ds) s else .bad := by
  show (match P.fns[f]? with
    | some fd => (preA p.e es fd.io s).bind fun xs s => if noDup (slotsOf xs) && xs.length == fd.np then (ofO (fillA s xs) s).bind fun ds s => callRes (p.c f ds) xs s else .bad
    | none => .bad) = _
  rw [hf]
  dsimp only
  rw [preA_false _ _ _ _ hio, bind_assoc_]
  congr 1
  funext ds s'
  show (if noDup (slotsOf (ds.map Sum.inr)) && (ds.map (Sum.inr : PyData → Nat ⊕ PyData)).length == fd.np then (ofO (fillA s' (ds.map Sum.inr)) s').bind fun ds' s => callRes (p.c f ds') (ds.map Sum.inr) s else .bad) = _
  rw [slotsOf_inr, fillA_inr, List.length_map]
  by_cases h : ds.length = fd.np
  · rw [if_pos h, h]
    simp [noDup, callRes_inr]
  · rw [if_neg h, if_neg]
    simp [noDup, h]
theorem eE_callk {f : Nat} {fd : FnD} (hf : P.fns[f]? = some fd) (hio : fd.io.any id = false) (es : List R) (ks : List Nat) (kws : List R) : stepE P p (.callk f es ks kws) s = (evL p.e es s).bind fun ds s => (evL p.e kws s).bind fun ws s =>
    (ofO (kwOrder ks ws es.length (fd.np - es.length)) s).bind fun zs s => if (ds ++ zs).length = fd.np then retOf (p.c f (ds ++ zs)) s else .bad := by
  show (match P.fns[f]? with
    | some fd => if fd.io.any id then Res.bad else (evL p.e es s).bind fun ds s => (evL p.e kws s).bind fun ws s =>
        (ofO (kwOrder ks ws es.length (fd.np - es.length)) s).bind fun zs s => if (ds ++ zs).length = fd.np then callRes (p.c f (ds ++ zs)) ((ds ++ zs).map .inr) s else .bad
    | none => Res.bad) = _
  rw [hf]
  dsimp only
  rw [hio]
  simp only [callRes_inr]
  rfl
/-- a call of a def, by its text -/
theorem runK_at {f : Nat} {fd : FnD} {ds : List PyData} (h : P.fns[f]? = some fd) : runK P (k + 1) f ds = runF (evN P k (runK P k) deep) fd ds := by
  show (match P.fns[f]? with | none => CRes.bad | some fd => runF (evN P k (runK P k) deep) fd ds) = _
  rw [h]
/-! ### comprehensions -/
theorem wipe_back {s s' : S} {own : List Nat} (h : wipeS s' own = wipeS s own) : backS s s' own = s := by
  have hl : s.length = s'.length := by
    have := congrArg List.length h
    rw [wipeS_length', wipeS_length'] at this
    exact this.symm
  refine List.ext_getElem? fun j => ?_
  rw [backS_at' s s' hl]
  by_cases hj : j ∈ own
  · rw [if_pos hj]
  · rw [if_neg hj]
    have e : (wipeS s' own)[j]? = (wipeS s own)[j]? := by rw [h]
    rw [wipeS_at' s' j, wipeS_at' s j, if_neg hj, if_neg hj] at e
    exact e
where
  wipeS_length' (σ : S) : ∀ own : List Nat, (wipeS σ own).length = σ.length
    | [] => rfl
    | i :: own => by unfold wipeS; rw [List.length_set, wipeS_length' σ own]
  backS_length' (σ₀ σ : S) : ∀ own : List Nat, (backS σ₀ σ own).length = σ.length
    | [] => rfl
    | i :: own => by unfold backS; rw [List.length_set, backS_length' σ₀ σ own]
  wipeS_at' (σ : S) (j : Nat) : ∀ own : List Nat, (wipeS σ own)[j]? = if j ∈ own then (σ[j]?).map (fun _ => none) else σ[j]?
    | [] => by simp [wipeS]
    | i :: own => by
      unfold wipeS
      have ih := wipeS_at' σ j own
      by_cases hj : j = i
      · subst hj
        by_cases hl : j < (wipeS σ own).length
        · have h2 : j < σ.length := by rw [← wipeS_length' σ own]; exact hl
          rw [List.getElem?_set_self hl, if_pos (by simp), List.getElem?_eq_getElem h2]; rfl
        · rw [List.getElem?_eq_none (by simpa using hl)]
          have h2 : ¬ j < σ.length := by rw [← wipeS_length' σ own]; exact hl
          rw [if_pos (by simp), List.getElem?_eq_none (by omega)]; rfl
      · rw [List.getElem?_set_ne (Ne.symm hj), ih]
        by_cases hm : j ∈ own
        · rw [if_pos hm, if_pos (by simp [hm])]
        · rw [if_neg hm, if_neg (by simp [hm, hj])]
  backS_at' (σ₀ σ : S) (hl : σ₀.length = σ.length) (j : Nat) : ∀ own : List Nat, (backS σ₀ σ own)[j]? = if j ∈ own then σ₀[j]? else σ[j]?
    | [] => by simp [backS]
    | i :: own => by
      unfold backS
      have ih := backS_at' σ₀ σ hl j own
      by_cases hj : j = i
      · subst hj
        rw [if_pos (by simp)]
        by_cases h2 : j < σ.length
        · rw [List.getElem?_set_self (by rw [backS_length']; exact h2)]
          rw [List.getElem?_eq_getElem (by rw [hl]; exact h2)]
          rfl
        · rw [List.getElem?_eq_none (by rw [List.length_set, backS_length']; omega), List.getElem?_eq_none (by omega)]
      · rw [List.getElem?_set_ne (Ne.symm hj), ih]
        by_cases hm : j ∈ own
        · rw [if_pos hm, if_pos (by simp [hm])]
        · rw [if_neg hm, if_neg (by simp [hm, hj])]
/-- one turn -/
def lcT (p : Ev) (elt : R) (t : T) (ifs : List R) (d : PyData) (s : S) : Res (List PyData) := (asgR t d s).bind fun _ s => (testsL p.t ifs s).bind fun b s =>
  if b then (p.e elt s).bind fun x s => .ok [x.1] s else .ok [] s
/-- the turn gives these, and leaves the names around as they were -/
def Tn (own : List Nat) (s₀ : S) (ys : List PyData) : Res (List PyData) → Prop
  | .ok zs s' => zs = ys ∧ wipeS s' own = s₀
  | _ => False
@[simp] theorem Tn_ok (own : List Nat) (s₀ s' : S) (ys zs : List PyData) : Tn own s₀ ys (.ok zs s') ↔ zs = ys ∧ wipeS s' own = s₀ := Iff.rfl
theorem lcL_ok {own : List Nat} {turn : PyData → S → Res (List PyData)} {s₀ : S} (enc : α → PyData) (g : α → List PyData) : ∀ (l : List α) (s : S), wipeS s own = s₀ → (∀ x ∈ l, Tn own s₀ (g x) (turn (enc x) s₀)) →
    Tn own s₀ (l.flatMap g) (lcL own turn (l.map enc) s)
  | [], s, hs, _ => ⟨rfl, hs⟩
  | x :: l, s, hs, h => by
    have h1 := h x List.mem_cons_self
    show Tn own s₀ _ ((turn (enc x) (wipeS s own)).bind (fun xs s => (lcL own turn (l.map enc) s).bind fun ys s => .ok (xs ++ ys) s))
    rw [hs]
    cases e : turn (enc x) s₀ with
    | bad => rw [e] at h1; exact h1.elim
    | err _ _ _ => rw [e] at h1; exact h1.elim
    | ok zs s1 =>
      rw [e] at h1
      obtain ⟨rfl, h1⟩ := h1
      have h2 := lcL_ok enc g l s1 h1 fun y hy => h y (List.mem_cons_of_mem _ hy)
      rw [bind_ok_]
      cases e2 : lcL own turn (l.map enc) s1 with
      | bad => rw [e2] at h2; exact h2.elim
      | err _ _ _ => rw [e2] at h2; exact h2.elim
      | ok zs2 s2 =>
        rw [e2] at h2
        obtain ⟨rfl, h2⟩ := h2
        exact ⟨rfl, h2⟩
/-- a comprehension with one clause; g: what each item gives -/
theorem lc_ok {elt it : R} {own : List Nat} {t : T} {ifs : List R} {s1 : S} (l : List α) (enc : α → PyData) (g : α → List PyData) (hit : items p it s = .ok (l.map enc) s1) (po : plainOwn s1 own = true)
    (ht : ∀ x ∈ l, Tn own (wipeS s1 own) (g x) (lcT p elt t ifs (enc x) (wipeS s1 own))) (hl : (l.flatMap g).length ≤ line) :
    stepE P p (.lc elt own t it ifs) s = .ok (.list (l.flatMap g), true) s1 := by
  show (items p it s).bind (fun ds s₁ => if plainOwn s₁ own then noErr ((lcL own (lcT p elt t ifs) ds s₁).bind fun l s => if l.length ≤ line then .ok ((.list l : PyData), true) (backS s₁ s own) else .bad) else .bad) = _
  have h2 := lcL_ok (turn := lcT p elt t ifs) enc g l s1 rfl ht
  rw [hit, bind_ok_, if_pos po]
  cases e2 : lcL own (lcT p elt t ifs) (l.map enc) s1 with
  | bad => rw [e2] at h2; exact h2.elim
  | err _ _ _ => rw [e2] at h2; exact h2.elim
  | ok zs s2 =>
    rw [e2] at h2
    obtain ⟨rfl, h2⟩ := h2
    rw [bind_ok_, if_pos hl, wipe_back h2]
    rfl
theorem flat_one (l : List α) (f : α → PyData) : (l.flatMap fun x => [f x]) = l.map f := by
  induction l with
  | nil => rfl
  | cons x l ih => rw [List.flatMap_cons, ih]; rfl
theorem flat_if (l : List α) (b : α → Bool) (f : α → PyData) : (l.flatMap fun x => if b x then [f x] else []) = (l.filter b).map f := by
  induction l with
  | nil => rfl
  | cons x l ih =>
    rw [List.flatMap_cons, ih, List.filter_cons]
    cases b x <;> rfl
theorem lc_map {elt it : R} {own : List Nat} {t : T} {ifs : List R} {s1 : S} (l : List α) (enc : α → PyData) (f : α → PyData) (hit : items p it s = .ok (l.map enc) s1) (po : plainOwn s1 own = true)
    (ht : ∀ x ∈ l, Tn own (wipeS s1 own) [f x] (lcT p elt t ifs (enc x) (wipeS s1 own))) (hl : l.length ≤ line) :
    stepE P p (.lc elt own t it ifs) s = .ok (.list (l.map f), true) s1 := by
  rw [lc_ok l enc (fun x => [f x]) hit po ht (by rw [flat_one, List.length_map]; exact hl), flat_one]
theorem lc_filt {elt it : R} {own : List Nat} {t : T} {ifs : List R} {s1 : S} (l : List α) (enc : α → PyData) (b : α → Bool) (f : α → PyData) (hit : items p it s = .ok (l.map enc) s1) (po : plainOwn s1 own = true)
    (ht : ∀ x ∈ l, Tn own (wipeS s1 own) (if b x then [f x] else []) (lcT p elt t ifs (enc x) (wipeS s1 own))) (hl : l.length ≤ line) :
    stepE P p (.lc elt own t it ifs) s = .ok (.list ((l.filter b).map f), true) s1 := by
  rw [lc_ok l enc (fun x => if b x then [f x] else []) hit po ht (by rw [flat_if, List.length_map]; exact Nat.le_trans (List.length_filter_le _ _) hl), flat_if]
def lcT2 (p : Ev) (elt : R) (own2 : List Nat) (t : T) (ifs : List R) (t2 : T) (it2 : R) (ifs2 : List R) (d : PyData) (s : S) : Res (List PyData) := (asgR t d s).bind fun _ s => (testsL p.t ifs s).bind fun b s =>
  if b then (items p it2 s).bind fun ds2 s => lcL own2 (lcT p elt t2 ifs2) ds2 s else .ok [] s
/-- a comprehension with two clauses -/
theorem lc2_ok {elt it it2 : R} {own own2 : List Nat} {t t2 : T} {ifs ifs2 : List R} {s1 : S} (l : List α) (enc : α → PyData) (g : α → List PyData) (hit : items p it s = .ok (l.map enc) s1) (po : plainOwn s1 own = true)
    (ht : ∀ x ∈ l, Tn own (wipeS s1 own) (g x) (lcT2 p elt own2 t ifs t2 it2 ifs2 (enc x) (wipeS s1 own))) (hl : (l.flatMap g).length ≤ line) :
    stepE P p (.lc2 elt own own2 t it ifs t2 it2 ifs2) s = .ok (.list (l.flatMap g), true) s1 := by
  show (items p it s).bind (fun ds s₁ => if plainOwn s₁ own then noErr ((lcL own (lcT2 p elt own2 t ifs t2 it2 ifs2) ds s₁).bind fun l s => if l.length ≤ line then .ok ((.list l : PyData), true) (backS s₁ s own) else .bad) else .bad) = _
  have h2 := lcL_ok (turn := lcT2 p elt own2 t ifs t2 it2 ifs2) enc g l s1 rfl ht
  rw [hit, bind_ok_, if_pos po]
  cases e2 : lcL own (lcT2 p elt own2 t ifs t2 it2 ifs2) (l.map enc) s1 with
  | bad => rw [e2] at h2; exact h2.elim
  | err _ _ _ => rw [e2] at h2; exact h2.elim
  | ok zs s2 =>
    rw [e2] at h2
    obtain ⟨rfl, h2⟩ := h2
    rw [bind_ok_, if_pos hl, wipe_back h2]
    rfl
/-- the inner clause: it may leave its own names, which the outer ones are among -/
theorem lc_in {elt : R} {own own2 : List Nat} {t2 : T} {ifs2 : List R} {s0 s1 : S} (m : List β) (enc : β → PyData) (g : β → List PyData) (hs : wipeS (wipeS s1 own2) own = s0) (hb : ∀ s', wipeS s' own2 = wipeS s1 own2 → wipeS s' own = wipeS (wipeS s1 own2) own)
    (ht : ∀ x ∈ m, Tn own2 (wipeS s1 own2) (g x) (lcT p elt t2 ifs2 (enc x) (wipeS s1 own2))) : Tn own s0 (m.flatMap g) (lcL own2 (lcT p elt t2 ifs2) (m.map enc) s1) := by
  have h2 := lcL_ok (turn := lcT p elt t2 ifs2) enc g m s1 rfl ht
  cases e2 : lcL own2 (lcT p elt t2 ifs2) (m.map enc) s1 with
  | bad => rw [e2] at h2; exact h2.elim
  | err _ _ _ => rw [e2] at h2; exact h2.elim
  | ok zs s2 =>
    rw [e2] at h2
    obtain ⟨rfl, h2⟩ := h2
    exact ⟨rfl, (hb s2 h2).trans hs⟩
theorem wipe_sub {s s' : S} {own own2 : List Nat} (h : ∀ i ∈ own2, i ∈ own) (e : wipeS s' own2 = wipeS s own2) : wipeS s' own = wipeS (wipeS s own2) own := by
  have w : ∀ σ : S, wipeS (wipeS σ own2) own = wipeS σ own := fun σ => by
    refine List.ext_getElem? fun j => ?_
    rw [wipe_back.wipeS_at', wipe_back.wipeS_at', wipe_back.wipeS_at']
    by_cases h1 : j ∈ own
    · rw [if_pos h1, if_pos h1]
      by_cases h2 : j ∈ own2
      · rw [if_pos h2]; cases σ[j]? <;> rfl
      · rw [if_neg h2]
    · rw [if_neg h1, if_neg h1, if_neg fun z => h1 (h j z)]
  rw [← e, w]
/-! ### loops -/
/-- the loop's own name behind it -/
def lastC (enc : α → PyData) : List α → Option Cell → Option Cell
  | [], c => c
  | x :: l, _ => lastC enc l (some (.pl (enc x)))
/-- a for that goes through -/
theorem forL_ok {body : PyData → S → Res Flow} (enc : α → PyData) (st : Option Cell → β → S) (f : β → α → β) : ∀ (l : List α) (c : Option Cell) (b : β), (∀ x ∈ l, ∀ c b, ∃ c', body (enc x) (st c b) = .ok .nx (st c' (f b x))) → ∃ c', forL body (l.map enc) (st c b) = .ok .nx (st c' (l.foldl f b))
  | [], c, b, _ => ⟨c, rfl⟩
  | x :: l, c, b, h => by
    obtain ⟨c1, e1⟩ := h x List.mem_cons_self c b
    obtain ⟨c2, e2⟩ := forL_ok enc st f l c1 (f b x) fun y hy => h y (List.mem_cons_of_mem _ hy)
    refine ⟨c2, ?_⟩
    show (body (enc x) (st c b)).bind (fun fl s => match fl with
      | .nx => forL body (l.map enc) s
      | .ct => forL body (l.map enc) s
      | .bk => .ok .nx s
      | .rt d f => .ok (.rt d f) s) = _
    rw [e1]
    exact e2
/-- a for that goes through, by what holds between two turns -/
theorem forL_inv {γ : Type} {body : PyData → S → Res Flow} (enc : α → PyData) (st : γ → β → S) (f : β → α → β) (I : List α → β → Prop) (all : List α)
    (h : ∀ (done : List α) (x : α) (rest : List α) (b : β) (c : γ), all = done ++ x :: rest → I done b → ∃ c', body (enc x) (st c b) = .ok .nx (st c' (f b x)) ∧ I (done ++ [x]) (f b x)) :
    ∀ (l done : List α) (c : γ) (b : β), all = done ++ l → I done b → ∃ c', forL body (l.map enc) (st c b) = .ok .nx (st c' (l.foldl f b)) ∧ I all (l.foldl f b)
  | [], done, c, b, e, i => ⟨c, rfl, by rw [e, List.append_nil]; exact i⟩
  | x :: l, done, c, b, e, i => by
    obtain ⟨c1, e1, i1⟩ := h done x l b c e i
    obtain ⟨c2, e2, i2⟩ := forL_inv enc st f I all h l (done ++ [x]) c1 (f b x) (by rw [e]; simp) i1
    refine ⟨c2, ?_, i2⟩
    show (body (enc x) (st c b)).bind (fun fl s => match fl with
      | .nx => forL body (l.map enc) s
      | .ct => forL body (l.map enc) s
      | .bk => .ok .nx s
      | .rt d f => .ok (.rt d f) s) = _
    rw [e1]
    exact e2
/-! ### walked things -/
theorem rng1 {n : Nat} (h : n ≤ 1000000000) : rngD [.int (n : Int)] = some ((List.range n).map fun (k : Nat) => PyData.int (k : Int)) := by
  have h1 : -(2 ^ 62) ≤ (n : Int) ∧ (n : Int) < 2 ^ 62 := ⟨by omega, by omega⟩
  unfold rngD
  simp only [h1, and_self, if_true]
  rfl
theorem rng2 {m n : Nat} (hm : m ≤ 1000000000) (h : n ≤ 1000000000) : rngD [.int (m : Int), .int (n : Int)] = some ((List.range (n - m)).map fun (k : Nat) => PyData.int ((m + k : Nat) : Int)) := by
  have h1 : -(2 ^ 62) ≤ (m : Int) ∧ (m : Int) < 2 ^ 62 := ⟨by omega, by omega⟩
  have h2 : -(2 ^ 62) ≤ (n : Int) ∧ (n : Int) < 2 ^ 62 := ⟨by omega, by omega⟩
  unfold rngD
  simp only [h1, h2, and_self, if_true]
  rw [show ((n : Int) - m).toNat = n - m by omega]
  rfl
theorem enumD_map (enc : α → PyData) : ∀ (l : List α) (j : Nat), enumD j (l.map enc) = (l.zipIdx j).map fun q => PyData.tuple [.int ((q.2 : Nat) : Int), enc q.1]
  | [], _ => rfl
  | x :: l, j => by
    show PyData.tuple [.int (j : Int), enc x] :: enumD (j + 1) (l.map enc) = _
    rw [enumD_map enc l (j + 1)]
    rfl
theorem zipD_lists (enc : α → PyData) (enc2 : β → PyData) (l : List α) (m : List β) : zipD (.list (l.map enc)) (.list (m.map enc2)) = some ((l.zip m).map fun q => .tuple [enc q.1, enc2 q.2]) := by
  show some (((l.map enc).zip (m.map enc2)).map fun q => PyData.tuple [q.1, q.2]) = _
  rw [List.zip_map, List.map_map]
  rfl
end
end Pv
/-! calls of the registered defs that change no argument -/
namespace GP
open PySem Pv
variable {L : List FnD} {p : Ev} {s : S}
@[simp] theorem call_p_picturework_sign_in (es : List R) : stepE (mkP L) p (.call 100 es) s = (evL p.e es s).bind fun ds s => if ds.length = 4 then retOf (p.c 100 ds) s else .bad := eE_call (at_p_picturework_sign_in L) rfl es
@[simp] theorem callk_p_picturework_sign_in (es : List R) (ks : List Nat) (kws : List R) : stepE (mkP L) p (.callk 100 es ks kws) s = (evL p.e es s).bind fun ds s => (evL p.e kws s).bind fun ws s => (ofO (kwOrder ks ws es.length (4 - es.length)) s).bind fun zs s => if (ds ++ zs).length = 4 then retOf (p.c 100 (ds ++ zs)) s else .bad := eE_callk (at_p_picturework_sign_in L) rfl es ks kws
@[simp] theorem call_p_picturework_stand_in (es : List R) : stepE (mkP L) p (.call 101 es) s = (evL p.e es s).bind fun ds s => if ds.length = 4 then retOf (p.c 101 ds) s else .bad := eE_call (at_p_picturework_stand_in L) rfl es
@[simp] theorem callk_p_picturework_stand_in (es : List R) (ks : List Nat) (kws : List R) : stepE (mkP L) p (.callk 101 es ks kws) s = (evL p.e es s).bind fun ds s => (evL p.e kws s).bind fun ws s => (ofO (kwOrder ks ws es.length (4 - es.length)) s).bind fun zs s => if (ds ++ zs).length = 4 then retOf (p.c 101 (ds ++ zs)) s else .bad := eE_callk (at_p_picturework_stand_in L) rfl es ks kws
@[simp] theorem call_p_likework_placings_in (es : List R) : stepE (mkP L) p (.call 102 es) s = (evL p.e es s).bind fun ds s => if ds.length = 3 then retOf (p.c 102 ds) s else .bad := eE_call (at_p_likework_placings_in L) rfl es
@[simp] theorem callk_p_likework_placings_in (es : List R) (ks : List Nat) (kws : List R) : stepE (mkP L) p (.callk 102 es ks kws) s = (evL p.e es s).bind fun ds s => (evL p.e kws s).bind fun ws s => (ofO (kwOrder ks ws es.length (3 - es.length)) s).bind fun zs s => if (ds ++ zs).length = 3 then retOf (p.c 102 (ds ++ zs)) s else .bad := eE_callk (at_p_likework_placings_in L) rfl es ks kws
@[simp] theorem call_p_likework_least_in (es : List R) : stepE (mkP L) p (.call 103 es) s = (evL p.e es s).bind fun ds s => if ds.length = 2 then retOf (p.c 103 ds) s else .bad := eE_call (at_p_likework_least_in L) rfl es
@[simp] theorem callk_p_likework_least_in (es : List R) (ks : List Nat) (kws : List R) : stepE (mkP L) p (.callk 103 es ks kws) s = (evL p.e es s).bind fun ds s => (evL p.e kws s).bind fun ws s => (ofO (kwOrder ks ws es.length (2 - es.length)) s).bind fun zs s => if (ds ++ zs).length = 2 then retOf (p.c 103 (ds ++ zs)) s else .bad := eE_callk (at_p_likework_least_in L) rfl es ks kws
@[simp] theorem call_p_checks_is_integer (es : List R) : stepE (mkP L) p (.call 104 es) s = (evL p.e es s).bind fun ds s => if ds.length = 1 then retOf (p.c 104 ds) s else .bad := eE_call (at_p_checks_is_integer L) rfl es
@[simp] theorem callk_p_checks_is_integer (es : List R) (ks : List Nat) (kws : List R) : stepE (mkP L) p (.callk 104 es ks kws) s = (evL p.e es s).bind fun ds s => (evL p.e kws s).bind fun ws s => (ofO (kwOrder ks ws es.length (1 - es.length)) s).bind fun zs s => if (ds ++ zs).length = 1 then retOf (p.c 104 (ds ++ zs)) s else .bad := eE_callk (at_p_checks_is_integer L) rfl es ks kws
@[simp] theorem call_p_checks_is_between (es : List R) : stepE (mkP L) p (.call 105 es) s = (evL p.e es s).bind fun ds s => if ds.length = 3 then retOf (p.c 105 ds) s else .bad := eE_call (at_p_checks_is_between L) rfl es
@[simp] theorem callk_p_checks_is_between (es : List R) (ks : List Nat) (kws : List R) : stepE (mkP L) p (.callk 105 es ks kws) s = (evL p.e es s).bind fun ds s => (evL p.e kws s).bind fun ws s => (ofO (kwOrder ks ws es.length (3 - es.length)) s).bind fun zs s => if (ds ++ zs).length = 3 then retOf (p.c 105 (ds ++ zs)) s else .bad := eE_callk (at_p_checks_is_between L) rfl es ks kws
@[simp] theorem call_p_checks_is_tuple (es : List R) : stepE (mkP L) p (.call 106 es) s = (evL p.e es s).bind fun ds s => if ds.length = 3 then retOf (p.c 106 ds) s else .bad := eE_call (at_p_checks_is_tuple L) rfl es
@[simp] theorem callk_p_checks_is_tuple (es : List R) (ks : List Nat) (kws : List R) : stepE (mkP L) p (.callk 106 es ks kws) s = (evL p.e es s).bind fun ds s => (evL p.e kws s).bind fun ws s => (ofO (kwOrder ks ws es.length (3 - es.length)) s).bind fun zs s => if (ds ++ zs).length = 3 then retOf (p.c 106 (ds ++ zs)) s else .bad := eE_callk (at_p_checks_is_tuple L) rfl es ks kws
@[simp] theorem call_p_checks_anew (es : List R) : stepE (mkP L) p (.call 107 es) s = (evL p.e es s).bind fun ds s => if ds.length = 1 then retOf (p.c 107 ds) s else .bad := eE_call (at_p_checks_anew L) rfl es
@[simp] theorem callk_p_checks_anew (es : List R) (ks : List Nat) (kws : List R) : stepE (mkP L) p (.callk 107 es ks kws) s = (evL p.e es s).bind fun ds s => (evL p.e kws s).bind fun ws s => (ofO (kwOrder ks ws es.length (1 - es.length)) s).bind fun zs s => if (ds ++ zs).length = 1 then retOf (p.c 107 (ds ++ zs)) s else .bad := eE_callk (at_p_checks_anew L) rfl es ks kws
@[simp] theorem call_p_sorts_is_sort (es : List R) : stepE (mkP L) p (.call 108 es) s = (evL p.e es s).bind fun ds s => if ds.length = 1 then retOf (p.c 108 ds) s else .bad := eE_call (at_p_sorts_is_sort L) rfl es
@[simp] theorem callk_p_sorts_is_sort (es : List R) (ks : List Nat) (kws : List R) : stepE (mkP L) p (.callk 108 es ks kws) s = (evL p.e es s).bind fun ds s => (evL p.e kws s).bind fun ws s => (ofO (kwOrder ks ws es.length (1 - es.length)) s).bind fun zs s => if (ds ++ zs).length = 1 then retOf (p.c 108 (ds ++ zs)) s else .bad := eE_callk (at_p_sorts_is_sort L) rfl es ks kws
@[simp] theorem call_p_sorts_need_sort (es : List R) : stepE (mkP L) p (.call 109 es) s = (evL p.e es s).bind fun ds s => if ds.length = 1 then retOf (p.c 109 ds) s else .bad := eE_call (at_p_sorts_need_sort L) rfl es
@[simp] theorem callk_p_sorts_need_sort (es : List R) (ks : List Nat) (kws : List R) : stepE (mkP L) p (.callk 109 es ks kws) s = (evL p.e es s).bind fun ds s => (evL p.e kws s).bind fun ws s => (ofO (kwOrder ks ws es.length (1 - es.length)) s).bind fun zs s => if (ds ++ zs).length = 1 then retOf (p.c 109 (ds ++ zs)) s else .bad := eE_callk (at_p_sorts_need_sort L) rfl es ks kws
@[simp] theorem call_p_sorts_is_kind_in (es : List R) : stepE (mkP L) p (.call 110 es) s = (evL p.e es s).bind fun ds s => if ds.length = 2 then retOf (p.c 110 ds) s else .bad := eE_call (at_p_sorts_is_kind_in L) rfl es
@[simp] theorem callk_p_sorts_is_kind_in (es : List R) (ks : List Nat) (kws : List R) : stepE (mkP L) p (.callk 110 es ks kws) s = (evL p.e es s).bind fun ds s => (evL p.e kws s).bind fun ws s => (ofO (kwOrder ks ws es.length (2 - es.length)) s).bind fun zs s => if (ds ++ zs).length = 2 then retOf (p.c 110 (ds ++ zs)) s else .bad := eE_callk (at_p_sorts_is_kind_in L) rfl es ks kws
@[simp] theorem call_p_sorts_is_sign_in (es : List R) : stepE (mkP L) p (.call 111 es) s = (evL p.e es s).bind fun ds s => if ds.length = 2 then retOf (p.c 111 ds) s else .bad := eE_call (at_p_sorts_is_sign_in L) rfl es
@[simp] theorem callk_p_sorts_is_sign_in (es : List R) (ks : List Nat) (kws : List R) : stepE (mkP L) p (.callk 111 es ks kws) s = (evL p.e es s).bind fun ds s => (evL p.e kws s).bind fun ws s => (ofO (kwOrder ks ws es.length (2 - es.length)) s).bind fun zs s => if (ds ++ zs).length = 2 then retOf (p.c 111 (ds ++ zs)) s else .bad := eE_callk (at_p_sorts_is_sign_in L) rfl es ks kws
@[simp] theorem call_p_pictures_is_way_in (es : List R) : stepE (mkP L) p (.call 112 es) s = (evL p.e es s).bind fun ds s => if ds.length = 3 then retOf (p.c 112 ds) s else .bad := eE_call (at_p_pictures_is_way_in L) rfl es
@[simp] theorem callk_p_pictures_is_way_in (es : List R) (ks : List Nat) (kws : List R) : stepE (mkP L) p (.callk 112 es ks kws) s = (evL p.e es s).bind fun ds s => (evL p.e kws s).bind fun ws s => (ofO (kwOrder ks ws es.length (3 - es.length)) s).bind fun zs s => if (ds ++ zs).length = 3 then retOf (p.c 112 (ds ++ zs)) s else .bad := eE_callk (at_p_pictures_is_way_in L) rfl es ks kws
@[simp] theorem call_p_pictures_is_picture_in (es : List R) : stepE (mkP L) p (.call 113 es) s = (evL p.e es s).bind fun ds s => if ds.length = 2 then retOf (p.c 113 ds) s else .bad := eE_call (at_p_pictures_is_picture_in L) rfl es
@[simp] theorem callk_p_pictures_is_picture_in (es : List R) (ks : List Nat) (kws : List R) : stepE (mkP L) p (.callk 113 es ks kws) s = (evL p.e es s).bind fun ds s => (evL p.e kws s).bind fun ws s => (ofO (kwOrder ks ws es.length (2 - es.length)) s).bind fun zs s => if (ds ++ zs).length = 2 then retOf (p.c 113 (ds ++ zs)) s else .bad := eE_callk (at_p_pictures_is_picture_in L) rfl es ks kws
@[simp] theorem call_p_pictures_need_picture (es : List R) : stepE (mkP L) p (.call 114 es) s = (evL p.e es s).bind fun ds s => if ds.length = 2 then retOf (p.c 114 ds) s else .bad := eE_call (at_p_pictures_need_picture L) rfl es
@[simp] theorem callk_p_pictures_need_picture (es : List R) (ks : List Nat) (kws : List R) : stepE (mkP L) p (.callk 114 es ks kws) s = (evL p.e es s).bind fun ds s => (evL p.e kws s).bind fun ws s => (ofO (kwOrder ks ws es.length (2 - es.length)) s).bind fun zs s => if (ds ++ zs).length = 2 then retOf (p.c 114 (ds ++ zs)) s else .bad := eE_callk (at_p_pictures_need_picture L) rfl es ks kws
@[simp] theorem call_p_likeness_all_likenesses (es : List R) : stepE (mkP L) p (.call 115 es) s = (evL p.e es s).bind fun ds s => if ds.length = 3 then retOf (p.c 115 ds) s else .bad := eE_call (at_p_likeness_all_likenesses L) rfl es
@[simp] theorem callk_p_likeness_all_likenesses (es : List R) (ks : List Nat) (kws : List R) : stepE (mkP L) p (.callk 115 es ks kws) s = (evL p.e es s).bind fun ds s => (evL p.e kws s).bind fun ws s => (ofO (kwOrder ks ws es.length (3 - es.length)) s).bind fun zs s => if (ds ++ zs).length = 3 then retOf (p.c 115 (ds ++ zs)) s else .bad := eE_callk (at_p_likeness_all_likenesses L) rfl es ks kws
@[simp] theorem call_p_likeness_need_two (es : List R) : stepE (mkP L) p (.call 116 es) s = (evL p.e es s).bind fun ds s => if ds.length = 3 then retOf (p.c 116 ds) s else .bad := eE_call (at_p_likeness_need_two L) rfl es
@[simp] theorem callk_p_likeness_need_two (es : List R) (ks : List Nat) (kws : List R) : stepE (mkP L) p (.callk 116 es ks kws) s = (evL p.e es s).bind fun ds s => (evL p.e kws s).bind fun ws s => (ofO (kwOrder ks ws es.length (3 - es.length)) s).bind fun zs s => if (ds ++ zs).length = 3 then retOf (p.c 116 (ds ++ zs)) s else .bad := eE_callk (at_p_likeness_need_two L) rfl es ks kws
@[simp] theorem call_p_likeness_likenesses (es : List R) : stepE (mkP L) p (.call 117 es) s = (evL p.e es s).bind fun ds s => if ds.length = 3 then retOf (p.c 117 ds) s else .bad := eE_call (at_p_likeness_likenesses L) rfl es
@[simp] theorem callk_p_likeness_likenesses (es : List R) (ks : List Nat) (kws : List R) : stepE (mkP L) p (.callk 117 es ks kws) s = (evL p.e es s).bind fun ds s => (evL p.e kws s).bind fun ws s => (ofO (kwOrder ks ws es.length (3 - es.length)) s).bind fun zs s => if (ds ++ zs).length = 3 then retOf (p.c 117 (ds ++ zs)) s else .bad := eE_callk (at_p_likeness_likenesses L) rfl es ks kws
@[simp] theorem call_p_likeness_likeness (es : List R) : stepE (mkP L) p (.call 118 es) s = (evL p.e es s).bind fun ds s => if ds.length = 3 then retOf (p.c 118 ds) s else .bad := eE_call (at_p_likeness_likeness L) rfl es
@[simp] theorem callk_p_likeness_likeness (es : List R) (ks : List Nat) (kws : List R) : stepE (mkP L) p (.callk 118 es ks kws) s = (evL p.e es s).bind fun ds s => (evL p.e kws s).bind fun ws s => (ofO (kwOrder ks ws es.length (3 - es.length)) s).bind fun zs s => if (ds ++ zs).length = 3 then retOf (p.c 118 (ds ++ zs)) s else .bad := eE_callk (at_p_likeness_likeness L) rfl es ks kws
@[simp] theorem call_p_likeness_least_form (es : List R) : stepE (mkP L) p (.call 119 es) s = (evL p.e es s).bind fun ds s => if ds.length = 2 then retOf (p.c 119 ds) s else .bad := eE_call (at_p_likeness_least_form L) rfl es
@[simp] theorem callk_p_likeness_least_form (es : List R) (ks : List Nat) (kws : List R) : stepE (mkP L) p (.callk 119 es ks kws) s = (evL p.e es s).bind fun ds s => (evL p.e kws s).bind fun ws s => (ofO (kwOrder ks ws es.length (2 - es.length)) s).bind fun zs s => if (ds ++ zs).length = 2 then retOf (p.c 119 (ds ++ zs)) s else .bad := eE_callk (at_p_likeness_least_form L) rfl es ks kws
@[simp] theorem call_p_likeness_placings (es : List R) : stepE (mkP L) p (.call 120 es) s = (evL p.e es s).bind fun ds s => if ds.length = 3 then retOf (p.c 120 ds) s else .bad := eE_call (at_p_likeness_placings L) rfl es
@[simp] theorem callk_p_likeness_placings (es : List R) (ks : List Nat) (kws : List R) : stepE (mkP L) p (.callk 120 es ks kws) s = (evL p.e es s).bind fun ds s => (evL p.e kws s).bind fun ws s => (ofO (kwOrder ks ws es.length (3 - es.length)) s).bind fun zs s => if (ds ++ zs).length = 3 then retOf (p.c 120 (ds ++ zs)) s else .bad := eE_callk (at_p_likeness_placings L) rfl es ks kws
@[simp] theorem call_l__law_sign_2cb75e (es : List R) : stepE (mkP L) p (.call 123 es) s = (evL p.e es s).bind fun ds s => if ds.length = 4 then retOf (p.c 123 ds) s else .bad := eE_call (at_l__law_sign_2cb75e L) rfl es
@[simp] theorem callk_l__law_sign_2cb75e (es : List R) (ks : List Nat) (kws : List R) : stepE (mkP L) p (.callk 123 es ks kws) s = (evL p.e es s).bind fun ds s => (evL p.e kws s).bind fun ws s => (ofO (kwOrder ks ws es.length (4 - es.length)) s).bind fun zs s => if (ds ++ zs).length = 4 then retOf (p.c 123 (ds ++ zs)) s else .bad := eE_callk (at_l__law_sign_2cb75e L) rfl es ks kws
@[simp] theorem call_l__law_part_ad367b (es : List R) : stepE (mkP L) p (.call 124 es) s = (evL p.e es s).bind fun ds s => if ds.length = 3 then retOf (p.c 124 ds) s else .bad := eE_call (at_l__law_part_ad367b L) rfl es
@[simp] theorem callk_l__law_part_ad367b (es : List R) (ks : List Nat) (kws : List R) : stepE (mkP L) p (.callk 124 es ks kws) s = (evL p.e es s).bind fun ds s => (evL p.e kws s).bind fun ws s => (ofO (kwOrder ks ws es.length (3 - es.length)) s).bind fun zs s => if (ds ++ zs).length = 3 then retOf (p.c 124 (ds ++ zs)) s else .bad := eE_callk (at_l__law_part_ad367b L) rfl es ks kws
@[simp] theorem call_l__law_orders_f8b615 (es : List R) : stepE (mkP L) p (.call 126 es) s = (evL p.e es s).bind fun ds s => if ds.length = 1 then retOf (p.c 126 ds) s else .bad := eE_call (at_l__law_orders_f8b615 L) rfl es
@[simp] theorem callk_l__law_orders_f8b615 (es : List R) (ks : List Nat) (kws : List R) : stepE (mkP L) p (.callk 126 es ks kws) s = (evL p.e es s).bind fun ds s => (evL p.e kws s).bind fun ws s => (ofO (kwOrder ks ws es.length (1 - es.length)) s).bind fun zs s => if (ds ++ zs).length = 1 then retOf (p.c 126 (ds ++ zs)) s else .bad := eE_callk (at_l__law_orders_f8b615 L) rfl es ks kws
@[simp] theorem call_l__law_rows_75fa45 (es : List R) : stepE (mkP L) p (.call 127 es) s = (evL p.e es s).bind fun ds s => if ds.length = 2 then retOf (p.c 127 ds) s else .bad := eE_call (at_l__law_rows_75fa45 L) rfl es
@[simp] theorem callk_l__law_rows_75fa45 (es : List R) (ks : List Nat) (kws : List R) : stepE (mkP L) p (.callk 127 es ks kws) s = (evL p.e es s).bind fun ds s => (evL p.e kws s).bind fun ws s => (ofO (kwOrder ks ws es.length (2 - es.length)) s).bind fun zs s => if (ds ++ zs).length = 2 then retOf (p.c 127 (ds ++ zs)) s else .bad := eE_callk (at_l__law_rows_75fa45 L) rfl es ks kws
@[simp] theorem call_p_almostwork_power_of (es : List R) : stepE (mkP L) p (.call 128 es) s = (evL p.e es s).bind fun ds s => if ds.length = 2 then retOf (p.c 128 ds) s else .bad := eE_call (at_p_almostwork_power_of L) rfl es
@[simp] theorem callk_p_almostwork_power_of (es : List R) (ks : List Nat) (kws : List R) : stepE (mkP L) p (.callk 128 es ks kws) s = (evL p.e es s).bind fun ds s => (evL p.e kws s).bind fun ws s => (ofO (kwOrder ks ws es.length (2 - es.length)) s).bind fun zs s => if (ds ++ zs).length = 2 then retOf (p.c 128 (ds ++ zs)) s else .bad := eE_callk (at_p_almostwork_power_of L) rfl es ks kws
@[simp] theorem call_p_almostwork_chosen (es : List R) : stepE (mkP L) p (.call 129 es) s = (evL p.e es s).bind fun ds s => if ds.length = 2 then retOf (p.c 129 ds) s else .bad := eE_call (at_p_almostwork_chosen L) rfl es
@[simp] theorem callk_p_almostwork_chosen (es : List R) (ks : List Nat) (kws : List R) : stepE (mkP L) p (.callk 129 es ks kws) s = (evL p.e es s).bind fun ds s => (evL p.e kws s).bind fun ws s => (ofO (kwOrder ks ws es.length (2 - es.length)) s).bind fun zs s => if (ds ++ zs).length = 2 then retOf (p.c 129 (ds ++ zs)) s else .bad := eE_callk (at_p_almostwork_chosen L) rfl es ks kws
@[simp] theorem call_p_almostwork_lacks_in (es : List R) : stepE (mkP L) p (.call 130 es) s = (evL p.e es s).bind fun ds s => if ds.length = 3 then retOf (p.c 130 ds) s else .bad := eE_call (at_p_almostwork_lacks_in L) rfl es
@[simp] theorem callk_p_almostwork_lacks_in (es : List R) (ks : List Nat) (kws : List R) : stepE (mkP L) p (.callk 130 es ks kws) s = (evL p.e es s).bind fun ds s => (evL p.e kws s).bind fun ws s => (ofO (kwOrder ks ws es.length (3 - es.length)) s).bind fun zs s => if (ds ++ zs).length = 3 then retOf (p.c 130 (ds ++ zs)) s else .bad := eE_callk (at_p_almostwork_lacks_in L) rfl es ks kws
@[simp] theorem call_p_almostwork_lowest (es : List R) : stepE (mkP L) p (.call 131 es) s = (evL p.e es s).bind fun ds s => if ds.length = 2 then retOf (p.c 131 ds) s else .bad := eE_call (at_p_almostwork_lowest L) rfl es
@[simp] theorem callk_p_almostwork_lowest (es : List R) (ks : List Nat) (kws : List R) : stepE (mkP L) p (.callk 131 es ks kws) s = (evL p.e es s).bind fun ds s => (evL p.e kws s).bind fun ws s => (ofO (kwOrder ks ws es.length (2 - es.length)) s).bind fun zs s => if (ds ++ zs).length = 2 then retOf (p.c 131 (ds ++ zs)) s else .bad := eE_callk (at_p_almostwork_lowest L) rfl es ks kws
@[simp] theorem call_p_almostwork_is_enough (es : List R) : stepE (mkP L) p (.call 132 es) s = (evL p.e es s).bind fun ds s => if ds.length = 4 then retOf (p.c 132 ds) s else .bad := eE_call (at_p_almostwork_is_enough L) rfl es
@[simp] theorem callk_p_almostwork_is_enough (es : List R) (ks : List Nat) (kws : List R) : stepE (mkP L) p (.callk 132 es ks kws) s = (evL p.e es s).bind fun ds s => (evL p.e kws s).bind fun ws s => (ofO (kwOrder ks ws es.length (4 - es.length)) s).bind fun zs s => if (ds ++ zs).length = 4 then retOf (p.c 132 (ds ++ zs)) s else .bad := eE_callk (at_p_almostwork_is_enough L) rfl es ks kws
@[simp] theorem call_p_almostwork_least_size (es : List R) : stepE (mkP L) p (.call 133 es) s = (evL p.e es s).bind fun ds s => if ds.length = 2 then retOf (p.c 133 ds) s else .bad := eE_call (at_p_almostwork_least_size L) rfl es
@[simp] theorem callk_p_almostwork_least_size (es : List R) (ks : List Nat) (kws : List R) : stepE (mkP L) p (.callk 133 es ks kws) s = (evL p.e es s).bind fun ds s => (evL p.e kws s).bind fun ws s => (ofO (kwOrder ks ws es.length (2 - es.length)) s).bind fun zs s => if (ds ++ zs).length = 2 then retOf (p.c 133 (ds ++ zs)) s else .bad := eE_callk (at_p_almostwork_least_size L) rfl es ks kws
@[simp] theorem call_p_almostwork_surely_in (es : List R) : stepE (mkP L) p (.call 134 es) s = (evL p.e es s).bind fun ds s => if ds.length = 3 then retOf (p.c 134 ds) s else .bad := eE_call (at_p_almostwork_surely_in L) rfl es
@[simp] theorem callk_p_almostwork_surely_in (es : List R) (ks : List Nat) (kws : List R) : stepE (mkP L) p (.callk 134 es ks kws) s = (evL p.e es s).bind fun ds s => (evL p.e kws s).bind fun ws s => (ofO (kwOrder ks ws es.length (3 - es.length)) s).bind fun zs s => if (ds ++ zs).length = 3 then retOf (p.c 134 (ds ++ zs)) s else .bad := eE_callk (at_p_almostwork_surely_in L) rfl es ks kws
@[simp] theorem call_p_checks_need_number (es : List R) : stepE (mkP L) p (.call 135 es) s = (evL p.e es s).bind fun ds s => if ds.length = 3 then retOf (p.c 135 ds) s else .bad := eE_call (at_p_checks_need_number L) rfl es
@[simp] theorem callk_p_checks_need_number (es : List R) (ks : List Nat) (kws : List R) : stepE (mkP L) p (.callk 135 es ks kws) s = (evL p.e es s).bind fun ds s => (evL p.e kws s).bind fun ws s => (ofO (kwOrder ks ws es.length (3 - es.length)) s).bind fun zs s => if (ds ++ zs).length = 3 then retOf (p.c 135 (ds ++ zs)) s else .bad := eE_callk (at_p_checks_need_number L) rfl es ks kws
@[simp] theorem call_p_almost_lacks (es : List R) : stepE (mkP L) p (.call 136 es) s = (evL p.e es s).bind fun ds s => if ds.length = 3 then retOf (p.c 136 ds) s else .bad := eE_call (at_p_almost_lacks L) rfl es
@[simp] theorem callk_p_almost_lacks (es : List R) (ks : List Nat) (kws : List R) : stepE (mkP L) p (.callk 136 es ks kws) s = (evL p.e es s).bind fun ds s => (evL p.e kws s).bind fun ws s => (ofO (kwOrder ks ws es.length (3 - es.length)) s).bind fun zs s => if (ds ++ zs).length = 3 then retOf (p.c 136 (ds ++ zs)) s else .bad := eE_callk (at_p_almost_lacks L) rfl es ks kws
@[simp] theorem call_p_almost_surely_from (es : List R) : stepE (mkP L) p (.call 137 es) s = (evL p.e es s).bind fun ds s => if ds.length = 3 then retOf (p.c 137 ds) s else .bad := eE_call (at_p_almost_surely_from L) rfl es
@[simp] theorem callk_p_almost_surely_from (es : List R) (ks : List Nat) (kws : List R) : stepE (mkP L) p (.callk 137 es ks kws) s = (evL p.e es s).bind fun ds s => (evL p.e kws s).bind fun ws s => (ofO (kwOrder ks ws es.length (3 - es.length)) s).bind fun zs s => if (ds ++ zs).length = 3 then retOf (p.c 137 (ds ++ zs)) s else .bad := eE_callk (at_p_almost_surely_from L) rfl es ks kws
@[simp] theorem call_l__law_source_30e396 (es : List R) : stepE (mkP L) p (.call 138 es) s = (evL p.e es s).bind fun ds s => if ds.length = 2 then retOf (p.c 138 ds) s else .bad := eE_call (at_l__law_source_30e396 L) rfl es
@[simp] theorem callk_l__law_source_30e396 (es : List R) (ks : List Nat) (kws : List R) : stepE (mkP L) p (.callk 138 es ks kws) s = (evL p.e es s).bind fun ds s => (evL p.e kws s).bind fun ws s => (ofO (kwOrder ks ws es.length (2 - es.length)) s).bind fun zs s => if (ds ++ zs).length = 2 then retOf (p.c 138 (ds ++ zs)) s else .bad := eE_callk (at_l__law_source_30e396 L) rfl es ks kws
end GP
/-! Ty: sorts, ways, pictures as plain Lean values; how they stand as data. -/
namespace Pv
open PySem
/-- the item at a place, a default without one -/
@[irreducible] def nth {α : Type} [Inhabited α] (l : List α) (i : Nat) : α := l.getD i default
abbrev Way := Nat × List Nat
abbrev Pic := List Way
structure Srt where
  kinds : Nat
  signs : Nat
  trn : List Nat
deriving DecidableEq
abbrev eN (n : Nat) : PyData := .int (n : Int)
def eNs (l : List Nat) : PyData := .tuple (l.map eN)
def eW (w : Way) : PyData := .tuple [eN w.1, eNs w.2]
def eP (p : Pic) : PyData := .tuple (p.map eW)
def eS (s : Srt) : PyData := .tuple [eN s.kinds, eN s.signs, eNs s.trn]
structure Srt.Ok (s : Srt) : Prop where
  kinds : 1 ≤ s.kinds ∧ s.kinds ≤ 2
  signs : 1 ≤ s.signs ∧ s.signs ≤ 4 ∧ (s.kinds ≠ 1 → s.signs ≤ 3)
  len : s.trn.length = s.signs
  lt : ∀ x ∈ s.trn, x < s.signs
  inv : ∀ i, i < s.signs → nth s.trn (nth s.trn i) = i
def Pic.Ok (s : Srt) (p : Pic) : Prop := ∀ (j : Nat) (w : Way), p[j]? = some w → w.1 < s.kinds ∧ w.2.length = j ∧ ∀ x ∈ w.2, x < s.signs
/-- the sign from a point to an unlike one -/
def sgn (s : Srt) (p : Pic) (i j : Nat) : Nat := if i < j then nth (nth p j).2 i else nth s.trn (nth (nth p i).2 j)
/-- how a point stands over others -/
def stand (s : Srt) (p : Pic) (ns : List Nat) (i : Nat) : Way := ((nth p i).1, ns.map fun a => sgn s p a i)
/-- a part of a picture -/
def part (s : Srt) (p : Pic) (ns : List Nat) : Pic := ns.zipIdx.map fun q => stand s p (ns.take q.2) q.1
section
variable {s : Srt} {p : Pic}
theorem nth_get {α : Type} [Inhabited α] {l : List α} {i : Nat} (h : i < l.length) : nth l i = l[i] := by
  unfold nth
  rw [List.getD_eq_getElem?_getD, List.getElem?_eq_getElem h]
  rfl
theorem nth_some {α : Type} [Inhabited α] {l : List α} {i : Nat} (h : i < l.length) : l[i]? = some (nth l i) := by
  rw [nth_get h]; simp [h]
theorem nth_mem {α : Type} [Inhabited α] {l : List α} {i : Nat} (h : i < l.length) : nth l i ∈ l := by
  rw [nth_get h]; exact List.getElem_mem h
theorem atD_nat {α : Type} (l : List α) (i : Nat) : atD l (i : Int) = l[i]? := by
  unfold atD ixD
  rw [if_pos (by omega)]
  by_cases h : i < l.length
  · rw [if_pos (by omega)]; simp
  · rw [if_neg (by omega), List.getElem?_eq_none (by omega)]; rfl
@[simp] theorem ix_tup (l : List PyData) (i : Nat) : ixop (.tuple l) (.int (i : Int)) = l[i]? := atD_nat l i
@[simp] theorem ix_lst (l : List PyData) (i : Nat) : ixop (.list l) (.int (i : Int)) = l[i]? := atD_nat l i
@[simp] theorem ix_t0 (a : PyData) (l : List PyData) : ixop (.tuple (a :: l)) (.int 0) = some a := atD_nat (a :: l) 0
@[simp] theorem ix_t1 (a b : PyData) (l : List PyData) : ixop (.tuple (a :: b :: l)) (.int 1) = some b := atD_nat (a :: b :: l) 1
@[simp] theorem ix_t2 (a b c : PyData) (l : List PyData) : ixop (.tuple (a :: b :: c :: l)) (.int 2) = some c := atD_nat (a :: b :: c :: l) 2
@[simp] theorem ix_l0 (a : PyData) (l : List PyData) : ixop (.list (a :: l)) (.int 0) = some a := atD_nat (a :: l) 0
@[simp] theorem ix_l1 (a b : PyData) (l : List PyData) : ixop (.list (a :: b :: l)) (.int 1) = some b := atD_nat (a :: b :: l) 1
@[simp] theorem ix_l2 (a b c : PyData) (l : List PyData) : ixop (.list (a :: b :: c :: l)) (.int 2) = some c := atD_nat (a :: b :: c :: l) 2
@[simp] theorem ix_W0 (w : Way) : ixop (eW w) (.int 0) = some (eN w.1) := ix_t0 _ _
@[simp] theorem ix_W1 (w : Way) : ixop (eW w) (.int 1) = some (eNs w.2) := ix_t1 _ _ _
@[simp] theorem ix_S0 (s : Srt) : ixop (eS s) (.int 0) = some (eN s.kinds) := ix_t0 _ _
@[simp] theorem ix_S1 (s : Srt) : ixop (eS s) (.int 1) = some (eN s.signs) := ix_t1 _ _ _
@[simp] theorem ix_S2 (s : Srt) : ixop (eS s) (.int 2) = some (eNs s.trn) := ix_t2 _ _ _ _
theorem ix_P {i : Nat} (h : i < p.length) : ixop (eP p) (.int (i : Int)) = some (eW (nth p i)) := by
  show ixop (.tuple (p.map eW)) _ = _
  rw [ix_tup, List.getElem?_map, nth_some h]
  rfl
theorem ix_Ns {l : List Nat} {i : Nat} (h : i < l.length) : ixop (eNs l) (.int (i : Int)) = some (eN (nth l i)) := by
  show ixop (.tuple (l.map eN)) _ = _
  rw [ix_tup, List.getElem?_map, nth_some h]
  rfl
theorem Pic.Ok.at_ (h : Pic.Ok s p) {j : Nat} (hj : j < p.length) : (nth p j).1 < s.kinds ∧ (nth p j).2.length = j ∧ ∀ x ∈ (nth p j).2, x < s.signs := by
  have e : p[j]? = some p[j] := by simp [hj]
  have q := h j _ e
  rw [nth_get hj]
  exact q
theorem Pic.Ok.sgn_lt (hs : s.Ok) (h : Pic.Ok s p) {i j : Nat} (hi : i < p.length) (hj : j < p.length) (hne : i ≠ j) : sgn s p i j < s.signs := by
  unfold sgn
  split
  · rename_i hij
    obtain ⟨_, h2, h3⟩ := h.at_ hj
    exact h3 _ (nth_mem (by omega))
  · obtain ⟨_, h2, h3⟩ := h.at_ hi
    have := h3 _ (nth_mem (i := j) (by omega))
    exact hs.lt _ (nth_mem (by rw [hs.len]; exact this))
end
section
/-! ### equality of data -/
theorem eqv_N (i j : Nat) : PyData.eqv (eN i) (eN j) = decide (i = j) := by
  show ((i : Int) == (j : Int)) = _
  rw [Bool.eq_iff_iff, beq_iff_eq, decide_eq_true_iff]
  exact ⟨fun h => by omega, fun h => by omega⟩
theorem eqvAll_map {α : Type} [DecidableEq α] (enc : α → PyData) (h : ∀ a b, PyData.eqv (enc a) (enc b) = decide (a = b)) : ∀ l m : List α, PyData.eqvAll (l.map enc) (m.map enc) = decide (l = m)
  | [], [] => rfl
  | [], _ :: _ => by simp [PyData.eqvAll]
  | _ :: _, [] => by simp [PyData.eqvAll]
  | a :: l, b :: m => by
    show PyData.eqvAll (enc a :: l.map enc) (enc b :: m.map enc) = _
    rw [PyData.eqvAll, h, eqvAll_map enc h l m]
    by_cases h1 : a = b <;> by_cases h2 : l = m <;> simp [h1, h2]
theorem eqv_tup {α : Type} [DecidableEq α] (enc : α → PyData) (h : ∀ a b, PyData.eqv (enc a) (enc b) = decide (a = b)) (l m : List α) : PyData.eqv (.tuple (l.map enc)) (.tuple (m.map enc)) = decide (l = m) := by
  rw [PyData.eqv]; exact eqvAll_map enc h l m
theorem eqv_lst {α : Type} [DecidableEq α] (enc : α → PyData) (h : ∀ a b, PyData.eqv (enc a) (enc b) = decide (a = b)) (l m : List α) : PyData.eqv (.list (l.map enc)) (.list (m.map enc)) = decide (l = m) := by
  rw [PyData.eqv]; exact eqvAll_map enc h l m
@[simp] theorem eqv_Ns (l m : List Nat) : PyData.eqv (eNs l) (eNs m) = decide (l = m) := eqv_tup eN eqv_N l m
@[simp] theorem eqv_W (a b : Way) : PyData.eqv (eW a) (eW b) = decide (a = b) := by
  obtain ⟨k, l⟩ := a
  obtain ⟨k', l'⟩ := b
  show PyData.eqv (.tuple [eN k, eNs l]) (.tuple [eN k', eNs l']) = _
  rw [PyData.eqv, PyData.eqvAll, PyData.eqvAll, PyData.eqvAll, eqv_N, eqv_Ns]
  by_cases h1 : k = k' <;> by_cases h2 : l = l' <;> simp [h1, h2]
@[simp] theorem eqv_P (a b : Pic) : PyData.eqv (eP a) (eP b) = decide (a = b) := eqv_tup eW eqv_W a b
@[simp] theorem eqv_S (a b : Srt) : PyData.eqv (eS a) (eS b) = decide (a = b) := by
  obtain ⟨k, l, m⟩ := a
  obtain ⟨k', l', m'⟩ := b
  show PyData.eqv (.tuple [eN k, eN l, eNs m]) (.tuple [eN k', eN l', eNs m']) = _
  rw [PyData.eqv, PyData.eqvAll, PyData.eqvAll, PyData.eqvAll, PyData.eqvAll, eqv_N, eqv_N, eqv_Ns]
  by_cases h1 : k = k' <;> by_cases h2 : l = l' <;> by_cases h3 : m = m' <;> simp [h1, h2, h3]
/-! ### data that may be compared and shown -/
/-- depth and weight within bounds, small numbers, no texts, no dicts -/
structure Fn (n w : Nat) (d : PyData) : Prop where
  lay : d.canLay0 = true
  short : d.leavesShort 13 = true
  shw : d.showable = true
  dep : d.depth ≤ n
  wt : d.weight ≤ w
theorem Fn.mono {n m w v : Nat} {d : PyData} (h : Fn n w d) (a : n ≤ m) (b : w ≤ v) : Fn m v d := ⟨h.lay, h.short, h.shw, Nat.le_trans h.dep a, Nat.le_trans h.wt b⟩
theorem Fn.okD {n w : Nat} {d : PyData} (h : Fn n w d) (hn : n ≤ 64) : okD d = true := by
  unfold Pv.okD SeqAt.shaped
  rw [h.lay, decide_eq_true (Nat.le_trans h.dep hn)]
  rfl
theorem Fn.repr {n w : Nat} {d : PyData} (h : Fn n w d) (hn : n ≤ 64) (hw : w ≤ 1000000) : reprOk d = true := by
  unfold reprOk
  have h1 := PyData.shown_le 13 (by decide) d h.short
  have h2 := h.wt
  have h3 : d.shown.length + 64 ≤ line := by
    show _ ≤ 16777216
    omega
  rw [h.shw, PyData.hasDict_of_canLay d h.lay, decide_eq_true (Nat.le_trans h.dep hn), decide_eq_true h3]
  rfl
theorem Fn.int {i : Int} (h : i.natAbs < 1000000000000) : Fn 0 40 (.int i) := by
  refine ⟨rfl, ?_, ?_, Nat.le_refl _, ?_⟩
  · show decide _ = true
    exact decide_eq_true (PyData.shown_int_le (by omega))
  · show decide _ = true
    refine decide_eq_true (Nat.lt_of_le_of_lt (m := 40) ?_ (by decide))
    by_cases h0 : i.natAbs = 0
    · rw [h0]; decide
    · exact Nat.le_of_lt ((Nat.log2_lt h0).mpr (by omega))
  · show (if i == 0 then 0 else i.natAbs.log2 + 1) ≤ 40
    split
    · omega
    · by_cases h0 : i.natAbs = 0
      · rw [h0]; decide
      · have := (Nat.log2_lt (k := 40) h0).mpr (by omega)
        omega
theorem Fn.nat {n : Nat} (h : n < 1000000000000) : Fn 0 40 (eN n) := Fn.int (by omega)
theorem Fn.none_ : Fn 0 0 .none := ⟨rfl, rfl, rfl, Nat.le_refl _, Nat.le_refl _⟩
theorem Fn.bool_ (b : Bool) : Fn 0 0 (.bool b) := ⟨rfl, rfl, rfl, Nat.le_refl _, Nat.le_refl _⟩
theorem all_fn {n w : Nat} : ∀ {l : List PyData}, (∀ d ∈ l, Fn n w d) → PyData.canLayAll0 l = true ∧ PyData.leavesShortAll 13 l = true ∧ PyData.showableAll l = true ∧ PyData.depthAll l ≤ n ∧ PyData.weightAll l ≤ l.length * (w + 1)
  | [], _ => ⟨rfl, rfl, rfl, Nat.zero_le _, by simp [PyData.weightAll]⟩
  | d :: l, h => by
    obtain ⟨a, b, c, e, f⟩ := all_fn (l := l) fun x hx => h x (List.mem_cons_of_mem _ hx)
    have hd := h d List.mem_cons_self
    refine ⟨?_, ?_, ?_, ?_, ?_⟩
    · rw [PyData.canLayAll0, hd.lay, a]; rfl
    · rw [PyData.leavesShortAll, hd.short, b]; rfl
    · rw [PyData.showableAll, hd.shw, c]; rfl
    · rw [PyData.depthAll]; exact Nat.max_le.mpr ⟨hd.dep, e⟩
    · rw [PyData.weightAll, List.length_cons, Nat.succ_mul]
      have := hd.wt
      omega
theorem Fn.tup {n w m : Nat} {l : List PyData} (h : ∀ d ∈ l, Fn n w d) (hl : l.length ≤ m) : Fn (n + 1) (m * (w + 1)) (.tuple l) := by
  obtain ⟨a, b, c, e, f⟩ := all_fn h
  refine ⟨by rw [PyData.canLay0]; exact a, by rw [PyData.leavesShort]; exact b, by rw [PyData.showable]; exact c, ?_, ?_⟩
  · rw [PyData.depth]; omega
  · rw [PyData.weight]; exact Nat.le_trans f (Nat.mul_le_mul_right _ hl)
theorem Fn.lst {n w m : Nat} {l : List PyData} (h : ∀ d ∈ l, Fn n w d) (hl : l.length ≤ m) : Fn (n + 1) (m * (w + 1)) (.list l) := by
  obtain ⟨a, b, c, e, f⟩ := all_fn h
  refine ⟨by rw [PyData.canLay0]; exact a, by rw [PyData.leavesShort]; exact b, by rw [PyData.showable]; exact c, ?_, ?_⟩
  · rw [PyData.depth]; omega
  · rw [PyData.weight]; exact Nat.le_trans f (Nat.mul_le_mul_right _ hl)
theorem Fn.tupM {α : Type} {n w m : Nat} {enc : α → PyData} {l : List α} (h : ∀ x ∈ l, Fn n w (enc x)) (hl : l.length ≤ m) : Fn (n + 1) (m * (w + 1)) (.tuple (l.map enc)) :=
  Fn.tup (fun d hd => by obtain ⟨x, hx, rfl⟩ := List.mem_map.mp hd; exact h x hx) (by rw [List.length_map]; exact hl)
theorem Fn.lstM {α : Type} {n w m : Nat} {enc : α → PyData} {l : List α} (h : ∀ x ∈ l, Fn n w (enc x)) (hl : l.length ≤ m) : Fn (n + 1) (m * (w + 1)) (.list (l.map enc)) :=
  Fn.lst (fun d hd => by obtain ⟨x, hx, rfl⟩ := List.mem_map.mp hd; exact h x hx) (by rw [List.length_map]; exact hl)
/-- small rows of small numbers -/
theorem Fn.Ns {l : List Nat} (h : ∀ x ∈ l, x < 1000000000000) (hl : l.length ≤ 12) : Fn 1 492 (eNs l) := Fn.tupM (w := 40) (m := 12) (fun x hx => Fn.nat (h x hx)) hl
theorem Fn.W {w : Way} (h1 : w.1 < 1000000000000) (h : ∀ x ∈ w.2, x < 1000000000000) (hl : w.2.length ≤ 12) : Fn 2 986 (eW w) :=
  Fn.tup (n := 1) (w := 492) (m := 2) (fun d hd => by
    rcases List.mem_cons.mp hd with rfl | hd
    · exact (Fn.nat h1).mono (by omega) (by omega)
    · have e : d = eNs w.2 := by simpa using hd
      rw [e]
      exact Fn.Ns h hl) (Nat.le_refl _)
end
section
variable {L : List FnD} {k : Nat} {s : Srt} {p : Pic}
open GP
theorem sign_in_ok (hs : s.Ok) (hp : Pic.Ok s p) {i j : Nat} (hi : i < p.length) (hj : j < p.length) (hne : i ≠ j) : runK (mkP L) (k + 1) 100 [eS s, eP p, eN i, eN j] = .ret (eN (sgn s p i j)) false [] := by
  rw [runK_at (at_p_picturework_sign_in L)]
  by_cases h : i < j
  · have h2 := (hp.at_ hj).2.1
    simp [runF, p_picturework_sign_in, Pv.start, seqL, deep, opd2, opds, pre, fill, getP, cop, bD, tru, h, ix_P hj, ix_Ns (l := (nth p j).2) (i := i) (by omega), iosOf, sgn]
  · have h2 := (hp.at_ hi).2
    have h3 := h2.2 _ (nth_mem (i := j) (by omega))
    simp [runF, p_picturework_sign_in, Pv.start, seqL, deep, opd2, opds, pre, fill, getP, cop, bD, tru, h, ix_P hi, ix_Ns (l := (nth p i).2) (i := j) (by omega), ix_Ns (l := s.trn) (i := nth (nth p i).2 j) (by rw [hs.len]; exact h3), iosOf, sgn]
end
end Pv
/-! Sp2: parts, placings, least forms. -/
namespace Pv
open PySem GP
theorem cut_take {α : Type} (l : List α) (k : Nat) : cutD l none (some (k : Int)) = l.take k := by
  show (l.drop (HT.sIx l.length 0 none)).take (HT.sIx l.length l.length (some (k : Int)) - HT.sIx l.length 0 none) = _
  rw [HT.sIx_none, HT.sIx_nat, List.drop_zero, Nat.sub_zero]
  rcases Nat.le_total k l.length with h | h
  · rw [Nat.min_eq_left h]
  · rw [Nat.min_eq_right h, List.take_of_length_le (Nat.le_refl _), List.take_of_length_le h]
theorem cut_init {α : Type} (l : List α) : cutD l none (some (-1)) = l.dropLast := by
  show (l.drop (HT.sIx l.length 0 none)).take (HT.sIx l.length l.length (some (-1)) - HT.sIx l.length 0 none) = _
  have e : HT.sIx l.length l.length (some (-1)) = l.length - 1 := by
    show (if (-1 : Int) < 0 then ((-1 : Int) + (l.length : Int)).toNat else min (-1 : Int).toNat l.length) = _
    rw [if_pos (by decide)]
    omega
  rw [HT.sIx_none, e, List.drop_zero, Nat.sub_zero, List.dropLast_eq_take]
theorem at_last {α : Type} (l : List α) : atD l (-1) = l.getLast? := by
  unfold atD ixD
  rw [if_neg (by decide)]
  cases l with
  | nil => rfl
  | cons a l =>
    rw [if_pos (by simp only [List.length_cons]; omega), List.getLast?_eq_getElem?]
    show (a :: l)[((-1 : Int) + ((a :: l).length : Int)).toNat]? = _
    congr 1
    omega
section
variable {L : List FnD} {k : Nat} {s : Srt} {p : Pic}
@[simp] theorem sl_Ns (l : List Nat) (k : Nat) : slop (eNs l) none (some (k : Int)) = some (eNs (l.take k), false) := by
  show some (PyData.tuple (cutD (l.map eN) none (some (k : Int))), false) = _
  rw [cut_take, ← List.map_take]
  rfl
@[simp] theorem sl_Ns1 (l : List Nat) : slop (eNs l) none (some (-1)) = some (eNs l.dropLast, false) := by
  show some (PyData.tuple (cutD (l.map eN) none (some (-1))), false) = _
  rw [cut_init, ← List.map_dropLast]
  rfl
theorem ix_last {l : List Nat} {a : Nat} (h : l.getLast? = some a) : ixop (eNs l) (.int (-1)) = some (eN a) := by
  show atD (l.map eN) (-1) = _
  rw [at_last, List.getLast?_map, h]
  rfl
@[simp] theorem seqD_Ns (l : List Nat) : seqD (eNs l) = some (l.map eN) := rfl
@[simp] theorem seqD_P (p : Pic) : seqD (eP p) = some (p.map eW) := rfl
@[simp] theorem len_Ns (l : List Nat) : bop2 .len [eNs l] = some (eN l.length, false) := by
  show some (PyData.int ((l.map eN).length : Nat), false) = _
  rw [List.length_map]
@[simp] theorem len_P (l : Pic) : bop2 .len [eP l] = some (eN l.length, false) := by
  show some (PyData.int ((l.map eW).length : Nat), false) = _
  rw [List.length_map]
@[simp] theorem tuple_l (l : List PyData) : bop2 .tuple [.list l] = some (.tuple l, false) := rfl
/-- the points of a row are unlike points of a picture -/
structure Row (n : Nat) (ns : List Nat) : Prop where
  lt : ∀ a ∈ ns, a < n
  nd : ns.Nodup
theorem stand_in_ok (hs : s.Ok) (hp : Pic.Ok s p) {ns : List Nat} {i : Nat} (hi : i < p.length) (hn : ∀ a ∈ ns, a < p.length ∧ a ≠ i) (hl : ns.length ≤ 1000) : runK (mkP L) (k + 2) 101 [eS s, eP p, eNs ns, eN i] = .ret (eW (stand s p ns i)) false [] := by
  have lc := fun n => lc_map (P := mkP L) (p := evN (mkP L) (k + 1) (runK (mkP L) (k + 1)) (n + 2)) (elt := .call 100 [.var 0, .var 1, .var 4, .var 3]) (own := [4]) (t := .nm 4) (it := .var 2) (ifs := []) (s := [some (.pl (eS s)), some (.pl (eP p)), some (.pl (eNs ns)), some (.pl (eN i)), none])
    ns eN (fun a => eN (sgn s p a i)) (s1 := [some (.pl (eS s)), some (.pl (eP p)), some (.pl (eNs ns)), some (.pl (eN i)), none]) (by simp [items]) rfl (fun a ha => by
      have h := hn a ha
      simp [lcT, asgR, asgT, testsL, wipeS, evL, sign_in_ok hs hp h.1 hi h.2]) (by show _ ≤ 16777216; omega)
  rw [runK_at (at_p_picturework_stand_in L)]
  simp [runF, p_picturework_stand_in, Pv.start, seqL, deep, evL, opd2, opds, pre, fill, getP, ix_P hi, lc, iosOf, line]
  simp [eW, eNs, stand, Function.comp_def]
theorem okD_N {a : Nat} (h : a < 1000) : okD (eN a) = true := (Fn.nat (Nat.lt_trans h (by decide))).okD (by omega)
theorem okD_Ns {x : List Nat} (h : ∀ a ∈ x, a < 1000) (hl : x.length ≤ 12) : okD (eNs x) = true := (Fn.Ns (fun a ha => Nat.lt_trans (h a ha) (by decide)) hl).okD (by omega)
theorem okD_W {w : Way} (h1 : w.1 < 1000) (h : ∀ x ∈ w.2, x < 1000) (hl : w.2.length ≤ 12) : okD (eW w) = true := (Fn.W (Nat.lt_trans h1 (by decide)) (fun a ha => Nat.lt_trans (h a ha) (by decide)) hl).okD (by omega)
theorem any_eqv (a : Nat) : ∀ x : List Nat, ((x.map eN).any fun z => PyData.eqv z (eN a)) = decide (a ∈ x)
  | [] => by simp
  | b :: x => by
    rw [List.map_cons, List.any_cons, any_eqv a x, eqv_N]
    by_cases h : b = a
    · subst h; simp
    · have h' : ¬ a = b := fun e => h e.symm
      simp [h, h']
theorem notin_Ns {a : Nat} {x : List Nat} (ha : a < 1000) (h : ∀ b ∈ x, b < 1000) (hl : x.length ≤ 12) : cop .notin (eN a) (eNs x) = some (!decide (a ∈ x)) := by
  show (if okD (eN a) && okD (eNs x) then some (!(x.map eN).any fun z => PyData.eqv z (eN a)) else none) = _
  rw [okD_N ha, okD_Ns h hl, any_eqv]
  rfl
theorem in_Ns {a : Nat} {x : List Nat} (ha : a < 1000) (h : ∀ b ∈ x, b < 1000) (hl : x.length ≤ 12) : cop .isin (eN a) (eNs x) = some (decide (a ∈ x)) := by
  show (if okD (eN a) && okD (eNs x) then some ((x.map eN).any fun z => PyData.eqv z (eN a)) else none) = _
  rw [okD_N ha, okD_Ns h hl, any_eqv]
  rfl
theorem add_Ns {x y : List Nat} (h : x.length + y.length ≤ 1000) : bop .add (eNs x) (eNs y) = some (eNs (x ++ y), false) := by
  show (if (x.map eN).length + (y.map eN).length ≤ line then some (PyData.tuple (x.map eN ++ y.map eN), false) else none) = _
  rw [List.length_map, List.length_map, if_pos (by show _ ≤ 16777216; omega), ← List.map_append]
  rfl
/-- rows with one point more -/
def grow (n : Nat) (found : List (List Nat)) : List (List Nat) := found.flatMap fun x => (List.range n).flatMap fun a => if a ∈ x then [] else [x ++ [a]]
theorem mem_grow {n : Nat} {found : List (List Nat)} {y : List Nat} : y ∈ grow n found ↔ ∃ x ∈ found, ∃ a, a < n ∧ a ∉ x ∧ y = x ++ [a] := by
  unfold grow
  simp only [List.mem_flatMap, List.mem_range]
  constructor
  · rintro ⟨x, hx, a, ha, h⟩
    split at h
    · cases h
    · rename_i hn
      exact ⟨x, hx, a, ha, hn, by simpa using h⟩
  · rintro ⟨x, hx, a, ha, hn, rfl⟩
    exact ⟨x, hx, a, ha, by rw [if_neg hn]; simp⟩
theorem len_if {α : Type} (n : Nat) (x : List Nat) (f : Nat → α) : ((List.range n).flatMap fun a => if a ∈ x then [] else [f a]).length ≤ n := by
  have h : ∀ l : List Nat, (l.flatMap fun a => if a ∈ x then [] else [f a]).length ≤ l.length := fun l => by
    induction l with
    | nil => exact Nat.le_refl _
    | cons b l ih =>
      rw [List.flatMap_cons, List.length_append, List.length_cons]
      split
      · simp only [List.length_nil]; omega
      · simp only [List.length_cons, List.length_nil]; omega
  exact Nat.le_trans (h _) (by simp)
theorem len_grow {n : Nat} : ∀ found : List (List Nat), (grow n found).length ≤ found.length * n
  | [] => by simp [grow]
  | x :: found => by
    have ih := len_grow (n := n) found
    unfold grow at ih ⊢
    rw [List.flatMap_cons, List.length_append, List.length_cons, Nat.succ_mul]
    have := len_if n x (fun a => x ++ [a])
    omega
/-- all rows of a length -/
structure Rows (n j : Nat) (found : List (List Nat)) : Prop where
  row : ∀ x ∈ found, x.length = j ∧ Row n x
  len : found.length ≤ n ^ j
theorem Rows.one (n : Nat) : Rows n 0 [[]] := ⟨fun x hx => by
  have : x = [] := by simpa using hx
  subst this
  exact ⟨rfl, ⟨fun a h => (by cases h), List.nodup_nil⟩⟩, by simp⟩
theorem Rows.grow {n j : Nat} {found : List (List Nat)} (h : Rows n j found) : Rows n (j + 1) (grow n found) := by
  refine ⟨fun y hy => ?_, ?_⟩
  · obtain ⟨x, hx, a, ha, hn, rfl⟩ := mem_grow.mp hy
    obtain ⟨h1, h2⟩ := h.row x hx
    refine ⟨by rw [List.length_append, h1]; rfl, fun b hb => ?_, ?_⟩
    · rcases List.mem_append.mp hb with hb | hb
      · exact h2.lt b hb
      · have : b = a := by simpa using hb
        omega
    · rw [List.nodup_append]
      exact ⟨h2.nd, by simp, fun b hb c hc e => by
        have : c = a := by simpa using hc
        exact hn (by rw [← this, ← e]; exact hb)⟩
  · rw [Nat.pow_succ]
    exact Nat.le_trans (len_grow found) (Nat.mul_le_mul_right _ h.len)
theorem Rows.filter {n j : Nat} {found : List (List Nat)} (h : Rows n j found) (b : List Nat → Bool) : Rows n j (found.filter b) :=
  ⟨fun x hx => h.row x (List.mem_filter.mp hx).1, Nat.le_trans (List.length_filter_le _ _) h.len⟩
def growR (n : Nat) (x : List Nat) : List PyData := (List.range n).flatMap fun a => if a ∈ x then [] else [eNs (x ++ [a])]
theorem map_grow (n : Nat) (found : List (List Nat)) : (found.flatMap (growR n)) = (grow n found).map eNs := by
  unfold grow growR
  rw [List.map_flatMap]
  congr 1
  funext x
  rw [List.map_flatMap]
  congr 1
  funext a
  by_cases h : a ∈ x <;> simp [h]
/-- whether two ways are equal -/
def eqW (a b : Way) : Bool := decide (a = b)
theorem eqW_iff {a b : Way} : eqW a b = true ↔ a = b := by unfold eqW; exact decide_eq_true_iff
/-- one way more -/
def plc1 (s : Srt) (q : Pic) (found : List (List Nat)) (w : Way) : List (List Nat) := (grow q.length found).filter fun x => eqW (stand s q x.dropLast (x.getLast?.getD 0)) w
def placings (s : Srt) (small large : Pic) : List (List Nat) := small.foldl (plc1 s large) [[]]
theorem Row.last {n : Nat} {x : List Nat} (h : Row n x) (hx : x ≠ []) : ∃ a, x.getLast? = some a ∧ a < n ∧ ∀ b ∈ x.dropLast, b < n ∧ b ≠ a := by
  obtain ⟨y, a, rfl⟩ : ∃ y a, x = y ++ [a] := ⟨x.dropLast, x.getLast hx, (List.dropLast_concat_getLast hx).symm⟩
  refine ⟨a, by simp, h.lt a (by simp), fun b hb => ?_⟩
  rw [List.dropLast_concat] at hb
  refine ⟨h.lt b (List.mem_append_left _ hb), fun e => ?_⟩
  have := (List.nodup_append.mp h.nd).2.2 b hb a (by simp)
  exact this e
theorem nodup_len : ∀ (l D : List Nat), l.Nodup → (∀ x ∈ l, x ∈ D) → l.length ≤ D.length
  | [], _, _, _ => Nat.zero_le _
  | x :: l, D, hn, hs => by
    obtain ⟨h1, h2⟩ := List.nodup_cons.mp hn
    have hx : x ∈ D := hs x List.mem_cons_self
    have ih := nodup_len l (D.erase x) h2 fun y hy => by
      have hne : y ≠ x := fun e => h1 (e ▸ hy)
      exact (List.mem_erase_of_ne hne).2 (hs y (List.mem_cons_of_mem _ hy))
    have e := List.length_erase_of_mem hx
    have hp : 0 < D.length := List.length_pos_of_mem hx
    rw [List.length_cons]
    omega
theorem Row.len {n : Nat} {x : List Nat} (h : Row n x) : x.length ≤ n := by
  have := nodup_len x (List.range n) h.nd fun a ha => List.mem_range.mpr (h.lt a ha)
  simpa using this
theorem plc1_rows {s : Srt} {q : Pic} {j : Nat} {found : List (List Nat)} {w : Way} (h : Rows q.length j found) : Rows q.length (j + 1) (plc1 s q found w) := h.grow.filter _
theorem Pic.Ok.W (hs : s.Ok) (hp : Pic.Ok s p) (hl : p.length ≤ 12) {w : Way} (hw : w ∈ p) : okD (eW w) = true := by
  obtain ⟨j, hj, e⟩ := List.getElem_of_mem hw
  have e2 : p[j]? = some w := by simp [hj, e]
  obtain ⟨h1, h2, h3⟩ := hp j w e2
  have := hs.kinds
  have := hs.signs
  exact okD_W (by omega) (fun x hx => by have := h3 x hx; omega) (by omega)
theorem stand_okD (hs : s.Ok) (hp : Pic.Ok s p) {ns : List Nat} {i : Nat} (hi : i < p.length) (hn : ∀ a ∈ ns, a < p.length ∧ a ≠ i) (hl : ns.length ≤ 12) : okD (eW (stand s p ns i)) = true := by
  have := hs.kinds
  have := hs.signs
  refine okD_W ?_ (fun x hx => ?_) ?_
  · have := (hp.at_ hi).1
    show (nth p i).1 < _
    omega
  · obtain ⟨a, ha, rfl⟩ := List.mem_map.mp hx
    have := hp.sgn_lt hs (hn a ha).1 hi (hn a ha).2
    omega
  · show (ns.map _).length ≤ 12
    rw [List.length_map]; exact hl
theorem eq_W {a b : Way} (ha : okD (eW a) = true) (hb : okD (eW b) = true) : cop .eq (eW a) (eW b) = some (eqW a b) := by
  show (if okD (eW a) && okD (eW b) then some (PyData.eqv (eW a) (eW b)) else none) = _
  rw [ha, hb, eqv_W]
  rfl
end
end Pv
/-! Sp3: placings. -/
namespace Pv
open PySem GP
section
variable {L : List FnD} {k : Nat} {s : Srt} {p : Pic}
theorem add_Ns1 {x : List Nat} {y : Nat} (h : x.length ≤ 900) : bop .add (eNs x) (.tuple [eN y]) = some (eNs (x ++ [y]), false) := add_Ns (y := [y]) (by simp; omega)
/-- some + (at,) for some in found for at in range(n) if at not in some: slots 6, 7 -/
theorem grow_turn {n N : Nat} {x : List Nat} {a b c d e f : Option Cell} (hx : Row N x) (hN12 : N ≤ 12) {y : Nat} (hy : y < N) :
    Tn [7] [a, b, c, d, e, f, some (.pl (eNs x)), none] (if y ∈ x then [] else [eNs (x ++ [y])]) (lcT (evN (mkP L) k (runK (mkP L) k) (n + 4)) (.bin .add (.var 6) (.tup [.var 7])) (.nm 7) [.cmp .notin (.var 7) (.var 6)] (eN y) [a, b, c, d, e, f, some (.pl (eNs x)), none]) := by
  have hxl : x.length ≤ 12 := Nat.le_trans hx.len hN12
  have hxs : ∀ a ∈ x, a < 1000 := fun a ha => by have := hx.lt a ha; omega
  have nt := notin_Ns (show y < 1000 by omega) hxs hxl
  have ad := add_Ns1 (x := x) (y := y) (by omega)
  by_cases h : y ∈ x
  · simp [lcT, asgR, asgT, testsL, wipeS, opd2, opds, pre, fill, getP, nt, h, bD, tru]
  · simp [lcT, asgR, asgT, testsL, wipeS, opd2, opds, pre, fill, getP, nt, h, bD, tru, evL, line, ad]
theorem grow67 {n : Nat} {q : Pic} {j : Nat} {found : List (List Nat)} {a b e f : Option Cell} (hq : q.length ≤ 12) (hr : Rows q.length j found) (hb : (grow q.length found).length ≤ 1000000) :
    stepE (mkP L) (evN (mkP L) k (runK (mkP L) k) (n + 6)) (.lc2 (.bin .add (.var 6) (.tup [.var 7])) [6, 7] [7] (.nm 6) (.var 3) [] (.nm 7) (.rng [.bi .len [.var 2]]) [.cmp .notin (.var 7) (.var 6)]) [a, b, some (.pl (eP q)), some (.ow (.list (found.map eNs))), e, f, none, none] =
      .ok (.list ((grow q.length found).map eNs), true) [a, b, some (.pl (eP q)), some (.pl (.list (found.map eNs))), e, f, none, none] := by
  rw [lc2_ok found eNs (growR q.length) (s1 := [a, b, some (.pl (eP q)), some (.pl (.list (found.map eNs))), e, f, none, none]), map_grow]
  · simp [items, seqD]
  · rfl
  · intro x hx
    have rg := rng1 (n := q.length) (Nat.le_trans hq (by decide))
    have e1 : lcT2 (evN (mkP L) k (runK (mkP L) k) (n + 6)) (.bin .add (.var 6) (.tup [.var 7])) [7] (.nm 6) [] (.nm 7) (.rng [.bi .len [.var 2]]) [.cmp .notin (.var 7) (.var 6)] (eNs x) (wipeS [a, b, some (.pl (eP q)), some (.pl (.list (found.map eNs))), e, f, none, none] [6, 7]) =
        lcL [7] (lcT (evN (mkP L) k (runK (mkP L) k) (n + 6)) (.bin .add (.var 6) (.tup [.var 7])) (.nm 7) [.cmp .notin (.var 7) (.var 6)]) ((List.range q.length).map eN) [a, b, some (.pl (eP q)), some (.pl (.list (found.map eNs))), e, f, some (.pl (eNs x)), none] := by
      simp [lcT2, asgR, asgT, testsL, wipeS, items, opds, pre, fill, getP, rg]
    rw [e1]
    exact lc_in (List.range q.length) eN _ rfl (fun s' e => wipe_sub (by simp) e) fun y hy => grow_turn (hr.row x hx).2 hq (List.mem_range.mp hy)
  · rw [map_grow, List.length_map]
    exact Nat.le_trans hb (by decide)
/-- [some for some in more if stand_in(sort, large, some[:-1], some[-1]) == way] -/
theorem stand_turn {n : Nat} {q : Pic} {w : Way} {x : List Nat} {b d f g : Option Cell} (hs : s.Ok) (hq : Pic.Ok s q) (hql : q.length ≤ 12) (hw : okD (eW w) = true) (hx : Row q.length x) (hx0 : x ≠ []) :
    Tn [6] [some (.pl (eS s)), b, some (.pl (eP q)), d, some (.pl (eW w)), f, none, g] (if eqW (stand s q x.dropLast (x.getLast?.getD 0)) w then [eNs x] else []) (lcT (evN (mkP L) (k + 2) (runK (mkP L) (k + 2)) (n + 5)) (.var 6) (.nm 6) [.cmp .eq (.call 101 [.var 0, .var 2, .slc (.var 6) none (some (.neg (.int 1))), .idx (.var 6) (.neg (.int 1))]) (.var 4)] (eNs x) [some (.pl (eS s)), b, some (.pl (eP q)), d, some (.pl (eW w)), f, none, g]) := by
  obtain ⟨a, ha, hlt, hne⟩ := hx.last hx0
  have hl := hx.len
  have hdl : x.dropLast.length ≤ 12 := by rw [List.length_dropLast]; omega
  have st := stand_in_ok (L := L) (k := k) hs hq hlt hne (by omega)
  have e := eq_W (stand_okD hs hq hlt hne hdl) hw
  have il := ix_last ha
  have hg : x.getLast?.getD 0 = a := by rw [ha]; rfl
  rw [hg]
  generalize stand s q x.dropLast a = z at st e ⊢
  generalize eqW z w = y at e ⊢
  cases y <;> simp [lcT, asgR, asgT, testsL, wipeS, opd2, opd1, opds, pre, fill, getP, evL, evO, intO, f1, il, st, e, bD, tru]
theorem placings_turn {n : Nat} {q : Pic} {w : Way} {found : List (List Nat)} {j : Nat} {b c5 : Option Cell} {c4 : Option Cell} (hs : s.Ok) (hq : Pic.Ok s q) (hql : q.length ≤ 12) (hw : okD (eW w) = true) (hr : Rows q.length j found) (hb : (grow q.length found).length ≤ 1000000) :
    turnS (evN (mkP L) (k + 2) (runK (mkP L) (k + 2)) (n + 8)) (.nm 4) [.asg (.nm 5) (.lc2 (.bin .add (.var 6) (.tup [.var 7])) [6, 7] [7] (.nm 6) (.var 3) [] (.nm 7) (.rng [.bi .len [.var 2]]) [.cmp .notin (.var 7) (.var 6)]), .asg (.nm 3) (.lc (.var 6) [6] (.nm 6) (.var 5) [.cmp .eq (.call 101 [.var 0, .var 2, .slc (.var 6) none (some (.neg (.int 1))), .idx (.var 6) (.neg (.int 1))]) (.var 4)])] (eW w) [some (.pl (eS s)), b, some (.pl (eP q)), some (.ow (.list (found.map eNs))), c4, c5, none, none] =
      .ok .nx [some (.pl (eS s)), b, some (.pl (eP q)), some (.ow (.list ((plc1 s q found w).map eNs))), some (.pl (eW w)), some (.pl (.list ((grow q.length found).map eNs))), none, none] := by
  have g := hr.grow
  have lc := lc_filt (P := mkP L) (p := evN (mkP L) (k + 2) (runK (mkP L) (k + 2)) (n + 6)) (elt := .var 6) (own := [6]) (t := .nm 6) (it := .var 5) (ifs := [.cmp .eq (.call 101 [.var 0, .var 2, .slc (.var 6) none (some (.neg (.int 1))), .idx (.var 6) (.neg (.int 1))]) (.var 4)])
    (s := [some (.pl (eS s)), b, some (.pl (eP q)), some (.pl (.list (found.map eNs))), some (.pl (eW w)), some (.ow (.list ((grow q.length found).map eNs))), none, none])
    (s1 := [some (.pl (eS s)), b, some (.pl (eP q)), some (.pl (.list (found.map eNs))), some (.pl (eW w)), some (.pl (.list ((grow q.length found).map eNs))), none, none])
    (grow q.length found) eNs (fun x => eqW (stand s q x.dropLast (x.getLast?.getD 0)) w) eNs (by simp [items, seqD]) rfl
    (fun x hx => stand_turn hs hq hql hw (g.row x hx).2 (fun e => by have := (g.row x hx).1; rw [e] at this; cases this)) (Nat.le_trans hb (by decide))
  simp [turnS, asgR, asgT, seqL, grow67 hql hr hb, lc, plc1]
theorem placings_in_ok {q : Pic} (hs : s.Ok) (hp : Pic.Ok s p) (hq : Pic.Ok s q) (hlp : p.length ≤ 12) (hlq : q.length ≤ 12) (hb : q.length ^ p.length ≤ 1000000) :
    runK (mkP L) (k + 3) 102 [eS s, eP p, eP q] = .ret (.list ((placings s p q).map eNs)) true [] := by
  have hpow : ∀ j, j ≤ p.length → q.length ^ j ≤ 1000000 := fun j hj => by
    rcases Nat.eq_zero_or_pos q.length with h0 | h0
    · rw [h0]
      cases j with
      | zero => decide
      | succ j => simp
    · exact Nat.le_trans (Nat.pow_le_pow_right h0 hj) hb
  have lp := forL_inv (body := turnS (evN (mkP L) (k + 2) (runK (mkP L) (k + 2)) 59) (.nm 4) [.asg (.nm 5) (.lc2 (.bin .add (.var 6) (.tup [.var 7])) [6, 7] [7] (.nm 6) (.var 3) [] (.nm 7) (.rng [.bi .len [.var 2]]) [.cmp .notin (.var 7) (.var 6)]), .asg (.nm 3) (.lc (.var 6) [6] (.nm 6) (.var 5) [.cmp .eq (.call 101 [.var 0, .var 2, .slc (.var 6) none (some (.neg (.int 1))), .idx (.var 6) (.neg (.int 1))]) (.var 4)])])
    eW (fun (c : Option Cell × Option Cell) (found : List (List Nat)) => [some (.pl (eS s)), some (.pl (eP p)), some (.pl (eP q)), some (.ow (.list (found.map eNs))), c.1, c.2, none, none]) (plc1 s q) (fun done found => Rows q.length done.length found) p
    (fun done w rest found c e hr => ⟨(_, _), placings_turn (n := 51) hs hq hlq (hp.W hs hlp (by rw [e]; simp)) hr (Nat.le_trans hr.grow.len (hpow _ (by rw [e]; simp))), by rw [List.length_append]; exact plc1_rows hr⟩)
    p [] (none, none) [[]] rfl (Rows.one _)
  obtain ⟨c, e, _⟩ := lp
  rw [runK_at (at_p_likework_placings_in L)]
  have e0 : (PyData.tuple [] : PyData) = eNs [] := rfl
  simp only [List.map_cons, List.map_nil] at e
  simp [runF, p_likework_placings_in, Pv.start, seqL, deep, evL, items, e0, e, iosOf, line, placings]
end
end Pv
/-! Sp4: checks of values, sorts, ways, pictures. -/
namespace Pv
open PySem GP
section
variable {L : List FnD} {k : Nat} {s : Srt} {p : Pic}
def isIntB : PyData → Bool
  | .int _ => true
  | _ => false
def btw : PyData → Int → Int → Bool
  | .int v, lo, hi => decide (lo ≤ v) && decide (v ≤ hi)
  | _, _, _ => false
def tupB : PyData → Int → Int → Bool
  | .tuple l, lo, hi => decide (lo ≤ (l.length : Int)) && decide ((l.length : Int) ≤ hi)
  | _, _, _ => false
theorem is_integer_ok (d : PyData) : runK (mkP L) (k + 1) 104 [d] = .ret (.bool (isIntB d)) false [] := by
  rw [runK_at (at_p_checks_is_integer L)]
  cases d <;> simp [runF, p_checks_is_integer, Pv.start, seqL, deep, andL, opd1, opds, pre, fill, getP, isT, tru, iosOf, isIntB]
theorem is_between_ok (d : PyData) (lo hi : Int) : runK (mkP L) (k + 2) 105 [d, .int lo, .int hi] = .ret (.bool (btw d lo hi)) false [] := by
  rw [runK_at (at_p_checks_is_between L)]
  cases d with
  | int v =>
    by_cases h1 : lo ≤ v
    · simp [runF, p_checks_is_between, Pv.start, seqL, deep, andL, evL, chainB, is_integer_ok, isIntB, cop, tru, iosOf, btw, h1]
    · simp [runF, p_checks_is_between, Pv.start, seqL, deep, andL, evL, chainB, is_integer_ok, isIntB, cop, tru, iosOf, btw, h1]
  | _ => simp [runF, p_checks_is_between, Pv.start, seqL, deep, andL, evL, is_integer_ok, isIntB, tru, iosOf, btw]
theorem is_tuple_ok (d : PyData) (lo hi : Int) : runK (mkP L) (k + 1) 106 [d, .int lo, .int hi] = .ret (.bool (tupB d lo hi)) false [] := by
  rw [runK_at (at_p_checks_is_tuple L)]
  cases d with
  | tuple l =>
    by_cases h1 : lo ≤ (l.length : Int)
    · simp [runF, p_checks_is_tuple, Pv.start, seqL, deep, andL, orL, opd1, opd2, opds, pre, fill, getP, isT, cop, bD, bop2, tru, iosOf, tupB, h1]
    · simp [runF, p_checks_is_tuple, Pv.start, seqL, deep, andL, orL, opd1, opd2, opds, pre, fill, getP, isT, cop, bD, bop2, tru, iosOf, tupB, h1]
  | _ => simp [runF, p_checks_is_tuple, Pv.start, seqL, deep, andL, opd1, opds, pre, fill, getP, isT, tru, iosOf, tupB]
theorem is_kind_in_ok (d : PyData) : runK (mkP L) (k + 3) 110 [eS s, d] = .ret (.bool (btw d 0 ((s.kinds : Int) - 1))) false [] := by
  rw [runK_at (at_p_sorts_is_kind_in L)]
  simp [runF, p_sorts_is_kind_in, Pv.start, seqL, deep, evL, opd2, opds, pre, fill, getP, bop, is_between_ok, iosOf]
theorem is_sign_in_ok (d : PyData) : runK (mkP L) (k + 3) 111 [eS s, d] = .ret (.bool (btw d 0 ((s.signs : Int) - 1))) false [] := by
  rw [runK_at (at_p_sorts_is_sign_in L)]
  simp [runF, p_sorts_is_sign_in, Pv.start, seqL, deep, evL, opd2, opds, pre, fill, getP, bop, is_between_ok, iosOf]
theorem btw_N (a n : Nat) : btw (eN a) 0 ((n : Int) - 1) = decide (a < n) := by
  show (decide ((0 : Int) ≤ a) && decide ((a : Int) ≤ (n : Int) - 1)) = _
  by_cases h : a < n
  · rw [decide_eq_true (show (0 : Int) ≤ a by omega), decide_eq_true (show (a : Int) ≤ (n : Int) - 1 by omega), decide_eq_true h]; rfl
  · rw [decide_eq_false (show ¬ (a : Int) ≤ (n : Int) - 1 by omega), decide_eq_false h, Bool.and_false]
theorem boolsD_map {α : Type} (l : List α) (f : α → Bool) : boolsD (l.map fun x => PyData.bool (f x)) = some (l.map f) := by
  induction l with
  | nil => rfl
  | cons x l ih =>
    show (boolsD (l.map fun x => PyData.bool (f x))).map (f x :: ·) = _
    rw [ih]; rfl
theorem all_map {α : Type} (l : List α) (f : α → Bool) : bop2 .all [.list (l.map fun x => PyData.bool (f x))] = some (.bool (l.all f), false) := by
  show (boolsD (l.map fun x => PyData.bool (f x))).map (fun bs => (PyData.bool (bs.all id), false)) = _
  rw [boolsD_map]
  simp [List.all_map]
theorem any_map {α : Type} (l : List α) (f : α → Bool) : bop2 .any [.list (l.map fun x => PyData.bool (f x))] = some (.bool (l.any f), false) := by
  show (boolsD (l.map fun x => PyData.bool (f x))).map (fun bs => (PyData.bool (bs.any id), false)) = _
  rw [boolsD_map]
  simp [List.any_map]
/-- whether a way is one over so many points -/
def wayB (s : Srt) (n : Nat) (w : Way) : Bool := decide (w.1 < s.kinds) && decide (w.2.length = n) && w.2.all fun x => decide (x < s.signs)
theorem tupB_W (w : Way) : tupB (eW w) 2 2 = true := rfl
theorem tupB_Ns (l : List Nat) (n : Nat) : tupB (eNs l) n n = decide (l.length = n) := by
  show (decide ((n : Int) ≤ ((l.map eN).length : Int)) && decide (((l.map eN).length : Int) ≤ n)) = _
  rw [List.length_map]
  by_cases h : l.length = n
  · rw [decide_eq_true (show (n : Int) ≤ (l.length : Int) by omega), decide_eq_true (show (l.length : Int) ≤ n by omega), decide_eq_true h]; rfl
  · rw [decide_eq_false h]
    rcases Nat.lt_or_ge l.length n with h2 | h2
    · rw [decide_eq_false (show ¬ (n : Int) ≤ (l.length : Int) by omega)]; rfl
    · rw [decide_eq_false (show ¬ (l.length : Int) ≤ (n : Int) by omega), Bool.and_false]
theorem is_way_in_ok (n : Nat) (w : Way) (hl : w.2.length ≤ 1000) : runK (mkP L) (k + 4) 112 [eS s, eN n, eW w] = .ret (.bool (wayB s n w)) false [] := by
  rw [runK_at (at_p_pictures_is_way_in L)]
  have lc := fun n' => lc_map (P := mkP L) (p := evN (mkP L) (k + 3) (runK (mkP L) (k + 3)) (n' + 2)) (elt := .call 111 [.var 0, .var 3]) (own := [3]) (t := .nm 3) (it := .idx (.var 2) (.int 1)) (ifs := []) (s := [some (.pl (eS s)), some (.pl (eN n)), some (.pl (eW w)), none]) (s1 := [some (.pl (eS s)), some (.pl (eN n)), some (.pl (eW w)), none])
    w.2 eN (fun x => .bool (decide (x < s.signs))) (by simp [items, opd2, opds, pre, fill, getP]) rfl (fun x hx => by
      simp [lcT, asgR, asgT, testsL, wipeS, evL, is_sign_in_ok, btw_N]) (Nat.le_trans hl (by decide))
  by_cases h1 : w.1 < s.kinds
  · by_cases h2 : w.2.length = n
    · simp [runF, p_pictures_is_way_in, Pv.start, seqL, deep, evL, anyT, opd2, opds, pre, fill, getP, is_tuple_ok, is_kind_in_ok, tupB_W, tupB_Ns, btw_N, tru, iosOf, lc, all_map, wayB, h1, h2]
    · simp [runF, p_pictures_is_way_in, Pv.start, seqL, deep, evL, anyT, opd2, opds, pre, fill, getP, is_tuple_ok, is_kind_in_ok, tupB_W, tupB_Ns, btw_N, tru, iosOf, wayB, h1, h2]
  · simp [runF, p_pictures_is_way_in, Pv.start, seqL, deep, evL, anyT, opd2, opds, pre, fill, getP, is_tuple_ok, is_kind_in_ok, tupB_W, tupB_Ns, btw_N, tru, iosOf, wayB, h1]
/-- whether a tuple of ways is a picture -/
def picB (s : Srt) (p : Pic) : Bool := decide (p.length ≤ 12) && p.zipIdx.all fun q => wayB s q.2 q.1
theorem picB_iff : picB s p = true ↔ p.length ≤ 12 ∧ Pic.Ok s p := by
  unfold picB
  simp only [Bool.and_eq_true, decide_eq_true_eq, List.all_eq_true, and_congr_right_iff]
  intro _
  constructor
  · intro h j w e
    have q := h (w, j) (by rw [List.mk_mem_zipIdx_iff_getElem?]; exact e)
    simp only [wayB, Bool.and_eq_true, decide_eq_true_eq, List.all_eq_true] at q
    exact ⟨q.1.1, q.1.2, q.2⟩
  · intro h q hq
    obtain ⟨w, j⟩ := q
    rw [List.mk_mem_zipIdx_iff_getElem?] at hq
    obtain ⟨h1, h2, h3⟩ := h j w hq
    simp only [wayB, Bool.and_eq_true, decide_eq_true_eq, List.all_eq_true]
    exact ⟨⟨h1, h2⟩, h3⟩
theorem is_picture_in_ok (p : Pic) (hl : ∀ w ∈ p, w.2.length ≤ 1000) : runK (mkP L) (k + 5) 113 [eS s, eP p] = .ret (.bool (picB s p)) false [] := by
  rw [runK_at (at_p_pictures_is_picture_in L)]
  have tb : tupB (eP p) 0 12 = decide (p.length ≤ 12) := by
    show (decide ((0 : Int) ≤ ((p.map eW).length : Int)) && decide (((p.map eW).length : Int) ≤ 12)) = _
    rw [List.length_map, decide_eq_true (show (0 : Int) ≤ (p.length : Int) by omega), Bool.true_and]
    by_cases h : p.length ≤ 12
    · rw [decide_eq_true (show (p.length : Int) ≤ 12 by omega), decide_eq_true h]
    · rw [decide_eq_false (show ¬ (p.length : Int) ≤ 12 by omega), decide_eq_false h]
  by_cases h1 : p.length ≤ 12
  · have lc := fun n' => lc_map (P := mkP L) (p := evN (mkP L) (k + 4) (runK (mkP L) (k + 4)) (n' + 2)) (elt := .call 112 [.var 0, .var 2, .var 3]) (own := [2, 3]) (t := .tp [2, 3]) (it := .enm (.var 1)) (ifs := []) (s := [some (.pl (eS s)), some (.pl (eP p)), none, none]) (s1 := [some (.pl (eS s)), some (.pl (eP p)), none, none])
      p.zipIdx (fun q => PyData.tuple [.int ((q.2 : Nat) : Int), eW q.1]) (fun q => .bool (wayB s q.2 q.1)) (by simp [items, enumD_map]) rfl (fun q hq => by
        have hw : q.1 ∈ p := List.fst_mem_of_mem_zipIdx hq
        simp [lcT, asgR, asgT, setAll, testsL, wipeS, evL, is_way_in_ok _ _ (hl _ hw)]) (by rw [List.length_zipIdx]; exact Nat.le_trans h1 (by decide))
    simp [runF, p_pictures_is_picture_in, Pv.start, seqL, deep, evL, opds, pre, fill, getP, is_tuple_ok, tb, tru, iosOf, lc, all_map, picB, h1]
  · simp [runF, p_pictures_is_picture_in, Pv.start, seqL, deep, evL, opds, pre, fill, getP, is_tuple_ok, tb, tru, iosOf, picB, h1]
/-- what is no tuple is no picture -/
theorem is_picture_in_no {d : PyData} (hd : ∀ l, d ≠ .tuple l) : runK (mkP L) (k + 5) 113 [eS s, d] = .ret (.bool false) false [] := by
  rw [runK_at (at_p_pictures_is_picture_in L)]
  have tb : tupB d 0 12 = false := by
    cases d with
    | tuple l => exact (hd l rfl).elim
    | _ => rfl
  simp [runF, p_pictures_is_picture_in, Pv.start, seqL, deep, evL, opds, pre, fill, getP, is_tuple_ok, tb, tru, iosOf]
theorem is_sort_ok (hs : s.Ok) : runK (mkP L) (k + 4) 108 [eS s] = .ret (.bool true) false [] := by
  rw [runK_at (at_p_sorts_is_sort L)]
  have h0 := hs.kinds
  have h1 := hs.signs
  have h2 := hs.len
  have t3 : tupB (eS s) 3 3 = true := rfl
  have b1 : btw (eN s.kinds) 1 2 = true := by
    show (decide ((1 : Int) ≤ s.kinds) && decide ((s.kinds : Int) ≤ 2)) = true
    rw [decide_eq_true (show (1 : Int) ≤ s.kinds by omega), decide_eq_true (show (s.kinds : Int) ≤ 2 by omega)]; rfl
  have lc1 := fun n' x => lc_map (P := mkP L) (p := evN (mkP L) (k + 3) (runK (mkP L) (k + 3)) (n' + 4)) (elt := .call 105 [.var 2, .int 0, .bin .sub (.idx (.var 0) (.int 1)) (.int 1)]) (own := [2]) (t := .nm 2) (it := .idx (.var 0) (.int 2)) (ifs := []) (s := [some (.pl (eS s)), x, none, none]) (s1 := [some (.pl (eS s)), x, none, none])
    s.trn eN (fun x => .bool (decide (x < s.signs))) (by simp [items, opd2, opds, pre, fill, getP]) rfl (fun x hx => by
      simp [lcT, asgR, asgT, testsL, wipeS, evL, opd2, opds, pre, fill, getP, bop, is_between_ok, btw_N]) (Nat.le_trans (show s.trn.length ≤ 4 by omega) (by decide))
  have al1 : (s.trn.all fun x => decide (x < s.signs)) = true := List.all_eq_true.mpr fun x hx => decide_eq_true (hs.lt x hx)
  have rg := rng1 (n := s.signs) (Nat.le_trans (show s.signs ≤ 4 by omega) (by decide))
  have lc2 := fun n' x => lc_map (P := mkP L) (p := evN (mkP L) (k + 3) (runK (mkP L) (k + 3)) (n' + 6)) (elt := .cmp .eq (.idx (.idx (.var 0) (.int 2)) (.idx (.idx (.var 0) (.int 2)) (.var 3))) (.var 3)) (own := [3]) (t := .nm 3) (it := .rng [.idx (.var 0) (.int 1)]) (ifs := []) (s := [some (.pl (eS s)), x, none, none]) (s1 := [some (.pl (eS s)), x, none, none])
    (List.range s.signs) eN (fun x => .bool true) (by simp [items, opd2, opds, pre, fill, getP, rg]) rfl (fun i hi => by
      have hi : i < s.signs := List.mem_range.mp hi
      have i1 := ix_Ns (l := s.trn) (i := i) (by omega)
      have i2 := ix_Ns (l := s.trn) (i := nth s.trn i) (by rw [h2]; exact hs.lt _ (nth_mem (by omega)))
      rw [hs.inv i hi] at i2
      have ok : okD (eN i) = true := okD_N (by omega)
      have ee : cop .eq (eN i) (eN i) = some true := by
        show (if okD (eN i) && okD (eN i) then some (PyData.eqv (eN i) (eN i)) else none) = _
        rw [ok, eqv_N]; simp
      simp [lcT, asgR, asgT, testsL, wipeS, evL, opd2, opds, pre, fill, getP, i1, i2, ee, bD]) (by rw [List.length_range]; exact Nat.le_trans (show s.signs ≤ 4 by omega) (by decide))
  have al2 : bop2 .all [.list ((List.range s.signs).map fun x => PyData.bool true)] = some (.bool true, false) := by
    rw [all_map (List.range s.signs) (fun _ => true)]; simp
  have ok1 : okD (eN s.kinds) = true := okD_N (by omega)
  have ok2 : okD (.int 1) = true := by decide
  by_cases hk : s.kinds = 1
  · have e1 : cop .eq (eN s.kinds) (.int 1) = some true := by
      show (if okD (eN s.kinds) && okD (.int 1) then some (((s.kinds : Int) == 1)) else none) = _
      rw [ok1, ok2, hk]; rfl
    have b2 : btw (eN s.signs) 1 4 = true := by
      show (decide ((1 : Int) ≤ s.signs) && decide ((s.signs : Int) ≤ 4)) = true
      rw [decide_eq_true (show (1 : Int) ≤ s.signs by omega), decide_eq_true (show (s.signs : Int) ≤ 4 by omega)]; rfl
    simp [runF, p_sorts_is_sort, Pv.start, seqL, deep, evL, anyT, opd2, opds, pre, fill, getP, is_tuple_ok, is_between_ok, t3, b1, b2, e1, bD, tru, tupB_Ns, h2, lc1, lc2, all_map, al1, al2, iosOf]
  · have e1 : cop .eq (eN s.kinds) (.int 1) = some false := by
      show (if okD (eN s.kinds) && okD (.int 1) then some (((s.kinds : Int) == 1)) else none) = _
      rw [ok1, ok2, show s.kinds = 2 by omega]; rfl
    have b2 : btw (eN s.signs) 1 3 = true := by
      show (decide ((1 : Int) ≤ s.signs) && decide ((s.signs : Int) ≤ 3)) = true
      have := h1.2.2 hk
      rw [decide_eq_true (show (1 : Int) ≤ s.signs by omega), decide_eq_true (show (s.signs : Int) ≤ 3 by omega)]; rfl
    simp [runF, p_sorts_is_sort, Pv.start, seqL, deep, evL, anyT, opd2, opds, pre, fill, getP, is_tuple_ok, is_between_ok, t3, b1, b2, e1, bD, tru, tupB_Ns, h2, lc1, lc2, all_map, al1, al2, iosOf]
end
end Pv
/-! Sp5: rejected objects built anew; the likeness module's functions. -/
namespace Pv
open PySem GP
section
variable {L : List FnD} {k : Nat} {s : Srt} {p : Pic}
theorem in_all : ∀ {l : List PyData} {x : PyData}, x ∈ l → PyData.canLayAll0 l = true → x.canLay0 = true ∧ x.depth ≤ PyData.depthAll l ∧ x.weight ≤ PyData.weightAll l
  | y :: l, x, h, c => by
    rw [PyData.canLayAll0, Bool.and_eq_true] at c
    rw [PyData.depthAll, PyData.weightAll]
    rcases List.mem_cons.mp h with rfl | h
    · exact ⟨c.1, Nat.le_max_left _ _, by omega⟩
    · obtain ⟨a, b, d⟩ := in_all h c.2
      exact ⟨a, Nat.le_trans b (Nat.le_max_right _ _), by omega⟩
theorem len_wt : ∀ l : List PyData, l.length ≤ PyData.weightAll l
  | [] => Nat.zero_le _
  | x :: l => by
    rw [PyData.weightAll, List.length_cons]
    have := len_wt l
    omega
theorem anew_ok : ∀ (k : Nat) (d : PyData), d.canLay0 = true → d.depth < k → d.weight ≤ 1000000 → ∃ fr, runK (mkP L) k 107 [d] = .ret d fr []
  | 0, d, _, h, _ => by omega
  | k + 1, d, c, h, w => by
    have ih := anew_ok k
    have lc : ∀ (l : List PyData) (D : PyData) (n : Nat), (∀ x ∈ l, x.canLay0 = true ∧ x.depth < k ∧ x.weight ≤ 1000000) → seqD D = some l → l.length ≤ 1000000 →
        stepE (mkP L) (evN (mkP L) k (runK (mkP L) k) (n + 2)) (.lc (.call 107 [.var 1]) [1] (.nm 1) (.var 0) []) [some (.pl D), none] = .ok (.list l, true) [some (.pl D), none] := fun l D n hl hD hz => by
      have := lc_map (P := mkP L) (p := evN (mkP L) k (runK (mkP L) k) (n + 2)) (elt := .call 107 [.var 1]) (own := [1]) (t := .nm 1) (it := .var 0) (ifs := []) (s := [some (.pl D), none]) (s1 := [some (.pl D), none])
        l (fun x => x) (fun x => x) (by simp [items, hD]) rfl (fun x hx => by
          obtain ⟨a, b, e⟩ := hl x hx
          obtain ⟨fr, e⟩ := ih x a b e
          simp [lcT, asgR, asgT, testsL, wipeS, evL, e]) (Nat.le_trans hz (by decide))
      simpa using this
    rw [runK_at (at_p_checks_anew L)]
    cases d with
    | list l =>
      rw [PyData.canLay0] at c
      rw [PyData.depth] at h
      rw [PyData.weight] at w
      have lc := lc l (.list l) 55 (fun x hx => by
        obtain ⟨a, b, e⟩ := in_all hx c
        exact ⟨a, by omega, by omega⟩) rfl (Nat.le_trans (len_wt l) w)
      exact ⟨true, by simp [runF, p_checks_anew, Pv.start, seqL, deep, opd1, opds, pre, fill, getP, isT, tru, iosOf, lc]⟩
    | tuple l =>
      rw [PyData.canLay0] at c
      rw [PyData.depth] at h
      rw [PyData.weight] at w
      have lc := lc l (.tuple l) 54 (fun x hx => by
        obtain ⟨a, b, e⟩ := in_all hx c
        exact ⟨a, by omega, by omega⟩) rfl (Nat.le_trans (len_wt l) w)
      exact ⟨false, by simp [runF, p_checks_anew, Pv.start, seqL, deep, opd1, opds, pre, fill, getP, isT, tru, iosOf, lc]⟩
    | _ => exact ⟨false, by simp [runF, p_checks_anew, Pv.start, seqL, deep, opd1, opds, pre, fill, getP, isT, tru, iosOf]⟩
theorem need_sort_ok (hs : s.Ok) : runK (mkP L) (k + 5) 109 [eS s] = .ret .none false [] := by
  rw [runK_at (at_p_sorts_need_sort L)]
  simp [runF, p_sorts_need_sort, Pv.start, seqL, deep, evL, is_sort_ok hs, tru, iosOf]
theorem Pic.Ok.short (h : Pic.Ok s p) (hl : p.length ≤ 12) : ∀ w ∈ p, w.2.length ≤ 1000 := fun w hw => by
  obtain ⟨j, hj, e⟩ := List.getElem_of_mem hw
  have := (h j w (by simp [hj, e])).2.1
  omega
theorem need_picture_ok (hp : Pic.Ok s p) (hl : p.length ≤ 12) : runK (mkP L) (k + 6) 114 [eS s, eP p] = .ret .none false [] := by
  rw [runK_at (at_p_pictures_need_picture L)]
  have e := picB_iff.mpr ⟨hl, hp⟩
  simp [runF, p_pictures_need_picture, Pv.start, seqL, deep, evL, is_picture_in_ok p (hp.short hl), e, tru, iosOf]
theorem need_picture_no {d : PyData} (hd : runK (mkP L) (k + 9) 113 [eS s, d] = .ret (.bool false) false []) (c : d.canLay0 = true) (h : d.depth ≤ 8) (w : d.weight ≤ 1000000) : runK (mkP L) (k + 10) 114 [eS s, d] = .err 5 d [] := by
  rw [runK_at (at_p_pictures_need_picture L)]
  obtain ⟨fr, e⟩ := anew_ok (L := L) (k + 9) d c (by omega) w
  simp [runF, p_pictures_need_picture, Pv.start, seqL, deep, evL, hd, e, tru, iosOf, show ¬ (k + 9 < 4) by omega]
theorem need_two_ok {q : Pic} (hs : s.Ok) (hp : Pic.Ok s p) (hl : p.length ≤ 12) (hq : Pic.Ok s q) (hql : q.length ≤ 12) : runK (mkP L) (k + 7) 116 [eS s, eP p, eP q] = .ret .none false [] := by
  rw [runK_at (at_p_likeness_need_two L)]
  simp [runF, p_likeness_need_two, Pv.start, seqL, deep, evL, need_sort_ok hs, need_picture_ok hp hl, need_picture_ok hq hql, iosOf]
theorem need_two_one {d e : PyData} (hs : s.Ok) (hd : runK (mkP L) (k + 10) 114 [eS s, d] = .err 5 d []) : runK (mkP L) (k + 11) 116 [eS s, d, e] = .err 5 d [] := by
  rw [runK_at (at_p_likeness_need_two L)]
  simp [runF, p_likeness_need_two, Pv.start, seqL, deep, evL, need_sort_ok hs, hd, iosOf]
theorem need_two_other {d : PyData} (hs : s.Ok) (hp : Pic.Ok s p) (hl : p.length ≤ 12) (hd : runK (mkP L) (k + 10) 114 [eS s, d] = .err 5 d []) : runK (mkP L) (k + 11) 116 [eS s, eP p, d] = .err 5 d [] := by
  rw [runK_at (at_p_likeness_need_two L)]
  simp [runF, p_likeness_need_two, Pv.start, seqL, deep, evL, need_sort_ok hs, need_picture_ok hp hl, hd, iosOf]
/-- the likenesses of two pictures -/
def likes (s : Srt) (p q : Pic) : List (List Nat) := if p.length = q.length then placings s p q else []
theorem ne_len (m n : Nat) : cop .ne (eN m) (eN n) = some (!decide (m = n)) := by
  have ok : ∀ i : Nat, okD (eN i) = true := fun i => rfl
  show (if okD (eN m) && okD (eN n) then some (!PyData.eqv (eN m) (eN n)) else none) = _
  rw [ok, ok, eqv_N]
  rfl
theorem all_likenesses_ok {q : Pic} (hs : s.Ok) (hp : Pic.Ok s p) (hq : Pic.Ok s q) (hlp : p.length ≤ 12) (hlq : q.length ≤ 12) (hb : p.length = q.length → q.length ^ p.length ≤ 1000000) : runK (mkP L) (k + 4) 115 [eS s, eP p, eP q] = .ret (.list ((likes s p q).map eNs)) true [] := by
  rw [runK_at (at_p_likeness_all_likenesses L)]
  by_cases h : p.length = q.length
  · simp [runF, p_likeness_all_likenesses, Pv.start, seqL, deep, evL, opd2, opds, pre, fill, getP, ne_len, h, bD, tru, iosOf, placings_in_ok hs hp hq hlp hlq (hb h), likes]
  · simp [runF, p_likeness_all_likenesses, Pv.start, seqL, deep, evL, opd2, opds, pre, fill, getP, ne_len, h, bD, tru, iosOf, likes, line]
theorem likenesses_ok {q : Pic} (hs : s.Ok) (hp : Pic.Ok s p) (hq : Pic.Ok s q) (hlp : p.length ≤ 12) (hlq : q.length ≤ 12) (hb : p.length = q.length → q.length ^ p.length ≤ 1000000) : runK (mkP L) (k + 8) 117 [eS s, eP p, eP q] = .ret (.tuple ((likes s p q).map eNs)) false [] := by
  rw [runK_at (at_p_likeness_likenesses L)]
  simp [runF, p_likeness_likenesses, Pv.start, seqL, deep, evL, opds, pre, fill, getP, need_two_ok hs hp hlp hq hlq, all_likenesses_ok hs hp hq hlp hlq hb, iosOf]
theorem likenesses_err {d e : PyData} {c : Nat} {v : PyData} (h : runK (mkP L) (k + 11) 116 [eS s, d, e] = .err c v []) : runK (mkP L) (k + 12) 117 [eS s, d, e] = .err c v [] := by
  rw [runK_at (at_p_likeness_likenesses L)]
  simp [runF, p_likeness_likenesses, Pv.start, seqL, deep, evL, h, iosOf]
def headD (l : List (List Nat)) : PyData := match l with
  | [] => .none
  | x :: _ => eNs x
theorem likeness_ok {q : Pic} (hs : s.Ok) (hp : Pic.Ok s p) (hq : Pic.Ok s q) (hlp : p.length ≤ 12) (hlq : q.length ≤ 12) (hb : p.length = q.length → q.length ^ p.length ≤ 1000000) : ∃ fr, runK (mkP L) (k + 8) 118 [eS s, eP p, eP q] = .ret (headD (likes s p q)) fr [] := by
  rw [runK_at (at_p_likeness_likeness L)]
  refine ⟨false, ?_⟩
  cases e : likes s p q with
  | nil => simp [runF, p_likeness_likeness, Pv.start, seqL, deep, evL, opds, pre, fill, getP, need_two_ok hs hp hlp hq hlq, all_likenesses_ok hs hp hq hlp hlq hb, e, tru, iosOf, headD]
  | cons x l => simp [runF, p_likeness_likeness, Pv.start, seqL, deep, evL, opd2, opds, pre, fill, getP, need_two_ok hs hp hlp hq hlq, all_likenesses_ok hs hp hq hlp hlq hb, e, tru, iosOf, headD]
theorem likeness_err {d e : PyData} {c : Nat} {v : PyData} (h : runK (mkP L) (k + 11) 116 [eS s, d, e] = .err c v []) : runK (mkP L) (k + 12) 118 [eS s, d, e] = .err c v [] := by
  rw [runK_at (at_p_likeness_likeness L)]
  simp [runF, p_likeness_likeness, Pv.start, seqL, deep, evL, h, iosOf]
theorem placings_ok {q : Pic} (hs : s.Ok) (hp : Pic.Ok s p) (hq : Pic.Ok s q) (hlp : p.length ≤ 12) (hlq : q.length ≤ 12) (hb : q.length ^ p.length ≤ 1000000) : runK (mkP L) (k + 8) 120 [eS s, eP p, eP q] = .ret (.tuple ((placings s p q).map eNs)) false [] := by
  rw [runK_at (at_p_likeness_placings L)]
  simp [runF, p_likeness_placings, Pv.start, seqL, deep, evL, opds, pre, fill, getP, need_two_ok hs hp hlp hq hlq, placings_in_ok hs hp hq hlp hlq hb, iosOf]
theorem placings_err {d e : PyData} {c : Nat} {v : PyData} (h : runK (mkP L) (k + 11) 116 [eS s, d, e] = .err c v []) : runK (mkP L) (k + 12) 120 [eS s, d, e] = .err c v [] := by
  rw [runK_at (at_p_likeness_placings L)]
  simp [runF, p_likeness_placings, Pv.start, seqL, deep, evL, h, iosOf]
end
end Pv
/-! Ord: the order of data, of rows, of ways, of pictures; sorting. -/
namespace Pv
open PySem PySem.W
mutual
theorem kt_inj : ∀ (d e : PyData) (r r' : List (Int ⊕ List Nat)), alike d e = true → keyToks d ++ r = keyToks e ++ r' → d = e ∧ r = r'
  | .none, .none, r, r', _, h => ⟨rfl, h⟩
  | .bool a, .bool b, r, r', _, h => by
    have h : (Sum.inl (if a = true then (1 : Int) else 0) : Int ⊕ List Nat) :: r = Sum.inl (if b = true then 1 else 0) :: r' := h
    obtain ⟨h1, h2⟩ := List.cons.inj h
    refine ⟨?_, h2⟩
    cases a <;> cases b <;> first | rfl | (cases h1)
  | .int a, .int b, r, r', _, h => by
    have h : (Sum.inl a : Int ⊕ List Nat) :: r = Sum.inl b :: r' := h
    obtain ⟨h1, h2⟩ := List.cons.inj h
    cases h1
    exact ⟨rfl, h2⟩
  | .str a, .str b, r, r', _, h => by
    have h : (Sum.inr a.cps.toList : Int ⊕ List Nat) :: r = Sum.inr b.cps.toList :: r' := h
    obtain ⟨h1, h2⟩ := List.cons.inj h
    exact ⟨by rw [str_of_cps (Sum.inr.inj h1)], h2⟩
  | .list a, .list b, r, r', al, h => by
    rw [alike] at al
    obtain ⟨h1, h2⟩ := kt_injAll a b r r' al h
    exact ⟨by rw [h1], h2⟩
  | .tuple a, .tuple b, r, r', al, h => by
    rw [alike] at al
    obtain ⟨h1, h2⟩ := kt_injAll a b r r' al h
    exact ⟨by rw [h1], h2⟩
  | .dict _, e, r, r', al, _ => by cases e <;> simp [alike] at al
  | .none, .bool _, _, _, al, _ => by simp [alike] at al
  | .none, .int _, _, _, al, _ => by simp [alike] at al
  | .none, .str _, _, _, al, _ => by simp [alike] at al
  | .none, .list _, _, _, al, _ => by simp [alike] at al
  | .none, .tuple _, _, _, al, _ => by simp [alike] at al
  | .none, .dict _, _, _, al, _ => by simp [alike] at al
  | .bool _, .none, _, _, al, _ => by simp [alike] at al
  | .bool _, .int _, _, _, al, _ => by simp [alike] at al
  | .bool _, .str _, _, _, al, _ => by simp [alike] at al
  | .bool _, .list _, _, _, al, _ => by simp [alike] at al
  | .bool _, .tuple _, _, _, al, _ => by simp [alike] at al
  | .bool _, .dict _, _, _, al, _ => by simp [alike] at al
  | .int _, .none, _, _, al, _ => by simp [alike] at al
  | .int _, .bool _, _, _, al, _ => by simp [alike] at al
  | .int _, .str _, _, _, al, _ => by simp [alike] at al
  | .int _, .list _, _, _, al, _ => by simp [alike] at al
  | .int _, .tuple _, _, _, al, _ => by simp [alike] at al
  | .int _, .dict _, _, _, al, _ => by simp [alike] at al
  | .str _, .none, _, _, al, _ => by simp [alike] at al
  | .str _, .bool _, _, _, al, _ => by simp [alike] at al
  | .str _, .int _, _, _, al, _ => by simp [alike] at al
  | .str _, .list _, _, _, al, _ => by simp [alike] at al
  | .str _, .tuple _, _, _, al, _ => by simp [alike] at al
  | .str _, .dict _, _, _, al, _ => by simp [alike] at al
  | .list _, .none, _, _, al, _ => by simp [alike] at al
  | .list _, .bool _, _, _, al, _ => by simp [alike] at al
  | .list _, .int _, _, _, al, _ => by simp [alike] at al
  | .list _, .str _, _, _, al, _ => by simp [alike] at al
  | .list _, .tuple _, _, _, al, _ => by simp [alike] at al
  | .list _, .dict _, _, _, al, _ => by simp [alike] at al
  | .tuple _, .none, _, _, al, _ => by simp [alike] at al
  | .tuple _, .bool _, _, _, al, _ => by simp [alike] at al
  | .tuple _, .int _, _, _, al, _ => by simp [alike] at al
  | .tuple _, .str _, _, _, al, _ => by simp [alike] at al
  | .tuple _, .list _, _, _, al, _ => by simp [alike] at al
  | .tuple _, .dict _, _, _, al, _ => by simp [alike] at al
theorem kt_injAll : ∀ (a b : List PyData) (r r' : List (Int ⊕ List Nat)), alikeAll a b = true → keyToksAll a ++ r = keyToksAll b ++ r' → a = b ∧ r = r'
  | [], [], r, r', _, h => ⟨rfl, (List.cons.inj (show (Sum.inl (0 : Int) : Int ⊕ List Nat) :: r = Sum.inl 0 :: r' from h)).2⟩
  | x :: a, y :: b, r, r', al, h => by
    obtain ⟨al1, al2⟩ := alike_all_cons al
    have h : (Sum.inl (1 : Int) : Int ⊕ List Nat) :: ((keyToks x ++ keyToksAll a) ++ r) = Sum.inl 1 :: ((keyToks y ++ keyToksAll b) ++ r') := h
    have h := (List.cons.inj h).2
    rw [List.append_assoc, List.append_assoc] at h
    obtain ⟨h1, h2⟩ := kt_inj x y _ _ al1 h
    obtain ⟨h3, h4⟩ := kt_injAll a b r r' al2 h2
    exact ⟨by rw [h1, h3], h4⟩
  | [], y :: b, r, r', _, h => by
    have h : (Sum.inl (0 : Int) : Int ⊕ List Nat) :: r = Sum.inl 1 :: ((keyToks y ++ keyToksAll b) ++ r') := h
    exact absurd (Sum.inl.inj (List.cons.inj h).1) (by decide)
  | x :: a, [], r, r', _, h => by
    have h : (Sum.inl (1 : Int) : Int ⊕ List Nat) :: ((keyToks x ++ keyToksAll a) ++ r) = Sum.inl 0 :: r' := h
    exact absurd (Sum.inl.inj (List.cons.inj h).1) (by decide)
end
theorem dl_total {a b : PyData} (al : alike a b = true) (h1 : dataLt a b = false) (h2 : dataLt b a = false) : a = b := by
  have e : keyToks a = keyToks b := PyProof.Rows.lex_total (O := PyProof.Rows.itemOrd) _ _ h1 h2
  exact (kt_inj a b [] [] al (by rw [List.append_nil, List.append_nil]; exact e)).1
theorem dl_irrefl (a : PyData) : dataLt a a = false := PyProof.Rows.lex_irrefl (O := PyProof.Rows.itemOrd) _
theorem dl_trans {a b c : PyData} (h1 : dataLt a b = true) (h2 : dataLt b c = true) : dataLt a c = true := PyProof.Rows.lex_trans (O := PyProof.Rows.itemOrd) _ _ _ h1 h2
theorem dl_asymm {a b : PyData} (h : dataLt a b = true) : dataLt b a = false := by
  cases e : dataLt b a with
  | false => rfl
  | true => have := dl_trans h e; rw [dl_irrefl] at this; cases this
theorem dl_neg {a b c : PyData} (h : dataLt a c = true) : dataLt a b = true ∨ dataLt b c = true := PyProof.Rows.lex_negTrans (O := PyProof.Rows.itemOrd) _ _ _ h
/-- sorted(l), told by what it is -/
theorem sort_eq {α : Type} (enc : α → PyData) {l m : List α} (al : ∀ a b, alike (enc a) (enc b) = true) (hp : l.Perm m) (hm : m.Pairwise fun a b => dataLt (enc b) (enc a) = false) : sortD (l.map enc) = m.map enc := by
  unfold sortD
  have e0 : (fun a b => !dataLt b a) = dataLe false (fun d => d) := (dataLe_eq false _).symm
  rw [← e0]
  refine List.Perm.eq_of_pairwise (le := fun a b => (!dataLt b a) = true) (fun a b ha hb h1 h2 => ?_) ?_ ?_ ?_
  · obtain ⟨x, _, rfl⟩ := List.mem_map.mp ((List.mergeSort_perm _ _).mem_iff.mp ha)
    obtain ⟨y, _, rfl⟩ := List.mem_map.mp hb
    exact dl_total (al x y) (by simpa using h2) (by simpa using h1)
  · refine List.pairwise_mergeSort (fun a b c h1 h2 => ?_) (fun a b => ?_) _
    · simp only [Bool.not_eq_true'] at h1 h2 ⊢
      cases e : dataLt c a with
      | false => rfl
      | true =>
        rcases dl_neg (b := b) e with z | z
        · rw [h2] at z; cases z
        · rw [h1] at z; cases z
    · cases e : dataLt b a with
      | false => simp
      | true => rw [dl_asymm e]; simp
  · rw [List.pairwise_map]
    exact hm.imp fun h => by rw [h]; rfl
  · exact (List.mergeSort_perm _ _).trans (hp.map enc)
theorem alike_N (a b : Nat) : alike (eN a) (eN b) = true := rfl
theorem alikeAll_map {α : Type} (enc : α → PyData) (h : ∀ a b, alike (enc a) (enc b) = true) : ∀ l m : List α, alikeAll (l.map enc) (m.map enc) = true
  | [], _ => by simp [alikeAll]
  | _ :: _, [] => by simp [alikeAll]
  | a :: l, b :: m => by
    show alikeAll (enc a :: l.map enc) (enc b :: m.map enc) = true
    rw [alikeAll, h, alikeAll_map enc h l m]
    rfl
theorem alike_Ns (a b : List Nat) : alike (eNs a) (eNs b) = true := by
  show alike (.tuple _) (.tuple _) = true
  rw [alike]; exact alikeAll_map eN alike_N a b
theorem alike_W (a b : Way) : alike (eW a) (eW b) = true := by
  show alike (.tuple [eN a.1, eNs a.2]) (.tuple [eN b.1, eNs b.2]) = true
  rw [alike, alikeAll, alikeAll, alikeAll, alike_Ns]; rfl
theorem alike_P (a b : Pic) : alike (eP a) (eP b) = true := by
  show alike (.tuple _) (.tuple _) = true
  rw [alike]; exact alikeAll_map eW alike_W a b
/-! ### rows of numbers -/
theorem lt_castN : ∀ x y : List Nat, (x.map fun (a : Nat) => (a : Int)) < (y.map fun (a : Nat) => (a : Int)) ↔ x < y
  | [], [] => by simp
  | [], b :: y => by simp
  | a :: x, [] => by simp
  | a :: x, b :: y => by
    rw [List.map_cons, List.map_cons, List.cons_lt_cons_iff, List.cons_lt_cons_iff, lt_castN x y]
    constructor
    · rintro (h | ⟨h, h2⟩)
      · exact .inl (by omega)
      · exact .inr ⟨by omega, h2⟩
    · rintro (h | ⟨h, h2⟩)
      · exact .inl (by omega)
      · exact .inr ⟨by omega, h2⟩
theorem dl_Ns (x y : List Nat) : dataLt (eNs x) (eNs y) = decide (x < y) := by
  have h := dataLt_ints (x.map fun (a : Nat) => (a : Int)) (y.map fun (a : Nat) => (a : Int))
  rw [List.map_map, List.map_map] at h
  have h2 : dataLt (eNs x) (eNs y) = decide ((x.map fun (a : Nat) => (a : Int)) < (y.map fun (a : Nat) => (a : Int))) := by
    show dataLt (.tuple (x.map eN)) (.tuple (y.map eN)) = _
    rw [dataLt_tuple]
    exact h
  rw [h2, Bool.eq_iff_iff, decide_eq_true_iff, decide_eq_true_iff]
  exact lt_castN x y
theorem app_lt : ∀ {x y u v : List Nat}, x < y → x.length = y.length → x ++ u < y ++ v
  | [], [], _, _, h, _ => by simp at h
  | a :: x, b :: y, u, v, h, e => by
    rw [List.cons_lt_cons_iff] at h
    show a :: (x ++ u) < b :: (y ++ v)
    rw [List.cons_lt_cons_iff]
    rcases h with h | ⟨h, h2⟩
    · exact .inl h
    · exact .inr ⟨h, app_lt h2 (by simpa using e)⟩
  | [], _ :: _, _, _, _, e => by simp at e
  | _ :: _, [], _, _, _, e => by simp at e
theorem app_lt2 (x : List Nat) {a b : Nat} (h : a < b) : x ++ [a] < x ++ [b] := by
  induction x with
  | nil =>
    show [a] < [b]
    rw [List.cons_lt_cons_iff]
    exact .inl h
  | cons c x ih =>
    show c :: (x ++ [a]) < c :: (x ++ [b])
    rw [List.cons_lt_cons_iff]
    exact .inr ⟨rfl, ih⟩
/-! ### ways -/
def ltW (a b : Way) : Bool := dataLt (eW a) (eW b)
theorem ltW_total {a b : Way} (h1 : ltW a b = false) (h2 : ltW b a = false) : a = b := by
  have h := dl_total (alike_W a b) h1 h2
  have e := eqv_W a b
  rw [h, eqv_W] at e
  have : decide (b = b) = true := by simp
  rw [this] at e
  exact of_decide_eq_true e.symm
end Pv
/-! Sp6: least forms. -/
namespace Pv
open PySem GP
/-- the first of the least ways -/
def minW : List Way → Way
  | [] => default
  | w :: ws => ws.foldl (fun a y => if ltW y a then y else a) w
/-- how the last one of a row stands over those ahead of it -/
def lastW (s : Srt) (q : Pic) (x : List Nat) : Way := stand s q x.dropLast (x.getLast?.getD 0)
def lst1 (s : Srt) (q : Pic) (st : List (List Nat) × Pic) : List (List Nat) × Pic :=
  let g := grow q.length st.1
  let m := minW (g.map (lastW s q))
  (g.filter fun x => eqW (lastW s q x) m, st.2 ++ [m])
/-- the least form, as the program seeks it -/
def leastF (s : Srt) (q : Pic) : Pic := ((List.range q.length).foldl (fun st _ => lst1 s q st) ([[]], [])).2
theorem minD_map {α : Type} (enc : α → PyData) (x : α) (xs : List α) : PySem.W.minD (enc x) (xs.map enc) = enc (xs.foldl (fun a y => if PySem.W.dataLt (enc y) (enc a) then y else a) x) := by
  unfold PySem.W.minD
  induction xs generalizing x with
  | nil => rfl
  | cons y xs ih =>
    rw [List.map_cons, List.foldl_cons, List.foldl_cons]
    by_cases h : PySem.W.dataLt (enc y) (enc x) = true
    · rw [if_pos h, if_pos h]; exact ih y
    · rw [if_neg h, if_neg h]; exact ih x
theorem depthAll_le {n : Nat} : ∀ {l : List PyData}, (∀ d ∈ l, d.depth ≤ n) → PyData.depthAll l ≤ n
  | [], _ => Nat.zero_le _
  | d :: l, h => by
    rw [PyData.depthAll]
    exact Nat.max_le.mpr ⟨h d List.mem_cons_self, depthAll_le fun x hx => h x (List.mem_cons_of_mem _ hx)⟩
theorem depth_Ns (x : List Nat) : (eNs x).depth ≤ 1 := by
  show PyData.depth (.tuple _) ≤ 1
  rw [PyData.depth]
  have : PyData.depthAll (x.map eN) ≤ 0 := depthAll_le fun d hd => by obtain ⟨a, _, rfl⟩ := List.mem_map.mp hd; exact Nat.le_refl _
  omega
theorem depth_W (w : Way) : (eW w).depth ≤ 2 := by
  show PyData.depth (.tuple [eN w.1, eNs w.2]) ≤ 2
  rw [PyData.depth]
  have : PyData.depthAll [eN w.1, eNs w.2] ≤ 1 := depthAll_le fun d hd => by
    rcases List.mem_cons.mp hd with rfl | hd
    · exact Nat.zero_le _
    · have e : d = eNs w.2 := by simpa using hd
      rw [e]; exact depth_Ns _
  omega
theorem depth_P (w : Pic) : (eP w).depth ≤ 3 := by
  show PyData.depth (.tuple _) ≤ 3
  rw [PyData.depth]
  have : PyData.depthAll (w.map eW) ≤ 2 := depthAll_le fun d hd => by obtain ⟨a, _, rfl⟩ := List.mem_map.mp hd; exact depth_W a
  omega
theorem best_map {α : Type} (enc : α → PyData) (l : List α) (al : ∀ a b, PySem.W.alike (enc a) (enc b) = true) (hn : ∀ a, enc a ≠ .none) (hd : ∀ a, (enc a).depth ≤ 60) : bestOk (l.map enc) = true := by
  unfold bestOk allAlike noNone shallow
  simp only [Bool.and_eq_true, decide_eq_true_eq, List.all_eq_true]
  refine ⟨⟨fun x hx y hy => ?_, fun x hx => ?_⟩, Nat.le_trans (depthAll_le fun d h => ?_) (show 60 ≤ 64 by decide)⟩
  · obtain ⟨a, _, rfl⟩ := List.mem_map.mp hx
    obtain ⟨b, _, rfl⟩ := List.mem_map.mp hy
    exact al a b
  · obtain ⟨a, _, rfl⟩ := List.mem_map.mp hx
    split
    · rename_i e; exact (hn a e).elim
    · rfl
  · obtain ⟨a, _, rfl⟩ := List.mem_map.mp h
    exact hd a
theorem min_W {ws : List Way} (h : ws ≠ []) : bop2 .min [.list (ws.map eW)] = some (eW (minW ws), false) := by
  cases ws with
  | nil => exact (h rfl).elim
  | cons w ws =>
    show (minO (eW w :: ws.map eW)).map (fun d => (d, false)) = _
    have b := best_map eW (w :: ws) alike_W (fun a z => by cases z) (fun a => Nat.le_trans (depth_W a) (by decide))
    have b : bestOk (eW w :: ws.map eW) = true := b
    show (if (bestOk (eW w :: ws.map eW) : Bool) then some (PySem.W.minD (eW w) (ws.map eW)) else none).map (fun d => (d, false)) = _
    rw [b, minD_map]
    rfl
theorem minW_mem : ∀ {ws : List Way}, ws ≠ [] → minW ws ∈ ws
  | w :: ws, _ => by
    have h : ∀ (l : List Way) (a : Way), l.foldl (fun a y => if ltW y a then y else a) a ∈ a :: l := fun l => by
      induction l with
      | nil => exact fun a => List.mem_cons_self
      | cons y l ih =>
        intro a
        rw [List.foldl_cons]
        by_cases h : ltW y a = true
        · rw [if_pos h]; exact List.mem_cons_of_mem _ (ih y)
        · rw [if_neg h]
          rcases List.mem_cons.mp (ih a) with z | z
          · rw [z]; exact List.mem_cons_self
          · exact List.mem_cons_of_mem _ (List.mem_cons_of_mem _ z)
    exact h ws w
theorem minW_le : ∀ {ws : List Way} {w : Way}, w ∈ ws → ltW w (minW ws) = false
  | v :: ws, w, hw => by
    have h : ∀ (l : List Way) (a : Way), (∀ x ∈ a :: l, ltW x (l.foldl (fun a y => if ltW y a then y else a) a) = false) := fun l => by
      induction l with
      | nil =>
        intro a x hx
        have : x = a := by simpa using hx
        rw [this]; exact dl_irrefl _
      | cons y l ih =>
        intro a x hx
        rw [List.foldl_cons]
        by_cases h : ltW y a = true
        · rw [if_pos h]
          rcases List.mem_cons.mp hx with rfl | hx
          · cases e : ltW x (l.foldl (fun a y => if ltW y a then y else a) y) with
            | false => rfl
            | true =>
              have := ih y y List.mem_cons_self
              have e2 : ltW y (l.foldl (fun a y => if ltW y a then y else a) y) = true := dl_trans h e
              rw [e2] at this
              cases this
          · exact ih y x hx
        · rw [if_neg h]
          rcases List.mem_cons.mp hx with rfl | hx
          · exact ih x x List.mem_cons_self
          · rcases List.mem_cons.mp hx with rfl | hx
            · cases e : ltW x (l.foldl (fun a y => if ltW y a then y else a) a) with
              | false => rfl
              | true =>
                rcases dl_neg (b := eW a) e with z | z
                · exact (h z).elim
                · have := ih a a List.mem_cons_self
                  rw [show ltW a _ = true from z] at this
                  cases this
            · exact ih a x (List.mem_cons_of_mem _ hx)
    exact h ws v w hw
section
variable {L : List FnD} {k : Nat} {s : Srt} {p : Pic}
theorem grow_ne {n j : Nat} {found : List (List Nat)} (h : Rows n j found) (hj : j < n) (hf : found ≠ []) : grow n found ≠ [] := by
  obtain ⟨x, l, rfl⟩ := List.exists_cons_of_ne_nil hf
  obtain ⟨h1, h2⟩ := h.row x List.mem_cons_self
  have : ∃ a, a < n ∧ a ∉ x := by
    refine Classical.byContradiction fun z => ?_
    have hs : ∀ a ∈ List.range n, a ∈ x := fun a ha => Classical.byContradiction fun y => z ⟨a, List.mem_range.mp ha, y⟩
    have := nodup_len (List.range n) x List.nodup_range hs
    rw [List.length_range] at this
    omega
  obtain ⟨a, ha, hn⟩ := this
  intro z
  have : x ++ [a] ∈ grow n (x :: l) := mem_grow.mpr ⟨x, List.mem_cons_self, a, ha, hn, rfl⟩
  rw [z] at this
  cases this
/-- a slot that holds a list, own or not -/
def mkC (b : Bool) (d : PyData) : Cell := if b then .ow d else .pl d
theorem mkC_t (d : PyData) : mkC true d = .ow d := rfl
theorem mkC_f (d : PyData) : mkC false d = .pl d := rfl
theorem grow78 {n : Nat} {q : Pic} {j : Nat} {found : List (List Nat)} {a c d e f : Option Cell} {b : Bool} (hq : q.length ≤ 12) (hr : Rows q.length j found) (hb : (grow q.length found).length ≤ 1000000) :
    stepE (mkP L) (evN (mkP L) k (runK (mkP L) k) (n + 6)) (.lc2 (.bin .add (.var 7) (.tup [.var 8])) [7, 8] [8] (.nm 7) (.var 2) [] (.nm 8) (.rng [.bi .len [.var 1]]) [.cmp .notin (.var 8) (.var 7)]) [a, some (.pl (eP q)), some (mkC b (.list (found.map eNs))), c, d, e, f, none, none, none] =
      .ok (.list ((grow q.length found).map eNs), true) [a, some (.pl (eP q)), some (.pl (.list (found.map eNs))), c, d, e, f, none, none, none] := by
  rw [lc2_ok found eNs (growR q.length) (s1 := [a, some (.pl (eP q)), some (.pl (.list (found.map eNs))), c, d, e, f, none, none, none]), map_grow]
  · cases b <;> simp [items, seqD, mkC]
  · rfl
  · intro x hx
    have rg := rng1 (n := q.length) (Nat.le_trans hq (by decide))
    have e1 : lcT2 (evN (mkP L) k (runK (mkP L) k) (n + 6)) (.bin .add (.var 7) (.tup [.var 8])) [8] (.nm 7) [] (.nm 8) (.rng [.bi .len [.var 1]]) [.cmp .notin (.var 8) (.var 7)] (eNs x) (wipeS [a, some (.pl (eP q)), some (.pl (.list (found.map eNs))), c, d, e, f, none, none, none] [7, 8]) =
        lcL [8] (lcT (evN (mkP L) k (runK (mkP L) k) (n + 6)) (.bin .add (.var 7) (.tup [.var 8])) (.nm 8) [.cmp .notin (.var 8) (.var 7)]) ((List.range q.length).map eN) [a, some (.pl (eP q)), some (.pl (.list (found.map eNs))), c, d, e, f, some (.pl (eNs x)), none, none] := by
      simp [lcT2, asgR, asgT, testsL, wipeS, items, opds, pre, fill, getP, rg]
    rw [e1]
    refine lc_in (List.range q.length) eN _ rfl (fun s' e => wipe_sub (by simp) e) fun y hy => ?_
    have hx := (hr.row x hx).2
    have hy : y < q.length := List.mem_range.mp hy
    have hxl : x.length ≤ 12 := Nat.le_trans hx.len hq
    have hxs : ∀ a ∈ x, a < 1000 := fun a ha => by have := hx.lt a ha; omega
    have nt := notin_Ns (show y < 1000 by omega) hxs hxl
    have ad := add_Ns1 (x := x) (y := y) (by omega)
    by_cases h : y ∈ x
    · simp [lcT, asgR, asgT, testsL, wipeS, opd2, opds, pre, fill, getP, nt, h, bD, tru]
    · simp [lcT, asgR, asgT, testsL, wipeS, opd2, opds, pre, fill, getP, nt, h, bD, tru, evL, line, ad]
  · rw [map_grow, List.length_map]
    exact Nat.le_trans hb (by decide)
theorem filter_zip {α β : Type} (f : α → β) (b : β → Bool) (g : α → PyData) : ∀ l : List α, ((l.zip (l.map f)).filter fun q => b q.2).map (fun q => g q.1) = (l.filter fun x => b (f x)).map g
  | [] => rfl
  | x :: l => by
    rw [List.map_cons, List.zip_cons_cons, List.filter_cons, List.filter_cons]
    by_cases h : b (f x) = true
    · simp only [h, if_true, List.map_cons, filter_zip f b g l]
    · simp only [h, if_false, filter_zip f b g l]
      simp [filter_zip f b g l]
theorem least_turn {n : Nat} {q : Pic} {st : List (List Nat) × Pic} {j : Nat} {c4 c5 c6 : Option Cell} {b : Bool} {d : PyData} (hs : s.Ok) (hq : Pic.Ok s q) (hql : q.length ≤ 12) (hr : Rows q.length j st.1) (hj : j < q.length) (hne : st.1 ≠ []) (hform : st.2.length ≤ 12) (hb : (grow q.length st.1).length ≤ 1000000) :
    turnS (evN (mkP L) (k + 2) (runK (mkP L) (k + 2)) (n + 8)) (.nm 4) [.asg (.nm 2) (.lc2 (.bin .add (.var 7) (.tup [.var 8])) [7, 8] [8] (.nm 7) (.var 2) [] (.nm 8) (.rng [.bi .len [.var 1]]) [.cmp .notin (.var 8) (.var 7)]), .asg (.nm 5) (.lc (.call 101 [.var 0, .var 1, .slc (.var 7) none (some (.neg (.int 1))), .idx (.var 7) (.neg (.int 1))]) [7] (.nm 7) (.var 2) []), .asg (.nm 6) (.bi .min [.var 5]), .asg (.nm 2) (.lc (.var 7) [7, 9] (.tp [7, 9]) (.zip (.var 2) (.var 5)) [.cmp .eq (.var 9) (.var 6)]), .asg (.nm 3) (.bin .add (.var 3) (.tup [.var 6]))] d
      [some (.pl (eS s)), some (.pl (eP q)), some (mkC b (.list (st.1.map eNs))), some (.pl (eP st.2)), c4, c5, c6, none, none, none] =
    .ok .nx [some (.pl (eS s)), some (.pl (eP q)), some (mkC true (.list ((lst1 s q st).1.map eNs))), some (.pl (eP (lst1 s q st).2)), some (.pl d), some (.pl (.list (((grow q.length st.1).map (lastW s q)).map eW))), some (.pl (eW (minW ((grow q.length st.1).map (lastW s q))))), none, none, none] := by
  have g := hr.grow
  have gne := grow_ne hr hj hne
  have rowOk : ∀ x ∈ grow q.length st.1, ∃ a, x.getLast? = some a ∧ a < q.length ∧ (∀ b ∈ x.dropLast, b < q.length ∧ b ≠ a) ∧ x.dropLast.length ≤ 12 := fun x hx => by
    have hx2 := (g.row x hx).2
    obtain ⟨a, h1, h2, h3⟩ := hx2.last (fun e => by have := (g.row x hx).1; rw [e] at this; cases this)
    exact ⟨a, h1, h2, h3, by rw [List.length_dropLast]; have := hx2.len; omega⟩
  have lastOk : ∀ x ∈ grow q.length st.1, okD (eW (lastW s q x)) = true := fun x hx => by
    obtain ⟨a, h1, h2, h3, h4⟩ := rowOk x hx
    have hg : x.getLast?.getD 0 = a := by rw [h1]; rfl
    unfold lastW
    rw [hg]
    exact stand_okD hs hq h2 h3 h4
  have lc1 := lc_map (P := mkP L) (p := evN (mkP L) (k + 2) (runK (mkP L) (k + 2)) (n + 6)) (elt := .call 101 [.var 0, .var 1, .slc (.var 7) none (some (.neg (.int 1))), .idx (.var 7) (.neg (.int 1))]) (own := [7]) (t := .nm 7) (it := .var 2) (ifs := [])
    (s := [some (.pl (eS s)), some (.pl (eP q)), some (.ow (.list ((grow q.length st.1).map eNs))), some (.pl (eP st.2)), some (.pl d), c5, c6, none, none, none])
    (s1 := [some (.pl (eS s)), some (.pl (eP q)), some (.pl (.list ((grow q.length st.1).map eNs))), some (.pl (eP st.2)), some (.pl d), c5, c6, none, none, none])
    (grow q.length st.1) eNs (fun x => eW (lastW s q x)) (by simp [items, seqD]) rfl (fun x hx => by
      obtain ⟨a, h1, h2, h3, h4⟩ := rowOk x hx
      have hg : x.getLast?.getD 0 = a := by rw [h1]; rfl
      have st1 := stand_in_ok (L := L) (k := k) hs hq h2 h3 (by omega)
      have il := ix_last h1
      unfold lastW
      rw [hg]
      simp [lcT, asgR, asgT, testsL, wipeS, opd2, opd1, opds, pre, fill, getP, evL, evO, intO, f1, il, st1]) (Nat.le_trans hb (by decide))
  have hm : ((grow q.length st.1).map fun x => eW (lastW s q x)) = ((grow q.length st.1).map (lastW s q)).map eW := by rw [List.map_map]; rfl
  rw [hm] at lc1
  have mn := min_W (ws := (grow q.length st.1).map (lastW s q)) (by simpa using gne)
  have mm : okD (eW (minW ((grow q.length st.1).map (lastW s q)))) = true := by
    have h := minW_mem (ws := (grow q.length st.1).map (lastW s q)) (by simpa using gne)
    obtain ⟨x, hx, e⟩ := List.mem_map.mp h
    rw [← e]
    exact lastOk x hx
  generalize hM : minW ((grow q.length st.1).map (lastW s q)) = M at mn mm ⊢
  have lc2 := lc_filt (P := mkP L) (p := evN (mkP L) (k + 2) (runK (mkP L) (k + 2)) (n + 6)) (elt := .var 7) (own := [7, 9]) (t := .tp [7, 9]) (it := .zip (.var 2) (.var 5)) (ifs := [.cmp .eq (.var 9) (.var 6)])
    (s := [some (.pl (eS s)), some (.pl (eP q)), some (.pl (.list ((grow q.length st.1).map eNs))), some (.pl (eP st.2)), some (.pl d), some (.ow (.list (((grow q.length st.1).map (lastW s q)).map eW))), some (.pl (eW M)), none, none, none])
    (s1 := [some (.pl (eS s)), some (.pl (eP q)), some (.pl (.list ((grow q.length st.1).map eNs))), some (.pl (eP st.2)), some (.pl d), some (.pl (.list (((grow q.length st.1).map (lastW s q)).map eW))), some (.pl (eW M)), none, none, none])
    ((grow q.length st.1).zip ((grow q.length st.1).map (lastW s q))) (fun z => PyData.tuple [eNs z.1, eW z.2]) (fun z => eqW z.2 M) (fun z => eNs z.1) (by
      generalize (grow q.length st.1).map (lastW s q) = ws
      simp [items, zipD_lists]) rfl (fun z hz => by
      have h2 : okD (eW z.2) = true := by
        have := (List.of_mem_zip hz).2
        obtain ⟨x, hx, e⟩ := List.mem_map.mp this
        rw [← e]
        exact lastOk x hx
      have e := eq_W h2 mm
      generalize eqW z.2 M = y at e ⊢
      cases y <;> simp [lcT, asgR, asgT, setAll, testsL, wipeS, opd2, opds, pre, fill, getP, e, bD, tru]) (Nat.le_trans (by rw [List.length_zip, List.length_map]; simpa using hb) (by decide))
  rw [filter_zip (lastW s q) (fun w => eqW w M) eNs] at lc2
  have ad : bop .add (eP st.2) (.tuple [eW M]) = some (eP (st.2 ++ [M]), false) := by
    show (if (st.2.map eW).length + 1 ≤ line then some (PyData.tuple (st.2.map eW ++ [eW M]), false) else none) = _
    rw [List.length_map, if_pos (by show _ ≤ 16777216; omega)]
    show _ = some (PyData.tuple ((st.2 ++ [M]).map eW), false)
    rw [List.map_append]; rfl
  have g78 := grow78 (L := L) (k := k + 2) (n := n) (a := some (.pl (eS s))) (c := some (.pl (eP st.2))) (d := some (.pl d)) (e := c5) (f := c6) (b := b) hql hr hb
  generalize mkC b (.list (st.1.map eNs)) = cell at g78 ⊢
  simp [turnS, asgR, asgT, seqL, g78, lc1, lc2, opds, opd2, pre, fill, getP, mn, evL, line, ad, mkC_t, lst1, hM, -List.map_map]
theorem lst1_inv {q : Pic} {st : List (List Nat) × Pic} {done : List Nat} {w : Nat} (hr : Rows q.length done.length st.1) (hne : st.1 ≠ []) (hf : st.2.length = done.length) (hl : done.length < q.length) :
    Rows q.length (done ++ [w]).length (lst1 s q st).1 ∧ (lst1 s q st).1 ≠ [] ∧ (lst1 s q st).2.length = (done ++ [w]).length := by
  have hg := hr.grow
  have gne := grow_ne hr hl hne
  have h := minW_mem (ws := (grow q.length st.1).map (lastW s q)) (by simpa using gne)
  obtain ⟨x, hx, e⟩ := List.mem_map.mp h
  rw [List.length_append]
  refine ⟨hg.filter _, fun z => ?_, ?_⟩
  · have : x ∈ (lst1 s q st).1 := List.mem_filter.mpr ⟨hx, by rw [← e]; exact eqW_iff.mpr rfl⟩
    rw [z] at this
    cases this
  · show (st.2 ++ [_]).length = _
    rw [List.length_append, hf]
    rfl
theorem least_in_ok {q : Pic} (hs : s.Ok) (hq : Pic.Ok s q) (hql : q.length ≤ 12) (hb : q.length ^ q.length ≤ 1000000) :
    runK (mkP L) (k + 3) 103 [eS s, eP q] = .ret (eP (leastF s q)) false [] := by
  have hpow : ∀ j, j ≤ q.length → q.length ^ j ≤ 1000000 := fun j hj => by
    rcases Nat.eq_zero_or_pos q.length with h0 | h0
    · rw [h0]
      cases j with
      | zero => decide
      | succ j => simp
    · exact Nat.le_trans (Nat.pow_le_pow_right h0 hj) hb
  have lp := forL_inv (body := turnS (evN (mkP L) (k + 2) (runK (mkP L) (k + 2)) 59) (.nm 4) [.asg (.nm 2) (.lc2 (.bin .add (.var 7) (.tup [.var 8])) [7, 8] [8] (.nm 7) (.var 2) [] (.nm 8) (.rng [.bi .len [.var 1]]) [.cmp .notin (.var 8) (.var 7)]), .asg (.nm 5) (.lc (.call 101 [.var 0, .var 1, .slc (.var 7) none (some (.neg (.int 1))), .idx (.var 7) (.neg (.int 1))]) [7] (.nm 7) (.var 2) []), .asg (.nm 6) (.bi .min [.var 5]), .asg (.nm 2) (.lc (.var 7) [7, 9] (.tp [7, 9]) (.zip (.var 2) (.var 5)) [.cmp .eq (.var 9) (.var 6)]), .asg (.nm 3) (.bin .add (.var 3) (.tup [.var 6]))])
    eN (fun (c : Bool × Option Cell × Option Cell × Option Cell) (st : List (List Nat) × Pic) => [some (.pl (eS s)), some (.pl (eP q)), some (mkC c.1 (.list (st.1.map eNs))), some (.pl (eP st.2)), c.2.1, c.2.2.1, c.2.2.2, none, none, none]) (fun st _ => lst1 s q st) (fun done st => Rows q.length done.length st.1 ∧ st.1 ≠ [] ∧ st.2.length = done.length) (List.range q.length)
    (fun done w rest st c e i => by
      have hl : done.length < q.length := by
        have := congrArg List.length e
        rw [List.length_range, List.length_append, List.length_cons] at this
        omega
      have hg := i.1.grow
      exact ⟨(true, _, _, _), least_turn (n := 51) hs hq hql i.1 hl i.2.1 (by omega) (Nat.le_trans hg.len (hpow _ hl)), lst1_inv i.1 i.2.1 i.2.2 hl⟩)
    (List.range q.length) [] (false, none, none, none) ([[]], []) rfl ⟨Rows.one _, by simp, rfl⟩
  obtain ⟨c, e, _⟩ := lp
  have rg : rngD [.int ((q.length : Nat) : Int)] = some ((List.range q.length).map eN) := rng1 (Nat.le_trans hql (by decide))
  rw [runK_at (at_p_likework_least_in L)]
  have e0 : (PyData.tuple [] : PyData) = eNs [] := rfl
  have e1 : (PyData.tuple [] : PyData) = eP [] := rfl
  simp only [List.map_cons, List.map_nil, mkC_f] at e
  rw [← e0, ← e1] at e
  simp [runF, p_likework_least_in, Pv.start, seqL, deep, evL, items, rg, e, iosOf, line, leastF, opds, pre, fill, getP, setR, setAll]
end
end Pv
/-! Sp7a: calls that change their first argument; comprehensions and loops that draw. -/
namespace Pv
open PySem
variable {P : Prg} {p : Ev} {s : S}
/-- what stands in a slot that may be changed -/
def ioC (s : S) (i : Nat) : Option PyData := match s[i]? with
  | some (some (.ow d)) => some d
  | some (some (.io d)) => some d
  | _ => none
def retIo (i : Nat) (r : CRes) (s : S) : Res DF := callRes r [.inl i] s
theorem ioBack_one (i : Nat) : ∀ (ds ios : List PyData), ioBack s (.inl i :: ds.map .inr) ios = ioBack s [.inl i] ios := fun ds ios => by
  cases ios with
  | nil => rfl
  | cons d ios =>
    show (setRoot s i fun _ => some d).bind (fun s => ioBack s (ds.map .inr) ios) = (setRoot s i fun _ => some d).bind (fun s => ioBack s [] ios)
    congr 1
    funext s'
    rw [ioBack_inr]
    cases ios <;> rfl
theorem eE_callio {f : Nat} {fd : FnD} {r : List Bool} (hf : P.fns[f]? = some fd) (hio : fd.io = true :: r) (hr : r.any id = false) (i : Nat) (es : List R) : stepE P p (.call f (.var i :: es)) s =
    if (getP s i).isSome then (evL p.e es s).bind fun ds s => if ds.length + 1 = fd.np then (ofO (ioC s i) s).bind fun d s => retIo i (p.c f (d :: ds)) s else .bad else .bad := by
  show (match P.fns[f]? with
    | some fd => (preA p.e (.var i :: es) fd.io s).bind fun xs s => if noDup (slotsOf xs) && xs.length == fd.np then (ofO (fillA s xs) s).bind fun ds s => callRes (p.c f ds) xs s else .bad
    | none => .bad) = _
  rw [hf]
  dsimp only
  rw [hio]
  show (if (getP s i).isSome then (preA p.e es r s).bind fun xs s => .ok (.inl i :: xs) s else .bad).bind _ = _
  by_cases h : (getP s i).isSome = true
  · rw [if_pos h, if_pos h, preA_false _ _ _ _ hr, bind_assoc_, bind_assoc_]
    congr 1
    funext ds s'
    show (if noDup (i :: slotsOf (ds.map .inr)) && (ds.map (Sum.inr (α := Nat))).length + 1 == fd.np then (ofO (fillA s' (.inl i :: ds.map .inr)) s').bind fun ds' s => callRes (p.c f ds') (.inl i :: ds.map .inr) s else .bad) = _
    rw [slotsOf_inr, List.length_map]
    show (if (ds.length + 1 == fd.np : Bool) then _ else _) = _
    have fe : fillA s' (.inl i :: ds.map .inr) = (ioC s' i).map (· :: ds) := by
      show (match s'[i]? with
        | some (some (.ow d)) => (fillA s' (ds.map .inr)).map (d :: ·)
        | some (some (.io d)) => (fillA s' (ds.map .inr)).map (d :: ·)
        | _ => none) = _
      rw [fillA_inr]
      unfold ioC
      split <;> rename_i e <;> simp_all
    rw [fe]
    by_cases hn : ds.length + 1 = fd.np
    · rw [if_pos hn, if_pos (by simpa using hn)]
      cases ioC s' i with
      | none => rfl
      | some d =>
        show callRes (p.c f (d :: ds)) (.inl i :: ds.map .inr) s' = retIo i (p.c f (d :: ds)) s'
        unfold retIo callRes
        cases p.c f (d :: ds) with
        | ret _ _ ios => dsimp only; rw [ioBack_one]
        | err _ _ ios => dsimp only; rw [ioBack_one]
        | bad => rfl
    · rw [if_neg hn, if_neg (by simpa using hn)]
  · rw [if_neg h, if_neg h]
    rfl
@[simp] theorem retIo_ret (i : Nat) (d w : PyData) (f : Bool) (s : S) : retIo i (.ret d f [w]) s = (ofO (setRoot s i fun _ => some w) s).bind fun s' _ => .ok (d, f) s' := by
  show (ofO ((setRoot s i fun _ => some w).bind fun s => ioBack s [] []) s).bind _ = _
  cases setRoot s i fun _ => some w <;> rfl
/-- a comprehension that changes a slot as it goes -/
theorem lcs {α β γ : Type} {own : List Nat} {turn : PyData → S → Res (List PyData)} (enc : α → PyData) (enc2 : β → PyData) (st : γ → S) (I : Nat → γ → Prop) (Pb : β → Prop) : ∀ (l : List α) (n : Nat) (c : γ) (s : S), wipeS s own = st c → I n c →
    (∀ x ∈ l, ∀ m c, I m c → m < n + l.length → ∃ y s' c', turn (enc x) (st c) = .ok [enc2 y] s' ∧ wipeS s' own = st c' ∧ I (m + 1) c' ∧ Pb y) →
    ∃ (ys : List β) (s' : S) (c' : γ), lcL own turn (l.map enc) s = .ok (ys.map enc2) s' ∧ wipeS s' own = st c' ∧ I (n + l.length) c' ∧ ys.length = l.length ∧ ∀ y ∈ ys, Pb y
  | [], n, c, s, h, i, _ => ⟨[], s, c, rfl, h, i, rfl, fun y hy => by cases hy⟩
  | x :: l, n, c, s, h, i, ht => by
    obtain ⟨y, s1, c1, e1, e2, i1, p1⟩ := ht x List.mem_cons_self n c i (by rw [List.length_cons]; omega)
    obtain ⟨ys, s2, c2, e3, e4, i2, l2, p2⟩ := lcs enc enc2 st I Pb l (n + 1) c1 s1 e2 i1 fun z hz m c i hm => ht z (List.mem_cons_of_mem _ hz) m c i (by rw [List.length_cons]; omega)
    refine ⟨y :: ys, s2, c2, ?_, e4, by rw [List.length_cons, show n + (l.length + 1) = n + 1 + l.length by omega]; exact i2, by rw [List.length_cons, List.length_cons, l2], fun z hz => ?_⟩
    · show (turn (enc x) (wipeS s own)).bind (fun xs s => (lcL own turn (l.map enc) s).bind fun ys s => .ok (xs ++ ys) s) = _
      rw [h, e1]
      show (lcL own turn (l.map enc) s1).bind (fun ys s => .ok ([enc2 y] ++ ys) s) = _
      rw [e3]
      rfl
    · rcases List.mem_cons.mp hz with rfl | hz
      · exact p1
      · exact p2 z hz
theorem lcs_ok {α β γ : Type} {elt it : R} {i : Nat} {t : T} {ifs : List R} {s1 : S} (enc : α → PyData) (enc2 : β → PyData) (st : γ → S) (I : Nat → γ → Prop) (Pb : β → Prop) (l : List α) (n : Nat) (c : γ) (hit : items p it s = .ok (l.map enc) s1) (po : plainOwn s1 [i] = true)
    (h : s1.set i none = st c) (hi : I n c) (hl : l.length ≤ line)
    (ht : ∀ x ∈ l, ∀ m c, I m c → m < n + l.length → ∃ y s' c', lcT p elt t ifs (enc x) (st c) = .ok [enc2 y] s' ∧ s'.set i none = st c' ∧ I (m + 1) c' ∧ Pb y) :
    ∃ (ys : List β) (c' : γ), stepE P p (.lc elt [i] t it ifs) s = .ok (.list (ys.map enc2), true) ((st c').set i ((s1[i]?).getD none)) ∧ I (n + l.length) c' ∧ ys.length = l.length ∧ ∀ y ∈ ys, Pb y := by
  obtain ⟨ys, s2, c2, e1, e2, i2, l2, p2⟩ := lcs (own := [i]) (turn := lcT p elt t ifs) enc enc2 st I Pb l n c s1 h hi ht
  refine ⟨ys, c2, ?_, i2, l2, p2⟩
  show (items p it s).bind (fun ds s₁ => if plainOwn s₁ [i] then noErr ((lcL [i] (lcT p elt t ifs) ds s₁).bind fun l s => if l.length ≤ line then .ok ((.list l : PyData), true) (backS s₁ s [i]) else .bad) else .bad) = _
  rw [hit, bind_ok_, if_pos po, e1, bind_ok_, if_pos (by rw [List.length_map, l2]; exact hl)]
  show Res.ok _ (s2.set i ((s1[i]?).getD none)) = _
  have : s2.set i none = st c2 := e2
  rw [← this, List.set_set]
/-- a loop, told by what stays true -/
theorem forL_ex {α γ : Type} {body : PyData → S → Res Flow} (enc : α → PyData) (st : γ → S) (I : Nat → γ → Prop) (all : List α) (c : γ) (hi : I 0 c)
    (h : ∀ (j : Nat) (x : α) (c : γ), all[j]? = some x → I j c → ∃ c', body (enc x) (st c) = .ok .nx (st c') ∧ I (j + 1) c') :
    ∃ c', forL body (all.map enc) (st c) = .ok .nx (st c') ∧ I all.length c' := by
  have main : ∀ (l : List α) (j : Nat) (c : γ), all.drop j = l → j ≤ all.length → I j c → ∃ c', forL body (l.map enc) (st c) = .ok .nx (st c') ∧ I all.length c' := by
    intro l
    induction l with
    | nil =>
      intro j c e hj hi
      have : j = all.length := by
        have := congrArg List.length e
        rw [List.length_drop, List.length_nil] at this
        omega
      exact ⟨c, rfl, this ▸ hi⟩
    | cons x l ih =>
      intro j c e hj hi
      have hx : all[j]? = some x := by
        have : (all.drop j)[0]? = some x := by rw [e]; rfl
        rw [List.getElem?_drop] at this
        simpa using this
      have hj2 : j < all.length := (List.getElem?_eq_some_iff.mp hx).1
      obtain ⟨c1, e1, i1⟩ := h j x c hx hi
      have e2 : all.drop (j + 1) = l := by
        have := congrArg List.tail e
        rw [List.tail_drop] at this
        exact this
      obtain ⟨c2, e3, i2⟩ := ih (j + 1) c1 e2 hj2 i1
      refine ⟨c2, ?_, i2⟩
      show (body (enc x) (st c)).bind (fun fl s => match fl with
        | .nx => forL body (l.map enc) s
        | .ct => forL body (l.map enc) s
        | .bk => .ok .nx s
        | .rt d f => .ok (.rt d f) s) = _
      rw [e1]
      exact e3
  exact main all 0 c rfl (Nat.zero_le _) hi
end Pv
namespace GP
open PySem Pv
@[simp] theorem call_draw (L : List FnD) {p : Ev} {s : S} (i : Nat) (e : R) : stepE (mkP L) p (.call 121 [.var i, e]) s = if (getP s i).isSome then (evL p.e [e] s).bind fun ds s => if ds.length + 1 = 2 then (ofO (ioC s i) s).bind fun d s => retIo i (p.c 121 (d :: ds)) s else .bad else .bad := eE_callio (at_l__law_draw_599432 L) rfl rfl i [e]
@[simp] theorem call_lsort (L : List FnD) {p : Ev} {s : S} (i : Nat) : stepE (mkP L) p (.call 122 [.var i]) s = if (getP s i).isSome then (evL p.e [] s).bind fun ds s => if ds.length + 1 = 1 then (ofO (ioC s i) s).bind fun d s => retIo i (p.c 122 (d :: ds)) s else .bad else .bad := eE_callio (at_l__law_sort_a67c84 L) rfl rfl i []
@[simp] theorem call_lpic (L : List FnD) {p : Ev} {s : S} (i : Nat) (e e2 : R) : stepE (mkP L) p (.call 125 [.var i, e, e2]) s = if (getP s i).isSome then (evL p.e [e, e2] s).bind fun ds s => if ds.length + 1 = 3 then (ofO (ioC s i) s).bind fun d s => retIo i (p.c 125 (d :: ds)) s else .bad else .bad := eE_callio (at_l__law_picture_d4dabb L) rfl rfl i [e, e2]
end GP
/-! Sp7: the laws' shared draws. -/
namespace Pv
open PySem GP
section
variable {L : List FnD} {k : Nat}
theorem mulOk_r {i j : Int} (h : j.natAbs < 18446744073709551616) : mulOk i j = true := by
  unfold mulOk
  simp [show (2 : Nat) ^ 64 = 18446744073709551616 from rfl, h]
theorem log2_lt {x k : Nat} (h : x < 2 ^ k) : x.log2 ≤ k := by
  by_cases h0 : x = 0
  · subst h0; simp [Nat.log2_zero]
  · exact Nat.le_of_lt ((Nat.log2_lt h0).mpr h)
theorem mulOk_b {i j : Int} (hi : i.natAbs < 2 ^ 400) (hj : j.natAbs < 2 ^ 400) : mulOk i j = true := by
  unfold mulOk
  have a := log2_lt hi
  have b := log2_lt hj
  simp only [Bool.or_eq_true, decide_eq_true_eq]
  right
  omega
theorem fmod_b {x M : Int} (h : 0 < M) : 0 ≤ x.fmod M ∧ x.fmod M < M := ⟨Int.fmod_nonneg_of_pos x h, Int.fmod_lt_of_pos x h⟩
theorem draw1 (a m c n : Int) (h : 0 < a) (hn : 0 < n) (h2 : n.natAbs < 1073741824) :
    runK (mkP L) (k + 1) 121 [.list [.int a, .int m, .int c], .int n] = .ret (.int (a.fmod n)) false [.list [.int (a.fdiv n), .int m, .int c]] := by
  have hn0 : n ≠ 0 := by omega
  rw [runK_at (at_l__law_draw_599432 L)]
  simp [runF, l__law_draw_599432, Pv.start, seqL, deep, evL, opd2, opd1, opds, pre, getP, fill, bop, cop, bD, ixop, atD, ixD, tru, bop2, setRoot, setD, setR, iosOf, h, hn0, divOk, h2, List.set]
theorem draw2 (a m c n : Int) (h : ¬ 0 < a) (hn : 0 < n) (h2 : n.natAbs < 1073741824) (hm : m.natAbs < 2 ^ 200) (hc : c.natAbs < 1000000) :
    ∃ r : Int, 0 ≤ r ∧ r < n ∧ runK (mkP L) (k + 1) 121 [.list [.int a, .int m, .int c], .int n] = .ret (.int r) false [.list [.int a, .int m, .int (c + 1)]] := by
  have hn0 : n ≠ 0 := by omega
  obtain ⟨x1, e1⟩ : ∃ x, x = ((m + 31) * (c + 1 + 5) * 998244353 + (c + 1) * (c + 1) * (c + 1) * 424242427 + 77).fmod 100000000000000000000000000319 := ⟨_, rfl⟩
  obtain ⟨x2, e2⟩ : ∃ x, x = (x1 * x1 + m * 7 + (c + 1)).fmod 10000000000000000000000000000033 := ⟨_, rfl⟩
  obtain ⟨x3, e3⟩ : ∃ x, x = (x2 * x2 * 3 + x2 * 11).fmod 1000000000000000000000000000000603 := ⟨_, rfl⟩
  have b1 := fmod_b (x := (m + 31) * (c + 1 + 5) * 998244353 + (c + 1) * (c + 1) * (c + 1) * 424242427 + 77) (M := 100000000000000000000000000319) (by decide)
  have b2 := fmod_b (x := x1 * x1 + m * 7 + (c + 1)) (M := 10000000000000000000000000000033) (by decide)
  have b3 := fmod_b (x := x2 * x2 * 3 + x2 * 11) (M := 1000000000000000000000000000000603) (by decide)
  rw [← e1] at b1
  rw [← e2] at b2
  rw [← e3] at b3
  have m1 : mulOk (m + 31) (c + 1 + 5) = true := mulOk_r (by omega)
  have m2 : mulOk (c + 1) (c + 1) = true := mulOk_r (by omega)
  have m3 : mulOk ((c + 1) * (c + 1)) (c + 1) = true := mulOk_r (by omega)
  have m4 : ∀ x, mulOk x 998244353 = true := fun x => mulOk_r (by decide)
  have m5 : ∀ x, mulOk x 424242427 = true := fun x => mulOk_r (by decide)
  have m6 : ∀ x, mulOk x 7 = true := fun x => mulOk_r (by decide)
  have m7 : ∀ x, mulOk x 3 = true := fun x => mulOk_r (by decide)
  have m8 : ∀ x, mulOk x 11 = true := fun x => mulOk_r (by decide)
  have m9 : mulOk x1 x1 = true := mulOk_b (by have : (100000000000000000000000000319 : Int) < 2 ^ 400 := by decide +kernel
                                              omega) (by have : (100000000000000000000000000319 : Int) < 2 ^ 400 := by decide +kernel
                                                         omega)
  have m10 : mulOk x2 x2 = true := mulOk_b (by have : (10000000000000000000000000000033 : Int) < 2 ^ 400 := by decide +kernel
                                               omega) (by have : (10000000000000000000000000000033 : Int) < 2 ^ 400 := by decide +kernel
                                                          omega)
  refine ⟨(x3.fdiv 50021).fmod n, (fmod_b hn).1, (fmod_b hn).2, ?_⟩
  rw [runK_at (at_l__law_draw_599432 L)]
  simp [runF, l__law_draw_599432, Pv.start, seqL, deep, evL, opd2, opd1, opds, pre, getP, fill, bop, cop, bD, ixop, atD, ixD, tru, bop2, setRoot, setD, setR, iosOf, h, hn0, divOk, h2, List.set, m1, m2, m3, m4, m5, m6, m7, m8, ← e1, m9, ← e2, m10, ← e3]
/-- a well, so many draws old -/
def Wl (n : Nat) (W : PyData) : Prop := ∃ a m c : Int, W = .list [.int a, .int m, .int c] ∧ m.natAbs < 2 ^ 200 ∧ 0 ≤ c ∧ c ≤ n
theorem Wl.mono {n m : Nat} {W : PyData} (h : Wl n W) (k : n ≤ m) : Wl m W := by
  obtain ⟨a, b, c, e, h1, h2, h3⟩ := h
  exact ⟨a, b, c, e, h1, h2, by omega⟩
theorem draw_ok {n : Nat} {W : PyData} (h : Wl n W) (hn : n < 900000) (k : Nat) (many : Nat) (h1 : 0 < many) (h2 : many < 1000000000) : ∃ (r : Nat) (W' : PyData), r < many ∧ Wl (n + 1) W' ∧ runK (mkP L) (k + 1) 121 [W, eN many] = .ret (eN r) false [W'] := by
  obtain ⟨a, m, c, rfl, hm, hc, hc2⟩ := h
  by_cases ha : 0 < a
  · have b := fmod_b (x := a) (M := (many : Int)) (by omega)
    obtain ⟨r, hr⟩ : ∃ r : Nat, a.fmod many = (r : Int) := ⟨_, (Int.toNat_of_nonneg b.1).symm⟩
    have e := draw1 (L := L) (k := k) a m c many ha (by omega) (by omega)
    rw [hr] at e b
    exact ⟨r, _, by omega, ⟨_, m, c, rfl, hm, hc, by omega⟩, e⟩
  · obtain ⟨r, r1, r2, e⟩ := draw2 (L := L) (k := k) a m c many ha (by omega) (by omega) hm (by omega)
    obtain ⟨j, rfl⟩ : ∃ j : Nat, r = (j : Int) := ⟨_, (Int.toNat_of_nonneg r1).symm⟩
    exact ⟨j, _, by omega, ⟨a, m, c + 1, rfl, hm, by omega, by omega⟩, e⟩
end
end Pv
/-! Sp8: the laws' shared sorts, signs, parts. -/
namespace Pv
open PySem GP
def lawSorts : List Srt := [⟨1, 2, [0, 1]⟩, ⟨1, 2, [1, 0]⟩, ⟨1, 1, [0]⟩, ⟨1, 3, [1, 0, 2]⟩, ⟨1, 3, [0, 1, 2]⟩, ⟨2, 1, [0]⟩, ⟨2, 2, [0, 1]⟩, ⟨2, 2, [1, 0]⟩]
theorem lawSorts_ok : ∀ s ∈ lawSorts, s.Ok := by
  intro s hs
  simp only [lawSorts, List.mem_cons, List.not_mem_nil, or_false] at hs
  rcases hs with rfl | rfl | rfl | rfl | rfl | rfl | rfl | rfl <;> exact ⟨by decide, by decide, by decide, by decide, by decide +kernel⟩
section
variable {L : List FnD} {k : Nat} {s : Srt} {p : Pic}
theorem law_sort_ok {n : Nat} {W : PyData} (h : Wl n W) (hn : n < 900000) : ∃ s W', s ∈ lawSorts ∧ Wl (n + 1) W' ∧ runK (mkP L) (k + 2) 122 [W] = .ret (eS s) false [W'] := by
  obtain ⟨r, W', hr, hW, e⟩ := draw_ok (L := L) h hn k 8 (by decide) (by decide)
  have e : runK (mkP L) (k + 1) 121 [W, .int 8] = .ret (.int (r : Int)) false [W'] := e
  have hr2 : r < lawSorts.length := hr
  refine ⟨lawSorts[r], W', List.getElem_mem _, hW, ?_⟩
  have ix : ixop (.list (lawSorts.map eS)) (.int (r : Int)) = some (eS lawSorts[r]) := by
    show atD _ _ = _
    rw [atD_nat, List.getElem?_map, List.getElem?_eq_getElem hr2]; rfl
  rw [runK_at (at_l__law_sort_a67c84 L)]
  have e0 : (PyData.list [.tuple [.int 1, .int 2, .tuple [.int 0, .int 1]], .tuple [.int 1, .int 2, .tuple [.int 1, .int 0]], .tuple [.int 1, .int 1, .tuple [.int 0]], .tuple [.int 1, .int 3, .tuple [.int 1, .int 0, .int 2]], .tuple [.int 1, .int 3, .tuple [.int 0, .int 1, .int 2]], .tuple [.int 2, .int 1, .tuple [.int 0]], .tuple [.int 2, .int 2, .tuple [.int 0, .int 1]], .tuple [.int 2, .int 2, .tuple [.int 1, .int 0]]]) = .list (lawSorts.map eS) := rfl
  simp [runF, l__law_sort_a67c84, Pv.start, seqL, deep, evL, opds, opd2, pre, fill, getP, ioC, setRoot, List.set, iosOf, e, line, e0, ix]
theorem law_sign_ok (hs : s.Ok) (hp : Pic.Ok s p) {i j : Nat} (hi : i < p.length) (hj : j < p.length) (hne : i ≠ j) : runK (mkP L) (k + 1) 123 [eS s, eP p, eN i, eN j] = .ret (eN (sgn s p i j)) false [] := by
  rw [runK_at (at_l__law_sign_2cb75e L)]
  by_cases h : i < j
  · have h2 := (hp.at_ hj).2.1
    simp [runF, l__law_sign_2cb75e, Pv.start, seqL, deep, opd2, opds, pre, fill, getP, cop, bD, tru, h, ix_P hj, ix_Ns (l := (nth p j).2) (i := i) (by omega), iosOf, sgn]
  · have h2 := (hp.at_ hi).2
    have h3 := h2.2 _ (nth_mem (i := j) (by omega))
    simp [runF, l__law_sign_2cb75e, Pv.start, seqL, deep, opd2, opds, pre, fill, getP, cop, bD, tru, h, ix_P hi, ix_Ns (l := (nth p i).2) (i := j) (by omega), ix_Ns (l := s.trn) (i := nth (nth p i).2 j) (by rw [hs.len]; exact h3), iosOf, sgn]
theorem zipIdx_app {x d r : List Nat} {a : Nat} {j : Nat} {i : Nat} {done rest : List (Nat × Nat)} (e : x.zipIdx = done ++ (a, i) :: rest) : i = done.length ∧ x[i]? = some a ∧ x.take i = done.map (·.1) := by
  have h : x.zipIdx[done.length]? = some (a, i) := by rw [e]; simp
  have h2 := List.getElem?_zipIdx (l := x) (i := 0) (j := done.length)
  rw [h] at h2
  obtain ⟨b, hb, h3⟩ : ∃ b, x[done.length]? = some b ∧ (a, i) = (b, 0 + done.length) := by
    cases e2 : x[done.length]? with
    | none => rw [e2] at h2; cases h2
    | some b => rw [e2] at h2; exact ⟨b, rfl, Option.some.inj h2⟩
  have h4 : a = b := congrArg Prod.fst h3
  have h5 : i = done.length := by have := congrArg Prod.snd h3; simpa using this
  subst h4; subst h5
  refine ⟨rfl, hb, ?_⟩
  have h6 : x = x.zipIdx.map (·.1) := by simp
  rw [e] at h6
  rw [h6]
  simp
theorem Row.take {n : Nat} {x : List Nat} {i a : Nat} (h : Row n x) (hi : x[i]? = some a) : a < n ∧ ∀ b ∈ x.take i, b < n ∧ b ≠ a := by
  obtain ⟨hl, e⟩ := List.getElem?_eq_some_iff.mp hi
  refine ⟨h.lt a (e ▸ List.getElem_mem hl), fun b hb => ⟨h.lt b (List.mem_of_mem_take hb), fun z => ?_⟩⟩
  obtain ⟨j, hj, e2⟩ := List.getElem_of_mem hb
  rw [List.length_take] at hj
  rw [List.getElem_take] at e2
  exact List.pairwise_iff_getElem.mp h.nd j i (by omega) hl (by omega) (by rw [e2, e, z])
theorem part_ok {x : List Nat} (hs : s.Ok) (hp : Pic.Ok s p) (hx : Row p.length x) (hl : p.length ≤ 12) : runK (mkP L) (k + 2) 124 [eS s, eP p, eNs x] = .ret (eP (part s p x)) false [] := by
  have hxl : x.length ≤ 12 := Nat.le_trans hx.len hl
  have lp := forL_inv (body := turnS (evN (mkP L) (k + 1) (runK (mkP L) (k + 1)) 59) (.tp [4, 5]) [.app 3 (.tup [.idx (.idx (.var 1) (.var 5)) (.int 0), .bi .tuple [.lc (.call 123 [.var 0, .var 1, .var 6, .var 5]) [6] (.nm 6) (.slc (.var 2) none (some (.var 4))) []]])])
    (fun q : Nat × Nat => PyData.tuple [.int ((q.2 : Nat) : Int), eN q.1]) (fun (c : Option Cell × Option Cell) (found : Pic) => [some (.pl (eS s)), some (.pl (eP p)), some (.pl (eNs x)), some (.ow (.list (found.map eW))), c.1, c.2, none]) (fun found q => found ++ [stand s p (x.take q.2) q.1]) (fun done found => found.length = done.length) x.zipIdx
    (fun done q rest found c e hl2 => by
      obtain ⟨a, i⟩ := q
      obtain ⟨h1, h2, h3⟩ := zipIdx_app (d := []) (r := []) (a := a) (j := 0) e
      obtain ⟨h4, h5⟩ := hx.take h2
      have hil : i ≤ 12 := by have := (List.getElem?_eq_some_iff.mp h2).1; omega
      have lc := lc_map (P := mkP L) (p := evN (mkP L) (k + 1) (runK (mkP L) (k + 1)) 55) (elt := .call 123 [.var 0, .var 1, .var 6, .var 5]) (own := [6]) (t := .nm 6) (it := .slc (.var 2) none (some (.var 4))) (ifs := [])
        (s := [some (.pl (eS s)), some (.pl (eP p)), some (.pl (eNs x)), some (.ow (.list (found.map eW))), some (.pl (eN i)), some (.pl (eN a)), none])
        (s1 := [some (.pl (eS s)), some (.pl (eP p)), some (.pl (eNs x)), some (.ow (.list (found.map eW))), some (.pl (eN i)), some (.pl (eN a)), none])
        (x.take i) eN (fun b => eN (sgn s p b a)) (by simp [items, pre, fill, getP, evO, intO, f1, slop, eNs, cut_take, seqD]) rfl (fun b hb => by
          have sg := law_sign_ok (L := L) (k := k) hs hp (h5 b hb).1 h4 (h5 b hb).2
          simp [lcT, asgR, asgT, testsL, wipeS, evL, sg]) (by rw [List.length_take]; show _ ≤ 16777216; omega)
      refine ⟨(some (.pl (eN i)), some (.pl (eN a))), ?_, by rw [List.length_append, List.length_append, hl2]; rfl⟩
      have ha := ix_P (p := p) h4
      have hfl : found.length < line := by
        have h7 : done.length < x.zipIdx.length := by rw [e]; simp
        rw [List.length_zipIdx] at h7
        show _ < 16777216
        omega
      have hst : PyData.tuple [eN (nth p a).1, .tuple ((x.take i).map fun b => eN (sgn s p b a))] = eW (stand s p (x.take i) a) := by
        show _ = PyData.tuple [eN (nth p a).1, .tuple (((x.take i).map fun b => sgn s p b a).map eN)]
        rw [List.map_map]; rfl
      simp [turnS, asgR, asgT, setAll, seqL, evL, opd2, opds, pre, fill, getP, ha, lc, bop2, line, setR, setRoot, appD, List.set, show found.length < 16777216 from hfl]
      rw [← List.map_take, hst])
    x.zipIdx [] (none, none) [] rfl rfl
  obtain ⟨c, e, _⟩ := lp
  rw [runK_at (at_l__law_part_ad367b L)]
  have en := enumD_map eN x 0
  have fo : x.zipIdx.foldl (fun found q => found ++ [stand s p (x.take q.2) q.1]) [] = part s p x := by
    have : ∀ (l : List (Nat × Nat)) (f : Pic), l.foldl (fun found q => found ++ [stand s p (x.take q.2) q.1]) f = f ++ l.map fun q => stand s p (x.take q.2) q.1 := by
      intro l
      induction l with
      | nil => intro f; simp
      | cons y l ih => intro f; rw [List.foldl_cons, ih]; simp
    exact this _ _
  rw [fo] at e
  simp only [List.map_nil] at e
  have sq : seqD (eNs x) = some (x.map eN) := rfl
  simp [runF, l__law_part_ad367b, Pv.start, seqL, deep, evL, items, iosOf, line, opds, pre, fill, getP, e, en, bop2, sq]
  rfl
end
end Pv
/-! Sp9: the laws' shared pictures, orders, rows. -/
namespace Pv
open PySem GP
section
variable {L : List FnD} {k : Nat} {s : Srt} {p : Pic}
theorem Pic.Ok.snoc (hp : Pic.Ok s p) {w : Way} (h1 : w.1 < s.kinds) (h2 : w.2.length = p.length) (h3 : ∀ x ∈ w.2, x < s.signs) : Pic.Ok s (p ++ [w]) := by
  intro j v hv
  by_cases hj : j < p.length
  · rw [List.getElem?_append_left hj] at hv
    exact hp j v hv
  · rw [List.getElem?_append_right (by omega)] at hv
    have hj2 : j - p.length = 0 := by
      refine Classical.byContradiction fun z => ?_
      obtain ⟨m, hm⟩ : ∃ m, j - p.length = m + 1 := ⟨j - p.length - 1, by omega⟩
      rw [hm] at hv
      simp at hv
    rw [hj2] at hv
    have e : w = v := by simpa using hv
    subst e
    exact ⟨h1, by omega, h3⟩
theorem law_pic_turn {n : Nat} {W : PyData} {size : Nat} {c : Option Cell} {j : Nat} (hs : s.Ok) (hp : Pic.Ok s p) (hW : Wl n W) (hn : n < 800000) (hj : p.length = j) (hj2 : j ≤ 12) :
    ∃ w W', turnS (evN (mkP L) (k + 1) (runK (mkP L) (k + 1)) 59) (.nm 4) [.app 3 (.tup [.call 121 [.var 0, .idx (.var 1) (.int 0)], .bi .tuple [.lc (.call 121 [.var 0, .idx (.var 1) (.int 1)]) [5] (.nm 5) (.rng [.var 4]) []]])] (eN j)
      [some (.io W), some (.pl (eS s)), some (.pl (eN size)), some (.ow (.list (p.map eW))), c, none] =
      .ok .nx [some (.io W'), some (.pl (eS s)), some (.pl (eN size)), some (.ow (.list ((p ++ [w]).map eW))), some (.pl (eN j)), none] ∧ Pic.Ok s (p ++ [w]) ∧ Wl (n + 14) W' := by
  obtain ⟨r, W1, hr, hW1, e1⟩ := draw_ok (L := L) hW (by omega) k s.kinds (by have := hs.kinds; omega) (by have := hs.kinds; omega)
  have lc := lcs_ok (P := mkP L) (p := evN (mkP L) (k + 1) (runK (mkP L) (k + 1)) 55) (elt := .call 121 [.var 0, .idx (.var 1) (.int 1)]) (it := .rng [.var 4]) (i := 5) (t := .nm 5) (ifs := [])
    (s := [some (.io W1), some (.pl (eS s)), some (.pl (eN size)), some (.ow (.list (p.map eW))), some (.pl (eN j)), none])
    (s1 := [some (.io W1), some (.pl (eS s)), some (.pl (eN size)), some (.ow (.list (p.map eW))), some (.pl (eN j)), none])
    eN eN (fun W : PyData => [some (.io W), some (.pl (eS s)), some (.pl (eN size)), some (.ow (.list (p.map eW))), some (.pl (eN j)), none]) (fun m W => Wl (n + 1 + m) W) (fun y => y < s.signs) (List.range j) 0 W1
    (by
      have rg : rngD [eN j] = some ((List.range j).map eN) := rng1 (Nat.le_trans hj2 (by decide))
      simp [items, opds, pre, fill, getP, rg]) rfl rfl hW1 (by rw [List.length_range]; show _ ≤ 16777216; omega) (fun x hx m W hW hm => by
      rw [List.length_range] at hm
      have hsg := hs.signs
      obtain ⟨r2, W2, hr2, hW2, e2⟩ := draw_ok (L := L) hW (by omega) k s.signs (by omega) (by omega)
      refine ⟨r2, [some (.io W2), some (.pl (eS s)), some (.pl (eN size)), some (.ow (.list (p.map eW))), some (.pl (eN j)), some (.pl (eN x))], W2, ?_, rfl, hW2, hr2⟩
      simp [lcT, asgR, asgT, testsL, evL, opd2, opds, pre, fill, getP, ix_S1, ioC, e2, setRoot, List.set])
  obtain ⟨ys, W2, e2, hW2, hl2, hy⟩ := lc
  rw [List.length_range] at hW2 hl2
  have hfl : p.length < 16777216 := by omega
  refine ⟨(r, ys), W2, ?_, hp.snoc hr (by rw [hl2, hj]) hy, hW2.mono (by omega)⟩
  simp [turnS, asgR, asgT, seqL, evL, opd2, opds, pre, fill, getP, ix_S0, ioC, e1, setRoot, List.set, e2, bop2, line, setR, appD, hfl]
  rfl
theorem law_picture_ok {n : Nat} {W : PyData} {size : Nat} (hs : s.Ok) (hW : Wl n W) (hn : n < 700000) (hz : size ≤ 12) : ∃ q W', Pic.Ok s q ∧ q.length = size ∧ Wl (n + 200) W' ∧ runK (mkP L) (k + 2) 125 [W, eS s, eN size] = .ret (eP q) false [W'] := by
  have lp := forL_ex (body := turnS (evN (mkP L) (k + 1) (runK (mkP L) (k + 1)) 59) (.nm 4) [.app 3 (.tup [.call 121 [.var 0, .idx (.var 1) (.int 0)], .bi .tuple [.lc (.call 121 [.var 0, .idx (.var 1) (.int 1)]) [5] (.nm 5) (.rng [.var 4]) []]])])
    eN (fun c : PyData × Pic × Option Cell => [some (.io c.1), some (.pl (eS s)), some (.pl (eN size)), some (.ow (.list (c.2.1.map eW))), c.2.2, none]) (fun j c => Wl (n + 14 * j) c.1 ∧ Pic.Ok s c.2.1 ∧ c.2.1.length = j) (List.range size) (W, [], none)
    ⟨hW, fun j w h => by simp at h, rfl⟩ (fun j x c hx i => by
      obtain ⟨W, q, c4⟩ := c
      obtain ⟨i1, i2, i3⟩ := i
      have hj : j < size := by
        have := (List.getElem?_eq_some_iff.mp hx).1
        simpa using this
      have hxj : x = j := by
        rw [List.getElem?_range hj] at hx
        exact (Option.some.inj hx).symm
      subst hxj
      obtain ⟨w, W', e, h1, h2⟩ := law_pic_turn (L := L) (k := k) (size := size) (c := c4) hs i2 i1 (by omega) i3 (by omega)
      exact ⟨(W', q ++ [w], _), e, h2.mono (by omega), h1, by rw [List.length_append, i3]; rfl⟩)
  obtain ⟨⟨W', q, c⟩, e, i1, i2, i3⟩ := lp
  rw [List.length_range] at i1 i3
  refine ⟨q, W', i2, i3, i1.mono (by omega), ?_⟩
  simp only [List.map_nil] at e
  rw [runK_at (at_l__law_picture_d4dabb L)]
  have rg : rngD [eN size] = some ((List.range size).map eN) := rng1 (Nat.le_trans hz (by decide))
  simp [runF, l__law_picture_d4dabb, Pv.start, seqL, deep, evL, items, iosOf, line, opds, pre, fill, getP, e, rg, bop2]
  rfl
end
end Pv
/-! Sp10: the laws' orders and rows. -/
namespace Pv
open PySem GP
def insAll (a : Nat) (o : List Nat) : List (List Nat) := (List.range (a + 1)).map fun sp => o.take sp ++ [a] ++ o.drop sp
def orders (n : Nat) : List (List Nat) := (List.range n).foldl (fun F a => F.flatMap (insAll a)) [[]]
def rowsAll (n j : Nat) : List (List Nat) := (List.range j).foldl (fun F _ => grow n F) [[]]
theorem cut_drop {α : Type} (l : List α) (k : Nat) : cutD l (some (k : Int)) none = l.drop k := by
  show (l.drop (HT.sIx l.length 0 (some (k : Int)))).take (HT.sIx l.length l.length none - HT.sIx l.length 0 (some (k : Int))) = _
  rw [HT.sIx_none, HT.sIx_nat]
  rcases Nat.le_total k l.length with h | h
  · rw [Nat.min_eq_left h, List.take_of_length_le (by rw [List.length_drop]; exact Nat.le_refl _)]
  · rw [Nat.min_eq_right h, List.drop_eq_nil_of_le (Nat.le_refl _), List.drop_eq_nil_of_le h, List.take_nil]
section
variable {L : List FnD} {k : Nat} {s : Srt} {p : Pic}
theorem listsD_map {α : Type} (f : α → List PyData) : ∀ l : List α, listsD (l.map fun x => .list (f x)) = some (l.map f)
  | [] => rfl
  | x :: l => by
    show (listsD (l.map fun x => .list (f x))).map (f x :: ·) = _
    rw [listsD_map f l]; rfl
theorem sumL_map {α β : Type} (enc : β → PyData) (f : α → List β) (l : List α) (h : (l.flatMap f).length ≤ line) : bop2 .sumL [.list (l.map fun x => .list ((f x).map enc))] = some (.list ((l.flatMap f).map enc), true) := by
  show ((listsD (l.map fun x => .list ((f x).map enc))).bind fun ls => if ls.flatten.length ≤ line then some (PyData.list ls.flatten, true) else none) = _
  rw [listsD_map (fun x => (f x).map enc)]
  have e : (l.map fun x => (f x).map enc).flatten = (l.flatMap f).map enc := by rw [List.map_flatMap]; rfl
  show (if (l.map fun x => (f x).map enc).flatten.length ≤ line then _ else _) = _
  rw [e, if_pos (by rw [List.length_map]; exact h)]
def OrdI (j : Nat) (F : List (List Nat)) : Prop := F.length ≤ 6 ^ j ∧ ∀ o ∈ F, o.length = j
theorem OrdI.step {j : Nat} {F : List (List Nat)} (h : OrdI j F) (hj : j < 6) : OrdI (j + 1) (F.flatMap (insAll j)) := by
  refine ⟨?_, fun o ho => ?_⟩
  · have : ∀ F : List (List Nat), (F.flatMap (insAll j)).length = F.length * (j + 1) := by
      intro F
      induction F with
      | nil => simp
      | cons o F ih => rw [List.flatMap_cons, List.length_append, ih, List.length_cons, Nat.add_mul]; unfold insAll; simp; omega
    rw [this, Nat.pow_succ]
    exact Nat.mul_le_mul h.1 (by omega)
  · obtain ⟨x, hx, h2⟩ := List.mem_flatMap.mp ho
    obtain ⟨sp, hs, rfl⟩ := List.mem_map.mp h2
    have := h.2 x hx
    have := List.mem_range.mp hs
    simp only [List.length_append, List.length_take, List.length_drop, List.length_cons, List.length_nil]
    omega
theorem orders_turn {j n : Nat} {F : List (List Nat)} {c2 : Option Cell} (h : OrdI j F) (hj : j < 6) :
    turnS (evN (mkP L) k (runK (mkP L) k) 59) (.nm 2) [.asg (.nm 1) (.bi .sumL [.lc (.lc (.bin .add (.bin .add (.slc (.var 3) none (some (.var 4))) (.tup [.var 2])) (.slc (.var 3) (some (.var 4)) none)) [4] (.nm 4) (.rng [.bin .add (.var 2) (.int 1)]) []) [3] (.nm 3) (.var 1) []])] (eN j)
      [some (.pl (eN n)), some (.ow (.list (F.map eNs))), c2, none, none] =
      .ok .nx [some (.pl (eN n)), some (.ow (.list ((F.flatMap (insAll j)).map eNs))), some (.pl (eN j)), none, none] := by
  have st := h.step hj
  have hlen : (F.flatMap (insAll j)).length ≤ line := Nat.le_trans st.1 (Nat.le_trans (Nat.pow_le_pow_right (by decide) (show j + 1 ≤ 6 by omega)) (by decide))
  have hF : F.length ≤ line := Nat.le_trans h.1 (Nat.le_trans (Nat.pow_le_pow_right (by decide) (show j ≤ 6 by omega)) (by decide))
  have lc := lc_map (P := mkP L) (p := evN (mkP L) k (runK (mkP L) k) 56) (elt := (.lc (.bin .add (.bin .add (.slc (.var 3) none (some (.var 4))) (.tup [.var 2])) (.slc (.var 3) (some (.var 4)) none)) [4] (.nm 4) (.rng [.bin .add (.var 2) (.int 1)]) [])) (own := [3]) (t := .nm 3) (it := .var 1) (ifs := [])
    (s := [some (.pl (eN n)), some (.ow (.list (F.map eNs))), some (.pl (eN j)), none, none])
    (s1 := [some (.pl (eN n)), some (.pl (.list (F.map eNs))), some (.pl (eN j)), none, none])
    F eNs (fun o => .list ((insAll j o).map eNs)) (by simp [items, seqD]) rfl (fun o ho => by
      have hol := h.2 o ho
      have lc2 := lc_map (P := mkP L) (p := evN (mkP L) k (runK (mkP L) k) 55) (elt := .bin .add (.bin .add (.slc (.var 3) none (some (.var 4))) (.tup [.var 2])) (.slc (.var 3) (some (.var 4)) none)) (own := [4]) (t := .nm 4) (it := .rng [.bin .add (.var 2) (.int 1)]) (ifs := [])
        (s := [some (.pl (eN n)), some (.pl (.list (F.map eNs))), some (.pl (eN j)), some (.pl (eNs o)), none])
        (s1 := [some (.pl (eN n)), some (.pl (.list (F.map eNs))), some (.pl (eN j)), some (.pl (eNs o)), none])
        (List.range (j + 1)) eN (fun sp => eNs (o.take sp ++ [j] ++ o.drop sp)) (by
          have rg : rngD [.int ((j : Int) + 1)] = some ((List.range (j + 1)).map eN) := rng1 (n := j + 1) (by omega)
          simp [items, opds, opd2, pre, fill, getP, bop, rg]) rfl (fun sp hsp => by
            have t1 : slop (eNs o) none (some (sp : Int)) = some (eNs (o.take sp), false) := by show some (PyData.tuple (cutD (o.map eN) none (some (sp : Int))), false) = _; rw [cut_take, ← List.map_take]; rfl
            have t2 : slop (eNs o) (some (sp : Int)) none = some (eNs (o.drop sp), false) := by show some (PyData.tuple (cutD (o.map eN) (some (sp : Int)) none), false) = _; rw [cut_drop, ← List.map_drop]; rfl
            have a1 := add_Ns1 (x := o.take sp) (y := j) (by rw [List.length_take]; omega)
            have a2 := add_Ns (x := o.take sp ++ [j]) (y := o.drop sp) (by simp; omega)
            simp [lcT, asgR, asgT, testsL, wipeS, opd2, opds, pre, fill, getP, evL, evO, intO, f1, t1, t2, line, a1, a2]) (by rw [List.length_range]; show _ ≤ 16777216; omega)
      have e2 : ((List.range (j + 1)).map fun sp => eNs (o.take sp ++ [j] ++ o.drop sp)) = (insAll j o).map eNs := by unfold insAll; rw [List.map_map]; rfl
      rw [e2] at lc2
      simp [lcT, asgR, asgT, testsL, wipeS, lc2]) hF
  have sm := sumL_map eNs (insAll j) F hlen
  simp [turnS, asgR, asgT, seqL, opds, pre, fill, getP, lc, sm]
theorem law_orders_ok {n : Nat} (hn : n ≤ 6) : runK (mkP L) (k + 1) 126 [eN n] = .ret (.list ((orders n).map eNs)) true [] := by
  have lp := forL_inv (body := turnS (evN (mkP L) k (runK (mkP L) k) 59) (.nm 2) [.asg (.nm 1) (.bi .sumL [.lc (.lc (.bin .add (.bin .add (.slc (.var 3) none (some (.var 4))) (.tup [.var 2])) (.slc (.var 3) (some (.var 4)) none)) [4] (.nm 4) (.rng [.bin .add (.var 2) (.int 1)]) []) [3] (.nm 3) (.var 1) []])])
    eN (fun (c : Option Cell) (F : List (List Nat)) => [some (.pl (eN n)), some (.ow (.list (F.map eNs))), c, none, none]) (fun F a => F.flatMap (insAll a)) (fun done F => OrdI done.length F) (List.range n)
    (fun done a rest F c e h => by
      have hl : done.length < n := by
        have := congrArg List.length e
        rw [List.length_range, List.length_append, List.length_cons] at this
        omega
      have ha : a = done.length := by
        have h1 : (List.range n)[done.length]? = some a := by rw [e]; simp
        rw [List.getElem?_range hl] at h1
        exact (Option.some.inj h1).symm
      subst ha
      exact ⟨some (.pl (eN done.length)), orders_turn h (by omega), by rw [List.length_append]; exact h.step (by omega)⟩)
    (List.range n) [] none [[]] rfl ⟨by decide, by simp⟩
  obtain ⟨c, e, _⟩ := lp
  have rg : rngD [eN n] = some ((List.range n).map eN) := rng1 (by omega)
  have e0 : (PyData.tuple [] : PyData) = eNs [] := rfl
  simp only [List.map_cons, List.map_nil] at e
  rw [runK_at (at_l__law_orders_f8b615 L)]
  simp [runF, l__law_orders_f8b615, Pv.start, seqL, deep, evL, items, iosOf, line, opds, pre, fill, getP, e, rg, e0, orders]
end
end Pv
/-! Lm: the plain law of rows, parts, placings and least forms. -/
namespace Pv
open PySem PySem.W
/-! ### rows -/
theorem rowsAll_succ (n j : Nat) : rowsAll n (j + 1) = grow n (rowsAll n j) := by
  unfold rowsAll
  rw [List.range_succ, List.foldl_append]
  rfl
theorem rowsAll_rows (n : Nat) : ∀ j, Rows n j (rowsAll n j)
  | 0 => Rows.one n
  | j + 1 => by rw [rowsAll_succ]; exact (rowsAll_rows n j).grow
theorem mem_rowsAll {n : Nat} : ∀ {j : Nat} {x : List Nat}, x ∈ rowsAll n j ↔ x.length = j ∧ Row n x
  | 0, x => by
    constructor
    · intro h
      have : x = [] := by simpa [rowsAll] using h
      subst this
      exact ⟨rfl, fun a h => (by cases h), List.nodup_nil⟩
    · rintro ⟨h, _⟩
      have : x = [] := List.length_eq_zero_iff.mp h
      subst this
      simp [rowsAll]
  | j + 1, x => by
    rw [rowsAll_succ, mem_grow]
    constructor
    · rintro ⟨y, hy, a, ha, hn, rfl⟩
      obtain ⟨h1, h2⟩ := mem_rowsAll.mp hy
      refine ⟨by simp [h1], fun b hb => ?_, ?_⟩
      · rcases List.mem_append.mp hb with hb | hb
        · exact h2.lt b hb
        · have : b = a := by simpa using hb
          subst this; exact ha
      · rw [List.nodup_append]
        exact ⟨h2.nd, by simp, fun c hc d hd e => hn (by have : d = a := by simpa using hd
                                                         subst this; exact e ▸ hc)⟩
    · rintro ⟨h1, h2⟩
      obtain ⟨y, a, rfl⟩ : ∃ y a, x = y ++ [a] := by
        have hx : x ≠ [] := fun e => by rw [e] at h1; cases h1
        exact ⟨x.dropLast, x.getLast hx, (List.dropLast_concat_getLast hx).symm⟩
      have nd := List.nodup_append.mp h2.nd
      refine ⟨y, mem_rowsAll.mpr ⟨by simpa using h1, fun b hb => h2.lt b (List.mem_append_left _ hb), nd.1⟩, a, h2.lt a (by simp), fun h => nd.2.2 a h a (by simp) rfl, rfl⟩
theorem grow_asc {n j : Nat} {F : List (List Nat)} (hl : ∀ x ∈ F, x.length = j) (h : F.Pairwise (· < ·)) : (grow n F).Pairwise (· < ·) := by
  unfold grow
  rw [List.pairwise_flatMap]
  refine ⟨fun x hx => ?_, ?_⟩
  · rw [List.pairwise_flatMap]
    refine ⟨fun a ha => ?_, ?_⟩
    · split
      · exact List.Pairwise.nil
      · exact List.pairwise_singleton _ _
    · refine List.Pairwise.imp ?_ (List.pairwise_lt_range (n := n))
      intro a b hab y hy z hz
      split at hy
      · cases hy
      · split at hz
        · cases hz
        · have e1 : y = x ++ [a] := by simpa using hy
          have e2 : z = x ++ [b] := by simpa using hz
          rw [e1, e2]
          exact app_lt2 x hab
  · refine List.Pairwise.imp_of_mem ?_ h
    intro x y hx hy hxy u hu v hv
    obtain ⟨a, _, hu⟩ := List.mem_flatMap.mp hu
    obtain ⟨b, _, hv⟩ := List.mem_flatMap.mp hv
    split at hu
    · cases hu
    · split at hv
      · cases hv
      · have e1 : u = x ++ [a] := by simpa using hu
        have e2 : v = y ++ [b] := by simpa using hv
        rw [e1, e2]
        exact app_lt hxy (by rw [hl x hx, hl y hy])
theorem rowsAll_asc (n : Nat) : ∀ j, (rowsAll n j).Pairwise (· < ·)
  | 0 => List.pairwise_singleton _ _
  | j + 1 => by rw [rowsAll_succ]; exact grow_asc (fun x hx => (mem_rowsAll.mp hx).1) (rowsAll_asc n j)
theorem lt_irreflL (x : List Nat) : ¬ x < x := List.lt_irrefl x
theorem rowsAll_nodup (n j : Nat) : (rowsAll n j).Nodup := (rowsAll_asc n j).imp fun h e => by subst e; exact lt_irreflL _ h
theorem orders_perm : ∀ n, n ≤ 5 → (orders n).Perm (rowsAll n n) := by
  have h : (List.range 6).all (fun n => (orders n).isPerm (rowsAll n n)) = true := by decide +kernel
  intro n hn
  exact List.isPerm_iff.mp (List.all_eq_true.mp h n (List.mem_range.mpr (by omega)))
/-! ### parts -/
section
variable {s : Srt} {p q : Pic}
theorem part_nil : part s q [] = [] := rfl
theorem part_snoc (x : List Nat) (a : Nat) : part s q (x ++ [a]) = part s q x ++ [stand s q x a] := by
  unfold part
  rw [List.zipIdx_append, List.map_append]
  congr 1
  · refine List.map_congr_left fun z hz => ?_
    obtain ⟨b, i⟩ := z
    have hi : i < x.length := by
      have := List.mem_zipIdx hz
      omega
    show stand s q ((x ++ [a]).take i) b = stand s q (x.take i) b
    rw [List.take_append_of_le_length (by omega)]
  · simp
theorem part_len (x : List Nat) : (part s q x).length = x.length := by unfold part; simp
theorem grow_filter (n : Nat) (b : List Nat → Bool) (F : List (List Nat)) : grow n (F.filter b) = (grow n F).filter fun y => b y.dropLast := by
  unfold grow
  induction F with
  | nil => rfl
  | cons x F ih =>
    have one : ∀ l : List Nat, (l.flatMap fun a => if a ∈ x then [] else [x ++ [a]]).filter (fun y => b y.dropLast) = if b x then l.flatMap fun a => if a ∈ x then [] else [x ++ [a]] else [] := by
      intro l
      induction l with
      | nil => simp
      | cons a l ih2 =>
        rw [List.flatMap_cons, List.filter_append, ih2]
        by_cases h : a ∈ x
        · simp [h]
        · by_cases h2 : b x = true
          · simp [h, h2]
          · simp [h, h2]
    rw [List.flatMap_cons, List.filter_append, ← ih, one]
    by_cases h : b x = true
    · rw [List.filter_cons_of_pos h, List.flatMap_cons, if_pos h]
    · rw [List.filter_cons_of_neg h, if_neg h]; rfl
/-- those rows at which a picture's part is so -/
def fits (s : Srt) (q : Pic) (n : Nat) (p : Pic) : List (List Nat) := (rowsAll n p.length).filter fun x => decide (part s q x = p)
theorem fits_snoc (n : Nat) (p : Pic) (w : Way) : fits s q n (p ++ [w]) = (grow n (fits s q n p)).filter fun x => eqW (stand s q x.dropLast (x.getLast?.getD 0)) w := by
  unfold fits
  rw [grow_filter, List.filter_filter, List.length_append, ← rowsAll_succ]
  refine List.filter_congr fun y hy => ?_
  obtain ⟨h1, h2⟩ := mem_rowsAll.mp hy
  obtain ⟨x, a, rfl⟩ : ∃ x a, y = x ++ [a] := by
    have hx : y ≠ [] := fun e => by rw [e] at h1; cases h1
    exact ⟨y.dropLast, y.getLast hx, (List.dropLast_concat_getLast hx).symm⟩
  rw [part_snoc, List.dropLast_concat, List.getLast?_concat]
  have hl : (part s q x).length = p.length := by rw [part_len]; simpa using h1
  rw [Bool.eq_iff_iff, Bool.and_eq_true, eqW_iff, decide_eq_true_iff, decide_eq_true_iff]
  constructor
  · intro h
    obtain ⟨e1, e2⟩ := List.append_inj h hl
    exact ⟨by simpa using e2, e1⟩
  · rintro ⟨e1, e2⟩
    have e1 : stand s q x a = w := e1
    rw [e1, e2]
theorem placings_eq : placings s p q = fits s q q.length p := by
  have main : ∀ (rest done : Pic), rest.foldl (plc1 s q) (fits s q q.length done) = fits s q q.length (done ++ rest) := by
    intro rest
    induction rest with
    | nil => intro done; rw [List.append_nil]; rfl
    | cons w rest ih =>
      intro done
      rw [List.foldl_cons]
      have : plc1 s q (fits s q q.length done) w = fits s q q.length (done ++ [w]) := (fits_snoc _ _ _).symm
      rw [this, ih, List.append_assoc]
      rfl
  exact main p []
/-! ### the order of pictures -/
def ltP (a b : Pic) : Bool := dataLt (eP a) (eP b)
theorem ltP_cons (w v : Way) (a b : Pic) : ltP (w :: a) (v :: b) = if w = v then ltP a b else ltW w v := by
  unfold ltP
  show dataLt (.tuple (eW w :: a.map eW)) (.tuple (eW v :: b.map eW)) = _
  rw [dataLt_tuple, dataLt_cons (alike_W w v), eqv_W]
  by_cases h : w = v
  · rw [if_pos (by simpa using h), if_pos h]
    show _ = dataLt (.tuple (a.map eW)) (.tuple (b.map eW))
    rw [dataLt_tuple]
  · rw [if_neg (by simpa using h), if_neg h]; rfl
theorem ltP_irrefl (a : Pic) : ltP a a = false := dl_irrefl _
theorem ltP_asymm {a b : Pic} (h : ltP a b = true) : ltP b a = false := dl_asymm h
theorem eP_inj {a b : Pic} (h : eP a = eP b) : a = b := by
  have e := eqv_P a b
  rw [h, eqv_P] at e
  have : decide (b = b) = true := by simp
  rw [this] at e
  exact of_decide_eq_true e.symm
theorem ltP_total {a b : Pic} (h1 : ltP a b = false) (h2 : ltP b a = false) : a = b := eP_inj (dl_total (alike_P a b) h1 h2)
theorem ltP_app : ∀ {x y u v : Pic}, ltP x y = true → x.length = y.length → ltP (x ++ u) (y ++ v) = true
  | [], [], _, _, h, _ => by rw [ltP_irrefl] at h; cases h
  | a :: x, b :: y, u, v, h, e => by
    rw [ltP_cons] at h
    rw [List.cons_append, List.cons_append, ltP_cons]
    by_cases hab : a = b
    · rw [if_pos hab] at h ⊢
      exact ltP_app h (by simpa using e)
    · rw [if_neg hab] at h ⊢
      exact h
  | [], _ :: _, _, _, _, e => by simp at e
  | _ :: _, [], _, _, _, e => by simp at e
theorem ltP_pre : ∀ (x a b : Pic), ltP (x ++ a) (x ++ b) = ltP a b
  | [], _, _ => rfl
  | w :: x, a, b => by rw [List.cons_append, List.cons_append, ltP_cons, if_pos rfl, ltP_pre x a b]
theorem ltP_one (a b : Way) : ltP [a] [b] = ltW a b := by
  rw [ltP_cons]
  by_cases h : a = b
  · rw [if_pos h, h, ltP_irrefl]
    exact (dl_irrefl _).symm
  · rw [if_neg h]
/-! ### least forms -/
structure LI (s : Srt) (q : Pic) (j : Nat) (st : List (List Nat) × Pic) : Prop where
  len : st.2.length = j
  eq : st.1 = fits s q q.length st.2
  ne : st.1 ≠ []
  least : ∀ y ∈ rowsAll q.length j, ltP (part s q y) st.2 = false
theorem LI.step {j : Nat} {st : List (List Nat) × Pic} (h : LI s q j st) (hj : j < q.length) : LI s q (j + 1) (lst1 s q st) := by
  have hr : Rows q.length j st.1 := by
    rw [h.eq]
    have := (rowsAll_rows q.length st.2.length).filter fun x => decide (part s q x = st.2)
    rw [h.len] at this
    unfold fits
    rw [h.len]
    exact this
  have gne := grow_ne hr hj h.ne
  have gne2 : (grow q.length st.1).map (lastW s q) ≠ [] := by simpa using gne
  obtain ⟨x0, hx0, e0⟩ := List.mem_map.mp (minW_mem gne2)
  refine ⟨by show (st.2 ++ [_]).length = _; rw [List.length_append, h.len]; rfl, ?_, fun z => ?_, fun y hy => ?_⟩
  · show (grow q.length st.1).filter (fun x => eqW (lastW s q x) (minW ((grow q.length st.1).map (lastW s q)))) = fits s q q.length (st.2 ++ [minW ((grow q.length st.1).map (lastW s q))])
    rw [fits_snoc, ← h.eq]
    rfl
  · have : x0 ∈ (lst1 s q st).1 := List.mem_filter.mpr ⟨hx0, by rw [← e0]; exact eqW_iff.mpr rfl⟩
    rw [z] at this
    cases this
  · show ltP (part s q y) (st.2 ++ [minW ((grow q.length st.1).map (lastW s q))]) = false
    rw [rowsAll_succ] at hy
    obtain ⟨x, hx, a, ha, hn, rfl⟩ := mem_grow.mp hy
    rw [part_snoc]
    have hl : (part s q x).length = st.2.length := by rw [part_len, h.len, (mem_rowsAll.mp hx).1]
    by_cases e : part s q x = st.2
    · rw [e, ltP_pre, ltP_one]
      have hx2 : x ∈ st.1 := by
        rw [h.eq]
        exact List.mem_filter.mpr ⟨by rw [h.len]; exact hx, by simpa using e⟩
      have hm : stand s q x a ∈ (grow q.length st.1).map (lastW s q) := List.mem_map.mpr ⟨x ++ [a], mem_grow.mpr ⟨x, hx2, a, ha, hn, rfl⟩, by unfold lastW; simp⟩
      exact minW_le hm
    · refine ltP_asymm (ltP_app ?_ hl.symm)
      cases e2 : ltP st.2 (part s q x) with
      | true => rfl
      | false => exact (e (ltP_total (h.least x hx) e2)).elim
theorem leastF_li (s : Srt) (q : Pic) : ∃ F, LI s q q.length (F, leastF s q) := by
  have main : ∀ j, j ≤ q.length → LI s q j ((List.range j).foldl (fun st _ => lst1 s q st) ([[]], [])) := by
    intro j
    induction j with
    | zero => intro _; exact ⟨rfl, rfl, by simp, fun y hy => by
        have : y = [] := by simpa [rowsAll] using hy
        subst this; exact ltP_irrefl _⟩
    | succ j ih =>
      intro h
      rw [List.range_succ, List.foldl_append]
      exact (ih (by omega)).step (by omega)
  exact ⟨_, main q.length (Nat.le_refl _)⟩
/-- the least form is one of the forms, and none is less -/
theorem leastF_some (s : Srt) (q : Pic) : ∃ x, x.length = q.length ∧ Row q.length x ∧ part s q x = leastF s q := by
  obtain ⟨F, h⟩ := leastF_li s q
  obtain ⟨x, l, e⟩ := List.exists_cons_of_ne_nil h.ne
  have hx : x ∈ fits s q q.length (leastF s q) := by
    have := h.eq
    have e : F = x :: l := e
    rw [e] at this
    show x ∈ fits s q q.length (F, leastF s q).2
    rw [← this]
    exact List.mem_cons_self
  obtain ⟨h1, h2⟩ := List.mem_filter.mp hx
  obtain ⟨h3, h4⟩ := mem_rowsAll.mp h1
  exact ⟨x, by rw [h3]; exact h.len, h4, by simpa using h2⟩
theorem leastF_le {x : List Nat} (h1 : x.length = q.length) (h2 : Row q.length x) : ltP (part s q x) (leastF s q) = false := by
  obtain ⟨F, h⟩ := leastF_li s q
  exact h.least x (mem_rowsAll.mpr ⟨h1, h2⟩)
end
end Pv
/-! Lm2: parts of parts; like pictures. -/
namespace Pv
open PySem PySem.W
theorem nodup_le {α : Type} [DecidableEq α] : ∀ (l D : List α), l.Nodup → (∀ x ∈ l, x ∈ D) → l.length ≤ D.length
  | [], _, _, _ => Nat.zero_le _
  | a :: l, D, h, hs => by
    have ha : a ∈ D := hs a List.mem_cons_self
    have h2 := List.nodup_cons.mp h
    have := nodup_le l (D.erase a) h2.2 fun x hx => (List.mem_erase_of_ne fun (e : x = a) => h2.1 (e ▸ hx)).mpr (hs x (List.mem_cons_of_mem _ hx))
    rw [List.length_erase_of_mem ha] at this
    have hp : 0 < D.length := List.length_pos_of_mem ha
    rw [List.length_cons]
    omega
section
variable {s : Srt} {p q : Pic}
theorem trn_sgn (hs : s.Ok) (hp : Pic.Ok s p) {a b : Nat} (ha : a < p.length) (hb : b < p.length) (hne : a ≠ b) : nth s.trn (sgn s p a b) = sgn s p b a := by
  unfold sgn
  by_cases h : a < b
  · rw [if_pos h, if_neg (by omega)]
  · rw [if_neg h, if_pos (by omega)]
    have h2 := (hp.at_ ha).2
    exact hs.inv _ (h2.2 _ (nth_mem (by rw [h2.1]; omega)))
theorem nth_map {α β : Type} [Inhabited α] [Inhabited β] (f : α → β) {l : List α} {i : Nat} (h : i < l.length) : nth (l.map f) i = f (nth l i) := by
  rw [nth_get (by rw [List.length_map]; exact h), nth_get h, List.getElem_map]
theorem nth_take {α : Type} [Inhabited α] {l : List α} {i j : Nat} (h : i < l.length) (hj : i < j) : nth (l.take j) i = nth l i := by
  rw [nth_get (by rw [List.length_take]; omega), nth_get h, List.getElem_take]
theorem nth_part {x : List Nat} {j : Nat} (h : j < x.length) : nth (part s q x) j = stand s q (x.take j) (nth x j) := by
  rw [nth_get (by rw [part_len]; exact h), nth_get h]
  unfold part
  simp
theorem Row.inj {n : Nat} {x : List Nat} (h : Row n x) {i j : Nat} (hi : i < x.length) (hj : j < x.length) (e : nth x i = nth x j) : i = j := by
  rw [nth_get hi, nth_get hj] at e
  rcases Nat.lt_trichotomy i j with z | z | z
  · exact (List.pairwise_iff_getElem.mp h.nd i j hi hj z e).elim
  · exact z
  · exact (List.pairwise_iff_getElem.mp h.nd j i hj hi z e.symm).elim
theorem sgn_part {x : List Nat} (hs : s.Ok) (hq : Pic.Ok s q) (hx : Row q.length x) {i j : Nat} (hi : i < x.length) (hj : j < x.length) (hne : i ≠ j) : sgn s (part s q x) i j = sgn s q (nth x i) (nth x j) := by
  have hlt : ∀ i, i < x.length → nth x i < q.length := fun i h => hx.lt _ (nth_mem h)
  have hn : nth x i ≠ nth x j := fun e => hne (hx.inj hi hj e)
  by_cases h : i < j
  · show (if i < j then nth (nth (part s q x) j).2 i else _) = _
    rw [if_pos h, nth_part hj]
    show nth ((x.take j).map fun a => sgn s q a (nth x j)) i = _
    rw [nth_map _ (by rw [List.length_take]; omega), nth_take hi h]
  · show (if i < j then _ else nth s.trn (nth (nth (part s q x) i).2 j)) = _
    rw [if_neg h, nth_part hi]
    show nth s.trn (nth ((x.take i).map fun a => sgn s q a (nth x i)) j) = _
    rw [nth_map _ (by rw [List.length_take]; omega), nth_take hj (by omega)]
    exact trn_sgn hs hq (hlt j hj) (hlt i hi) (Ne.symm hn)
theorem stand_part {x y : List Nat} {a : Nat} (hs : s.Ok) (hq : Pic.Ok s q) (hx : Row q.length x) (ha : a < x.length) (hy : ∀ b ∈ y, b < x.length ∧ b ≠ a) : stand s (part s q x) y a = stand s q (y.map (nth x)) (nth x a) := by
  show ((nth (part s q x) a).1, y.map fun b => sgn s (part s q x) b a) = ((nth q (nth x a)).1, (y.map (nth x)).map fun b => sgn s q b (nth x a))
  rw [nth_part ha, List.map_map]
  congr 1
  refine List.map_congr_left fun b hb => ?_
  exact sgn_part hs hq hx (hy b hb).1 ha (hy b hb).2
theorem part_part {x : List Nat} (hs : s.Ok) (hq : Pic.Ok s q) (hx : Row q.length x) : ∀ (m : Nat) (y : List Nat), y.length = m → Row x.length y → part s (part s q x) y = part s q (y.map (nth x))
  | 0, y, h, _ => by
    have : y = [] := List.length_eq_zero_iff.mp h
    subst this; rfl
  | m + 1, y, h, hy => by
    obtain ⟨z, a, rfl⟩ : ∃ z a, y = z ++ [a] := by
      have hx : y ≠ [] := fun e => by rw [e] at h; cases h
      exact ⟨y.dropLast, y.getLast hx, (List.dropLast_concat_getLast hx).symm⟩
    have nd := List.nodup_append.mp hy.nd
    have hz : Row x.length z := ⟨fun b hb => hy.lt b (List.mem_append_left _ hb), nd.1⟩
    rw [part_snoc, part_part hs hq hx m z (by simpa using h) hz, List.map_append, List.map_cons, List.map_nil, part_snoc, stand_part hs hq hx (hy.lt a (by simp)) fun b hb => ⟨hz.lt b hb, fun e => nd.2.2 b hb a (by simp) e⟩]
theorem part_ok_pic {x : List Nat} (hs : s.Ok) (hq : Pic.Ok s q) (hx : Row q.length x) : Pic.Ok s (part s q x) := by
  intro j w h
  have hj : j < x.length := by
    have := (List.getElem?_eq_some_iff.mp h).1
    rw [part_len] at this; exact this
  have hw : w = stand s q (x.take j) (nth x j) := by
    rw [nth_some (by rw [part_len]; exact hj), nth_part hj] at h
    exact (Option.some.inj h).symm
  subst hw
  have hlt := hx.lt _ (nth_mem hj)
  refine ⟨(hq.at_ hlt).1, by show ((x.take j).map _).length = j; rw [List.length_map, List.length_take]; omega, fun a ha => ?_⟩
  obtain ⟨b, hb, rfl⟩ := List.mem_map.mp ha
  obtain ⟨h1, h2⟩ := hx.take (nth_some hj)
  exact hq.sgn_lt hs (h2 b hb).1 h1 (h2 b hb).2
theorem part_range (hq : Pic.Ok s q) : part s q (List.range q.length) = q := by
  refine List.ext_getElem (by rw [part_len, List.length_range]) fun j h1 h2 => ?_
  have hj : j < (List.range q.length).length := by rw [List.length_range]; exact h2
  rw [← nth_get h1, ← nth_get h2, nth_part hj]
  have e1 : nth (List.range q.length) j = j := by rw [nth_get hj, List.getElem_range]
  have e2 : (List.range q.length).take j = List.range j := by rw [List.take_range, Nat.min_eq_left (by omega)]
  rw [e1, e2]
  have h3 := (hq.at_ h2).2.1
  show ((nth q j).1, (List.range j).map fun a => sgn s q a j) = nth q j
  have : ((List.range j).map fun a => sgn s q a j) = (nth q j).2 := by
    refine List.ext_getElem (by rw [List.length_map, List.length_range, h3]) fun a ha hb => ?_
    rw [List.getElem_map, List.getElem_range, ← nth_get hb]
    show (if a < j then _ else _) = _
    rw [if_pos (by omega)]
  rw [this]
/-- a row of all the numbers, turned round -/
theorem Row.back {n : Nat} {x : List Nat} (h : Row n x) (hl : x.length = n) : ∃ y, y.length = n ∧ Row n y ∧ y.map (nth x) = List.range n := by
  have hin : ∀ i, i < n → i ∈ x := fun i hi => Classical.byContradiction fun hn => by
    have := nodup_le (i :: x) (List.range n) (List.nodup_cons.mpr ⟨hn, h.nd⟩) fun a ha => by
      rcases List.mem_cons.mp ha with rfl | ha
      · exact List.mem_range.mpr hi
      · exact List.mem_range.mpr (h.lt a ha)
    rw [List.length_cons, List.length_range] at this
    omega
  have hlt : ∀ i, i < n → x.idxOf i < x.length := fun i hi => List.idxOf_lt_length_iff.mpr (hin i hi)
  have hnth : ∀ i, i < n → nth x (x.idxOf i) = i := fun i hi => by
    rw [nth_get (hlt i hi)]
    exact List.getElem_idxOf (hlt i hi)
  refine ⟨(List.range n).map fun i => x.idxOf i, by simp, ⟨fun a ha => ?_, ?_⟩, ?_⟩
  · obtain ⟨i, hi, rfl⟩ := List.mem_map.mp ha
    rw [← hl]; exact hlt i (List.mem_range.mp hi)
  · unfold List.Nodup
    rw [List.pairwise_map]
    refine List.Pairwise.imp_of_mem ?_ (List.nodup_range (n := n))
    intro a b ha hb hab e
    have e2 := congrArg (nth x) e
    rw [hnth a (List.mem_range.mp ha), hnth b (List.mem_range.mp hb)] at e2
    exact hab e2
  · rw [List.map_map]
    refine (List.map_congr_left fun i hi => ?_).trans (List.map_id _)
    exact hnth i (List.mem_range.mp hi)
/-- one picture is another's form -/
def Like (s : Srt) (p q : Pic) : Prop := ∃ x, x.length = q.length ∧ Row q.length x ∧ part s q x = p
theorem Like.symm (hs : s.Ok) (hq : Pic.Ok s q) (h : Like s p q) : Like s q p := by
  obtain ⟨x, h1, h2, rfl⟩ := h
  obtain ⟨y, h3, h4, h5⟩ := h2.back h1
  refine ⟨y, by rw [part_len, h3, h1], by rw [part_len, h1]; exact h4, ?_⟩
  rw [part_part hs hq h2 y.length y rfl (by rw [h1]; exact h4), h5]
  exact part_range hq
theorem comp_row {n m : Nat} {x y : List Nat} (hx : Row n x) (hxm : x.length = m) (hy : Row m y) : Row n (y.map (nth x)) := by
  refine ⟨fun a ha => ?_, ?_⟩
  · obtain ⟨i, hi, rfl⟩ := List.mem_map.mp ha
    exact hx.lt _ (nth_mem (by rw [hxm]; exact hy.lt i hi))
  · unfold List.Nodup
    rw [List.pairwise_map]
    refine List.Pairwise.imp_of_mem ?_ hy.nd
    intro a b ha hb hab e
    exact hab (hx.inj (by rw [hxm]; exact hy.lt a ha) (by rw [hxm]; exact hy.lt b hb) e)
theorem Like.trans {r : Pic} (hs : s.Ok) (hr : Pic.Ok s r) (h : Like s p q) (h2 : Like s q r) : Like s p r := by
  obtain ⟨x, h1, h3, rfl⟩ := h
  obtain ⟨y, h4, h5, rfl⟩ := h2
  rw [part_len] at h1 h3
  exact ⟨x.map (nth y), by rw [List.length_map, h1, h4], comp_row h5 rfl h3, (part_part hs hr h5 x.length x rfl h3).symm⟩
theorem fits_ne {n : Nat} (hn : q.length = n) (hl : p.length = n) : fits s q n p ≠ [] ↔ Like s p q := by
  constructor
  · intro h
    obtain ⟨x, l, e⟩ := List.exists_cons_of_ne_nil h
    have hx : x ∈ fits s q n p := by rw [e]; exact List.mem_cons_self
    obtain ⟨h1, h2⟩ := List.mem_filter.mp hx
    obtain ⟨h3, h4⟩ := mem_rowsAll.mp h1
    exact ⟨x, by rw [h3, hl, hn], by rw [hn]; exact h4, by simpa using h2⟩
  · rintro ⟨x, h1, h2, h3⟩ e
    have : x ∈ fits s q n p := List.mem_filter.mpr ⟨mem_rowsAll.mpr ⟨by rw [h1, hn, hl], by rw [← hn]; exact h2⟩, by simpa using h3⟩
    rw [e] at this
    cases this
theorem leastF_like (hs : s.Ok) (hp : Pic.Ok s p) (hq : Pic.Ok s q) : leastF s p = leastF s q ↔ Like s p q := by
  constructor
  · intro h
    obtain ⟨x, h1, h2, h3⟩ := leastF_some s p
    obtain ⟨y, h4, h5, h6⟩ := leastF_some s q
    have l1 : Like s (leastF s p) p := ⟨x, h1, h2, h3⟩
    have l2 : Like s (leastF s p) q := ⟨y, h4, h5, by rw [h6, h]⟩
    exact (l1.symm hs hp).trans hs hq l2
  · intro h
    have key : ∀ {a b : Pic}, Pic.Ok s a → Pic.Ok s b → Like s a b → ltP (leastF s a) (leastF s b) = false := fun {a b} ha hb h => by
      obtain ⟨x, h1, h2, h3⟩ := leastF_some s a
      obtain ⟨y, h4, h5, h6⟩ := Like.trans hs hb (⟨x, h1, h2, h3⟩ : Like s (leastF s a) a) h
      rw [← h6]
      exact leastF_le h4 h5
    exact ltP_total (key hp hq h) (key hq hp (h.symm hs hq))
theorem fits_le {r : Pic} {n : Nat} (hs : s.Ok) (hq : Pic.Ok s q) (hn : q.length = n) (h : Like s p q) : (fits s p n r).length ≤ (fits s q n r).length := by
  obtain ⟨x, h1, h2, rfl⟩ := h
  have h3 : Row n x := by rw [← hn]; exact h2
  have := nodup_le ((fits s (part s q x) n r).map fun y => y.map (nth x)) (fits s q n r) (by
    unfold List.Nodup
    rw [List.pairwise_map]
    refine List.Pairwise.imp_of_mem ?_ ((rowsAll_nodup n r.length).filter _)
    intro a b ha hb hab e
    obtain ⟨a1, a2⟩ := mem_rowsAll.mp (List.mem_filter.mp ha).1
    obtain ⟨b1, b2⟩ := mem_rowsAll.mp (List.mem_filter.mp hb).1
    refine hab (List.ext_getElem (by rw [a1, b1]) fun i hi hj => ?_)
    have e2 : (a.map (nth x))[i]'(by rw [List.length_map]; exact hi) = (b.map (nth x))[i]'(by rw [List.length_map]; exact hj) := by simp only [e]
    rw [List.getElem_map, List.getElem_map] at e2
    exact h2.inj (by rw [h1, hn]; exact a2.lt _ (List.getElem_mem _)) (by rw [h1, hn]; exact b2.lt _ (List.getElem_mem _)) e2) fun z hz => by
      obtain ⟨y, hy, rfl⟩ := List.mem_map.mp hz
      obtain ⟨y1, y2⟩ := List.mem_filter.mp hy
      obtain ⟨y3, y4⟩ := mem_rowsAll.mp y1
      refine List.mem_filter.mpr ⟨mem_rowsAll.mpr ⟨by rw [List.length_map, y3], comp_row h3 (by rw [h1, hn]) y4⟩, ?_⟩
      rw [part_part hs hq h2 y.length y rfl (by rw [h1, hn]; exact y4)] at y2
      exact y2
  rw [List.length_map] at this
  exact this
end
end Pv
/-! Sp11: sorted rows and pictures; least forms. -/
namespace Pv
open PySem GP
section
variable {L : List FnD} {k : Nat} {s : Srt} {p : Pic}
theorem sortOk_map {α : Type} (enc : α → List PyData) (l : List α) (al : ∀ a b, PySem.W.alike (.tuple (enc a)) (.tuple (enc b)) = true) (hd : ∀ a, (PyData.tuple (enc a)).depth ≤ 60) (hl : l.length ≤ line) (h : (∀ a ∈ l, enc a ≠ []) ∨ l.length ≤ 1) : sortOk (l.map fun a => .tuple (enc a)) = true := by
  have b := best_map (fun a => PyData.tuple (enc a)) l al (fun a z => by cases z) hd
  unfold bestOk at b
  unfold sortOk
  rw [b, Bool.true_and, Bool.and_eq_true]
  refine ⟨?_, by rw [List.length_map]; exact decide_eq_true hl⟩
  unfold sortable
  rw [Bool.or_eq_true, Bool.or_eq_true]
  rcases h with h | h
  · left; left
    rw [List.all_eq_true]
    intro d hd
    obtain ⟨a, ha, rfl⟩ := List.mem_map.mp hd
    cases e : enc a with
    | nil => exact (h a ha e).elim
    | cons x r => rfl
  · right
    rw [List.length_map]; exact decide_eq_true h
theorem sorted_Ns {l m : List (List Nat)} (hp : l.Perm m) (hm : m.Pairwise (· < ·)) (hl : l.length ≤ line) (h : (∀ a ∈ l, a ≠ []) ∨ l.length ≤ 1) : bop2 .sorted [.list (l.map eNs)] = some (.list (m.map eNs), true) := by
  have ok : sortOk (l.map eNs) = true := sortOk_map (fun a : List Nat => a.map eN) l alike_Ns (fun a => Nat.le_trans (depth_Ns a) (by decide)) hl (h.imp (fun h a ha e => h a ha (List.map_eq_nil_iff.mp e)) id)
  show (if sortOk (l.map eNs) then some (PyData.list (sortD (l.map eNs)), true) else none) = _
  rw [ok]
  have e := sort_eq eNs alike_Ns hp (hm.imp fun {a b} h => by
    rw [dl_Ns]
    refine decide_eq_false fun z => ?_
    exact List.lt_irrefl a (List.lt_trans h z))
  show some (PyData.list (sortD (l.map eNs)), true) = _
  rw [e]
theorem sorted_P {l : List Pic} (hl : l.length ≤ line) (h : (∀ a ∈ l, a ≠ []) ∨ l.length ≤ 1) : ∃ m : List Pic, m.Perm l ∧ m.Pairwise (fun a b => ltP b a = false) ∧ bop2 .sorted [.list (l.map eP)] = some (.list (m.map eP), true) := by
  have ok : sortOk (l.map eP) = true := sortOk_map (fun a : Pic => a.map eW) l alike_P (fun a => Nat.le_trans (depth_P a) (by decide)) hl (h.imp (fun h a ha e => h a ha (List.map_eq_nil_iff.mp e)) id)
  have hperm : (l.mergeSort fun a b => !ltP b a).Perm l := List.mergeSort_perm _ _
  have hpw : (l.mergeSort fun a b => !ltP b a).Pairwise (fun a b => ltP b a = false) := by
    refine (List.pairwise_mergeSort (le := fun a b => !ltP b a) (fun a b c h1 h2 => ?_) (fun a b => ?_) l).imp fun {a b} h => by simpa using h
    · simp only [Bool.not_eq_true'] at h1 h2 ⊢
      cases e : ltP c a with
      | false => rfl
      | true =>
        rcases dl_neg (b := eP b) e with z | z
        · rw [show ltP c b = true from z] at h2; cases h2
        · rw [show ltP b a = true from z] at h1; cases h1
    · cases e : ltP b a with
      | false => simp
      | true => rw [ltP_asymm e]; simp
  refine ⟨_, hperm, hpw, ?_⟩
  show (if sortOk (l.map eP) then some (PyData.list (sortD (l.map eP)), true) else none) = _
  rw [ok]
  have e := sort_eq eP alike_P hperm.symm hpw
  show some (PyData.list (sortD (l.map eP)), true) = _
  rw [e]
theorem rows_turn {j n m t : Nat} {F : List (List Nat)} {c3 : Option Cell} (h : Rows n j F) (hn : n ≤ 12) (hb : (grow n F).length ≤ 1000000) (hF : F.length ≤ 1000000) :
    turnS (evN (mkP L) k (runK (mkP L) k) 59) (.nm 3) [.asg (.nm 2) (.bi .sumL [.lc (.lc (.bin .add (.var 4) (.tup [.var 5])) [5] (.nm 5) (.rng [.var 0]) [.cmp .notin (.var 5) (.var 4)]) [4] (.nm 4) (.var 2) []])] (eN t)
      [some (.pl (eN n)), some (.pl (eN m)), some (.ow (.list (F.map eNs))), c3, none, none] =
      .ok .nx [some (.pl (eN n)), some (.pl (eN m)), some (.ow (.list ((grow n F).map eNs))), some (.pl (eN t)), none, none] := by
  have lc := lc_map (P := mkP L) (p := evN (mkP L) k (runK (mkP L) k) 56) (elt := (.lc (.bin .add (.var 4) (.tup [.var 5])) [5] (.nm 5) (.rng [.var 0]) [.cmp .notin (.var 5) (.var 4)])) (own := [4]) (t := .nm 4) (it := .var 2) (ifs := [])
    (s := [some (.pl (eN n)), some (.pl (eN m)), some (.ow (.list (F.map eNs))), some (.pl (eN t)), none, none])
    (s1 := [some (.pl (eN n)), some (.pl (eN m)), some (.pl (.list (F.map eNs))), some (.pl (eN t)), none, none])
    F eNs (fun o => .list (((List.range n).flatMap fun a => if a ∈ o then [] else [o ++ [a]]).map eNs)) (by simp [items, seqD]) rfl (fun o ho => by
      have ho2 := (h.row o ho).2
      have hxl : o.length ≤ 12 := Nat.le_trans ho2.len hn
      have hxs : ∀ a ∈ o, a < 1000 := fun a ha => by have := ho2.lt a ha; omega
      have lc2 := lc_ok (P := mkP L) (p := evN (mkP L) k (runK (mkP L) k) 55) (elt := .bin .add (.var 4) (.tup [.var 5])) (own := [5]) (t := .nm 5) (it := .rng [.var 0]) (ifs := [.cmp .notin (.var 5) (.var 4)])
        (s := [some (.pl (eN n)), some (.pl (eN m)), some (.pl (.list (F.map eNs))), some (.pl (eN t)), some (.pl (eNs o)), none])
        (s1 := [some (.pl (eN n)), some (.pl (eN m)), some (.pl (.list (F.map eNs))), some (.pl (eN t)), some (.pl (eNs o)), none])
        (List.range n) eN (fun a => if a ∈ o then [] else [eNs (o ++ [a])]) (by
          have rg : rngD [eN n] = some ((List.range n).map eN) := rng1 (by omega)
          simp [items, opds, opd2, pre, fill, getP, bop, rg]) rfl (fun y hy => by
            have hy := List.mem_range.mp hy
            have nt := notin_Ns (show y < 1000 by omega) hxs hxl
            have ad := add_Ns1 (x := o) (y := y) (by omega)
            by_cases h : y ∈ o
            · simp [lcT, asgR, asgT, testsL, wipeS, opd2, opds, pre, fill, getP, nt, h, bD, tru]
            · simp [lcT, asgR, asgT, testsL, wipeS, opd2, opds, pre, fill, getP, nt, h, bD, tru, evL, line, ad]) (Nat.le_trans (len_if n o _) (by show _ ≤ 16777216; omega))
      have e2 : ((List.range n).flatMap fun a => if a ∈ o then [] else [eNs (o ++ [a])]) = ((List.range n).flatMap fun a => if a ∈ o then [] else [o ++ [a]]).map eNs := by
        rw [List.map_flatMap]
        refine congrArg (fun f => (List.range n).flatMap f) (funext fun a => ?_)
        by_cases h : a ∈ o
        · rw [if_pos h, if_pos h]; rfl
        · rw [if_neg h, if_neg h]; rfl
      rw [e2] at lc2
      simp [lcT, asgR, asgT, testsL, wipeS, lc2]) (Nat.le_trans hF (by decide))
  have sm := sumL_map eNs (fun o => (List.range n).flatMap fun a => if a ∈ o then [] else [o ++ [a]]) F (Nat.le_trans hb (by decide))
  have e3 : (F.flatMap fun o => (List.range n).flatMap fun a => if a ∈ o then [] else [o ++ [a]]) = grow n F := rfl
  rw [e3] at sm
  simp [turnS, asgR, asgT, seqL, opds, pre, fill, getP, lc, sm]
theorem law_rows_ok {n m : Nat} (hn : n ≤ 5) (hm : m ≤ 5) : runK (mkP L) (k + 1) 127 [eN n, eN m] = .ret (.list ((rowsAll n m).map eNs)) true [] := by
  have hb : ∀ j, j ≤ 5 → n ^ j ≤ 1000000 := fun j hj => Nat.le_trans (Nat.pow_le_pow_left hn j) (Nat.le_trans (Nat.pow_le_pow_right (by decide) hj) (by decide))
  have lp := forL_inv (body := turnS (evN (mkP L) k (runK (mkP L) k) 59) (.nm 3) [.asg (.nm 2) (.bi .sumL [.lc (.lc (.bin .add (.var 4) (.tup [.var 5])) [5] (.nm 5) (.rng [.var 0]) [.cmp .notin (.var 5) (.var 4)]) [4] (.nm 4) (.var 2) []])])
    eN (fun (c : Option Cell) (F : List (List Nat)) => [some (.pl (eN n)), some (.pl (eN m)), some (.ow (.list (F.map eNs))), c, none, none]) (fun F _ => grow n F) (fun done F => Rows n done.length F) (List.range m)
    (fun done a rest F c e h => by
      have hl : done.length < m := by
        have := congrArg List.length e
        rw [List.length_range, List.length_append, List.length_cons] at this
        omega
      exact ⟨some (.pl (eN a)), rows_turn h (by omega) (Nat.le_trans h.grow.len (hb _ (by omega))) (Nat.le_trans h.len (hb _ (by omega))), by rw [List.length_append]; exact h.grow⟩)
    (List.range m) [] none [[]] rfl (Rows.one n)
  obtain ⟨c, e, _⟩ := lp
  have rg : rngD [eN m] = some ((List.range m).map eN) := rng1 (by omega)
  have e0 : (PyData.tuple [] : PyData) = eNs [] := rfl
  simp only [List.map_cons, List.map_nil] at e
  have hR : (List.range m).foldl (fun F _ => grow n F) [[]] = rowsAll n m := rfl
  rw [hR] at e
  have so := sorted_Ns (List.Perm.refl (rowsAll n m)) (rowsAll_asc n m) (Nat.le_trans (rowsAll_rows n m).len (Nat.le_trans (hb m hm) (by decide))) (by
    cases m with
    | zero => exact .inr (by simp [rowsAll])
    | succ m => exact .inl fun a ha e => by have := (mem_rowsAll.mp ha).1; rw [e] at this; cases this)
  rw [runK_at (at_l__law_rows_75fa45 L)]
  simp [runF, l__law_rows_75fa45, Pv.start, seqL, deep, evL, items, iosOf, line, opds, pre, fill, getP, e, rg, e0, so]
theorem least_form_ok (hs : s.Ok) (hp : Pic.Ok s p) (hl : p.length ≤ 12) (hb : p.length ^ p.length ≤ 1000000) : runK (mkP L) (k + 7) 119 [eS s, eP p] = .ret (eP (leastF s p)) false [] := by
  rw [runK_at (at_p_likeness_least_form L)]
  simp [runF, p_likeness_least_form, Pv.start, seqL, deep, evL, need_sort_ok hs, need_picture_ok hp hl, least_in_ok hs hp hl hb, iosOf]
theorem least_form_err {d : PyData} {c : Nat} {v : PyData} (hs : s.Ok) (h : runK (mkP L) (k + 10) 114 [eS s, d] = .err c v []) : runK (mkP L) (k + 11) 119 [eS s, d] = .err c v [] := by
  rw [runK_at (at_p_likeness_least_form L)]
  simp [runF, p_likeness_least_form, Pv.start, seqL, deep, evL, need_sort_ok hs, h, iosOf]
end
end Pv
/-! Sp12: the laws' wells, and the law's own two loops. -/
namespace Pv
open PySem GP
def wellF (a b c d e : Int) : FnD := { np := 2, io := [false, false], ns := 6, body := [
  .asg (.nm 2) (.ife (.cmp .lt (.var 1) (.bi .len [.var 0])) (.bi .int [.idx (.var 0) (.var 1)]) (.bin .add (.bin .mul (.int a) (.var 1)) (.int b))),
  .asg (.nm 3) (.bin .add (.int c) (.bi .len [.var 0])),
  .for_ (.nm 4) (.var 0) [.asg (.nm 3) (.bin .mod (.bi .int [.bin .add (.bin .mul (.var 3) (.int 5323)) (.bin .mod (.bi .int [.var 4]) (.bin .add (.bin .pow (.int 10) (.int 19)) (.int 51)))]) (.bin .add (.bin .pow (.int 10) (.int 25)) (.int 13)))],
  .asg (.nm 5) (.bin .mod (.bi .int [.bin .add (.bin .add (.bin .add (.bin .mul (.bi .abs [.var 2]) (.int d)) (.bin .mul (.var 3) (.int e))) (.bin .mul (.int 3) (.bi .int [.cmp .lt (.var 2) (.int 0)]))) (.bin .mul (.int 61) (.var 1))]) (.bin .add (.bin .pow (.int 10) (.int 28)) (.int 331))),
  .ret (.lst [.bi .max2 [.int 0, .bin .sub (.bi .abs [.var 2]) (.bin .pow (.int 10) (.int 18))], .var 5, .int 0])] }
theorem mulOk_l {i j : Int} (h : i.natAbs < 18446744073709551616) : mulOk i j = true := by
  unfold mulOk
  simp [show (2 : Nat) ^ 64 = 18446744073709551616 from rfl, h]
theorem seq_ints (ns : List Int) : seqD (intsP ns) = some (ns.map .int) := rfl
theorem len_ints (ns : List Int) : bop2 .len [intsP ns] = some (.int ((ns.map PyData.int).length), false) := rfl
section
variable {P : Prg} {k f : Nat}
theorem well_loop (scr kk cc : PyData) : ∀ (ns : List Int) (w : Int) (x4 x5 : Option Cell), ∃ (w' : Int) (y4 : Option Cell),
    forL (turnS (evN P k (runK P k) 59) (.nm 4) [.asg (.nm 3) (.bin .mod (.bi .int [.bin .add (.bin .mul (.var 3) (.int 5323)) (.bin .mod (.bi .int [.var 4]) (.bin .add (.bin .pow (.int 10) (.int 19)) (.int 51)))]) (.bin .add (.bin .pow (.int 10) (.int 25)) (.int 13)))]) (ns.map PyData.int) [some (.pl scr), some (.pl kk), some (.pl cc), some (.pl (.int w)), x4, x5] =
      .ok .nx [some (.pl scr), some (.pl kk), some (.pl cc), some (.pl (.int w')), y4, x5]
  | [], w, x4, x5 => ⟨w, x4, rfl⟩
  | n :: ns, w, x4, x5 => by
    have m1 : ∀ x, mulOk x 5323 = true := fun x => mulOk_r (by decide)
    obtain ⟨w', y4, e⟩ := well_loop scr kk cc ns ((w * 5323 + n.fmod 10000000000000000051).fmod 10000000000000000000000013) (some (.pl (.int n))) x5
    refine ⟨w', y4, ?_⟩
    have s1 : turnS (evN P k (runK P k) 59) (.nm 4) [.asg (.nm 3) (.bin .mod (.bi .int [.bin .add (.bin .mul (.var 3) (.int 5323)) (.bin .mod (.bi .int [.var 4]) (.bin .add (.bin .pow (.int 10) (.int 19)) (.int 51)))]) (.bin .add (.bin .pow (.int 10) (.int 25)) (.int 13)))] (.int n) [some (.pl scr), some (.pl kk), some (.pl cc), some (.pl (.int w)), x4, x5] =
        .ok .nx [some (.pl scr), some (.pl kk), some (.pl cc), some (.pl (.int ((w * 5323 + n.fmod 10000000000000000051).fmod 10000000000000000000000013))), some (.pl (.int n)), x5] := by
      simp [turnS, asgR, asgT, seqL, evL, opd2, opd1, opds, pre, fill, getP, bop, bop2, List.set, m1]
    show (turnS (evN P k (runK P k) 59) _ _ (.int n) _).bind (fun fl s => match fl with
        | .nx => forL _ _ s
        | .ct => forL _ _ s
        | .bk => .ok .nx s
        | .rt d f => .ok (.rt d f) s) = _
    rw [s1]
    exact e
theorem well_ok {a b c d e : Int} (hf : P.fns[f]? = some (wellF a b c d e)) (ha : a.natAbs < 1000000) (hd : d.natAbs < 1000000) (he : e.natAbs < 1000000) (ns : List Int) (j : Nat) : ∃ W, Wl 0 W ∧ runK P (k + 1) f [intsP ns, eN j] = .ret W true [] := by
  obtain ⟨cell, hcell⟩ : ∃ cell : Int, stepS P (evN P k (runK P k) 59) (.asg (.nm 2) (.ife (.cmp .lt (.var 1) (.bi .len [.var 0])) (.bi .int [.idx (.var 0) (.var 1)]) (.bin .add (.bin .mul (.int a) (.var 1)) (.int b)))) [some (.pl (intsP ns)), some (.pl (eN j)), none, none, none, none] = .ok .nx [some (.pl (intsP ns)), some (.pl (eN j)), some (.pl (.int cell)), none, none, none] := by
    have m1 : mulOk a (j : Int) = true := mulOk_l (by omega)
    by_cases hk : j < ns.length
    · refine ⟨ns[j], ?_⟩
      have g : ixop (.list (ns.map PyData.int)) (.int (j : Int)) = some (.int ns[j]) := by
        show atD _ _ = _
        rw [atD_nat, List.getElem?_map, List.getElem?_eq_getElem hk]; rfl
      have hk' : (j : Int) < ns.length := by omega
      simp [intsP, evL, opd2, opd1, opds, pre, fill, getP, bop, bop2, cop, bD, tru, List.set, hk', g]
    · refine ⟨a * j + b, ?_⟩
      have hk' : ¬ (j : Int) < ns.length := by omega
      simp [intsP, evL, opd2, opd1, opds, pre, fill, getP, bop, bop2, cop, bD, tru, List.set, hk', m1]
  obtain ⟨w', y4, e2⟩ := well_loop (P := P) (k := k) (intsP ns) (eN j) (.int cell) ns (c + ns.length) none none
  obtain ⟨ab, hab⟩ : ∃ ab : Int, ab = if cell < 0 then -cell else cell := ⟨_, rfl⟩
  obtain ⟨x, hx⟩ : ∃ x : Int, x = (ab * d + w' * e + 3 * (if cell < 0 then 1 else 0) + 61 * (j : Int)).fmod 10000000000000000000000000331 := ⟨_, rfl⟩
  have bx := fmod_b (x := ab * d + w' * e + 3 * (if cell < 0 then 1 else 0) + 61 * (j : Int)) (M := 10000000000000000000000000331) (by decide)
  rw [← hx] at bx
  have m1 : ∀ x, mulOk x d = true := fun x => mulOk_r (by omega)
  have m2 : ∀ x, mulOk x e = true := fun x => mulOk_r (by omega)
  have m3 : ∀ x, mulOk 3 x = true := fun x => mulOk_l (by decide)
  have m4 : ∀ x, mulOk 61 x = true := fun x => mulOk_l (by decide)
  refine ⟨.list [.int (if ab - 1000000000000000000 > 0 then ab - 1000000000000000000 else 0), .int x, .int 0], ⟨_, x, 0, rfl, ?_, by omega, by omega⟩, ?_⟩
  · have : (10000000000000000000000000331 : Int) < 2 ^ 200 := by decide +kernel
    omega
  · rw [runK_at hf]
    have h1 : stepS P (evN P k (runK P k) 59) (.asg (.nm 3) (.bin .add (.int c) (.bi .len [.var 0]))) [some (.pl (intsP ns)), some (.pl (eN j)), some (.pl (.int cell)), none, none, none] = .ok .nx [some (.pl (intsP ns)), some (.pl (eN j)), some (.pl (.int cell)), some (.pl (.int (c + ns.length))), none, none] := by
      simp [intsP, evL, opd2, opd1, opds, pre, fill, getP, bop, bop2, List.set]
    have h3 : stepS P (evN P k (runK P k) 59) (.asg (.nm 5) (.bin .mod (.bi .int [.bin .add (.bin .add (.bin .add (.bin .mul (.bi .abs [.var 2]) (.int d)) (.bin .mul (.var 3) (.int e))) (.bin .mul (.int 3) (.bi .int [.cmp .lt (.var 2) (.int 0)]))) (.bin .mul (.int 61) (.var 1))]) (.bin .add (.bin .pow (.int 10) (.int 28)) (.int 331)))) [some (.pl (intsP ns)), some (.pl (eN j)), some (.pl (.int cell)), some (.pl (.int w')), y4, none] = .ok .nx [some (.pl (intsP ns)), some (.pl (eN j)), some (.pl (.int cell)), some (.pl (.int w')), y4, some (.pl (.int x))] := by
      simp [evL, opd2, opd1, opds, pre, fill, getP, bop, bop2, cop, bD, List.set, m1, m2, m3, m4, ← hab, ← hx]
    have h4 : stepS P (evN P k (runK P k) 59) (.ret (.lst [.bi .max2 [.int 0, .bin .sub (.bi .abs [.var 2]) (.bin .pow (.int 10) (.int 18))], .var 5, .int 0])) [some (.pl (intsP ns)), some (.pl (eN j)), some (.pl (.int cell)), some (.pl (.int w')), y4, some (.pl (.int x))] = .ok (.rt (.list [.int (if ab - 1000000000000000000 > 0 then ab - 1000000000000000000 else 0), .int x, .int 0]) true) [some (.pl (intsP ns)), some (.pl (eN j)), some (.pl (.int cell)), some (.pl (.int w')), y4, some (.pl (.int x))] := by
      simp [evL, opd2, opd1, opds, pre, fill, getP, bop, bop2, cop, bD, line, List.set, ← hab]
    have h2 : stepS P (evN P k (runK P k) 59) (.for_ (.nm 4) (.var 0) [.asg (.nm 3) (.bin .mod (.bi .int [.bin .add (.bin .mul (.var 3) (.int 5323)) (.bin .mod (.bi .int [.var 4]) (.bin .add (.bin .pow (.int 10) (.int 19)) (.int 51)))]) (.bin .add (.bin .pow (.int 10) (.int 25)) (.int 13)))]) [some (.pl (intsP ns)), some (.pl (eN j)), some (.pl (.int cell)), some (.pl (.int (c + ns.length))), none, none] = .ok .nx [some (.pl (intsP ns)), some (.pl (eN j)), some (.pl (.int cell)), some (.pl (.int w')), y4, none] := by
      rw [eS_for]
      simp [items, seq_ints, e2]
    have e0 : runF (evN P k (runK P k) deep) (wellF a b c d e) [intsP ns, eN j] = match seqL (stepS P (evN P k (runK P k) 59)) (wellF a b c d e).body [some (.pl (intsP ns)), some (.pl (eN j)), none, none, none, none] with
      | .ok fl s => (match iosOf [false, false] s with
        | none => .bad
        | some ios => (match fl with
          | .nx => .ret .none false ios
          | .rt d f => .ret d f ios
          | _ => .bad))
      | .err c v s => (match iosOf [false, false] s with
        | none => .bad
        | some ios => .err c v ios)
      | .bad => .bad := rfl
    rw [e0]
    unfold wellF
    simp only [seqL, hcell, h1, h2, h3, h4, Res.bind, iosOf]
/-- law: the wells of a script, so many turns each -/
def lawF (K T : Int) (w r : Nat) : FnD := { np := 1, io := [false], ns := 4, body := [
  .for_ (.nm 1) (.rng [.bi .max2 [.int 1, .bi .min2 [.int K, .bi .len [.var 0]]]]) [.asg (.nm 2) (.call w [.var 0, .var 1]), .for_ (.nm 3) (.rng [.int T]) [.ifs (.not (.call r [.var 2])) [.ret (.bl false)] []]],
  .ret (.bl true)] }
theorem law_inner {r : Nat} {fr : FnD} {D : Nat} (hr : P.fns[r]? = some fr) (hnp : fr.np = 1) (hio : fr.io = [true]) (h : ∀ n W, Wl n W → n < 100000 → ∃ W', Wl (n + D) W' ∧ runK P k r [W] = .ret (.bool true) false [W']) (scr kk : PyData) : ∀ (ds : List PyData) (n : Nat) (W : PyData) (x3 : Option Cell), Wl n W → n + D * ds.length < 100000 → ∃ (W' : PyData) (y3 : Option Cell),
    forL (turnS (evN P k (runK P k) 58) (.nm 3) [.ifs (.not (.call r [.var 2])) [.ret (.bl false)] []]) ds [some (.pl scr), some (.pl kk), some (.ow W), x3] = .ok .nx [some (.pl scr), some (.pl kk), some (.ow W'), y3]
  | [], n, W, x3, hW, _ => ⟨W, x3, rfl⟩
  | d :: ds, n, W, x3, hW, hn => by
    rw [List.length_cons, Nat.mul_add] at hn
    obtain ⟨W1, h1, e1⟩ := h n W hW (by omega)
    obtain ⟨W2, y3, e2⟩ := law_inner hr hnp hio h scr kk ds (n + D) W1 (some (.pl d)) h1 (by omega)
    refine ⟨W2, y3, ?_⟩
    have c := fun {p : Ev} {s : S} => eE_callio (P := P) (p := p) (s := s) hr hio rfl 2 []
    have s1 : turnS (evN P k (runK P k) 58) (.nm 3) [.ifs (.not (.call r [.var 2])) [.ret (.bl false)] []] d [some (.pl scr), some (.pl kk), some (.ow W), x3] = .ok .nx [some (.pl scr), some (.pl kk), some (.ow W1), some (.pl d)] := by
      simp [turnS, asgR, asgT, seqL, c, evL, getP, hnp, ioC, e1, setRoot, List.set, tru]
    show (turnS (evN P k (runK P k) 58) _ _ d _).bind (fun fl s => match fl with
        | .nx => forL _ _ s
        | .ct => forL _ _ s
        | .bk => .ok .nx s
        | .rt d f => .ok (.rt d f) s) = _
    rw [s1]
    exact e2
theorem law_outer {w r : Nat} {fw fr : FnD} {D T : Nat} (hw : P.fns[w]? = some fw) (hwn : fw.np = 2) (hwi : fw.io = [false, false]) (hr : P.fns[r]? = some fr) (hnp : fr.np = 1) (hio : fr.io = [true]) (ns : List Int)
    (hwell : ∀ j : Nat, ∃ W, Wl 0 W ∧ runK P k w [intsP ns, eN j] = .ret W true [])
    (h : ∀ n W, Wl n W → n < 100000 → ∃ W', Wl (n + D) W' ∧ runK P k r [W] = .ret (.bool true) false [W']) (hT : T ≤ 1000) (hD : D * T < 100000) : ∀ (ks : List Nat) (x1 x2 x3 : Option Cell), ∃ (y1 y2 y3 : Option Cell),
    forL (turnS (evN P k (runK P k) 59) (.nm 1) [.asg (.nm 2) (.call w [.var 0, .var 1]), .for_ (.nm 3) (.rng [.int T]) [.ifs (.not (.call r [.var 2])) [.ret (.bl false)] []]]) (ks.map eN) [some (.pl (intsP ns)), x1, x2, x3] = .ok .nx [some (.pl (intsP ns)), y1, y2, y3]
  | [], x1, x2, x3 => ⟨x1, x2, x3, rfl⟩
  | j :: ks, x1, x2, x3 => by
    obtain ⟨W, hW, e⟩ := hwell j
    obtain ⟨W', y3, e1⟩ := law_inner hr hnp hio h (intsP ns) (eN j) ((List.range T).map eN) 0 W x3 hW (by rw [List.length_map, List.length_range]; omega)
    obtain ⟨z1, z2, z3, e2⟩ := law_outer hw hwn hwi hr hnp hio ns hwell h hT hD ks (some (.pl (eN j))) (some (.ow W')) y3
    refine ⟨z1, z2, z3, ?_⟩
    have c := fun {p : Ev} {s : S} => eE_call (P := P) (p := p) (s := s) hw (by rw [hwi]; rfl) [.var 0, .var 1]
    have rg : rngD [.int (T : Int)] = some ((List.range T).map eN) := rng1 (by omega)
    have s1 : turnS (evN P k (runK P k) 59) (.nm 1) [.asg (.nm 2) (.call w [.var 0, .var 1]), .for_ (.nm 3) (.rng [.int T]) [.ifs (.not (.call r [.var 2])) [.ret (.bl false)] []]] (eN j) [some (.pl (intsP ns)), x1, x2, x3] = .ok .nx [some (.pl (intsP ns)), some (.pl (eN j)), some (.ow W'), y3] := by
      simp [turnS, asgR, asgT, seqL, c, evL, hwn, e, items, opds, pre, fill, rg, e1, List.set]
    show (turnS (evN P k (runK P k) 59) _ _ (eN j) _).bind (fun fl s => match fl with
        | .nx => forL _ _ s
        | .ct => forL _ _ s
        | .bk => .ok .nx s
        | .rt d f => .ok (.rt d f) s) = _
    rw [s1]
    exact e2
theorem law_ok {K T w r f : Nat} {fw fr : FnD} {D : Nat} (hf : P.fns[f]? = some (lawF K T w r)) (hK : K ≤ 1000) (hw : P.fns[w]? = some fw) (hwn : fw.np = 2) (hwi : fw.io = [false, false]) (hr : P.fns[r]? = some fr) (hnp : fr.np = 1) (hio : fr.io = [true]) (ns : List Int)
    (hwell : ∀ j : Nat, ∃ W, Wl 0 W ∧ runK P k w [intsP ns, eN j] = .ret W true [])
    (h : ∀ n W, Wl n W → n < 100000 → ∃ W', Wl (n + D) W' ∧ runK P k r [W] = .ret (.bool true) false [W']) (hT : T ≤ 1000) (hD : D * T < 100000) : ∃ fr ios, runK P (k + 1) f [intsP ns] = .ret (.bool true) fr ios := by
  obtain ⟨j, hj, hj2⟩ : ∃ j : Nat, (j : Int) = (if (if (ns.length : Int) < (K : Int) then (ns.length : Int) else (K : Int)) > 1 then (if (ns.length : Int) < (K : Int) then (ns.length : Int) else (K : Int)) else 1) ∧ j ≤ 1001 := by
    refine ⟨(if (if (ns.length : Int) < (K : Int) then (ns.length : Int) else (K : Int)) > 1 then (if (ns.length : Int) < (K : Int) then (ns.length : Int) else (K : Int)) else 1 : Int).toNat, ?_, ?_⟩ <;> split <;> split <;> omega
  obtain ⟨y1, y2, y3, e⟩ := law_outer hw hwn hwi hr hnp hio ns hwell h hT hD (List.range j) none none none
  have rg : rngD [.int (j : Int)] = some ((List.range j).map eN) := rng1 (by omega)
  have hi : items (evN P k (runK P k) 59) (.rng [.bi .max2 [.int 1, .bi .min2 [.int K, .bi .len [.var 0]]]]) [some (.pl (intsP ns)), none, none, none] = .ok ((List.range j).map eN) [some (.pl (intsP ns)), none, none, none] := by
    simp only [Int.ofNat_lt, gt_iff_lt] at hj
    simp [items, intsP, opds, pre, fill, getP, bop2, ← hj, rg]
  refine ⟨false, [], ?_⟩
  rw [runK_at hf]
  simp [runF, lawF, Pv.start, seqL, deep, iosOf, hi, e]
end
end Pv
/-! Sp13: what is shown and compared. -/
namespace Pv
open PySem GP
/-- what is shown without signs beyond the last -/
def Hi (d : PyData) : Prop := ∀ k, 1114112 ≤ k → k ∉ d.shown.cps.toList
theorem Hi.int (i : Int) : Hi (.int i) := fun k hk => PyProof.Rows.shown_int_free' ⟨by omega, by omega⟩ i
theorem no_hi {l : List Nat} (h : l.all (fun c => decide (c < 1114112)) = true) {k : Nat} (hk : 1114112 ≤ k) : k ∉ l := fun z => by
  have := of_decide_eq_true (List.all_eq_true.mp h k z)
  omega
theorem Hi.none_ : Hi .none := fun k hk => by
  rw [PyData.shown_none]
  exact no_hi (by decide +kernel) hk
theorem Hi.bool_ (b : Bool) : Hi (.bool b) := fun k hk => by
  rw [PyData.shown_bool]
  cases b <;> exact no_hi (by decide +kernel) hk
theorem Hi.all {l : List PyData} (h : ∀ d ∈ l, Hi d) {k : Nat} (hk : 1114112 ≤ k) : k ∉ ((Str.ofString ", ").join (PyData.shownAll l)).cps.toList := fun z => by
  rcases (PyProof.Rows.mem_join _ _ _).mp z with ⟨t, ht, hc⟩ | ⟨_, hc⟩
  · rw [PyProof.Rows.shownAll_eq_map] at ht
    obtain ⟨d, hd, rfl⟩ := List.mem_map.mp ht
    exact h d hd k hk hc
  · exact no_hi (l := (Str.ofString ", ").cps.toList) (by decide +kernel) hk hc
theorem Hi.lst {l : List PyData} (h : ∀ d ∈ l, Hi d) : Hi (.list l) := fun k hk z => by
  rw [PyData.shown_list] at z
  rcases PyProof.Rows.mem_cps_append.mp z with z | z
  · rcases PyProof.Rows.mem_cps_append.mp z with z | z
    · exact no_hi (l := (Str.ofString "[").cps.toList) (by decide +kernel) hk z
    · exact Hi.all h hk z
  · exact no_hi (l := (Str.ofString "]").cps.toList) (by decide +kernel) hk z
theorem Hi.tup {l : List PyData} (h : ∀ d ∈ l, Hi d) : Hi (.tuple l) := fun k hk z => by
  rw [PyData.shown_tuple] at z
  rcases PyProof.Rows.mem_cps_append.mp z with z | z
  · rcases PyProof.Rows.mem_cps_append.mp z with z | z
    · exact no_hi (l := (Str.ofString "(").cps.toList) (by decide +kernel) hk z
    · exact Hi.all h hk z
  · rw [PyProof.Rows.signs_tuple_end] at z
    split at z
    · exact no_hi (l := [44, 41]) (by decide) hk z
    · exact no_hi (l := [41]) (by decide) hk z
theorem Hi.tupM {α : Type} {enc : α → PyData} {l : List α} (h : ∀ x ∈ l, Hi (enc x)) : Hi (.tuple (l.map enc)) := Hi.tup fun d hd => by obtain ⟨x, hx, rfl⟩ := List.mem_map.mp hd; exact h x hx
theorem Hi.lstM {α : Type} {enc : α → PyData} {l : List α} (h : ∀ x ∈ l, Hi (enc x)) : Hi (.list (l.map enc)) := Hi.lst fun d hd => by obtain ⟨x, hx, rfl⟩ := List.mem_map.mp hd; exact h x hx
theorem Hi.Ns (x : List Nat) : Hi (eNs x) := Hi.tupM fun a _ => Hi.int _
theorem Hi.W (w : Way) : Hi (eW w) := Hi.tup fun d hd => by
  rcases List.mem_cons.mp hd with rfl | hd
  · exact Hi.int _
  · have e : d = eNs w.2 := by simpa using hd
    rw [e]; exact Hi.Ns _
theorem Hi.P (p : Pic) : Hi (eP p) := Hi.tupM fun w _ => Hi.W w
theorem Hi.two {d : PyData} (h : Hi d) : Hi (.list [d, d]) := Hi.lst fun e he => by
  have : e = d := by simpa using he
  rw [this]; exact h
theorem str_lay {d : PyData} (h : Hi d) : (PyData.str d.shown).canLay0 = true := by
  have : PyData.strOk d.shown = true := by
    unfold PyData.strOk
    rw [← Array.all_toList, List.all_eq_true]
    intro k hk
    refine Classical.byContradiction fun z => h k ?_ hk
    simp only [decide_eq_true_eq] at z
    omega
  simpa [PyData.canLay0] using this
theorem str_okD {d : PyData} (h : Hi d) : okD (.str d.shown) = true := by
  have := str_lay h
  unfold okD SeqAt.shaped
  rw [this]; simp [PyData.depth]
theorem eq_self {d : PyData} (h : okD d = true) : cop .eq d d = some true := by
  show (if okD d && okD d then some (PyData.eqv d d) else none) = _
  rw [h, SeqAt.eqv_refl d (SeqAt.canLay_of_shaped h)]; rfl
theorem ne_self {d : PyData} (h : okD d = true) : cop .ne d d = some false := by
  show (if okD d && okD d then some (!PyData.eqv d d) else none) = _
  rw [h, SeqAt.eqv_refl d (SeqAt.canLay_of_shaped h)]; rfl
theorem ne_shown {d : PyData} (h : Hi d) : cop .ne (.str d.shown) (.str d.shown) = some false := ne_self (str_okD h)
theorem Fn.Ns5 {x : List Nat} (h : ∀ a ∈ x, a < 1000) (hl : x.length ≤ 5) : Fn 1 205 (eNs x) := Fn.tupM (w := 40) (m := 5) (fun a ha => Fn.nat (Nat.lt_trans (h a ha) (by decide))) hl
theorem Fn.N0 {a : Nat} (h : a < 1000) : Fn 0 40 (eN a) := Fn.nat (Nat.lt_trans h (by decide))
theorem Fn.W5 {w : Way} (h1 : w.1 < 1000) (h : ∀ x ∈ w.2, x < 1000) (hl : w.2.length ≤ 5) : Fn 2 412 (eW w) := Fn.tup (n := 1) (w := 205) (m := 2) (fun d hd => by
  rcases List.mem_cons.mp hd with rfl | hd
  · exact (Fn.N0 h1).mono (by decide) (by decide)
  · have e : d = eNs w.2 := by simpa using hd
    rw [e]; exact Fn.Ns5 h hl) (Nat.le_refl _)
theorem Fn.P5 {s : Srt} {p : Pic} (hs : s.Ok) (hp : Pic.Ok s p) (hl : p.length ≤ 5) : Fn 3 2065 (eP p) := Fn.tupM (n := 2) (w := 412) (m := 5) (fun w hw => by
  obtain ⟨j, hj, e⟩ := List.getElem_of_mem hw
  have h := hp j w (by rw [List.getElem?_eq_getElem hj, e])
  have h1 := hs.kinds
  have h2 := hs.signs
  exact Fn.W5 (by omega) (fun x hx => by have := h.2.2 x hx; omega) (by omega)) hl
theorem Fn.rows {F : List (List Nat)} {n j : Nat} (hF : ∀ x ∈ F, x ∈ rowsAll n j) (hn : n ≤ 5) (hl : F.length ≤ 120) : Fn 2 24720 (.tuple (F.map eNs)) := Fn.tupM (n := 1) (w := 205) (m := 120) (fun x hx => by
  have h := (mem_rowsAll.mp (hF x hx)).2
  have := h.len
  exact Fn.Ns5 (fun a ha => by have := h.lt a ha; omega) (by omega)) hl
theorem Fn.two {n w : Nat} {d : PyData} (h : Fn n w d) : Fn (n + 1) (2 * (w + 1)) (.list [d, d]) := Fn.lst (fun e he => by
  have : e = d := by simpa using he
  rw [this]; exact h) (Nat.le_refl _)
theorem rowsAll_120 {n j : Nat} (hn : n ≤ 5) (hj : j ≤ 5) : (rowsAll n j).length ≤ 120 := by
  have h : (List.range 6).all (fun n => (List.range 6).all fun j => decide ((rowsAll n j).length ≤ 120)) = true := by decide +kernel
  exact of_decide_eq_true (List.all_eq_true.mp (List.all_eq_true.mp h n (List.mem_range.mpr (by omega))) j (List.mem_range.mpr (by omega)))
theorem fits_120 {s : Srt} {q p : Pic} {n : Nat} (hn : n ≤ 5) (hp : p.length ≤ 5) : (fits s q n p).length ≤ 120 := Nat.le_trans (List.length_filter_le _ _) (rowsAll_120 hn hp)
theorem fits_mem {s : Srt} {q p : Pic} {n : Nat} : ∀ x ∈ fits s q n p, x ∈ rowsAll n p.length := fun x hx => (List.mem_filter.mp hx).1
theorem repr_ok {n w : Nat} {d : PyData} (h : Fn n w d) (hn : n ≤ 64) (hw : w ≤ 1000000) : bop2 .repr [d] = some (.str d.shown, false) := by
  show (if reprOk d then some (PyData.str d.shown, false) else none) = _
  rw [h.repr hn hw]; rfl
@[simp] theorem eT_xnone {P : Prg} {p : Ev} {s : S} (y : Bool) (i : Nat) : stepT P p (.xnone y i) s = (stepE P p (.xnone y i) s).bind fun d s => .ok (tru d.1) s := (rfl)
theorem exc5 (L : List FnD) : ∃ up, (mkP L).exc[5]? = some up ∧ 5 ∈ up := ⟨_, rfl, by decide⟩
theorem eq_N (i j : Nat) : cop .eq (eN i) (eN j) = some (decide (i = j)) := by
  have ok : ∀ i : Nat, okD (eN i) = true := fun i => rfl
  show (if okD (eN i) && okD (eN j) then some (PyData.eqv (eN i) (eN j)) else none) = _
  rw [ok, ok, eqv_N]
  rfl
end Pv
/-! Nm1: powers, choices, shares that lack a way. -/
namespace Pv
open PySem GP
section
variable {L : List FnD} {k : Nat} {s : Srt}
theorem mulN {a b : Nat} (h : b < 1000000000) : bop .mul (eN a) (eN b) = some (eN (a * b), false) := by
  show (if mulOk a b then some (PyData.int ((a : Int) * b), false) else none) = _
  rw [mulOk_r (by omega)]
  rfl
theorem mulB {a b : Nat} (ha : a < 2 ^ 4000) (hb : b < 2 ^ 4000) : bop .mul (eN a) (eN b) = some (eN (a * b), false) := by
  have : mulOk a b = true := by
    unfold mulOk
    have x := log2_lt (show ((a : Int)).natAbs < 2 ^ 4000 by rw [Int.natAbs_natCast]; exact ha)
    have y := log2_lt (show ((b : Int)).natAbs < 2 ^ 4000 by rw [Int.natAbs_natCast]; exact hb)
    simp only [Bool.or_eq_true, decide_eq_true_eq]
    right
    omega
  show (if mulOk a b then some (PyData.int ((a : Int) * b), false) else none) = _
  rw [this]
  rfl
theorem addN (a b : Nat) : bop .add (eN a) (eN b) = some (eN (a + b), false) := rfl
theorem subN {a b : Nat} (h : b ≤ a) : bop .sub (eN a) (eN b) = some (eN (a - b), false) := by
  show some (PyData.int ((a : Int) - b), false) = _
  rw [← Int.ofNat_sub h]
theorem divN {a b : Nat} (h : 0 < b) (h2 : b < 2 ^ 4000) : bop .fdiv (eN a) (eN b) = some (eN (a / b), false) := by
  have : divOk b = true := by
    unfold divOk
    have x := log2_lt (show ((b : Int)).natAbs < 2 ^ 4000 by rw [Int.natAbs_natCast]; exact h2)
    simp only [Bool.or_eq_true, Bool.and_eq_true, decide_eq_true_eq]
    right
    omega
  show (if divOk b then some (PyData.int ((a : Int).fdiv b), false) else none) = _
  have e : (a : Int).fdiv b = ((a / b : Nat) : Int) := by
    rw [Int.fdiv_eq_ediv_of_nonneg _ (by omega)]
    exact (Int.natCast_ediv a b).symm
  rw [this, e]
  rfl
theorem modN {a b : Nat} (h : 0 < b) : bop .mod (eN a) (eN b) = some (eN (a % b), false) := by
  show (if (b : Int) ≠ 0 then some (PyData.int ((a : Int).fmod b), false) else none) = _
  have e : (a : Int).fmod b = ((a % b : Nat) : Int) := by
    rw [Int.fmod_eq_emod_of_nonneg _ (by omega)]
    exact (Int.natCast_emod a b).symm
  rw [if_pos (by omega), e]
theorem intNN (a : Nat) : bop2 .int [eN a] = some (eN a, false) := rfl
theorem gcdN (a b : Nat) : bop2 .gcd [eN a, eN b] = some (eN (Nat.gcd a b), false) := rfl
theorem ltN (a b : Nat) : cop .lt (eN a) (eN b) = some (decide (a < b)) := by
  show some (decide ((a : Int) < b)) = _
  congr 1
  rw [Bool.eq_iff_iff, decide_eq_true_iff, decide_eq_true_iff]; omega
theorem gtN (a b : Nat) : cop .gt (eN a) (eN b) = some (decide (b < a)) := by
  show some (decide ((b : Int) < a)) = _
  congr 1
  rw [Bool.eq_iff_iff, decide_eq_true_iff, decide_eq_true_iff]; omega
theorem rgN {n : Nat} (h : n ≤ 1000000000) : rngD [eN n] = some ((List.range n).map eN) := rng1 h
theorem foldl_pow (n : Nat) : ∀ (t : Nat) (a : Nat), (List.range t).foldl (fun f _ => f * n) a = a * n ^ t
  | 0, a => by simp
  | t + 1, a => by rw [List.range_succ, List.foldl_append, foldl_pow n t a]; simp [Nat.pow_succ, Nat.mul_assoc]
theorem power_of_ok {n t : Nat} (hn : n < 1000000000) (ht : t ≤ 1000000000) : runK (mkP L) (k + 1) 128 [eN n, eN t] = .ret (eN (n ^ t)) false [] := by
  have lp := forL_ok (body := turnS (evN (mkP L) k (runK (mkP L) k) 59) (.nm 3) [.asg (.nm 2) (.bin .mul (.var 2) (.var 0))]) eN
    (fun (c : Option Cell) (f : Nat) => [some (.pl (eN n)), some (.pl (eN t)), some (.pl (eN f)), c]) (fun f _ => f * n) (List.range t) none 1 (fun x _ c f => ⟨some (.pl (eN x)), by
      have m := mulN (a := f) hn
      simp [turnS, asgR, asgT, seqL, opd2, opds, pre, fill, getP, m, List.set]⟩)
  obtain ⟨c, e⟩ := lp
  rw [foldl_pow, Nat.one_mul] at e
  have rg := rgN ht
  have e : forL _ _ [some (.pl (eN n)), some (.pl (eN t)), some (.pl (.int 1)), none] = _ := e
  rw [runK_at (at_p_almostwork_power_of L)]
  simp [runF, p_almostwork_power_of, Pv.start, seqL, deep, evL, items, opds, pre, fill, getP, rg, e, iosOf]
def chN (n m : Nat) : Nat := (List.range m).foldl (fun f a => f * (n - a) / (a + 1)) 1
theorem chosen_ok {n m : Nat} (hm : m ≤ n) (hn : n < 1000000) : runK (mkP L) (k + 1) 129 [eN n, eN m] = .ret (eN (chN n m)) false [] := by
  have lp := forL_inv (body := turnS (evN (mkP L) k (runK (mkP L) k) 59) (.nm 3) [.asg (.nm 2) (.bin .fdiv (.bin .mul (.var 2) (.bin .sub (.var 0) (.var 3))) (.bin .add (.var 3) (.int 1)))]) eN
    (fun (c : Option Cell) (f : Nat) => [some (.pl (eN n)), some (.pl (eN m)), some (.pl (eN f)), c]) (fun f a => f * (n - a) / (a + 1)) (fun _ _ => True) (List.range m) (fun done x rest f c e _ => ⟨some (.pl (eN x)), by
      have hx : x < m := by
        have : x ∈ List.range m := by rw [e]; simp
        exact List.mem_range.mp this
      have s1 := subN (a := n) (b := x) (by omega)
      have m1 := mulN (a := f) (b := n - x) (by omega)
      have d1 := divN (a := f * (n - x)) (b := x + 1) (by omega) (by
        have : (1000001 : Nat) ≤ 2 ^ 4000 := by decide +kernel
        omega)
      have a1 : bop .add (eN x) (.int 1) = some (eN (x + 1), false) := rfl
      simp [turnS, asgR, asgT, seqL, opd2, opds, pre, fill, getP, s1, m1, d1, a1, List.set], trivial⟩) (List.range m) [] none 1 rfl trivial
  obtain ⟨c, e, _⟩ := lp
  have e : forL _ _ [some (.pl (eN n)), some (.pl (eN m)), some (.pl (.int 1)), none] = .ok .nx [some (.pl (eN n)), some (.pl (eN m)), some (.pl (eN (chN n m))), c] := e
  have rg := rgN (n := m) (by omega)
  rw [runK_at (at_p_almostwork_chosen L)]
  simp [runF, p_almostwork_chosen, Pv.start, seqL, deep, evL, items, opds, pre, fill, getP, rg, e, iosOf]
/-- ways of a new point over so many -/
def wys (s : Srt) (j : Nat) : Nat := s.kinds * s.signs ^ j
def lin (w j n : Nat) : Nat × Nat := (chN n j * w * (w - 1) ^ (n - j), w ^ (n - j))
def eN2 (x : Nat × Nat) : PyData := .tuple [eN x.1, eN x.2]
theorem lacks_in_ok {j n : Nat} (hs : s.Ok) (hj : j ≤ 3) (hn : j ≤ n) (hn2 : n < 1000000) (hb : chN n j * wys s j < 2 ^ 4000) (hb2 : (wys s j - 1) ^ (n - j) < 2 ^ 4000) : runK (mkP L) (k + 2) 130 [eS s, eN j, eN n] = .ret (eN2 (lin (wys s j) j n)) false [] := by
  have h1 := hs.kinds
  have h2 := hs.signs
  have hw : s.signs ^ j ≤ 64 := Nat.le_trans (Nat.pow_le_pow_left h2.2.1 j) (Nat.le_trans (Nat.pow_le_pow_right (by decide) hj) (by decide))
  have hp : 1 ≤ s.signs ^ j := Nat.pow_pos h2.1
  have hw2 : wys s j ≤ 128 := Nat.mul_le_mul h1.2 hw
  have hw1 : 1 ≤ wys s j := Nat.mul_le_mul h1.1 hp
  have p1 := power_of_ok (L := L) (k := k) (n := s.signs) (t := j) (by omega) (by omega)
  have p2 := chosen_ok (L := L) (k := k) hn hn2
  have p3 := power_of_ok (L := L) (k := k) (n := wys s j - 1) (t := n - j) (by omega) (by omega)
  have p4 := power_of_ok (L := L) (k := k) (n := wys s j) (t := n - j) (by omega) (by omega)
  have m1 : bop .mul (eN s.kinds) (eN (s.signs ^ j)) = some (eN (wys s j), false) := mulN (by omega)
  have m2 := mulN (a := chN n j) (b := wys s j) (by omega)
  have m3 := mulB hb hb2
  have s1 : bop .sub (eN (wys s j)) (.int 1) = some (eN (wys s j - 1), false) := subN (b := 1) hw1
  have s2 := subN hn
  have x0 := ix_S0 s
  have x1 := ix_S1 s
  generalize eS s = S0 at x0 x1
  rw [runK_at (at_p_almostwork_lacks_in L)]
  simp [runF, p_almostwork_lacks_in, Pv.start, seqL, deep, evL, opd2, opds, pre, fill, getP, x0, x1, p1, m1, p2, m2, s1, s2, p3, p4, m3, line, iosOf, List.set]
  rfl
theorem lowest_ok {a b : Nat} (ha : a < 2 ^ 4000) (hb : b < 2 ^ 4000) (h : 0 < b) : runK (mkP L) (k + 1) 131 [eN a, eN b] = .ret (eN2 (a / Nat.gcd a b, b / Nat.gcd a b)) false [] := by
  have hg : 0 < Nat.gcd a b := Nat.gcd_pos_of_pos_right _ h
  have hg2 : Nat.gcd a b < 2 ^ 4000 := Nat.lt_of_le_of_lt (Nat.gcd_le_right _ h) hb
  have d1 := divN (a := a) hg hg2
  have d2 := divN (a := b) hg hg2
  have g := gcdN a b
  generalize Nat.gcd a b = G at *
  rw [runK_at (at_p_almostwork_lowest L)]
  simp [runF, p_almostwork_lowest, Pv.start, seqL, deep, evL, opd2, opds, pre, fill, getP, g, d1, d2, line, iosOf, List.set]
  rfl
end
end Pv
/-! Nm2: the size from which on the share is small. -/
namespace Pv
open PySem GP
section
variable {L : List FnD} {k : Nat} {s : Srt}
theorem eS_whl {P : Prg} {p : Ev} {s : S} (c : R) (b : List Q) : stepS P p (.whl c b) s = whileL (p.t c) (seqL p.s b) whileMost s := (rfl)
def stp (w j n : Nat) (ab : Nat × Nat) : Nat × Nat := (ab.1 * (lin w j n).2 + (lin w j n).1 * ab.2, ab.2 * (lin w j n).2)
def enF (s : Srt) (d n : Nat) : Nat × Nat := (List.range d).foldl (fun ab j => stp (wys s j) j n ab) (0, 1)
theorem enF_succ (s : Srt) (d n : Nat) : enF s (d + 1) n = stp (wys s d) d n (enF s d n) := by
  unfold enF
  rw [List.range_succ, List.foldl_append]; rfl
/-- all numbers met are short -/
def Bd1 (s : Srt) (j n : Nat) : Prop := j ≤ n ∧ chN n j * wys s j < 2 ^ 1500 ∧ (wys s j - 1) ^ (n - j) < 2 ^ 1500 ∧ (enF s j n).1 < 2 ^ 1500 ∧ (enF s j n).2 < 2 ^ 1500 ∧ (lin (wys s j) j n).1 < 2 ^ 1500 ∧ (lin (wys s j) j n).2 < 2 ^ 1500
def Bd (s : Srt) (d n : Nat) : Prop := n < 1000000 ∧ ∀ j, j < d → Bd1 s j n
instance (s : Srt) (j n : Nat) : Decidable (Bd1 s j n) := by unfold Bd1; infer_instance
instance (s : Srt) (d n : Nat) : Decidable (Bd s d n) := by unfold Bd; infer_instance
theorem pw {a : Nat} (h : a < 2 ^ 1500) : a < 2 ^ 4000 := Nat.lt_of_lt_of_le h (by decide +kernel)
def enough (s : Srt) (d m n : Nat) : Bool := decide ((enF s d n).1 * m < (enF s d n).2)
theorem is_enough_ok {d m n : Nat} (hs : s.Ok) (hd : d ≤ 3) (hm : m < 1000000000) (hB : Bd s d n) : runK (mkP L) (k + 3) 132 [eS s, eN d, eN m, eN n] = .ret (.bool (enough s d m n)) false [] := by
  have lp := forL_inv (body := turnS (evN (mkP L) (k + 2) (runK (mkP L) (k + 2)) 59) (.nm 6) [.asg (.tp [7, 8]) (.call 130 [.var 0, .var 6, .var 3]), .par [4, 5] [.bin .add (.bin .mul (.var 4) (.var 8)) (.bin .mul (.var 7) (.var 5)), .bin .mul (.var 5) (.var 8)]]) eN
    (fun (c : Option Cell × Option Cell × Option Cell) (f : Nat × Nat) => [some (.pl (eS s)), some (.pl (eN d)), some (.pl (eN m)), some (.pl (eN n)), some (.pl (eN f.1)), some (.pl (eN f.2)), c.1, c.2.1, c.2.2]) (fun ab j => stp (wys s j) j n ab) (fun done ab => ab = enF s done.length n) (List.range d) (fun done j rest ab c e hi => by
      have hl : done.length < d := by
        have := congrArg List.length e
        rw [List.length_range, List.length_append, List.length_cons] at this
        omega
      have hj : j = done.length := by
        have h1 : (List.range d)[done.length]? = some j := by rw [e]; simp
        rw [List.getElem?_range hl] at h1
        exact (Option.some.inj h1).symm
      subst hj
      obtain ⟨b1, b2, b3, b4, b5, b6, b7⟩ := hB.2 _ hl
      rw [← hi] at b4 b5
      have e1 := lacks_in_ok (L := L) (k := k) hs (show done.length ≤ 3 by omega) b1 hB.1 (pw b2) (pw b3)
      have m1 := mulB (pw b4) (pw b7)
      have m2 := mulB (pw b6) (pw b5)
      have m3 := mulB (pw b5) (pw b7)
      refine ⟨(some (.pl (eN done.length)), some (.pl (eN (lin (wys s done.length) done.length n).1)), some (.pl (eN (lin (wys s done.length) done.length n).2))), ?_, ?_⟩
      · unfold stp
        generalize lin (wys s done.length) done.length n = z at *
        have a1 := addN (ab.1 * z.2) (z.1 * ab.2)
        simp [turnS, asgR, asgT, eN2, seqL, evL, opd2, opds, pre, fill, getP, e1, m1, m2, m3, a1, List.set, setAll, setR, seqD]
      · rw [List.length_append, hi]
        exact (enF_succ s done.length n).symm) (List.range d) [] (none, none, none) (0, 1) rfl rfl
  obtain ⟨c, e, hi⟩ := lp
  have rg := rgN (n := d) (by omega)
  have e : forL _ _ [some (.pl (eS s)), some (.pl (eN d)), some (.pl (eN m)), some (.pl (eN n)), some (.pl (.int 0)), some (.pl (.int 1)), none, none, none] = _ := e
  have hf : (List.range d).foldl (fun ab j => stp (wys s j) j n ab) (0, 1) = enF s d n := rfl
  rw [hf] at e
  have m1 := mulN (a := (enF s d n).1) hm
  have l1 := ltN ((enF s d n).1 * m) (enF s d n).2
  have hz : decide ((enF s d n).1 * m < (enF s d n).2) = enough s d m n := rfl
  rw [hz] at l1
  generalize (enF s d n).1 = A at *
  generalize (enF s d n).2 = B at *
  rw [runK_at (at_p_almostwork_is_enough L)]
  simp [runF, p_almostwork_is_enough, Pv.start, seqL, deep, evL, items, opd2, opds, pre, fill, getP, rg, e, m1, l1, bD, iosOf, setAll, setR, List.set]
theorem maxD_map {α : Type} (enc : α → PyData) (x : α) (xs : List α) : PySem.W.maxD (enc x) (xs.map enc) = enc (xs.foldl (fun a y => if PySem.W.dataLt (enc a) (enc y) then y else a) x) := by
  unfold PySem.W.maxD
  induction xs generalizing x with
  | nil => rfl
  | cons y xs ih =>
    rw [List.map_cons, List.foldl_cons, List.foldl_cons]
    by_cases h : PySem.W.dataLt (enc x) (enc y) = true
    · rw [if_pos h, if_pos h]; exact ih y
    · rw [if_neg h, if_neg h]; exact ih x
theorem max_N (x : Nat) (xs : List Nat) : bop2 .max [.list (eN x :: xs.map eN)] = some (eN (xs.foldl (fun a y => max a y) x), false) := by
  show (if (bestOk (eN x :: xs.map eN) : Bool) then some (PySem.W.maxD (eN x) (xs.map eN)) else none).map (fun d => (d, false)) = _
  have b : bestOk (eN x :: xs.map eN) = true := best_map eN (x :: xs) alike_N (fun a z => by cases z) (fun a => by rw [show (eN a).depth = 0 from rfl]; decide)
  rw [b, maxD_map]
  have : (fun a y => if PySem.W.dataLt (eN a) (eN y) = true then y else a) = fun a y : Nat => max a y := by
    funext a y
    have : PySem.W.dataLt (eN a) (eN y) = decide ((a : Int) < y) := PySem.W.dataLt_int _ _
    rw [this]
    by_cases h : a < y
    · rw [if_pos (by simpa using h)]; omega
    · rw [if_neg (by simpa using h)]; omega
  rw [this]
  rfl
def leastS (s : Srt) (d : Nat) : Nat := ((List.range d).map fun j => j * s.kinds * s.signs ^ j).foldl (fun a y => max a y) 1
theorem least_size_ok {d : Nat} (hs : s.Ok) (hd : d ≤ 3) : runK (mkP L) (k + 2) 133 [eS s, eN d] = .ret (eN (leastS s d)) false [] := by
  have rg := rgN (n := d) (by omega)
  have x0 := ix_S0 s
  have x1 := ix_S1 s
  have h1 := hs.kinds
  have h2 := hs.signs
  have lc := lc_map (P := mkP L) (p := evN (mkP L) (k + 1) (runK (mkP L) (k + 1)) 56) (elt := (.bin .mul (.bin .mul (.var 2) (.idx (.var 0) (.int 0))) (.call 128 [.idx (.var 0) (.int 1), .var 2]))) (own := [2]) (t := .nm 2) (it := .rng [.var 1]) (ifs := [])
    (s := [some (.pl (eS s)), some (.pl (eN d)), none]) (s1 := [some (.pl (eS s)), some (.pl (eN d)), none])
    (List.range d) eN (fun j => eN (j * s.kinds * s.signs ^ j)) (by simp [items, opds, pre, fill, getP, rg]) rfl (fun j hj => by
      have hj := List.mem_range.mp hj
      have p := power_of_ok (L := L) (k := k) (n := s.signs) (t := j) (by omega) (by omega)
      have hw : s.signs ^ j ≤ 64 := Nat.le_trans (Nat.pow_le_pow_left h2.2.1 j) (Nat.le_trans (Nat.pow_le_pow_right (by decide) (show j ≤ 3 by omega)) (by decide))
      have m1 := mulN (a := j) (b := s.kinds) (by omega)
      have m2 := mulN (a := j * s.kinds) (b := s.signs ^ j) (by omega)
      simp [lcT, asgR, asgT, testsL, wipeS, evL, opd2, opds, pre, fill, getP, x0, x1, p, m1, m2]) (by rw [List.length_range]; show _ ≤ 16777216; omega)
  have mx := max_N 1 ((List.range d).map fun j => j * s.kinds * s.signs ^ j)
  have hz : ((List.range d).map fun j => j * s.kinds * s.signs ^ j).foldl (fun a y => max a y) 1 = leastS s d := rfl
  rw [hz] at mx
  have e0 : (List.range d).map (fun j => eN (j * s.kinds * s.signs ^ j)) = ((List.range d).map fun j => j * s.kinds * s.signs ^ j).map eN := by rw [List.map_map]; rfl
  rw [e0] at lc
  have ad : bop .add (.list [.int 1]) (.list (((List.range d).map fun j => j * s.kinds * s.signs ^ j).map eN)) = some (.list (eN 1 :: ((List.range d).map fun j => j * s.kinds * s.signs ^ j).map eN), true) := by
    show (if 1 + (((List.range d).map fun j => j * s.kinds * s.signs ^ j).map eN).length ≤ line then _ else _) = _
    rw [if_pos (by rw [List.length_map, List.length_map, List.length_range]; show _ ≤ 16777216; omega)]
    rfl
  generalize ((List.range d).map fun j => j * s.kinds * s.signs ^ j).map eN = G at *
  rw [runK_at (at_p_almostwork_least_size L)]
  simp [runF, p_almostwork_least_size, Pv.start, seqL, deep, evL, opd2, opds, pre, fill, getP, lc, ad, mx, iosOf, line]
end
end Pv
/-! Nm3: seeking by doubling and halving. -/
namespace Pv
open PySem GP
section
variable {L : List FnD} {k : Nat} {s : Srt}
theorem whl_no {c : S → Res Bool} {b : S → Res Pv.Flow} {f : Nat} {s s' : S} (h : c s = .ok false s') : whileL c b (f + 1) s = .ok .nx s' := by
  show (c s).bind _ = _
  rw [h]; rfl
theorem whl_yes {c : S → Res Bool} {b : S → Res Pv.Flow} {f : Nat} {s s' s'' : S} (h : c s = .ok true s') (h2 : b s' = .ok .nx s'') : whileL c b (f + 1) s = whileL c b f s'' := by
  show (c s).bind _ = _
  rw [h]
  show (b s').bind _ = _
  rw [h2]; rfl
theorem seqL_step {f : Q → S → Res Pv.Flow} {q : Q} {r : List Q} {s s1 : S} (h : f q s = .ok .nx s1) : seqL f (q :: r) s = seqL f r s1 := by
  show (f q s).bind _ = _
  rw [h]; rfl
theorem seqL_rt {f : Q → S → Res Pv.Flow} {q : Q} {r : List Q} {s s1 : S} {d : PyData} {b : Bool} (h : f q s = .ok (.rt d b) s1) : seqL f (q :: r) s = .ok (.rt d b) s1 := by
  show (f q s).bind _ = _
  rw [h]; rfl
theorem run_of {P : Prg} {k : Nat} {fd : FnD} {args ios : List PyData} {s0 s1 : S} {d : PyData} {b : Bool} (h1 : args.length = fd.np) (h2 : fd.io.length = fd.np) (h0 : start fd.io args ++ List.replicate (fd.ns - fd.np) none = s0) (h : seqL (stepS P (evN P k (runK P k) 59)) fd.body s0 = .ok (.rt d b) s1) (hi : iosOf fd.io s1 = some ios) : runF (evN P k (runK P k) deep) fd args = .ret d b ios := by
  unfold runF
  rw [if_neg (by rw [h1, h2]; simp), h0]
  show (match seqL (stepS P (evN P k (runK P k) 59)) fd.body s0 with
    | .ok fl s => (match iosOf fd.io s with
      | none => CRes.bad
      | some ios => (match fl with
        | .nx => .ret .none false ios
        | .rt d f => .ret d f ios
        | _ => .bad))
    | .err c v s => (match iosOf fd.io s with
      | none => .bad
      | some ios => .err c v ios)
    | .bad => .bad) = _
  rw [h]
  dsimp only
  rw [hi]
/-- doubling: 0 sort, 1 depth, 2 m, 3 low, 4 high -/
theorem dbl {C : S → Res Bool} {B : S → Res Pv.Flow} (st : Nat → Nat → S) (P : Nat → Bool) (least top : Nat)
    (hc : ∀ low high, least ≤ high → high ≤ top → C (st low high) = .ok (!P high) (st low high)) (hb : ∀ low high, high ≤ top → B (st low high) = .ok .nx (st high (2 * high))) :
    ∀ (i low high f : Nat), i < f → least ≤ low → low < high → P low = false → high * 2 ^ i ≤ top → P (high * 2 ^ i) = true → ∃ low' high', whileL C B f (st low high) = .ok .nx (st low' high') ∧ least ≤ low' ∧ low' < high' ∧ high' ≤ top ∧ P low' = false ∧ P high' = true := by
  intro i
  induction i with
  | zero =>
    intro low high f hf h1 h2 h3 h4 h5
    rw [Nat.pow_zero, Nat.mul_one] at h4 h5
    obtain ⟨g, rfl⟩ : ∃ g, f = g + 1 := ⟨f - 1, by omega⟩
    have c := hc low high (by omega) h4
    rw [h5] at c
    exact ⟨low, high, whl_no c, h1, h2, h4, h3, h5⟩
  | succ i ih =>
    intro low high f hf h1 h2 h3 h4 h5
    obtain ⟨g, rfl⟩ : ∃ g, f = g + 1 := ⟨f - 1, by omega⟩
    have hle : high ≤ high * 2 ^ (i + 1) := Nat.le_mul_of_pos_right _ (Nat.pow_pos (by decide))
    have c := hc low high (by omega) (by omega)
    cases hp : P high with
    | true =>
      rw [hp] at c
      exact ⟨low, high, whl_no c, h1, h2, by omega, h3, hp⟩
    | false =>
      rw [hp] at c
      have e : high * 2 ^ (i + 1) = 2 * high * 2 ^ i := by rw [Nat.pow_succ, Nat.mul_comm (2 ^ i) 2, ← Nat.mul_assoc, Nat.mul_comm high 2]
      rw [e] at h4 h5
      obtain ⟨l', h', w, r⟩ := ih high (2 * high) g (by omega) (by omega) (by omega) hp h4 h5
      exact ⟨l', h', by rw [whl_yes c (hb low high (by omega))]; exact w, r⟩
/-- halving -/
theorem hlv {C : S → Res Bool} {B : S → Res Pv.Flow} (st : Nat → Nat → Option Cell → S) (P : Nat → Bool) (least top : Nat)
    (hc : ∀ low high x, low < high → C (st low high x) = .ok (decide (1 < high - low)) (st low high x)) (hb : ∀ low high x, least ≤ low → low + 1 < high → high ≤ top → ∃ y, B (st low high x) = .ok .nx (if P ((low + high) / 2) then st low ((low + high) / 2) y else st ((low + high) / 2) high y)) :
    ∀ (f low high : Nat) (x : Option Cell), high - low < f → least ≤ low → low < high → high ≤ top → P low = false → P high = true → ∃ r y, whileL C B f (st low high x) = .ok .nx (st r (r + 1) y) ∧ least ≤ r ∧ r + 1 ≤ top ∧ P r = false ∧ P (r + 1) = true := by
  intro f
  induction f with
  | zero => intro low high x h; omega
  | succ f ih =>
    intro low high x hf h1 h2 h3 h4 h5
    have c := hc low high x h2
    by_cases z : 1 < high - low
    · rw [decide_eq_true z] at c
      obtain ⟨y, b⟩ := hb low high x h1 (by omega) h3
      have mid : low < (low + high) / 2 ∧ (low + high) / 2 < high := by omega
      rw [whl_yes c b]
      cases hp : P ((low + high) / 2) with
      | true => exact ih low _ y (by omega) h1 mid.1 (by omega) h4 hp
      | false => exact ih _ high y (by omega) (by omega) mid.2 h3 hp h5
    · rw [decide_eq_false z] at c
      have e : high = low + 1 := by omega
      subst e
      exact ⟨low, x, whl_no c, h1, h3, h4, h5⟩
/-- what is known of a sort, a depth, a number: short numbers up to a size, and a doubled least size that is enough -/
structure Sure (s : Srt) (d m top : Nat) : Prop where
  bd : ∀ n, leastS s d ≤ n → n ≤ top → Bd s d n
  low : 1 ≤ leastS s d ∧ leastS s d ≤ top
  up : ∃ i, i < 50 ∧ leastS s d * 2 ^ i ≤ top ∧ enough s d m (leastS s d * 2 ^ i) = true
  top : top < 1000
theorem surely_in_ok {d m top : Nat} (hs : s.Ok) (hd : d ≤ 3) (hm : m < 1000000000) (hS : Sure s d m top) : ∃ r, leastS s d ≤ r ∧ r ≤ top ∧ enough s d m r = true ∧ (leastS s d < r → enough s d m (r - 1) = false) ∧ runK (mkP L) (k + 4) 134 [eS s, eN d, eN m] = .ret (eN r) false [] := by
  have ht := hS.top
  have e0 := least_size_ok (L := L) (k := k + 1) hs hd
  have en : ∀ n, leastS s d ≤ n → n ≤ top → runK (mkP L) (k + 3) 132 [eS s, eN d, eN m, eN n] = .ret (.bool (enough s d m n)) false [] := fun n h1 h2 => is_enough_ok hs hd hm (hS.bd n h1 h2)
  have low := hS.low
  obtain ⟨i, hi, hi2, hi3⟩ := hS.up
  have e1 := en _ (Nat.le_refl _) low.2
  generalize leastS s d = lo at *
  cases hp : enough s d m lo with
  | true =>
    refine ⟨lo, Nat.le_refl _, low.2, hp, fun z => by omega, ?_⟩
    rw [hp] at e1
    rw [runK_at (at_p_almostwork_surely_in L)]
    simp [runF, p_almostwork_surely_in, Pv.start, seqL, deep, evL, e0, e1, tru, List.set, iosOf]
  | false =>
    rw [hp] at e1
    obtain ⟨i, rfl⟩ : ∃ j, i = j + 1 := by
      cases i with
      | zero => rw [Nat.pow_zero, Nat.mul_one, hp] at hi3; cases hi3
      | succ j => exact ⟨j, rfl⟩
    have ee : lo * 2 ^ (i + 1) = 2 * lo * 2 ^ i := by rw [Nat.pow_succ, Nat.mul_comm (2 ^ i) 2, ← Nat.mul_assoc, Nat.mul_comm lo 2]
    rw [ee] at hi2 hi3
    obtain ⟨l1, h1, w1, a1, a2, a3, a4, a5⟩ := dbl (C := (evN (mkP L) (k + 3) (runK (mkP L) (k + 3)) 59).t (.not (.call 132 [.var 0, .var 1, .var 2, .var 4]))) (B := seqL (evN (mkP L) (k + 3) (runK (mkP L) (k + 3)) 59).s [.par [3, 4] [.var 4, .bin .mul (.int 2) (.var 4)]])
      (fun low high => [some (.pl (eS s)), some (.pl (eN d)), some (.pl (eN m)), some (.pl (eN low)), some (.pl (eN high)), none]) (enough s d m) lo top
      (fun low high x y => by simp [evL, en high x y, tru])
      (fun low high y => by
        have m1 : bop .mul (.int 2) (eN high) = some (eN (2 * high), false) := mulN (a := 2) (by omega)
        simp [seqL, evL, opd2, opds, pre, fill, getP, m1, setAll, setR, List.set])
      i lo (2 * lo) whileMost (by show i < 100000; omega) (Nat.le_refl _) (by omega) hp hi2 hi3
    obtain ⟨r, y, w2, b1, b2, b3, b4⟩ := hlv (C := (evN (mkP L) (k + 3) (runK (mkP L) (k + 3)) 59).t (.cmp .gt (.bin .sub (.var 4) (.var 3)) (.int 1))) (B := seqL (evN (mkP L) (k + 3) (runK (mkP L) (k + 3)) 59).s [.asg (.nm 5) (.bin .fdiv (.bin .add (.var 3) (.var 4)) (.int 2)), .ifs (.call 132 [.var 0, .var 1, .var 2, .var 5]) [.asg (.nm 4) (.var 5)] [.asg (.nm 3) (.var 5)]])
      (fun low high x => [some (.pl (eS s)), some (.pl (eN d)), some (.pl (eN m)), some (.pl (eN low)), some (.pl (eN high)), x]) (enough s d m) lo top
      (fun low high x z => by
        have s1 := subN (a := high) (b := low) (by omega)
        have g1 : cop .gt (eN (high - low)) (.int 1) = some (decide (1 < high - low)) := gtN _ 1
        simp [opd2, opds, pre, fill, getP, s1, g1, bD, tru])
      (fun low high x z1 z2 z3 => by
        have a1 := addN low high
        have d1 : bop .fdiv (eN (low + high)) (.int 2) = some (eN ((low + high) / 2), false) := divN (b := 2) (by decide) (by decide +kernel)
        have e := en ((low + high) / 2) (by omega) (by omega)
        refine ⟨some (.pl (eN ((low + high) / 2))), ?_⟩
        cases hq : enough s d m ((low + high) / 2) with
        | true =>
          rw [hq] at e
          simp [seqL, evL, opd2, opds, pre, fill, getP, a1, d1, e, tru, List.set]
        | false =>
          rw [hq] at e
          simp [seqL, evL, opd2, opds, pre, fill, getP, a1, d1, e, tru, List.set])
      whileMost l1 h1 none (by show _ < 100000; omega) a1 a2 a3 a4 a5
    refine ⟨r + 1, by omega, b2, b4, fun _ => by rw [Nat.add_sub_cancel]; exact b3, ?_⟩
    have m0 : bop .mul (.int 2) (eN lo) = some (eN (2 * lo), false) := mulN (a := 2) (by omega)
    have q0 : stepS (mkP L) (evN (mkP L) (k + 3) (runK (mkP L) (k + 3)) 59) (.asg (.nm 3) (.call 133 [.var 0, .var 1])) [some (.pl (eS s)), some (.pl (eN d)), some (.pl (eN m)), none, none, none] = .ok .nx [some (.pl (eS s)), some (.pl (eN d)), some (.pl (eN m)), some (.pl (eN lo)), none, none] := by
      simp [evL, e0, List.set]
    have q1 : stepS (mkP L) (evN (mkP L) (k + 3) (runK (mkP L) (k + 3)) 59) (.ifs (.call 132 [.var 0, .var 1, .var 2, .var 3]) [.ret (.var 3)] []) [some (.pl (eS s)), some (.pl (eN d)), some (.pl (eN m)), some (.pl (eN lo)), none, none] = .ok .nx [some (.pl (eS s)), some (.pl (eN d)), some (.pl (eN m)), some (.pl (eN lo)), none, none] := by
      simp [evL, e1, tru, seqL]
    have q2 : stepS (mkP L) (evN (mkP L) (k + 3) (runK (mkP L) (k + 3)) 59) (.asg (.nm 4) (.bin .mul (.int 2) (.var 3))) [some (.pl (eS s)), some (.pl (eN d)), some (.pl (eN m)), some (.pl (eN lo)), none, none] = .ok .nx [some (.pl (eS s)), some (.pl (eN d)), some (.pl (eN m)), some (.pl (eN lo)), some (.pl (eN (2 * lo))), none] := by
      simp [opd2, opds, pre, fill, getP, m0, List.set]
    have q5 : stepS (mkP L) (evN (mkP L) (k + 3) (runK (mkP L) (k + 3)) 59) (.ret (.var 4)) [some (.pl (eS s)), some (.pl (eN d)), some (.pl (eN m)), some (.pl (eN r)), some (.pl (eN (r + 1))), y] = .ok (.rt (eN (r + 1)) false) [some (.pl (eS s)), some (.pl (eN d)), some (.pl (eN m)), some (.pl (eN r)), some (.pl (eN (r + 1))), y] := by
      simp
    have hseq := (seqL_step q0).trans <| (seqL_step q1).trans <| (seqL_step q2).trans <| (seqL_step ((eS_whl _ _).trans w1)).trans <| (seqL_step ((eS_whl _ _).trans w2)).trans (seqL_rt (r := []) q5)
    rw [runK_at (at_p_almostwork_surely_in L)]
    exact run_of rfl rfl rfl hseq rfl
end
end Pv
/-! Nm4: sources and picks; numbers asked for. -/
namespace Pv
open PySem GP
section
variable {L : List FnD} {k : Nat} {s : Srt}
theorem pick1 (a m c n : Int) (h : 0 < a) (hn : 0 < n) (h2 : n.natAbs < 1073741824) :
    runK (mkP L) (k + 1) 139 [.list [.int a, .int m, .int c], .int n] = .ret (.int (a.fmod n)) false [.list [.int (a.fdiv n), .int m, .int c]] := by
  have hn0 : n ≠ 0 := by omega
  rw [runK_at (at_l__law_pick_6e1088 L)]
  simp [runF, l__law_pick_6e1088, Pv.start, seqL, deep, evL, opd2, opd1, opds, pre, getP, fill, bop, cop, bD, ixop, atD, ixD, tru, bop2, setRoot, setD, setR, iosOf, h, hn0, divOk, h2, List.set]
theorem pick2 (a m c n : Int) (h : ¬ 0 < a) (hn : 0 < n) (h2 : n.natAbs < 1073741824) (hm : m.natAbs < 2 ^ 200) (hc : c.natAbs < 1000000) :
    ∃ r : Int, 0 ≤ r ∧ r < n ∧ runK (mkP L) (k + 1) 139 [.list [.int a, .int m, .int c], .int n] = .ret (.int r) false [.list [.int a, .int m, .int (c + 1)]] := by
  have hn0 : n ≠ 0 := by omega
  obtain ⟨x1, e1⟩ : ∃ x, x = ((m + 61) * (2 * (c + 1) + 5) * 736338717 + (c + 1) * (c + 1) * 90001 + 29).fmod 10000000000000000000000013 := ⟨_, rfl⟩
  obtain ⟨x2, e2⟩ : ∃ x, x = (x1 * x1 + 777 * (c + 1) + m).fmod 1000000000000000000000000103 := ⟨_, rfl⟩
  obtain ⟨x3, e3⟩ : ∃ x, x = (x2 * x2 * 3 + 5 * x2 + (c + 1)).fmod 100000000000000000000000000319 := ⟨_, rfl⟩
  have b1 := fmod_b (x := (m + 61) * (2 * (c + 1) + 5) * 736338717 + (c + 1) * (c + 1) * 90001 + 29) (M := 10000000000000000000000013) (by decide)
  have b2 := fmod_b (x := x1 * x1 + 777 * (c + 1) + m) (M := 1000000000000000000000000103) (by decide)
  have b3 := fmod_b (x := x2 * x2 * 3 + 5 * x2 + (c + 1)) (M := 100000000000000000000000000319) (by decide)
  rw [← e1] at b1
  rw [← e2] at b2
  rw [← e3] at b3
  have m1 : mulOk (m + 61) (2 * (c + 1) + 5) = true := mulOk_r (by omega)
  have m2 : mulOk (c + 1) (c + 1) = true := mulOk_r (by omega)
  have m3 : mulOk 2 (c + 1) = true := mulOk_r (by omega)
  have m4 : ∀ x, mulOk x 736338717 = true := fun x => mulOk_r (by decide)
  have m5 : ∀ x, mulOk x 90001 = true := fun x => mulOk_r (by decide)
  have m6 : ∀ x, mulOk 777 x = true := fun x => mulOk_l (by decide)
  have m7 : ∀ x, mulOk x 3 = true := fun x => mulOk_r (by decide)
  have m8 : ∀ x, mulOk 5 x = true := fun x => mulOk_l (by decide)
  have m9 : mulOk x1 x1 = true := mulOk_b (by have : (10000000000000000000000013 : Int) < 2 ^ 400 := by decide +kernel
                                              omega) (by have : (10000000000000000000000013 : Int) < 2 ^ 400 := by decide +kernel
                                                         omega)
  have m10 : mulOk x2 x2 = true := mulOk_b (by have : (1000000000000000000000000103 : Int) < 2 ^ 400 := by decide +kernel
                                               omega) (by have : (1000000000000000000000000103 : Int) < 2 ^ 400 := by decide +kernel
                                                          omega)
  refine ⟨(x3.fdiv 100003).fmod n, (fmod_b hn).1, (fmod_b hn).2, ?_⟩
  rw [runK_at (at_l__law_pick_6e1088 L)]
  simp [runF, l__law_pick_6e1088, Pv.start, seqL, deep, evL, opd2, opd1, opds, pre, getP, fill, bop, cop, bD, ixop, atD, ixD, tru, bop2, setRoot, setD, setR, iosOf, h, hn0, divOk, h2, List.set, m1, m2, m3, m4, m5, m6, m7, m8, ← e1, m9, ← e2, m10, ← e3]
theorem pick_ok {n : Nat} {W : PyData} (h : Wl n W) (hn : n < 900000) (k : Nat) (many : Nat) (h1 : 0 < many) (h2 : many < 1000000000) : ∃ (r : Nat) (W' : PyData), r < many ∧ Wl (n + 1) W' ∧ runK (mkP L) (k + 1) 139 [W, eN many] = .ret (eN r) false [W'] := by
  obtain ⟨a, m, c, rfl, hm, hc, hc2⟩ := h
  by_cases ha : 0 < a
  · have b := fmod_b (x := a) (M := (many : Int)) (by omega)
    obtain ⟨r, hr⟩ : ∃ r : Nat, a.fmod many = (r : Int) := ⟨_, (Int.toNat_of_nonneg b.1).symm⟩
    have e := pick1 (L := L) (k := k) a m c many ha (by omega) (by omega)
    rw [hr] at e b
    exact ⟨r, _, by omega, ⟨_, m, c, rfl, hm, hc, by omega⟩, e⟩
  · obtain ⟨r, r1, r2, e⟩ := pick2 (L := L) (k := k) a m c many ha (by omega) (by omega) hm (by omega)
    obtain ⟨j, rfl⟩ : ∃ j : Nat, r = (j : Int) := ⟨_, (Int.toNat_of_nonneg r1).symm⟩
    exact ⟨j, _, by omega, ⟨a, m, c + 1, rfl, hm, by omega, by omega⟩, e⟩
theorem src_loop (scr kk cc : PyData) (all : List Int) (hl : all.length ≤ 1000) : ∀ (l : List Int) (j : Nat) (w : Int) (x4 x5 : Option Cell), j + l.length ≤ 1000 → ∃ (w' : Int) (y4 y5 : Option Cell),
    forL (turnS (evN (mkP L) k (runK (mkP L) k) 59) (.tp [4, 5]) [.asg (.nm 3) (.bin .mod (.bi .int [.bin .add (.bin .mul (.var 3) (.int 1000003)) (.bin .mul (.bi .int [.var 5]) (.bin .add (.bin .mul (.int 2) (.var 4)) (.int 3)))]) (.bin .add (.bin .pow (.int 10) (.int 21)) (.int 117)))]) (enumD j (l.map PyData.int)) [some (.pl scr), some (.pl kk), some (.pl cc), some (.pl (.int w)), x4, x5, none] =
      .ok .nx [some (.pl scr), some (.pl kk), some (.pl cc), some (.pl (.int w')), y4, y5, none]
  | [], j, w, x4, x5, _ => ⟨w, x4, x5, rfl⟩
  | n :: ns, j, w, x4, x5, hj => by
    rw [List.length_cons] at hj
    have m1 : ∀ x, mulOk x 1000003 = true := fun x => mulOk_r (by decide)
    have m2 : ∀ x, mulOk 2 x = true := fun x => mulOk_l (by decide)
    have m3 : mulOk n (2 * (j : Int) + 3) = true := mulOk_r (by omega)
    obtain ⟨w', y4, y5, e⟩ := src_loop scr kk cc all hl ns (j + 1) ((w * 1000003 + n * (2 * (j : Int) + 3)).fmod 1000000000000000000117) (some (.pl (.int j))) (some (.pl (.int n))) (by omega)
    refine ⟨w', y4, y5, ?_⟩
    have s1 : turnS (evN (mkP L) k (runK (mkP L) k) 59) (.tp [4, 5]) [.asg (.nm 3) (.bin .mod (.bi .int [.bin .add (.bin .mul (.var 3) (.int 1000003)) (.bin .mul (.bi .int [.var 5]) (.bin .add (.bin .mul (.int 2) (.var 4)) (.int 3)))]) (.bin .add (.bin .pow (.int 10) (.int 21)) (.int 117)))] (.tuple [.int j, .int n]) [some (.pl scr), some (.pl kk), some (.pl cc), some (.pl (.int w)), x4, x5, none] =
        .ok .nx [some (.pl scr), some (.pl kk), some (.pl cc), some (.pl (.int ((w * 1000003 + n * (2 * (j : Int) + 3)).fmod 1000000000000000000117))), some (.pl (.int j)), some (.pl (.int n)), none] := by
      simp [turnS, asgR, asgT, setAll, seqD, seqL, evL, opd2, opd1, opds, pre, fill, getP, bop, bop2, List.set, m1, m2, m3]
    show (turnS (evN (mkP L) k (runK (mkP L) k) 59) _ _ (.tuple [.int j, .int n]) _).bind (fun fl s => match fl with
        | .nx => forL _ _ s
        | .ct => forL _ _ s
        | .bk => .ok .nx s
        | .rt d f => .ok (.rt d f) s) = _
    rw [s1]
    exact e
theorem source_ok (ns : List Int) (hl : ns.length ≤ 1000) (j : Nat) : ∃ W, Wl 1 W ∧ runK (mkP L) (k + 1) 138 [intsP ns, eN j] = .ret W true [] := by
  obtain ⟨cell, hcell⟩ : ∃ cell : Int, stepS (mkP L) (evN (mkP L) k (runK (mkP L) k) 59) (.asg (.nm 2) (.ife (.cmp .lt (.var 1) (.bi .len [.var 0])) (.bi .int [.idx (.var 0) (.var 1)]) (.bin .add (.bin .mul (.int 41) (.var 1)) (.int 5)))) [some (.pl (intsP ns)), some (.pl (eN j)), none, none, none, none, none] = .ok .nx [some (.pl (intsP ns)), some (.pl (eN j)), some (.pl (.int cell)), none, none, none, none] := by
    have m1 : mulOk 41 (j : Int) = true := mulOk_l (by decide)
    by_cases hk : j < ns.length
    · refine ⟨ns[j], ?_⟩
      have g : ixop (.list (ns.map PyData.int)) (.int (j : Int)) = some (.int ns[j]) := by
        show atD _ _ = _
        rw [atD_nat, List.getElem?_map, List.getElem?_eq_getElem hk]; rfl
      have hk' : (j : Int) < ns.length := by omega
      simp [intsP, evL, opd2, opd1, opds, pre, fill, getP, bop, bop2, cop, bD, tru, List.set, hk', g]
    · refine ⟨41 * j + 5, ?_⟩
      have hk' : ¬ (j : Int) < ns.length := by omega
      simp [intsP, evL, opd2, opd1, opds, pre, fill, getP, bop, bop2, cop, bD, tru, List.set, hk', m1]
  obtain ⟨w', y4, y5, e2⟩ := src_loop (L := L) (k := k) (intsP ns) (eN j) (.int cell) ns hl ns 0 (17 + 3 * ns.length) none none (by omega)
  obtain ⟨ab, hab⟩ : ∃ ab : Int, ab = if cell < 0 then -cell else cell := ⟨_, rfl⟩
  obtain ⟨x, hx⟩ : ∃ x : Int, x = (ab * 7351 + 3 * (if cell < 0 then 1 else 0) + w' * 131 + 1009 * (j : Int)).fmod 1000000000000000000000007 := ⟨_, rfl⟩
  have bx := fmod_b (x := ab * 7351 + 3 * (if cell < 0 then 1 else 0) + w' * 131 + 1009 * (j : Int)) (M := 1000000000000000000000007) (by decide)
  rw [← hx] at bx
  have m1 : ∀ x, mulOk x 7351 = true := fun x => mulOk_r (by decide)
  have m2 : ∀ x, mulOk x 131 = true := fun x => mulOk_r (by decide)
  have m3 : ∀ x, mulOk 3 x = true := fun x => mulOk_l (by decide)
  have m4 : ∀ x, mulOk 1009 x = true := fun x => mulOk_l (by decide)
  refine ⟨.list [.int (if ab - 1000000000000000000 > 0 then ab - 1000000000000000000 else 0), .int x, .int 1], ⟨_, x, 1, rfl, ?_, by omega, by omega⟩, ?_⟩
  · have : (1000000000000000000000007 : Int) < 2 ^ 200 := by decide +kernel
    omega
  · rw [runK_at (at_l__law_source_30e396 L)]
    have h1 : stepS (mkP L) (evN (mkP L) k (runK (mkP L) k) 59) (.asg (.nm 3) (.bin .add (.int 17) (.bin .mul (.int 3) (.bi .len [.var 0])))) [some (.pl (intsP ns)), some (.pl (eN j)), some (.pl (.int cell)), none, none, none, none] = .ok .nx [some (.pl (intsP ns)), some (.pl (eN j)), some (.pl (.int cell)), some (.pl (.int (17 + 3 * ns.length))), none, none, none] := by
      simp [intsP, evL, opd2, opd1, opds, pre, fill, getP, bop, bop2, m3, List.set]
    have h3 : stepS (mkP L) (evN (mkP L) k (runK (mkP L) k) 59) (.asg (.nm 6) (.bin .mod (.bi .int [.bin .add (.bin .add (.bin .add (.bin .mul (.bi .abs [.var 2]) (.int 7351)) (.bin .mul (.int 3) (.bi .int [.cmp .lt (.var 2) (.int 0)]))) (.bin .mul (.var 3) (.int 131))) (.bin .mul (.int 1009) (.var 1))]) (.bin .add (.bin .pow (.int 10) (.int 24)) (.int 7)))) [some (.pl (intsP ns)), some (.pl (eN j)), some (.pl (.int cell)), some (.pl (.int w')), y4, y5, none] = .ok .nx [some (.pl (intsP ns)), some (.pl (eN j)), some (.pl (.int cell)), some (.pl (.int w')), y4, y5, some (.pl (.int x))] := by
      simp [evL, opd2, opd1, opds, pre, fill, getP, bop, bop2, cop, bD, List.set, m1, m2, m3, m4, ← hab, ← hx]
    have h4 : stepS (mkP L) (evN (mkP L) k (runK (mkP L) k) 59) (.ret (.lst [.bi .max2 [.int 0, .bin .sub (.bi .abs [.var 2]) (.bin .pow (.int 10) (.int 18))], .var 6, .int 1])) [some (.pl (intsP ns)), some (.pl (eN j)), some (.pl (.int cell)), some (.pl (.int w')), y4, y5, some (.pl (.int x))] = .ok (.rt (.list [.int (if ab - 1000000000000000000 > 0 then ab - 1000000000000000000 else 0), .int x, .int 1]) true) [some (.pl (intsP ns)), some (.pl (eN j)), some (.pl (.int cell)), some (.pl (.int w')), y4, y5, some (.pl (.int x))] := by
      simp [evL, opd2, opd1, opds, pre, fill, getP, bop, bop2, cop, bD, line, List.set, ← hab]
    have h2 : stepS (mkP L) (evN (mkP L) k (runK (mkP L) k) 59) (.for_ (.tp [4, 5]) (.enm (.var 0)) [.asg (.nm 3) (.bin .mod (.bi .int [.bin .add (.bin .mul (.var 3) (.int 1000003)) (.bin .mul (.bi .int [.var 5]) (.bin .add (.bin .mul (.int 2) (.var 4)) (.int 3)))]) (.bin .add (.bin .pow (.int 10) (.int 21)) (.int 117)))]) [some (.pl (intsP ns)), some (.pl (eN j)), some (.pl (.int cell)), some (.pl (.int (17 + 3 * ns.length))), none, none, none] = .ok .nx [some (.pl (intsP ns)), some (.pl (eN j)), some (.pl (.int cell)), some (.pl (.int w')), y4, y5, none] := by
      rw [eS_for]
      simp [items, seq_ints, e2]
    have hseq := (seqL_step hcell).trans <| (seqL_step h1).trans <| (seqL_step h2).trans <| (seqL_step h3).trans (seqL_rt (r := []) h4)
    exact run_of rfl rfl rfl hseq rfl
/-! ### numbers asked for -/
theorem need_lo {a lo : Int} (h : lo ≤ a) : runK (mkP L) (k + 1) 135 [.int a, .int lo, .none] = .ret .none false [] := by
  rw [runK_at (at_p_checks_need_number L)]
  simp [runF, p_checks_need_number, Pv.start, seqL, deep, anyT, allT, opd2, opd1, opds, pre, fill, getP, cop, bD, tru, iosOf, show ¬ a < lo by omega]
theorem need_lohi {a lo hi : Int} (h : lo ≤ a) (h2 : a ≤ hi) : runK (mkP L) (k + 1) 135 [.int a, .int lo, .int hi] = .ret .none false [] := by
  rw [runK_at (at_p_checks_need_number L)]
  simp [runF, p_checks_need_number, Pv.start, seqL, deep, anyT, allT, opd2, opd1, opds, pre, fill, getP, cop, bD, tru, iosOf, show ¬ a < lo by omega, show ¬ hi < a by omega]
theorem need_under {a lo : Int} {d : PyData} (h : a < lo) : runK (mkP L) (k + 5) 135 [.int a, .int lo, d] = .err 1 (.int a) [] := by
  rw [runK_at (at_p_checks_need_number L)]
  simp [runF, p_checks_need_number, Pv.start, seqL, deep, anyT, allT, evL, opd2, opd1, opds, pre, fill, getP, cop, bD, tru, iosOf, h, show ¬ (k + 4 < 4) by omega]
theorem need_over {a lo hi : Int} (h : lo ≤ a) (h2 : hi < a) : runK (mkP L) (k + 5) 135 [.int a, .int lo, .int hi] = .err 1 (.int a) [] := by
  rw [runK_at (at_p_checks_need_number L)]
  simp [runF, p_checks_need_number, Pv.start, seqL, deep, anyT, allT, evL, opd2, opd1, opds, pre, fill, getP, cop, bD, tru, iosOf, show ¬ a < lo by omega, h2, show ¬ (k + 4 < 4) by omega]
end
end Pv
/-! Nm5: lacks, surely_from. -/
namespace Pv
open PySem GP
section
variable {L : List FnD} {k : Nat} {s : Srt}
def low2 (x : Nat × Nat) : Nat × Nat := (x.1 / Nat.gcd x.1 x.2, x.2 / Nat.gcd x.1 x.2)
theorem lacks_ok {j n : Nat} (hs : s.Ok) (hj : j ≤ 3) (hn : j ≤ n) (hn2 : n < 1000000) (hb : chN n j * wys s j < 2 ^ 4000) (hb2 : (wys s j - 1) ^ (n - j) < 2 ^ 4000) (h1 : (lin (wys s j) j n).1 < 2 ^ 4000) (h2 : (lin (wys s j) j n).2 < 2 ^ 4000) (h3 : 0 < (lin (wys s j) j n).2) :
    runK (mkP L) (k + 6) 136 [eS s, eN j, eN n] = .ret (eN2 (low2 (lin (wys s j) j n))) false [] := by
  have e0 := need_sort_ok (L := L) (k := k) hs
  have e1 := need_lo (L := L) (k := k + 4) (a := j) (lo := 0) (by omega)
  have e2 := need_lo (L := L) (k := k + 4) (a := n) (lo := j) (by omega)
  have e3 := lacks_in_ok (L := L) (k := k + 3) hs hj hn hn2 hb hb2
  have e4 := lowest_ok (L := L) (k := k + 4) h1 h2 h3
  have hz : ((lin (wys s j) j n).1 / Nat.gcd (lin (wys s j) j n).1 (lin (wys s j) j n).2, (lin (wys s j) j n).2 / Nat.gcd (lin (wys s j) j n).1 (lin (wys s j) j n).2) = low2 (lin (wys s j) j n) := rfl
  rw [hz] at e4
  generalize low2 (lin (wys s j) j n) = R at *
  generalize lin (wys s j) j n = z at *
  rw [runK_at (at_p_almost_lacks L)]
  simp [runF, p_almost_lacks, Pv.start, seqL, deep, evL, e0, e1, e2, e3, e4, eN2, asgT, setAll, setR, seqD, iosOf, List.set]
theorem lacks_low {a : Int} {d : PyData} (hs : s.Ok) (h : a < 0) : runK (mkP L) (k + 6) 136 [eS s, .int a, d] = .err 1 (.int a) [] := by
  have e0 := need_sort_ok (L := L) (k := k) hs
  have e1 := need_under (L := L) (k := k) (a := a) (lo := 0) (d := .none) h
  rw [runK_at (at_p_almost_lacks L)]
  simp [runF, p_almost_lacks, Pv.start, seqL, deep, evL, e0, e1, iosOf]
theorem lacks_short {a b : Int} (hs : s.Ok) (h : 0 ≤ a) (h2 : b < a) : runK (mkP L) (k + 6) 136 [eS s, .int a, .int b] = .err 1 (.int b) [] := by
  have e0 := need_sort_ok (L := L) (k := k) hs
  have e1 := need_lo (L := L) (k := k + 4) (a := a) (lo := 0) (by omega)
  have e2 := need_under (L := L) (k := k) (a := b) (lo := a) (d := .none) h2
  rw [runK_at (at_p_almost_lacks L)]
  simp [runF, p_almost_lacks, Pv.start, seqL, deep, evL, e0, e1, e2, iosOf]
theorem surely_from_ok {d m top : Nat} (hs : s.Ok) (hd : d ≤ 3) (hm : 1 ≤ m) (hm2 : m ≤ 1000000) (hS : Sure s d m top) : ∃ r, leastS s d ≤ r ∧ r ≤ top ∧ enough s d m r = true ∧ (leastS s d < r → enough s d m (r - 1) = false) ∧ runK (mkP L) (k + 6) 137 [eS s, eN d, eN m] = .ret (eN r) false [] := by
  obtain ⟨r, h1, h2, h3, h4, e⟩ := surely_in_ok (L := L) (k := k + 1) hs hd (by omega) hS
  have e0 := need_sort_ok (L := L) (k := k) hs
  have e1 := need_lohi (L := L) (k := k + 4) (a := d) (lo := 0) (hi := 3) (by omega) (by omega)
  have e2 := need_lohi (L := L) (k := k + 4) (a := m) (lo := 1) (hi := 1000000) (by omega) (by omega)
  refine ⟨r, h1, h2, h3, h4, ?_⟩
  rw [runK_at (at_p_almost_surely_from L)]
  simp [runF, p_almost_surely_from, Pv.start, seqL, deep, evL, e0, e1, e2, e, iosOf]
theorem surely_low {a : Int} {d : PyData} (hs : s.Ok) (h : a < 0) : runK (mkP L) (k + 6) 137 [eS s, .int a, d] = .err 1 (.int a) [] := by
  have e0 := need_sort_ok (L := L) (k := k) hs
  have e1 := need_under (L := L) (k := k) (a := a) (lo := 0) (d := .int 3) h
  rw [runK_at (at_p_almost_surely_from L)]
  simp [runF, p_almost_surely_from, Pv.start, seqL, deep, evL, e0, e1, iosOf]
theorem surely_high {a : Int} {d : PyData} (hs : s.Ok) (h : 3 < a) : runK (mkP L) (k + 6) 137 [eS s, .int a, d] = .err 1 (.int a) [] := by
  have e0 := need_sort_ok (L := L) (k := k) hs
  have e1 := need_over (L := L) (k := k) (a := a) (lo := 0) (hi := 3) (by omega) h
  rw [runK_at (at_p_almost_surely_from L)]
  simp [runF, p_almost_surely_from, Pv.start, seqL, deep, evL, e0, e1, iosOf]
theorem surely_m0 {a m : Int} (hs : s.Ok) (h : 0 ≤ a) (h2 : a ≤ 3) (h3 : m < 1) : runK (mkP L) (k + 6) 137 [eS s, .int a, .int m] = .err 1 (.int m) [] := by
  have e0 := need_sort_ok (L := L) (k := k) hs
  have e1 := need_lohi (L := L) (k := k + 4) (a := a) (lo := 0) (hi := 3) h h2
  have e2 := need_under (L := L) (k := k) (a := m) (lo := 1) (d := .int 1000000) h3
  rw [runK_at (at_p_almost_surely_from L)]
  simp [runF, p_almost_surely_from, Pv.start, seqL, deep, evL, e0, e1, e2, iosOf]
theorem surely_m1 {a m : Int} (hs : s.Ok) (h : 0 ≤ a) (h2 : a ≤ 3) (h3 : 1000000 < m) : runK (mkP L) (k + 6) 137 [eS s, .int a, .int m] = .err 1 (.int m) [] := by
  have e0 := need_sort_ok (L := L) (k := k) hs
  have e1 := need_lohi (L := L) (k := k + 4) (a := a) (lo := 0) (hi := 3) h h2
  have e2 := need_over (L := L) (k := k) (a := m) (lo := 1) (hi := 1000000) (by omega) h3
  rw [runK_at (at_p_almost_surely_from L)]
  simp [runF, p_almost_surely_from, Pv.start, seqL, deep, evL, e0, e1, e2, iosOf]
/-- a sort as a list is none -/
theorem need_sort_lst {l : List PyData} (c : (PyData.list l).canLay0 = true) (h : (PyData.list l).depth ≤ 3) (w : (PyData.list l).weight ≤ 1000000) : runK (mkP L) (k + 6) 109 [.list l] = .err 2 (.list l) [] := by
  have e0 : runK (mkP L) (k + 5) 108 [.list l] = .ret (.bool false) false [] := by
    have e := is_tuple_ok (L := L) (k := k + 3) (.list l) 3 3
    have e : runK (mkP L) (k + 4) 106 [.list l, .int 3, .int 3] = .ret (.bool false) false [] := e
    rw [runK_at (at_p_sorts_is_sort L)]
    simp [runF, p_sorts_is_sort, Pv.start, seqL, deep, anyT, evL, e, tru, iosOf]
  obtain ⟨fr, e1⟩ := anew_ok (L := L) (k + 5) (.list l) c (by omega) w
  rw [runK_at (at_p_sorts_need_sort L)]
  simp [runF, p_sorts_need_sort, Pv.start, seqL, deep, evL, e0, e1, tru, iosOf, show ¬ (k + 5 < 4) by omega]
theorem lacks_lst {l : List PyData} {a b : PyData} (c : (PyData.list l).canLay0 = true) (h : (PyData.list l).depth ≤ 3) (w : (PyData.list l).weight ≤ 1000000) : runK (mkP L) (k + 7) 136 [.list l, a, b] = .err 2 (.list l) [] := by
  have e0 := need_sort_lst (L := L) (k := k) c h w
  rw [runK_at (at_p_almost_lacks L)]
  simp [runF, p_almost_lacks, Pv.start, seqL, deep, evL, e0, iosOf]
theorem surely_lst {l : List PyData} {a b : PyData} (c : (PyData.list l).canLay0 = true) (h : (PyData.list l).depth ≤ 3) (w : (PyData.list l).weight ≤ 1000000) : runK (mkP L) (k + 7) 137 [.list l, a, b] = .err 2 (.list l) [] := by
  have e0 := need_sort_lst (L := L) (k := k) c h w
  rw [runK_at (at_p_almost_surely_from L)]
  simp [runF, p_almost_surely_from, Pv.start, seqL, deep, evL, e0, iosOf]
/-! ### Euclid -/
def eus (x : Nat × Nat) : Nat × Nat := if 0 < x.1 then (x.2 % x.1, x.1) else x
def eu : Nat → Nat × Nat → Nat × Nat
  | 0, x => x
  | n + 1, x => eu n (eus x)
theorem eu_fold {α : Type} : ∀ (l : List α) (x : Nat × Nat), l.foldl (fun x _ => eus x) x = eu l.length x
  | [], x => rfl
  | a :: l, x => eu_fold l (eus x)
theorem eu_zero : ∀ (n y : Nat), eu n (0, y) = (0, y)
  | 0, y => rfl
  | n + 1, y => eu_zero n y
theorem eu_gcd : ∀ (j n : Nat) (x : Nat × Nat), 2 * j ≤ n → x.1 < 2 ^ j → eu n x = (0, Nat.gcd x.1 x.2)
  | 0, n, x, _, h => by
    obtain ⟨a, b⟩ := x
    have : a = 0 := by simpa using h
    subst this
    rw [eu_zero]
    simp
  | j + 1, n, x, hn, h => by
    obtain ⟨a, b⟩ := x
    obtain ⟨m, rfl⟩ : ∃ m, n = m + 2 := ⟨n - 2, by omega⟩
    by_cases ha : 0 < a
    · show eu (m + 1) (eus (a, b)) = _
      have e1 : eus (a, b) = (b % a, a) := if_pos ha
      rw [e1]
      show _ = (0, Nat.gcd a b)
      rw [Nat.gcd_rec a b]
      by_cases hr : 0 < b % a
      · show eu m (eus (b % a, a)) = _
        have e2 : eus (b % a, a) = (a % (b % a), b % a) := if_pos hr
        rw [e2, eu_gcd j m _ (by omega) ?_]
        · show (0, Nat.gcd (a % (b % a)) (b % a)) = _
          rw [← Nat.gcd_rec (b % a) a]
        · show a % (b % a) < 2 ^ j
          have h1 := Nat.mod_lt b ha
          have h2 := Nat.mod_lt a hr
          have h3 := Nat.div_add_mod a (b % a)
          have h4 : 1 ≤ a / (b % a) := (Nat.one_le_div_iff hr).mpr (Nat.le_of_lt h1)
          have h5 : b % a ≤ b % a * (a / (b % a)) := Nat.le_mul_of_pos_right _ h4
          have h6 : a < 2 ^ (j + 1) := h
          rw [Nat.pow_succ] at h6
          omega
      · have : b % a = 0 := by omega
        rw [this, eu_zero]
        simp
    · have : a = 0 := by omega
      subst this
      rw [eu_zero]
      simp
end
end Pv
namespace K50
open PySem Pv GP
/-- 0 _law_cut: 0 above, 1 below, 2 one, 3 other, 4 turn -/
def f_law_cut : FnD := { np := 2, io := [false, false], ns := 5, body := [
  .par [2, 3] [.var 0, .var 1],
  .for_ (.nm 4) (.rng [.int 4000]) [.ifs (.cmp .gt (.var 2) (.int 0)) [.par [2, 3] [.bin .mod (.bi .int [.var 3]) (.var 2), .var 2]] []],
  .ret (.tup [.bin .fdiv (.var 0) (.var 3), .bin .fdiv (.var 1) (.var 3)])] }
/-- 1 _law_lacks: 0 many, 1 k, 2 size, 3 above, 4 below, 5 turn -/
def f_law_lacks : FnD := { np := 3, io := [false, false, false], ns := 6, body := [
  .par [3, 4] [.var 0, .int 1],
  .for_ (.nm 5) (.rng [.var 1]) [.par [3, 4] [.bin .mul (.var 3) (.bin .sub (.var 2) (.var 5)), .bin .mul (.var 4) (.bin .add (.var 5) (.int 1))]],
  .for_ (.nm 5) (.rng [.bin .sub (.var 2) (.var 1)]) [.par [3, 4] [.bin .mul (.var 3) (.bin .sub (.var 0) (.int 1)), .bin .mul (.var 4) (.var 0)]],
  .ret (.call 0 [.var 3, .var 4])] }
/-- 2 _law_ways: 0 sort, 1 k, 2 found, 3 turn -/
def f_law_ways : FnD := { np := 2, io := [false, false], ns := 4, body := [
  .asg (.nm 2) (.idx (.var 0) (.int 0)),
  .for_ (.nm 3) (.rng [.var 1]) [.asg (.nm 2) (.bin .mul (.var 2) (.idx (.var 0) (.int 1)))],
  .ret (.var 2)] }
/-- 3 _law_is_less: 0 sort, 1 depth, 2 size, 3 m, 4 above, 5 below, 6 k, 7 more -/
def f_law_is_less : FnD := { np := 4, io := [false, false, false, false], ns := 8, body := [
  .par [4, 5] [.int 0, .int 1],
  .for_ (.nm 6) (.rng [.var 1]) [.asg (.nm 7) (.call 1 [.call 2 [.var 0, .var 6], .var 6, .var 2]), .asg (.tp [4, 5]) (.call 0 [.bin .add (.bin .mul (.var 4) (.idx (.var 7) (.int 1))) (.bin .mul (.idx (.var 7) (.int 0)) (.var 5)), .bin .mul (.var 5) (.idx (.var 7) (.int 1))])],
  .ret (.cmp .lt (.bin .mul (.var 4) (.var 3)) (.var 5))] }
/-- 4 _law_caught: 0 sort, 1 one, 2 other, 3 which, 4 caught, 5 e -/
def f_law_caught : FnD := { np := 4, io := [false, false, false, false], ns := 6, body := [
  .asg (.nm 4) (.non),
  .try_ [.ifs (.cmp .eq (.var 3) (.int 0)) [.expr (.call 136 [.var 0, .var 1, .var 2])] [.expr (.call 137 [.var 0, .var 1, .var 2])]] 0 5 4,
  .ret (.ife (.xnone true 4) (.non) (.tup [.isx 4 1, .isx 4 2, .bi .repr [.xval 4]]))] }
/-- 5 law: 0 script, 1 sorts, 2 k, 3 source, 4 size, 5 told, 6 depth, 7 m, 8 found, 9 least, 10 sort, 11 low, 12 own -/
def f_law : FnD := { np := 1, io := [false], ns := 13, body := [
  .asg (.nm 1) (.lst [.tup [.int 1, .int 1, .tup [.int 0]], .tup [.int 1, .int 2, .tup [.int 0, .int 1]], .tup [.int 1, .int 2, .tup [.int 1, .int 0]], .tup [.int 1, .int 3, .tup [.int 1, .int 0, .int 2]], .tup [.int 2, .int 1, .tup [.int 0]], .tup [.int 2, .int 2, .tup [.int 1, .int 0]], .tup [.int 1, .int 4, .tup [.int 0, .int 1, .int 3, .int 2]], .tup [.int 2, .int 3, .tup [.int 2, .int 1, .int 0]]]),
  .for_ (.nm 2) (.rng [.bi .max2 [.int 1, .bi .min2 [.int 3, .bi .len [.var 0]]]]) [.asg (.nm 3) (.call 138 [.var 0, .var 2]), .par [10, 11] [.idx (.var 1) (.call 139 [.var 3, .int 8]), .call 139 [.var 3, .int 4]], .asg (.nm 4) (.bin .add (.var 11) (.call 139 [.var 3, .int 40])), .asg (.nm 5) (.call 136 [.var 10, .var 11, .var 4]), .ifs (.or [.cmp .ne (.bi .repr [.var 5]) (.bi .repr [.call 1 [.call 2 [.var 10, .var 11], .var 11, .var 4]]), .cmp .ne (.callk 136 [] [2, 1, 0] [.var 4, .var 11, .var 10]) (.var 5)]) [.ret (.bl false)] [], .asg (.nm 6) (.call 139 [.var 3, .int 4]), .asg (.nm 7) (.bin .add (.int 1) (.ife (.cmp .gt (.call 139 [.var 3, .int 3]) (.int 0)) (.call 139 [.var 3, .int 10]) (.call 139 [.var 3, .bin .pow (.int 10) (.int 6)]))), .ifs (.and [.cmp .eq (.var 6) (.int 3), .cmp .gt (.bin .mul (.idx (.var 10) (.int 0)) (.idx (.var 10) (.int 1))) (.int 3)]) [.par [6, 7] [.int 2, .bin .add (.int 1) (.bin .mod (.bi .int [.var 7]) (.int 1000))]] [], .asg (.nm 8) (.call 137 [.var 10, .var 6, .var 7]), .asg (.nm 9) (.bi .max [.bin .add (.lst [.int 1]) (.lc (.bin .mul (.var 12) (.call 2 [.var 10, .var 12])) [12] (.nm 12) (.rng [.var 6]) [])]), .ifs (.or [.not (.isi (.var 8) [.int]), .isi (.var 8) [.bool], .cmp .lt (.var 8) (.var 9), .cmp .ne (.callk 137 [] [2, 1, 0] [.var 7, .var 6, .var 10]) (.var 8)]) [.ret (.bl false)] [], .ifs (.or [.not (.call 3 [.var 10, .var 6, .var 8, .var 7]), .and [.cmp .gt (.var 8) (.var 9), .call 3 [.var 10, .var 6, .bin .sub (.var 8) (.int 1), .var 7]]]) [.ret (.bl false)] [], .ifs (.or [.cmp .ne (.call 4 [.var 10, .neg (.int 1), .neg (.int 5), .int 0]) (.tup [.bl true, .bl false, .str "-1"]), .cmp .ne (.call 4 [.var 10, .bin .add (.var 11) (.int 1), .var 11, .int 0]) (.tup [.bl true, .bl false, .bi .repr [.var 11]])]) [.ret (.bl false)] [], .ifs (.or [.cmp .ne (.call 4 [.var 10, .int 4, .int 0, .int 1]) (.tup [.bl true, .bl false, .str "4"]), .cmp .ne (.call 4 [.var 10, .var 6, .int 0, .int 1]) (.tup [.bl true, .bl false, .str "0"])]) [.ret (.bl false)] [], .ifs (.or [.cmp .ne (.call 4 [.var 10, .var 6, .bin .add (.bin .add (.bin .pow (.int 10) (.int 6)) (.int 1)) (.var 11), .int 1]) (.tup [.bl true, .bl false, .bi .repr [.bin .add (.bin .add (.bin .pow (.int 10) (.int 6)) (.int 1)) (.var 11)]]), .cmp .ne (.call 4 [.var 10, .neg (.int 1), .int 1, .int 1]) (.tup [.bl true, .bl false, .str "-1"])]) [.ret (.bl false)] [], .ifs (.cmp .ne (.call 4 [.bi .list [.var 10], .neg (.int 1), .int 0, .call 139 [.var 3, .int 2]]) (.tup [.bl false, .bl true, .bi .repr [.bi .list [.var 10]]])) [.ret (.bl false)] []],
  .ret (.bl true)] }
def own : List FnD := [f_law_cut, f_law_lacks, f_law_ways, f_law_is_less, f_law_caught, f_law]
def prg : Prg := mkP own
theorem at_law_cut : prg.fns[0]? = some f_law_cut := rfl
theorem at_law_lacks : prg.fns[1]? = some f_law_lacks := rfl
theorem at_law_ways : prg.fns[2]? = some f_law_ways := rfl
theorem at_law_is_less : prg.fns[3]? = some f_law_is_less := rfl
theorem at_law_caught : prg.fns[4]? = some f_law_caught := rfl
theorem at_law : prg.fns[5]? = some f_law := rfl
end K50
namespace K50
open PySem Pv GP
section
variable {k : Nat} {s : Srt}
theorem two_pw : (2 : Nat) ^ 2000 < 2 ^ 4000 := by decide +kernel
theorem cut_ok {a b : Nat} (ha : a < 2 ^ 2000) (hb : b < 2 ^ 4000) (h : 0 < b) : runK (mkP own) (k + 1) 0 [eN a, eN b] = .ret (eN2 (low2 (a, b))) false [] := by
  have lp := forL_ok (body := turnS (evN (mkP own) k (runK (mkP own) k) 59) (.nm 4) [.ifs (.cmp .gt (.var 2) (.int 0)) [.par [2, 3] [.bin .mod (.bi .int [.var 3]) (.var 2), .var 2]] []]) eN
    (fun (c : Option Cell) (x : Nat × Nat) => [some (.pl (eN a)), some (.pl (eN b)), some (.pl (eN x.1)), some (.pl (eN x.2)), c]) (fun x _ => eus x) (List.range 4000) none (a, b) (fun t _ c x => ⟨some (.pl (eN t)), by
      have g : cop .gt (eN x.1) (.int 0) = some (decide (0 < x.1)) := gtN x.1 0
      by_cases hx : 0 < x.1
      · have m := modN (a := x.2) hx
        have i := intNN x.2
        have e : eus x = (x.2 % x.1, x.1) := if_pos hx
        rw [decide_eq_true hx] at g
        rw [e]
        simp [turnS, asgR, asgT, seqL, evL, opd2, opds, pre, fill, getP, g, m, i, bD, tru, setAll, setR, List.set]
      · have e : eus x = x := if_neg hx
        rw [decide_eq_false hx] at g
        rw [e]
        simp [turnS, asgR, asgT, seqL, evL, opd2, opds, pre, fill, getP, g, bD, tru, List.set]⟩)
  obtain ⟨c, e⟩ := lp
  rw [eu_fold, List.length_range, eu_gcd 2000 4000 (a, b) (by decide) ha] at e
  have rg : rngD [.int 4000] = some ((List.range 4000).map eN) := rgN (n := 4000) (by decide)
  have hg : 0 < Nat.gcd a b := Nat.gcd_pos_of_pos_right _ h
  have hg2 : Nat.gcd a b < 2 ^ 4000 := Nat.lt_of_le_of_lt (Nat.gcd_le_right _ h) hb
  have d1 := divN (a := a) hg hg2
  have d2 := divN (a := b) hg hg2
  have hz : eN2 (low2 (a, b)) = .tuple [eN (a / Nat.gcd a b), eN (b / Nat.gcd a b)] := rfl
  rw [hz]
  dsimp only at e
  generalize Nat.gcd a b = G at *
  generalize List.map eN (List.range 4000) = R at *
  rw [runK_at (show (mkP own).fns[0]? = some f_law_cut from rfl)]
  simp [runF, f_law_cut, Pv.start, seqL, deep, evL, items, opd2, opds, pre, fill, getP, rg, e, d1, d2, line, setAll, setR, List.set, iosOf]
def llF (w j n : Nat) : Nat × Nat := ((List.range j).foldl (fun f t => f * (n - t)) w * (w - 1) ^ (n - j), (List.range j).foldl (fun f t => f * (t + 1)) 1 * w ^ (n - j))
theorem fold2 {α : Type} (f g : Nat → α → Nat) : ∀ (l : List α) (x : Nat × Nat), l.foldl (fun x a => (f x.1 a, g x.2 a)) x = (l.foldl f x.1, l.foldl g x.2)
  | [], x => rfl
  | a :: l, x => fold2 f g l (f x.1 a, g x.2 a)
theorem call_cut {p : Ev} {s : S} (es : List R) : stepE (mkP own) p (.call 0 es) s = (evL p.e es s).bind fun ds s => if ds.length = 2 then retOf (p.c 0 ds) s else .bad := eE_call (fd := f_law_cut) rfl rfl es
theorem call_lacks {p : Ev} {s : S} (es : List R) : stepE (mkP own) p (.call 1 es) s = (evL p.e es s).bind fun ds s => if ds.length = 3 then retOf (p.c 1 ds) s else .bad := eE_call (fd := f_law_lacks) rfl rfl es
theorem call_ways {p : Ev} {s : S} (es : List R) : stepE (mkP own) p (.call 2 es) s = (evL p.e es s).bind fun ds s => if ds.length = 2 then retOf (p.c 2 ds) s else .bad := eE_call (fd := f_law_ways) rfl rfl es
theorem call_less {p : Ev} {s : S} (es : List R) : stepE (mkP own) p (.call 3 es) s = (evL p.e es s).bind fun ds s => if ds.length = 4 then retOf (p.c 3 ds) s else .bad := eE_call (fd := f_law_is_less) rfl rfl es
theorem call_caught {p : Ev} {s : S} (es : List R) : stepE (mkP own) p (.call 4 es) s = (evL p.e es s).bind fun ds s => if ds.length = 4 then retOf (p.c 4 ds) s else .bad := eE_call (fd := f_law_caught) rfl rfl es
theorem llacks_ok {w j n : Nat} (hw : 1 ≤ w) (hw2 : w < 1000000) (hj : j ≤ n) (hn : n < 1000000) (h1 : (llF w j n).1 < 2 ^ 2000) (h2 : (llF w j n).2 < 2 ^ 4000) (h3 : 0 < (llF w j n).2) : runK (mkP own) (k + 2) 1 [eN w, eN j, eN n] = .ret (eN2 (low2 (llF w j n))) false [] := by
  have lp := forL_inv (body := turnS (evN (mkP own) (k + 1) (runK (mkP own) (k + 1)) 59) (.nm 5) [.par [3, 4] [.bin .mul (.var 3) (.bin .sub (.var 2) (.var 5)), .bin .mul (.var 4) (.bin .add (.var 5) (.int 1))]]) eN
    (fun (c : Option Cell) (x : Nat × Nat) => [some (.pl (eN w)), some (.pl (eN j)), some (.pl (eN n)), some (.pl (eN x.1)), some (.pl (eN x.2)), c]) (fun x t => (x.1 * (n - t), x.2 * (t + 1))) (fun _ _ => True) (List.range j) (fun done t rest x c e _ => ⟨some (.pl (eN t)), by
      have ht : t < j := by
        have : t ∈ List.range j := by rw [e]; simp
        exact List.mem_range.mp this
      have s1 := subN (a := n) (b := t) (by omega)
      have m1 := mulN (a := x.1) (b := n - t) (by omega)
      have m2 := mulN (a := x.2) (b := t + 1) (by omega)
      have a1 : bop .add (eN t) (.int 1) = some (eN (t + 1), false) := rfl
      simp [turnS, asgR, asgT, seqL, evL, opd2, opds, pre, fill, getP, s1, m1, m2, a1, setAll, setR, List.set], trivial⟩) (List.range j) [] none (w, 1) rfl trivial
  obtain ⟨c, e1, _⟩ := lp
  rw [fold2 (fun f t => f * (n - t)) (fun f t => f * (t + 1))] at e1
  have e1 : forL _ _ [some (.pl (eN w)), some (.pl (eN j)), some (.pl (eN n)), some (.pl (eN w)), some (.pl (.int 1)), none] = _ := e1
  unfold llF at h1 h2 h3 ⊢
  dsimp only at e1 h1 h2 h3 ⊢
  generalize (List.range j).foldl (fun f t => f * (n - t)) w = A at *
  generalize (List.range j).foldl (fun f t => f * (t + 1)) 1 = B at *
  have lp2 := forL_ok (body := turnS (evN (mkP own) (k + 1) (runK (mkP own) (k + 1)) 59) (.nm 5) [.par [3, 4] [.bin .mul (.var 3) (.bin .sub (.var 0) (.int 1)), .bin .mul (.var 4) (.var 0)]]) eN
    (fun (c : Option Cell) (x : Nat × Nat) => [some (.pl (eN w)), some (.pl (eN j)), some (.pl (eN n)), some (.pl (eN x.1)), some (.pl (eN x.2)), c]) (fun x _ => (x.1 * (w - 1), x.2 * w)) (List.range (n - j)) c (A, B) (fun t _ c x => ⟨some (.pl (eN t)), by
      have s1 : bop .sub (eN w) (.int 1) = some (eN (w - 1), false) := subN (b := 1) hw
      have m1 := mulN (a := x.1) (b := w - 1) (by omega)
      have m2 := mulN (a := x.2) (b := w) (by omega)
      simp [turnS, asgR, asgT, seqL, evL, opd2, opds, pre, fill, getP, s1, m1, m2, setAll, setR, List.set]⟩)
  obtain ⟨c', e2⟩ := lp2
  rw [fold2 (fun f (_ : Nat) => f * (w - 1)) (fun f _ => f * w), foldl_pow, foldl_pow] at e2
  have rg := rgN (n := j) (by omega)
  have rg2 := rgN (n := n - j) (by omega)
  have s2 := subN hj
  have e3 := cut_ok (k := k) h1 h2 h3
  generalize eN2 (low2 (A * (w - 1) ^ (n - j), B * w ^ (n - j))) = Z at *
  dsimp only at e2
  generalize A * (w - 1) ^ (n - j) = A' at *
  generalize B * w ^ (n - j) = B' at *
  rw [runK_at (show (mkP own).fns[1]? = some f_law_lacks from rfl)]
  simp [runF, f_law_lacks, Pv.start, seqL, deep, evL, items, opd2, opds, pre, fill, getP, rg, e1, rg2, s2, e2, call_cut, e3, setAll, setR, List.set, iosOf]
theorem ways_ok {j : Nat} (hs : s.Ok) (hj : j ≤ 3) : runK (mkP own) (k + 1) 2 [eS s, eN j] = .ret (eN (wys s j)) false [] := by
  have h2 := hs.signs
  have x0 := ix_S0 s
  have x1 := ix_S1 s
  have lp := forL_ok (body := turnS (evN (mkP own) k (runK (mkP own) k) 59) (.nm 3) [.asg (.nm 2) (.bin .mul (.var 2) (.idx (.var 0) (.int 1)))]) eN
    (fun (c : Option Cell) (f : Nat) => [some (.pl (eS s)), some (.pl (eN j)), some (.pl (eN f)), c]) (fun f _ => f * s.signs) (List.range j) none s.kinds (fun t _ c f => ⟨some (.pl (eN t)), by
      have m := mulN (a := f) (b := s.signs) (by omega)
      simp [turnS, asgR, asgT, seqL, opd2, opds, pre, fill, getP, x1, m, List.set]⟩)
  obtain ⟨c, e⟩ := lp
  rw [foldl_pow] at e
  have hz : s.kinds * s.signs ^ j = wys s j := rfl
  rw [hz] at e
  have rg := rgN (n := j) (by omega)
  rw [runK_at (show (mkP own).fns[2]? = some f_law_ways from rfl)]
  simp [runF, f_law_ways, Pv.start, seqL, deep, evL, items, opd2, opds, pre, fill, getP, x0, rg, e, iosOf, List.set]
/-! ### _law_is_less -/
def lst (w j n : Nat) (z : Nat × Nat) : Nat × Nat := (z.1 * (low2 (llF w j n)).2 + (low2 (llF w j n)).1 * z.2, z.2 * (low2 (llF w j n)).2)
def lsF (s : Srt) (d n : Nat) : Nat × Nat := (List.range d).foldl (fun z j => low2 (lst (wys s j) j n z)) (0, 1)
theorem lsF_succ (s : Srt) (d n : Nat) : lsF s (d + 1) n = low2 (lst (wys s d) d n (lsF s d n)) := by
  unfold lsF
  rw [List.range_succ, List.foldl_append]; rfl
/-- all numbers met are short -/
def Cd1 (s : Srt) (j n : Nat) : Prop := j ≤ n ∧ 1 ≤ wys s j ∧ (llF (wys s j) j n).1 < 2 ^ 2000 ∧ (llF (wys s j) j n).2 < 2 ^ 2000 ∧ 0 < (llF (wys s j) j n).2 ∧
  (lsF s j n).1 < 2 ^ 2000 ∧ (lsF s j n).2 < 2 ^ 2000 ∧ (low2 (llF (wys s j) j n)).1 < 2 ^ 2000 ∧ (low2 (llF (wys s j) j n)).2 < 2 ^ 2000 ∧
  (lst (wys s j) j n (lsF s j n)).1 < 2 ^ 2000 ∧ (lst (wys s j) j n (lsF s j n)).2 < 2 ^ 2000 ∧ 0 < (lst (wys s j) j n (lsF s j n)).2
instance (s : Srt) (j n : Nat) : Decidable (Cd1 s j n) := by unfold Cd1; infer_instance
def Cd (s : Srt) (d n : Nat) : Prop := n < 1000000 ∧ ∀ j, j < d → Cd1 s j n
instance (s : Srt) (d n : Nat) : Decidable (Cd s d n) := by unfold Cd; infer_instance
theorem pw2 {a : Nat} (h : a < 2 ^ 2000) : a < 2 ^ 4000 := Nat.lt_trans h two_pw
theorem less_ok {d m n : Nat} (hs : s.Ok) (hd : d ≤ 3) (hm : m < 1000000000) (hB : Cd s d n) : runK (mkP own) (k + 3) 3 [eS s, eN d, eN n, eN m] = .ret (.bool (decide ((lsF s d n).1 * m < (lsF s d n).2))) false [] := by
  have lp := forL_inv (body := turnS (evN (mkP own) (k + 2) (runK (mkP own) (k + 2)) 59) (.nm 6) [.asg (.nm 7) (.call 1 [.call 2 [.var 0, .var 6], .var 6, .var 2]), .asg (.tp [4, 5]) (.call 0 [.bin .add (.bin .mul (.var 4) (.idx (.var 7) (.int 1))) (.bin .mul (.idx (.var 7) (.int 0)) (.var 5)), .bin .mul (.var 5) (.idx (.var 7) (.int 1))])]) eN
    (fun (c : Option Cell × Option Cell) (f : Nat × Nat) => [some (.pl (eS s)), some (.pl (eN d)), some (.pl (eN n)), some (.pl (eN m)), some (.pl (eN f.1)), some (.pl (eN f.2)), c.1, c.2]) (fun z j => low2 (lst (wys s j) j n z)) (fun done z => z = lsF s done.length n) (List.range d) (fun done j rest z c e hi => by
      have hl : done.length < d := by
        have := congrArg List.length e
        rw [List.length_range, List.length_append, List.length_cons] at this
        omega
      have hj : j = done.length := by
        have h1 : (List.range d)[done.length]? = some j := by rw [e]; simp
        rw [List.getElem?_range hl] at h1
        exact (Option.some.inj h1).symm
      subst hj
      obtain ⟨b1, b2, b3, b4, b5, b6, b7, b8, b9, b10, b11, b12⟩ := hB.2 _ hl
      rw [← hi] at b6 b7 b10 b11 b12
      have h1 := hs.kinds
      have h2 := hs.signs
      have hw : s.signs ^ done.length ≤ 64 := Nat.le_trans (Nat.pow_le_pow_left h2.2.1 _) (Nat.le_trans (Nat.pow_le_pow_right (by decide) (show done.length ≤ 3 by omega)) (by decide))
      have hw2 : wys s done.length ≤ 128 := Nat.mul_le_mul h1.2 hw
      have e1 := ways_ok (k := k + 1) hs (show done.length ≤ 3 by omega)
      have e2 := llacks_ok (k := k) b2 (by omega) b1 hB.1 b3 (pw2 b4) b5
      have m1 := mulB (pw2 b6) (pw2 b9)
      have m2 := mulB (pw2 b8) (pw2 b7)
      have m3 := mulB (pw2 b7) (pw2 b9)
      have e3 := cut_ok (k := k + 1) b10 (pw2 b11) b12
      refine ⟨(some (.pl (eN done.length)), some (.pl (eN2 (low2 (llF (wys s done.length) done.length n))))), ?_, ?_⟩
      · have hz : lst (wys s done.length) done.length n z = (z.1 * (low2 (llF (wys s done.length) done.length n)).2 + (low2 (llF (wys s done.length) done.length n)).1 * z.2, z.2 * (low2 (llF (wys s done.length) done.length n)).2) := rfl
        rw [hz] at e3 ⊢
        generalize low2 (llF (wys s done.length) done.length n) = y at *
        have i0 : ixop (eN2 y) (.int 0) = some (eN y.1) := rfl
        have i1 : ixop (eN2 y) (.int 1) = some (eN y.2) := rfl
        have a1 := addN (z.1 * y.2) (y.1 * z.2)
        dsimp only at e3
        generalize low2 (z.1 * y.2 + y.1 * z.2, z.2 * y.2) = r at *
        generalize eN2 y = Y at *
        simp [turnS, asgR, asgT, seqL, evL, opd2, opds, pre, fill, getP, call_lacks, call_ways, call_cut, e1, e2, i0, i1, m1, m2, m3, a1, e3, eN2, List.set, setAll, setR, seqD]
      · rw [List.length_append, hi]
        exact (lsF_succ s done.length n).symm) (List.range d) [] (none, none) (0, 1) rfl rfl
  obtain ⟨c, e, hi⟩ := lp
  have rg := rgN (n := d) (by omega)
  have e : forL _ _ [some (.pl (eS s)), some (.pl (eN d)), some (.pl (eN n)), some (.pl (eN m)), some (.pl (.int 0)), some (.pl (.int 1)), none, none] = _ := e
  have hf : (List.range d).foldl (fun z j => low2 (lst (wys s j) j n z)) (0, 1) = lsF s d n := rfl
  rw [hf] at e
  have m1 := mulN (a := (lsF s d n).1) hm
  have l1 := ltN ((lsF s d n).1 * m) (lsF s d n).2
  generalize (lsF s d n).1 = A at *
  generalize (lsF s d n).2 = B at *
  generalize decide (A * m < B) = z at *
  rw [runK_at (show (mkP own).fns[3]? = some f_law_is_less from rfl)]
  simp [runF, f_law_is_less, Pv.start, seqL, deep, evL, items, opd2, opds, pre, fill, getP, rg, e, m1, l1, bD, iosOf, setAll, setR, List.set]
end
end K50
namespace K50
open PySem Pv GP
section
variable {k : Nat} {s : Srt}
theorem excs12 : ∃ u1 u2, (mkP own).exc[1]? = some u1 ∧ (mkP own).exc[2]? = some u2 ∧ 0 ∈ u1 ∧ 1 ∈ u1 ∧ 2 ∉ u1 ∧ 0 ∈ u2 ∧ 1 ∉ u2 ∧ 2 ∈ u2 := ⟨_, _, rfl, rfl, by decide, by decide, by decide, by decide, by decide, by decide⟩
/-- what is told of a rejected call -/
def tld (c : Nat) (v : PyData) : PyData := .tuple [.bool (decide (c = 1)), .bool (decide (c = 2)), .str v.shown]
theorem caught0 {a b d v : PyData} {c : Nat} (hc : c = 1 ∨ c = 2) (hr : bop2 .repr [v] = some (.str v.shown, false)) (h : runK (mkP own) (k + 7) 136 [a, b, d] = .err c v []) : runK (mkP own) (k + 8) 4 [a, b, d, .int 0] = .ret (tld c v) false [] := by
  obtain ⟨u1, u2, x1, x2, a1, a2, a3, a4, a5, a6⟩ := excs12
  have c0 : cop .eq (.int 0) (.int 0) = some true := rfl
  rw [runK_at (show (mkP own).fns[4]? = some f_law_caught from rfl)]
  rcases hc with rfl | rfl <;> simp [runF, f_law_caught, Pv.start, seqL, deep, opd2, opd1, opds, pre, fill, getP, evL, c0, bD, tru, h, iosOf, x1, x2, a1, a2, a3, a4, a5, a6, List.set, hr, tld, line]
theorem caught1 {a b d v : PyData} {c : Nat} (hc : c = 1 ∨ c = 2) (hr : bop2 .repr [v] = some (.str v.shown, false)) (h : runK (mkP own) (k + 7) 137 [a, b, d] = .err c v []) : runK (mkP own) (k + 8) 4 [a, b, d, .int 1] = .ret (tld c v) false [] := by
  obtain ⟨u1, u2, x1, x2, a1, a2, a3, a4, a5, a6⟩ := excs12
  have c0 : cop .eq (.int 1) (.int 0) = some false := rfl
  rw [runK_at (show (mkP own).fns[4]? = some f_law_caught from rfl)]
  rcases hc with rfl | rfl <;> simp [runF, f_law_caught, Pv.start, seqL, deep, opd2, opd1, opds, pre, fill, getP, evL, c0, bD, tru, h, iosOf, x1, x2, a1, a2, a3, a4, a5, a6, List.set, hr, tld, line]
/-! ### the law's sorts, reckoned through -/
def srts : List Srt := [⟨1, 1, [0]⟩, ⟨1, 2, [0, 1]⟩, ⟨1, 2, [1, 0]⟩, ⟨1, 3, [1, 0, 2]⟩, ⟨2, 1, [0]⟩, ⟨2, 2, [1, 0]⟩, ⟨1, 4, [0, 1, 3, 2]⟩, ⟨2, 3, [2, 1, 0]⟩]
theorem srts_ok : ∀ s ∈ srts, s.Ok := by
  intro s hs
  simp only [srts, List.mem_cons, List.not_mem_nil, or_false] at hs
  rcases hs with rfl | rfl | rfl | rfl | rfl | rfl | rfl | rfl <;> exact ⟨by decide, by decide, by decide, by decide, by decide +kernel⟩
/-- the greatest depth asked of a sort -/
def dep (s : Srt) : Nat := if s.kinds * s.signs ≤ 3 then 3 else 2
def chk1 : Bool := srts.all fun s => (List.range 43).all fun n => (List.range 4).all fun j => decide (n < j) ||
  (decide (chN n j * wys s j < 2 ^ 1500) && decide ((wys s j - 1) ^ (n - j) < 2 ^ 1500) && decide ((lin (wys s j) j n).1 < 2 ^ 1500) && decide ((lin (wys s j) j n).2 < 2 ^ 1500) && decide (0 < (lin (wys s j) j n).2)
   && decide ((llF (wys s j) j n).1 < 2 ^ 2000) && decide ((llF (wys s j) j n).2 < 2 ^ 2000) && decide (0 < (llF (wys s j) j n).2) && decide (low2 (llF (wys s j) j n) = low2 (lin (wys s j) j n)) && decide (1 ≤ wys s j) && decide (wys s j < 1000000)
   && decide ((low2 (lin (wys s j) j n)).1 < 2 ^ 1500) && decide ((low2 (lin (wys s j) j n)).2 < 2 ^ 1500))
theorem chk1_ok : chk1 = true := by decide +kernel
def chk2 : Bool := srts.all fun s => (List.range 289).all fun n => (List.range (dep s)).all fun j => decide (n < j) || (decide (Bd1 s j n) && decide (Cd1 s j n))
theorem chk2_ok : chk2 = true := by decide +kernel
def chk3 : Bool := srts.all fun s => (List.range 289).all fun n => (List.range (dep s + 1)).all fun d => decide (n + 1 < d) || (decide ((lsF s d n).1 * (enF s d n).2 = (enF s d n).1 * (lsF s d n).2) && decide (0 < (enF s d n).2) && decide (0 < (lsF s d n).2))
theorem chk3_ok : chk3 = true := by decide +kernel
def chk4 : Bool := srts.all fun s => (List.range (dep s + 1)).all fun d => decide (1 ≤ leastS s d) && decide (leastS s d ≤ 288) && decide (d ≤ leastS s d + 1) && (List.range 6).any fun i => decide (leastS s d * 2 ^ i ≤ 288) && enough s d 1000000 (leastS s d * 2 ^ i)
theorem chk4_ok : chk4 = true := by decide +kernel
end
end K50
namespace K50
open PySem Pv GP
theorem big_log {n : Nat} (h : n < 2 ^ 1500) : n.log2 ≤ 1500 := log2_lt h
theorem big_int {n : Nat} (h : n < 2 ^ 1500) : (eN n).canLay0 = true ∧ (eN n).leavesShort 501 = true ∧ (eN n).showable = true ∧ (eN n).depth ≤ 0 ∧ (eN n).weight ≤ 1501 := by
  have hl := big_log h
  refine ⟨rfl, ?_, ?_, Nat.le_refl _, ?_⟩
  · show decide _ = true
    have e : (2 : Nat) ^ 1500 < 10 ^ 500 := by decide +kernel
    have e2 := int_text_length_le10 (k := 500) (a := (n : Int)) (by decide) (by rw [Int.natAbs_natCast]; omega)
    refine decide_eq_true ?_
    rw [PyData.shown_int]
    have := ofString_length (toString (n : Int))
    rw [this]
    exact e2
  · show decide _ = true
    exact decide_eq_true (by rw [Int.natAbs_natCast]; omega)
  · show (if (n : Int) == 0 then 0 else (n : Int).natAbs.log2 + 1) ≤ 1501
    rw [Int.natAbs_natCast]
    split <;> omega
theorem big2 {x : Nat × Nat} (h1 : x.1 < 2 ^ 1500) (h2 : x.2 < 2 ^ 1500) : bop2 .repr [eN2 x] = some (.str (eN2 x).shown, false) ∧ okD (eN2 x) = true ∧ Hi (eN2 x) := by
  obtain ⟨a1, a2, a3, a4, a5⟩ := big_int h1
  obtain ⟨b1, b2, b3, b4, b5⟩ := big_int h2
  have lay : (eN2 x).canLay0 = true := by
    show PyData.canLay0 (.tuple [eN x.1, eN x.2]) = true
    rw [PyData.canLay0, PyData.canLayAll0, PyData.canLayAll0, PyData.canLayAll0, a1, b1]; rfl
  have dp : (eN2 x).depth ≤ 1 := by
    show PyData.depth (.tuple [eN x.1, eN x.2]) ≤ 1
    rw [PyData.depth]
    have : PyData.depthAll [eN x.1, eN x.2] ≤ 0 := depthAll_le fun d hd => by
      rcases List.mem_cons.mp hd with rfl | hd
      · exact a4
      · have e : d = eN x.2 := by simpa using hd
        rw [e]; exact b4
    omega
  have wt : (eN2 x).weight ≤ 3004 := by
    show PyData.weight (.tuple [eN x.1, eN x.2]) ≤ 3004
    rw [PyData.weight, PyData.weightAll, PyData.weightAll, PyData.weightAll]
    omega
  have sh : (eN2 x).leavesShort 501 = true := by
    show PyData.leavesShort 501 (.tuple [eN x.1, eN x.2]) = true
    rw [PyData.leavesShort, PyData.leavesShortAll, PyData.leavesShortAll, PyData.leavesShortAll, a2, b2]; rfl
  have sw : (eN2 x).showable = true := by
    show PyData.showable (.tuple [eN x.1, eN x.2]) = true
    rw [PyData.showable, PyData.showableAll, PyData.showableAll, PyData.showableAll, a3, b3]; rfl
  have len := PyData.shown_le 501 (by decide) _ sh
  have okr : reprOk (eN2 x) = true := by
    unfold reprOk
    have h3 : (eN2 x).shown.length + 64 ≤ line := by
      show _ ≤ 16777216
      omega
    rw [sw, PyData.hasDict_of_canLay _ lay, decide_eq_true (Nat.le_trans dp (by decide)), decide_eq_true h3]
    rfl
  refine ⟨?_, ?_, ?_⟩
  · show (if reprOk (eN2 x) then some (PyData.str (eN2 x).shown, false) else none) = _
    rw [okr]; rfl
  · unfold okD SeqAt.shaped
    rw [lay, decide_eq_true (Nat.le_trans dp (by decide))]; rfl
  · refine Hi.tup fun d hd => ?_
    rcases List.mem_cons.mp hd with rfl | hd
    · exact Hi.int _
    · have e : d = eN x.2 := by simpa using hd
      rw [e]; exact Hi.int _
/-! ### what was reckoned, told apart -/
theorem c1 {s : Srt} (hs : s ∈ srts) {j n : Nat} (hj : j < 4) (hn : n < 43) (hjn : j ≤ n) :
    chN n j * wys s j < 2 ^ 1500 ∧ (wys s j - 1) ^ (n - j) < 2 ^ 1500 ∧ (lin (wys s j) j n).1 < 2 ^ 1500 ∧ (lin (wys s j) j n).2 < 2 ^ 1500 ∧ 0 < (lin (wys s j) j n).2
   ∧ (llF (wys s j) j n).1 < 2 ^ 2000 ∧ (llF (wys s j) j n).2 < 2 ^ 2000 ∧ 0 < (llF (wys s j) j n).2 ∧ low2 (llF (wys s j) j n) = low2 (lin (wys s j) j n) ∧ 1 ≤ wys s j ∧ wys s j < 1000000
   ∧ (low2 (lin (wys s j) j n)).1 < 2 ^ 1500 ∧ (low2 (lin (wys s j) j n)).2 < 2 ^ 1500 := by
  have h := List.all_eq_true.mp (List.all_eq_true.mp (List.all_eq_true.mp chk1_ok s hs) n (List.mem_range.mpr hn)) j (List.mem_range.mpr hj)
  rw [decide_eq_false (show ¬ n < j by omega), Bool.false_or] at h
  simp only [Bool.and_eq_true, decide_eq_true_eq, and_assoc] at h
  exact h
theorem c2 {s : Srt} (hs : s ∈ srts) {j n : Nat} (hj : j < dep s) (hn : n ≤ 288) (hjn : j ≤ n) : Bd1 s j n ∧ Cd1 s j n := by
  have h := List.all_eq_true.mp (List.all_eq_true.mp (List.all_eq_true.mp chk2_ok s hs) n (List.mem_range.mpr (by omega))) j (List.mem_range.mpr hj)
  rw [decide_eq_false (show ¬ n < j by omega), Bool.false_or] at h
  simp only [Bool.and_eq_true, decide_eq_true_eq] at h
  exact h
theorem c3 {s : Srt} (hs : s ∈ srts) {d n : Nat} (hd : d ≤ dep s) (hn : n ≤ 288) (hdn : d ≤ n + 1) : (lsF s d n).1 * (enF s d n).2 = (enF s d n).1 * (lsF s d n).2 ∧ 0 < (enF s d n).2 ∧ 0 < (lsF s d n).2 := by
  have h := List.all_eq_true.mp (List.all_eq_true.mp (List.all_eq_true.mp chk3_ok s hs) n (List.mem_range.mpr (by omega))) d (List.mem_range.mpr (by omega))
  rw [decide_eq_false (show ¬ n + 1 < d by omega), Bool.false_or] at h
  simp only [Bool.and_eq_true, decide_eq_true_eq, and_assoc] at h
  exact h
theorem c4 {s : Srt} (hs : s ∈ srts) {d : Nat} (hd : d ≤ dep s) : 1 ≤ leastS s d ∧ leastS s d ≤ 288 ∧ d ≤ leastS s d + 1 ∧ ∃ i, i < 6 ∧ leastS s d * 2 ^ i ≤ 288 ∧ enough s d 1000000 (leastS s d * 2 ^ i) = true := by
  have h := List.all_eq_true.mp (List.all_eq_true.mp chk4_ok s hs) d (List.mem_range.mpr (by omega))
  simp only [Bool.and_eq_true, decide_eq_true_eq, and_assoc, List.any_eq_true, List.mem_range] at h
  exact h
theorem enough_mono {s : Srt} {d m m' n : Nat} (h : m ≤ m') (he : enough s d m' n = true) : enough s d m n = true := by
  have := of_decide_eq_true he
  exact decide_eq_true (Nat.lt_of_le_of_lt (Nat.mul_le_mul_left _ h) this)
theorem dep_le (s : Srt) : dep s ≤ 3 := by unfold dep; split <;> decide
theorem sure {s : Srt} (hs : s ∈ srts) {d m : Nat} (hd : d ≤ dep s) (hm : m ≤ 1000000) : Sure s d m 288 := by
  obtain ⟨h1, h2, h3, i, h4, h5, h6⟩ := c4 hs hd
  refine ⟨fun n hn hn2 => ⟨by omega, fun j hj => (c2 hs (by omega) hn2 (by omega)).1⟩, ⟨h1, h2⟩, ⟨i, by omega, h5, enough_mono hm h6⟩, by decide⟩
theorem cd {s : Srt} (hs : s ∈ srts) {d n : Nat} (hd : d ≤ dep s) (hn : leastS s d ≤ n) (hn2 : n ≤ 288) : Cd s d n := by
  obtain ⟨h1, h2, h3, _⟩ := c4 hs hd
  exact ⟨by omega, fun j hj => (c2 hs (by omega) hn2 (by omega)).2⟩
theorem less_eq {s : Srt} (hs : s ∈ srts) {d m n : Nat} (hd : d ≤ dep s) (hn : leastS s d ≤ n) (hn2 : n ≤ 288) : decide ((lsF s d n).1 * m < (lsF s d n).2) = enough s d m n := by
  obtain ⟨h1, h2, h3, _⟩ := c4 hs hd
  obtain ⟨e, p1, p2⟩ := c3 hs hd hn2 (by omega)
  unfold enough
  generalize (lsF s d n).1 = A at *
  generalize (lsF s d n).2 = B at *
  generalize (enF s d n).1 = a at *
  generalize (enF s d n).2 = b at *
  rw [Bool.eq_iff_iff, decide_eq_true_iff, decide_eq_true_iff]
  have e1 : A * m * b = a * m * B := by rw [Nat.mul_right_comm, e, Nat.mul_right_comm]
  constructor
  · intro h
    refine Nat.lt_of_mul_lt_mul_right (a := B) ?_
    rw [← e1, Nat.mul_comm b B]
    exact Nat.mul_lt_mul_of_pos_right h p1
  · intro h
    refine Nat.lt_of_mul_lt_mul_right (a := b) ?_
    rw [e1, Nat.mul_comm B b]
    exact Nat.mul_lt_mul_of_pos_right h p2
end K50
namespace K50
open PySem Pv GP
section
variable {k : Nat} {s : Srt} {W : PyData} {ns : List Int}
theorem ix_list {α : Type} (enc : α → PyData) (l : List α) {r : Nat} (h : r < l.length) : ixop (.list (l.map enc)) (eN r) = some (enc l[r]) := by
  show atD _ _ = _
  rw [atD_nat, List.getElem?_map, List.getElem?_eq_getElem h]; rfl
theorem eE_str {P : Prg} {p : Ev} {s : S} {x : Str} (h : x.length ≤ line) : stepE P p (.str x) s = .ok (.str x, false) s := by
  show (if x.length ≤ line then _ else _) = _
  rw [if_pos h]
@[simp] theorem eE_m1 {P : Prg} {p : Ev} {s : S} : stepE P p (.str "-1") s = .ok (.str "-1", false) s := eE_str (by decide +kernel)
@[simp] theorem eE_4 {P : Prg} {p : Ev} {s : S} : stepE P p (.str "4") s = .ok (.str "4", false) s := eE_str (by decide +kernel)
@[simp] theorem eE_0 {P : Prg} {p : Ev} {s : S} : stepE P p (.str "0") s = .ok (.str "0", false) s := eE_str (by decide +kernel)
@[simp] theorem call_pick (L : List FnD) {p : Ev} {s : S} (i : Nat) (e : R) : stepE (mkP L) p (.call 139 [.var i, e]) s = if (getP s i).isSome then (evL p.e [e] s).bind fun ds s => if ds.length + 1 = 2 then (ofO (ioC s i) s).bind fun d s => retIo i (p.c 139 (d :: ds)) s else .bad else .bad := eE_callio (at_l__law_pick_6e1088 L) rfl rfl i [e]

theorem t0 {j : Nat} (hl : ns.length ≤ 1000) {c3 c4 c5 c6 c7 c8 c9 c10 c11 : Option Cell} : ∃ W, Wl 1 W ∧ stepS (mkP own) (evN (mkP own) (k + 8) (runK (mkP own) (k + 8)) 58) (.asg (.nm 3) (.call 138 [.var 0, .var 2])) [some (.pl (intsP ns)), some (.ow (.list (srts.map eS))), some (.pl (eN j)), c3, c4, c5, c6, c7, c8, c9, c10, c11, none] =
    .ok .nx [some (.pl (intsP ns)), some (.ow (.list (srts.map eS))), some (.pl (eN j)), some (.ow W), c4, c5, c6, c7, c8, c9, c10, c11, none] := by
  obtain ⟨W, hW, e⟩ := source_ok (L := own) (k := k + 7) ns hl j
  exact ⟨W, hW, by simp [evL, e, List.set]⟩
theorem t1 {n : Nat} (h : Wl n W) (hn : n < 1000) {c2 c4 c5 c6 c7 c8 c9 c10 c11 : Option Cell} : ∃ s lo W', s ∈ srts ∧ lo < 4 ∧ Wl (n + 2) W' ∧ stepS (mkP own) (evN (mkP own) (k + 8) (runK (mkP own) (k + 8)) 58) (.par [10, 11] [.idx (.var 1) (.call 139 [.var 3, .int 8]), .call 139 [.var 3, .int 4]]) [some (.pl (intsP ns)), some (.ow (.list (srts.map eS))), c2, some (.ow W), c4, c5, c6, c7, c8, c9, c10, c11, none] =
    .ok .nx [some (.pl (intsP ns)), some (.ow (.list (srts.map eS))), c2, some (.ow W'), c4, c5, c6, c7, c8, c9, some (.pl (eS s)), some (.pl (eN lo)), none] := by
  obtain ⟨r, W1, hr, hW1, e1⟩ := pick_ok (L := own) h (by omega) (k + 7) 8 (by decide) (by decide)
  have e1 : runK (mkP own) (k + 8) 139 [W, .int 8] = .ret (eN r) false [W1] := e1
  obtain ⟨r2, W2, hr2, hW2, e2⟩ := pick_ok (L := own) hW1 (by omega) (k + 7) 4 (by decide) (by decide)
  have e2 : runK (mkP own) (k + 8) 139 [W1, .int 4] = .ret (eN r2) false [W2] := e2
  have hr3 : r < srts.length := hr
  have ix := ix_list eS srts hr3
  exact ⟨srts[r], r2, W2, List.getElem_mem _, hr2, hW2, by simp [evL, opd2, opds, pre, fill, getP, ioC, e1, e2, ix, setRoot, List.set, setAll, setR]⟩
theorem t2 {n lo : Nat} (h : Wl n W) (hn : n < 1000) {c2 c4 c5 c6 c7 c8 c9 c10 : Option Cell} : ∃ z W', lo ≤ z ∧ z < lo + 40 ∧ Wl (n + 1) W' ∧ stepS (mkP own) (evN (mkP own) (k + 8) (runK (mkP own) (k + 8)) 58) (.asg (.nm 4) (.bin .add (.var 11) (.call 139 [.var 3, .int 40]))) [some (.pl (intsP ns)), some (.ow (.list (srts.map eS))), c2, some (.ow W), c4, c5, c6, c7, c8, c9, c10, some (.pl (eN lo)), none] =
    .ok .nx [some (.pl (intsP ns)), some (.ow (.list (srts.map eS))), c2, some (.ow W'), some (.pl (eN z)), c5, c6, c7, c8, c9, c10, some (.pl (eN lo)), none] := by
  obtain ⟨r, W1, hr, hW1, e1⟩ := pick_ok (L := own) h (by omega) (k + 7) 40 (by decide) (by decide)
  have e1 : runK (mkP own) (k + 8) 139 [W, .int 40] = .ret (eN r) false [W1] := e1
  have a := addN lo r
  exact ⟨lo + r, W1, by omega, by omega, hW1, by simp [evL, opd2, opds, pre, fill, getP, ioC, e1, a, setRoot, List.set]⟩
theorem t3 {lo z : Nat} (hs : s ∈ srts) (hlo : lo < 4) (h1 : lo ≤ z) (h2 : z < lo + 40) {c2 c3 c5 c6 c7 c8 c9 : Option Cell} : stepS (mkP own) (evN (mkP own) (k + 8) (runK (mkP own) (k + 8)) 58) (.asg (.nm 5) (.call 136 [.var 10, .var 11, .var 4])) [some (.pl (intsP ns)), some (.ow (.list (srts.map eS))), c2, c3, some (.pl (eN z)), c5, c6, c7, c8, c9, some (.pl (eS s)), some (.pl (eN lo)), none] =
    .ok .nx [some (.pl (intsP ns)), some (.ow (.list (srts.map eS))), c2, c3, some (.pl (eN z)), some (.pl (eN2 (low2 (lin (wys s lo) lo z)))), c6, c7, c8, c9, some (.pl (eS s)), some (.pl (eN lo)), none] := by
  obtain ⟨a1, a2, a3, a4, a5, a6, a7, a8, a9, a10, a11, a12, a13⟩ := c1 hs hlo (show z < 43 by omega) h1
  have e := lacks_ok (L := own) (k := k + 2) (srts_ok s hs) (show lo ≤ 3 by omega) h1 (by omega) (pw a1) (pw a2) (pw a3) (pw a4) a5
  simp [evL, e, List.set]
theorem t4 {lo z : Nat} (hs : s ∈ srts) (hlo : lo < 4) (h1 : lo ≤ z) (h2 : z < lo + 40) {c2 c3 c6 c7 c8 c9 : Option Cell} : stepS (mkP own) (evN (mkP own) (k + 8) (runK (mkP own) (k + 8)) 58) (.ifs (.or [.cmp .ne (.bi .repr [.var 5]) (.bi .repr [.call 1 [.call 2 [.var 10, .var 11], .var 11, .var 4]]), .cmp .ne (.callk 136 [] [2, 1, 0] [.var 4, .var 11, .var 10]) (.var 5)]) [.ret (.bl false)] []) [some (.pl (intsP ns)), some (.ow (.list (srts.map eS))), c2, c3, some (.pl (eN z)), some (.pl (eN2 (low2 (lin (wys s lo) lo z)))), c6, c7, c8, c9, some (.pl (eS s)), some (.pl (eN lo)), none] =
    .ok .nx [some (.pl (intsP ns)), some (.ow (.list (srts.map eS))), c2, c3, some (.pl (eN z)), some (.pl (eN2 (low2 (lin (wys s lo) lo z)))), c6, c7, c8, c9, some (.pl (eS s)), some (.pl (eN lo)), none] := by
  obtain ⟨a1, a2, a3, a4, a5, a6, a7, a8, a9, a10, a11, a12, a13⟩ := c1 hs hlo (show z < 43 by omega) h1
  have e := lacks_ok (L := own) (k := k + 2) (srts_ok s hs) (show lo ≤ 3 by omega) h1 (by omega) (pw a1) (pw a2) (pw a3) (pw a4) a5
  have e2 := ways_ok (k := k + 7) (srts_ok s hs) (show lo ≤ 3 by omega)
  have e3 := llacks_ok (k := k + 6) a10 a11 h1 (show z < 1000000 by omega) a6 (pw2 a7) a8
  rw [a9] at e3
  obtain ⟨r, ok, hi⟩ := big2 a12 a13
  have c := ne_shown hi
  have c2 := ne_self ok
  generalize eN2 (low2 (lin (wys s lo) lo z)) = T at *
  simp [anyT, evL, e, e2, e3, call_lacks, call_ways, opd2, opds, pre, fill, getP, kwOrder, List.lookup, r, c, c2, bD, tru, seqL]
theorem t5 {n : Nat} (h : Wl n W) (hn : n < 1000) {c2 c4 c5 c6 c7 c8 c9 c10 c11 : Option Cell} : ∃ d W', d < 4 ∧ Wl (n + 1) W' ∧ stepS (mkP own) (evN (mkP own) (k + 8) (runK (mkP own) (k + 8)) 58) (.asg (.nm 6) (.call 139 [.var 3, .int 4])) [some (.pl (intsP ns)), some (.ow (.list (srts.map eS))), c2, some (.ow W), c4, c5, c6, c7, c8, c9, c10, c11, none] =
    .ok .nx [some (.pl (intsP ns)), some (.ow (.list (srts.map eS))), c2, some (.ow W'), c4, c5, some (.pl (eN d)), c7, c8, c9, c10, c11, none] := by
  obtain ⟨r, W1, hr, hW1, e1⟩ := pick_ok (L := own) h (by omega) (k + 7) 4 (by decide) (by decide)
  have e1 : runK (mkP own) (k + 8) 139 [W, .int 4] = .ret (eN r) false [W1] := e1
  exact ⟨r, W1, hr, hW1, by simp [evL, getP, ioC, e1, setRoot, List.set]⟩
theorem t6 {n : Nat} (h : Wl n W) (hn : n < 1000) {c2 c4 c5 c6 c7 c8 c9 c10 c11 : Option Cell} : ∃ m W', 1 ≤ m ∧ m ≤ 1000000 ∧ Wl (n + 2) W' ∧ stepS (mkP own) (evN (mkP own) (k + 8) (runK (mkP own) (k + 8)) 58) (.asg (.nm 7) (.bin .add (.int 1) (.ife (.cmp .gt (.call 139 [.var 3, .int 3]) (.int 0)) (.call 139 [.var 3, .int 10]) (.call 139 [.var 3, .bin .pow (.int 10) (.int 6)])))) [some (.pl (intsP ns)), some (.ow (.list (srts.map eS))), c2, some (.ow W), c4, c5, c6, c7, c8, c9, c10, c11, none] =
    .ok .nx [some (.pl (intsP ns)), some (.ow (.list (srts.map eS))), c2, some (.ow W'), c4, c5, c6, some (.pl (eN m)), c8, c9, c10, c11, none] := by
  obtain ⟨r, W1, hr, hW1, e1⟩ := pick_ok (L := own) h (by omega) (k + 7) 3 (by decide) (by decide)
  have e1 : runK (mkP own) (k + 8) 139 [W, .int 3] = .ret (eN r) false [W1] := e1
  have g : cop .gt (eN r) (.int 0) = some (decide (0 < r)) := gtN r 0
  by_cases hr0 : 0 < r
  · rw [decide_eq_true hr0] at g
    obtain ⟨r2, W2, hr2, hW2, e2⟩ := pick_ok (L := own) hW1 (by omega) (k + 7) 10 (by decide) (by decide)
    have e2 : runK (mkP own) (k + 8) 139 [W1, .int 10] = .ret (eN r2) false [W2] := e2
    have a : bop .add (.int 1) (eN r2) = some (eN (1 + r2), false) := addN 1 r2
    exact ⟨1 + r2, W2, by omega, by omega, hW2.mono (by omega), by simp [evL, opd2, opds, pre, fill, getP, ioC, e1, g, e2, a, bD, tru, setRoot, List.set]⟩
  · rw [decide_eq_false hr0] at g
    obtain ⟨r2, W2, hr2, hW2, e2⟩ := pick_ok (L := own) hW1 (by omega) (k + 7) 1000000 (by decide) (by decide)
    have e2 : runK (mkP own) (k + 8) 139 [W1, .int 1000000] = .ret (eN r2) false [W2] := e2
    have a : bop .add (.int 1) (eN r2) = some (eN (1 + r2), false) := addN 1 r2
    have pw : bop .pow (.int 10) (.int 6) = some (.int 1000000, false) := by simp [bop]
    exact ⟨1 + r2, W2, by omega, by omega, hW2.mono (by omega), by simp [evL, opd2, opds, pre, fill, getP, ioC, e1, g, pw, e2, a, bD, tru, setRoot, List.set]⟩
theorem t7 {d m : Nat} (hs : s ∈ srts) (hd : d < 4) (h1 : 1 ≤ m) (h2 : m ≤ 1000000) {c2 c3 c4 c5 c8 c9 c11 : Option Cell} : ∃ d' m', d' ≤ dep s ∧ 1 ≤ m' ∧ m' ≤ 1000000 ∧ stepS (mkP own) (evN (mkP own) (k + 8) (runK (mkP own) (k + 8)) 58) (.ifs (.and [.cmp .eq (.var 6) (.int 3), .cmp .gt (.bin .mul (.idx (.var 10) (.int 0)) (.idx (.var 10) (.int 1))) (.int 3)]) [.par [6, 7] [.int 2, .bin .add (.int 1) (.bin .mod (.bi .int [.var 7]) (.int 1000))]] []) [some (.pl (intsP ns)), some (.ow (.list (srts.map eS))), c2, c3, c4, c5, some (.pl (eN d)), some (.pl (eN m)), c8, c9, some (.pl (eS s)), c11, none] =
    .ok .nx [some (.pl (intsP ns)), some (.ow (.list (srts.map eS))), c2, c3, c4, c5, some (.pl (eN d')), some (.pl (eN m')), c8, c9, some (.pl (eS s)), c11, none] := by
  have q : cop .eq (eN d) (.int 3) = some (decide (d = 3)) := eq_N d 3
  have ok := srts_ok s hs
  have m1 := mulN (a := s.kinds) (b := s.signs) (by have := ok.signs; omega)
  have g : cop .gt (eN (s.kinds * s.signs)) (.int 3) = some (decide (3 < s.kinds * s.signs)) := gtN _ 3
  have x0 := ix_S0 s
  have x1 := ix_S1 s
  have i := intNN m
  have mo : bop .mod (eN m) (.int 1000) = some (eN (m % 1000), false) := modN (b := 1000) (by decide)
  have a : bop .add (.int 1) (eN (m % 1000)) = some (eN (1 + m % 1000), false) := addN 1 _
  by_cases hd3 : d = 3
  · rw [decide_eq_true hd3] at q
    by_cases h3 : 3 < s.kinds * s.signs
    · rw [decide_eq_true h3] at g
      refine ⟨2, 1 + m % 1000, ?_, by omega, by omega, ?_⟩
      · unfold dep; rw [if_neg (by omega)]; exact Nat.le_refl _
      · simp [allT, evL, opd2, opd1, opds, pre, fill, getP, q, x0, x1, m1, g, i, mo, a, bD, tru, seqL, setAll, setR, List.set]
    · rw [decide_eq_false h3] at g
      refine ⟨d, m, ?_, h1, h2, ?_⟩
      · unfold dep; rw [if_pos (by omega)]; omega
      · simp [allT, evL, opd2, opd1, opds, pre, fill, getP, q, x0, x1, m1, g, bD, tru, seqL]
  · rw [decide_eq_false hd3] at q
    refine ⟨d, m, ?_, h1, h2, ?_⟩
    · unfold dep; split <;> omega
    · simp [allT, evL, opd2, opd1, opds, pre, fill, getP, q, bD, tru, seqL]
theorem isi_lem (n : Nat) : isT .int (eN n) = true ∧ isT .bool (eN n) = false := ⟨rfl, rfl⟩
/-- what surely_from answers here -/
structure Fnd (k : Nat) (s : Srt) (d m r : Nat) : Prop where
  low : leastS s d ≤ r
  top : r ≤ 288
  yes : enough s d m r = true
  no : leastS s d < r → enough s d m (r - 1) = false
  run : runK (mkP own) (k + 8) 137 [eS s, eN d, eN m] = .ret (eN r) false []
theorem t8 {d m : Nat} (hs : s ∈ srts) (hd : d ≤ dep s) (h1 : 1 ≤ m) (h2 : m ≤ 1000000) {c2 c3 c4 c5 c8 c9 c11 : Option Cell} : ∃ r, Fnd k s d m r ∧ stepS (mkP own) (evN (mkP own) (k + 8) (runK (mkP own) (k + 8)) 58) (.asg (.nm 8) (.call 137 [.var 10, .var 6, .var 7])) [some (.pl (intsP ns)), some (.ow (.list (srts.map eS))), c2, c3, c4, c5, some (.pl (eN d)), some (.pl (eN m)), c8, c9, some (.pl (eS s)), c11, none] =
    .ok .nx [some (.pl (intsP ns)), some (.ow (.list (srts.map eS))), c2, c3, c4, c5, some (.pl (eN d)), some (.pl (eN m)), some (.pl (eN r)), c9, some (.pl (eS s)), c11, none] := by
  obtain ⟨r, a, b, c, dd, e⟩ := surely_from_ok (L := own) (k := k + 2) (srts_ok s hs) (Nat.le_trans hd (dep_le s)) h1 h2 (sure hs hd h2)
  exact ⟨r, ⟨a, b, c, dd, e⟩, by simp [evL, e, List.set]⟩
theorem t9 {d m r : Nat} (hs : s ∈ srts) (hd : d ≤ dep s) (h1 : 1 ≤ m) (h2 : m ≤ 1000000) {c2 c3 c4 c5 c9 c11 : Option Cell} : stepS (mkP own) (evN (mkP own) (k + 8) (runK (mkP own) (k + 8)) 58) (.asg (.nm 9) (.bi .max [.bin .add (.lst [.int 1]) (.lc (.bin .mul (.var 12) (.call 2 [.var 10, .var 12])) [12] (.nm 12) (.rng [.var 6]) [])])) [some (.pl (intsP ns)), some (.ow (.list (srts.map eS))), c2, c3, c4, c5, some (.pl (eN d)), some (.pl (eN m)), some (.pl (eN r)), c9, some (.pl (eS s)), c11, none] =
    .ok .nx [some (.pl (intsP ns)), some (.ow (.list (srts.map eS))), c2, c3, c4, c5, some (.pl (eN d)), some (.pl (eN m)), some (.pl (eN r)), some (.pl (eN (leastS s d))), some (.pl (eS s)), c11, none] := by
  have hd3 := Nat.le_trans hd (dep_le s)
  have ok := srts_ok s hs
  have k1 := ok.kinds
  have k2 := ok.signs
  have rg := rgN (n := d) (by omega)
  have lc := lc_map (P := mkP own) (p := evN (mkP own) (k + 8) (runK (mkP own) (k + 8)) 55) (elt := (.bin .mul (.var 12) (.call 2 [.var 10, .var 12]))) (own := [12]) (t := .nm 12) (it := .rng [.var 6]) (ifs := [])
    (s := [some (.pl (intsP ns)), some (.ow (.list (srts.map eS))), c2, c3, c4, c5, some (.pl (eN d)), some (.pl (eN m)), some (.pl (eN r)), c9, some (.pl (eS s)), c11, none]) (s1 := [some (.pl (intsP ns)), some (.ow (.list (srts.map eS))), c2, c3, c4, c5, some (.pl (eN d)), some (.pl (eN m)), some (.pl (eN r)), c9, some (.pl (eS s)), c11, none])
    (List.range d) eN (fun j => eN (j * s.kinds * s.signs ^ j)) (by simp [items, opds, pre, fill, getP, rg]) rfl (fun j hj => by
      have hj := List.mem_range.mp hj
      have p := ways_ok (k := k + 7) ok (show j ≤ 3 by omega)
      have hw : s.signs ^ j ≤ 64 := Nat.le_trans (Nat.pow_le_pow_left k2.2.1 j) (Nat.le_trans (Nat.pow_le_pow_right (by decide) (show j ≤ 3 by omega)) (by decide))
      have hw2 : wys s j ≤ 128 := Nat.mul_le_mul k1.2 hw
      have m1 := mulN (a := j) (b := wys s j) (by omega)
      have e : j * wys s j = j * s.kinds * s.signs ^ j := by unfold wys; rw [Nat.mul_assoc]
      rw [e] at m1
      simp [lcT, asgR, asgT, testsL, wipeS, evL, opd2, opds, pre, fill, getP, call_ways, p, m1]) (by rw [List.length_range]; show _ ≤ 16777216; omega)
  have mx := max_N 1 ((List.range d).map fun j => j * s.kinds * s.signs ^ j)
  have hz : ((List.range d).map fun j => j * s.kinds * s.signs ^ j).foldl (fun a y => max a y) 1 = leastS s d := rfl
  rw [hz] at mx
  have e0 : (List.range d).map (fun j => eN (j * s.kinds * s.signs ^ j)) = ((List.range d).map fun j => j * s.kinds * s.signs ^ j).map eN := by rw [List.map_map]; rfl
  rw [e0] at lc
  have ad : bop .add (.list [.int 1]) (.list (((List.range d).map fun j => j * s.kinds * s.signs ^ j).map eN)) = some (.list (eN 1 :: ((List.range d).map fun j => j * s.kinds * s.signs ^ j).map eN), true) := by
    show (if 1 + (((List.range d).map fun j => j * s.kinds * s.signs ^ j).map eN).length ≤ line then _ else _) = _
    rw [if_pos (by rw [List.length_map, List.length_map, List.length_range]; show _ ≤ 16777216; omega)]
    rfl
  generalize ((List.range d).map fun j => j * s.kinds * s.signs ^ j).map eN = G at *
  simp [evL, opd2, opds, pre, fill, getP, lc, ad, mx, line, List.set]
theorem t10 {d m r : Nat} (hs : s ∈ srts) (hd : d ≤ dep s) (h2 : m ≤ 1000000) (hF : Fnd k s d m r) {c2 c3 c4 c5 c11 : Option Cell} : stepS (mkP own) (evN (mkP own) (k + 8) (runK (mkP own) (k + 8)) 58) (.ifs (.or [.not (.isi (.var 8) [.int]), .isi (.var 8) [.bool], .cmp .lt (.var 8) (.var 9), .cmp .ne (.callk 137 [] [2, 1, 0] [.var 7, .var 6, .var 10]) (.var 8)]) [.ret (.bl false)] []) [some (.pl (intsP ns)), some (.ow (.list (srts.map eS))), c2, c3, c4, c5, some (.pl (eN d)), some (.pl (eN m)), some (.pl (eN r)), some (.pl (eN (leastS s d))), some (.pl (eS s)), c11, none] =
    .ok .nx [some (.pl (intsP ns)), some (.ow (.list (srts.map eS))), c2, c3, c4, c5, some (.pl (eN d)), some (.pl (eN m)), some (.pl (eN r)), some (.pl (eN (leastS s d))), some (.pl (eS s)), c11, none] := by
  have l := ltN r (leastS s d)
  rw [decide_eq_false (show ¬ r < leastS s d by have := hF.low; omega)] at l
  have e := hF.run
  have c : cop .ne (eN r) (eN r) = some false := ne_self rfl
  have t1 := isi_lem r
  simp [anyT, evL, opd1, opd2, opds, pre, fill, getP, isT, l, e, c, kwOrder, List.lookup, bD, tru, seqL]
theorem t11 {d m r : Nat} (hs : s ∈ srts) (hd : d ≤ dep s) (h2 : m ≤ 1000000) (hF : Fnd k s d m r) {c2 c3 c4 c5 c11 : Option Cell} : stepS (mkP own) (evN (mkP own) (k + 8) (runK (mkP own) (k + 8)) 58) (.ifs (.or [.not (.call 3 [.var 10, .var 6, .var 8, .var 7]), .and [.cmp .gt (.var 8) (.var 9), .call 3 [.var 10, .var 6, .bin .sub (.var 8) (.int 1), .var 7]]]) [.ret (.bl false)] []) [some (.pl (intsP ns)), some (.ow (.list (srts.map eS))), c2, c3, c4, c5, some (.pl (eN d)), some (.pl (eN m)), some (.pl (eN r)), some (.pl (eN (leastS s d))), some (.pl (eS s)), c11, none] =
    .ok .nx [some (.pl (intsP ns)), some (.ow (.list (srts.map eS))), c2, c3, c4, c5, some (.pl (eN d)), some (.pl (eN m)), some (.pl (eN r)), some (.pl (eN (leastS s d))), some (.pl (eS s)), c11, none] := by
  have ok := srts_ok s hs
  have hd3 := Nat.le_trans hd (dep_le s)
  have e1 := less_ok (k := k + 5) (m := m) ok hd3 (by omega) (cd hs hd hF.low hF.top)
  rw [less_eq hs hd hF.low hF.top, hF.yes] at e1
  have g := gtN r (leastS s d)
  by_cases h : leastS s d < r
  · rw [decide_eq_true h] at g
    have ht := hF.top
    have e2 := less_ok (k := k + 5) (m := m) ok hd3 (by omega) (cd hs hd (show leastS s d ≤ r - 1 by omega) (show r - 1 ≤ 288 by omega))
    rw [less_eq hs hd (show leastS s d ≤ r - 1 by omega) (show r - 1 ≤ 288 by omega), hF.no h] at e2
    have s1 : bop .sub (eN r) (.int 1) = some (eN (r - 1), false) := subN (b := 1) (by omega)
    simp [anyT, allT, evL, call_less, opd1, opd2, opds, pre, fill, getP, e1, e2, g, s1, bD, tru, seqL]
  · rw [decide_eq_false h] at g
    simp [anyT, allT, evL, call_less, opd1, opd2, opds, pre, fill, getP, e1, g, bD, tru, seqL]
theorem repr_int {i : Int} (h : i.natAbs < 1000000000000) : bop2 .repr [.int i] = some (.str (PyData.int i).shown, false) := repr_ok (Fn.int h) (by decide) (by decide)
theorem tld_ok (c : Nat) {v : PyData} (h : Hi v) : okD (tld c v) = true := by
  have l := str_lay h
  unfold okD SeqAt.shaped tld
  rw [PyData.canLay0, PyData.canLayAll0, PyData.canLayAll0, PyData.canLayAll0, PyData.canLayAll0, l]
  rfl
theorem sh_m1 : (PyData.int (-1)).shown = "-1" := by rw [PyData.shown_int]; rfl
theorem sh_4 : (PyData.int 4).shown = "4" := by rw [PyData.shown_int]; rfl
theorem sh_0 : (PyData.int 0).shown = "0" := by rw [PyData.shown_int]; rfl
theorem t12 {d m r lo : Nat} (hs : s ∈ srts) (hd : d ≤ dep s) (hlo : lo < 4) {c2 c3 c4 c5 c8 c9 : Option Cell} : stepS (mkP own) (evN (mkP own) (k + 8) (runK (mkP own) (k + 8)) 58) (.ifs (.or [.cmp .ne (.call 4 [.var 10, .neg (.int 1), .neg (.int 5), .int 0]) (.tup [.bl true, .bl false, .str "-1"]), .cmp .ne (.call 4 [.var 10, .bin .add (.var 11) (.int 1), .var 11, .int 0]) (.tup [.bl true, .bl false, .bi .repr [.var 11]])]) [.ret (.bl false)] []) [some (.pl (intsP ns)), some (.ow (.list (srts.map eS))), c2, c3, c4, c5, some (.pl (eN d)), some (.pl (eN m)), c8, c9, some (.pl (eS s)), some (.pl (eN lo)), none] =
    .ok .nx [some (.pl (intsP ns)), some (.ow (.list (srts.map eS))), c2, c3, c4, c5, some (.pl (eN d)), some (.pl (eN m)), c8, c9, some (.pl (eS s)), some (.pl (eN lo)), none] := by
  have ok := srts_ok s hs
  have hd3 := Nat.le_trans hd (dep_le s)
  have e1 := caught0 (k := k) (a := eS s) (b := .int (-1)) (d := .int (-5)) (v := .int (-1)) (c := 1) (.inl rfl) (repr_int (by decide)) (lacks_low (L := own) (k := k + 1) (a := -1) (d := .int (-5)) ok (by decide))
  have e2 := caught0 (k := k) (a := eS s) (b := .int ((lo : Int) + 1)) (d := .int (lo : Int)) (v := .int (lo : Int)) (c := 1) (.inl rfl) (repr_int (by omega)) (lacks_short (L := own) (k := k + 1) (a := (lo : Int) + 1) (b := (lo : Int)) ok (by omega) (by omega))
  have n1 := ne_self (tld_ok 1 (v := .int (-1)) (Hi.int _))
  have n2 := ne_self (tld_ok 1 (v := .int (lo : Int)) (Hi.int _))
  have z1 : tld 1 (.int (-1)) = .tuple [.bool true, .bool false, .str "-1"] := by unfold tld; rw [sh_m1]; rfl
  have z2 : tld 1 (.int (lo : Int)) = .tuple [.bool true, .bool false, .str (PyData.int (lo : Int)).shown] := rfl
  rw [z1] at e1 n1
  rw [z2] at e2 n2
  have rp := repr_int (i := (lo : Int)) (by omega)
  have a1 : bop .add (eN lo) (.int 1) = some (.int ((lo : Int) + 1), false) := rfl
  generalize PyData.str (PyData.int (lo : Int)).shown = sx at *
  simp [anyT, evL, call_caught, opd1, opd2, opds, pre, fill, getP, e1, e2, n1, n2, rp, a1, line, bD, tru, seqL]
theorem t13 {d m r lo : Nat} (hs : s ∈ srts) (hd : d ≤ dep s) (hlo : lo < 4) {c2 c3 c4 c5 c8 c9 : Option Cell} : stepS (mkP own) (evN (mkP own) (k + 8) (runK (mkP own) (k + 8)) 58) (.ifs (.or [.cmp .ne (.call 4 [.var 10, .int 4, .int 0, .int 1]) (.tup [.bl true, .bl false, .str "4"]), .cmp .ne (.call 4 [.var 10, .var 6, .int 0, .int 1]) (.tup [.bl true, .bl false, .str "0"])]) [.ret (.bl false)] []) [some (.pl (intsP ns)), some (.ow (.list (srts.map eS))), c2, c3, c4, c5, some (.pl (eN d)), some (.pl (eN m)), c8, c9, some (.pl (eS s)), some (.pl (eN lo)), none] =
    .ok .nx [some (.pl (intsP ns)), some (.ow (.list (srts.map eS))), c2, c3, c4, c5, some (.pl (eN d)), some (.pl (eN m)), c8, c9, some (.pl (eS s)), some (.pl (eN lo)), none] := by
  have ok := srts_ok s hs
  have hd3 := Nat.le_trans hd (dep_le s)
  have e1 := caught1 (k := k) (a := eS s) (b := .int 4) (d := .int 0) (v := .int 4) (c := 1) (.inl rfl) (repr_int (by decide)) (surely_high (L := own) (k := k + 1) (a := 4) (d := .int 0) ok (by decide))
  have e2 := caught1 (k := k) (a := eS s) (b := eN d) (d := .int 0) (v := .int 0) (c := 1) (.inl rfl) (repr_int (by decide)) (surely_m0 (L := own) (k := k + 1) (a := (d : Int)) (m := 0) ok (by omega) (by omega) (by decide))
  have n1 := ne_self (tld_ok 1 (v := .int 4) (Hi.int _))
  have n2 := ne_self (tld_ok 1 (v := .int 0) (Hi.int _))
  have z1 : tld 1 (.int 4) = .tuple [.bool true, .bool false, .str "4"] := by unfold tld; rw [sh_4]; rfl
  have z2 : tld 1 (.int 0) = .tuple [.bool true, .bool false, .str "0"] := by unfold tld; rw [sh_0]; rfl
  rw [z1] at e1 n1
  rw [z2] at e2 n2
  simp [anyT, evL, call_caught, opd1, opd2, opds, pre, fill, getP, e1, e2, n1, n2, line, bD, tru, seqL]
theorem t14 {d m r lo : Nat} (hs : s ∈ srts) (hd : d ≤ dep s) (hlo : lo < 4) {c2 c3 c4 c5 c8 c9 : Option Cell} : stepS (mkP own) (evN (mkP own) (k + 8) (runK (mkP own) (k + 8)) 58) (.ifs (.or [.cmp .ne (.call 4 [.var 10, .var 6, .bin .add (.bin .add (.bin .pow (.int 10) (.int 6)) (.int 1)) (.var 11), .int 1]) (.tup [.bl true, .bl false, .bi .repr [.bin .add (.bin .add (.bin .pow (.int 10) (.int 6)) (.int 1)) (.var 11)]]), .cmp .ne (.call 4 [.var 10, .neg (.int 1), .int 1, .int 1]) (.tup [.bl true, .bl false, .str "-1"])]) [.ret (.bl false)] []) [some (.pl (intsP ns)), some (.ow (.list (srts.map eS))), c2, c3, c4, c5, some (.pl (eN d)), some (.pl (eN m)), c8, c9, some (.pl (eS s)), some (.pl (eN lo)), none] =
    .ok .nx [some (.pl (intsP ns)), some (.ow (.list (srts.map eS))), c2, c3, c4, c5, some (.pl (eN d)), some (.pl (eN m)), c8, c9, some (.pl (eS s)), some (.pl (eN lo)), none] := by
  have ok := srts_ok s hs
  have hd3 := Nat.le_trans hd (dep_le s)
  have e1 := caught1 (k := k) (a := eS s) (b := eN d) (d := .int (1000001 + (lo : Int))) (v := .int (1000001 + (lo : Int))) (c := 1) (.inl rfl) (repr_int (by omega)) (surely_m1 (L := own) (k := k + 1) (a := (d : Int)) (m := 1000001 + (lo : Int)) ok (by omega) (by omega) (by omega))
  have e2 := caught1 (k := k) (a := eS s) (b := .int (-1)) (d := .int 1) (v := .int (-1)) (c := 1) (.inl rfl) (repr_int (by decide)) (surely_low (L := own) (k := k + 1) (a := -1) (d := .int 1) ok (by decide))
  have n1 := ne_self (tld_ok 1 (v := .int (1000001 + (lo : Int))) (Hi.int _))
  have n2 := ne_self (tld_ok 1 (v := .int (-1)) (Hi.int _))
  have z1 : tld 1 (.int (1000001 + (lo : Int))) = .tuple [.bool true, .bool false, .str (PyData.int (1000001 + (lo : Int))).shown] := rfl
  have z2 : tld 1 (.int (-1)) = .tuple [.bool true, .bool false, .str "-1"] := by unfold tld; rw [sh_m1]; rfl
  rw [z1] at e1 n1
  rw [z2] at e2 n2
  have rp := repr_int (i := 1000001 + (lo : Int)) (by omega)
  have pw : bop .pow (.int 10) (.int 6) = some (.int 1000000, false) := by simp [bop]
  have a1 : bop .add (.int 1000000) (.int 1) = some (.int 1000001, false) := rfl
  have a2 : bop .add (.int 1000001) (eN lo) = some (.int (1000001 + (lo : Int)), false) := rfl
  generalize PyData.str (PyData.int (1000001 + (lo : Int))).shown = sx at *
  generalize PyData.int (1000001 + (lo : Int)) = bx at *
  simp [anyT, evL, call_caught, opd1, opd2, opds, pre, fill, getP, e1, e2, n1, n2, rp, pw, a1, a2, line, bD, tru, seqL]
theorem t15 {n : Nat} (hs : s ∈ srts) (h : Wl n W) (hn : n < 1000) {c2 c4 c5 c6 c7 c8 c9 c11 : Option Cell} : ∃ W', Wl (n + 1) W' ∧ stepS (mkP own) (evN (mkP own) (k + 8) (runK (mkP own) (k + 8)) 58) (.ifs (.cmp .ne (.call 4 [.bi .list [.var 10], .neg (.int 1), .int 0, .call 139 [.var 3, .int 2]]) (.tup [.bl false, .bl true, .bi .repr [.bi .list [.var 10]]])) [.ret (.bl false)] []) [some (.pl (intsP ns)), some (.ow (.list (srts.map eS))), c2, some (.ow W), c4, c5, c6, c7, c8, c9, some (.pl (eS s)), c11, none] =
    .ok .nx [some (.pl (intsP ns)), some (.ow (.list (srts.map eS))), c2, some (.ow W'), c4, c5, c6, c7, c8, c9, some (.pl (eS s)), c11, none] := by
  have ok := srts_ok s hs
  obtain ⟨r, W1, hr, hW1, e1⟩ := pick_ok (L := own) h (by omega) (k + 7) 2 (by decide) (by decide)
  have e1 : runK (mkP own) (k + 8) 139 [W, .int 2] = .ret (eN r) false [W1] := e1
  have k1 := ok.kinds
  have k2 := ok.signs
  have k3 := ok.len
  have li : bop2 .list [eS s] = some (.list [eN s.kinds, eN s.signs, eNs s.trn], true) := rfl
  have f : Fn 2 618 (.list [eN s.kinds, eN s.signs, eNs s.trn]) := Fn.lst (n := 1) (w := 205) (m := 3) (fun d hd => by
    simp only [List.mem_cons, List.not_mem_nil, or_false] at hd
    rcases hd with rfl | rfl | rfl
    · exact (Fn.N0 (by omega)).mono (by decide) (by decide)
    · exact (Fn.N0 (by omega)).mono (by decide) (by decide)
    · exact Fn.Ns5 (fun a ha => by have := ok.lt a ha; omega) (by omega)) (Nat.le_refl _)
  have hi : Hi (.list [eN s.kinds, eN s.signs, eNs s.trn]) := Hi.lst fun d hd => by
    simp only [List.mem_cons, List.not_mem_nil, or_false] at hd
    rcases hd with rfl | rfl | rfl
    · exact Hi.int _
    · exact Hi.int _
    · exact Hi.Ns _
  have rp := repr_ok f (by decide) (by decide)
  have n1 := ne_self (tld_ok 2 hi)
  have z1 : tld 2 (.list [eN s.kinds, eN s.signs, eNs s.trn]) = .tuple [.bool false, .bool true, .str (PyData.list [eN s.kinds, eN s.signs, eNs s.trn]).shown] := rfl
  have e2 : runK (mkP own) (k + 8) 4 [.list [eN s.kinds, eN s.signs, eNs s.trn], .int (-1), .int 0, eN r] = .ret (tld 2 (.list [eN s.kinds, eN s.signs, eNs s.trn])) false [] := by
    rcases (show r = 0 ∨ r = 1 by omega) with rfl | rfl
    · exact caught0 (k := k) (.inr rfl) rp (lacks_lst (L := own) (k := k) f.lay (Nat.le_trans f.dep (by decide)) (Nat.le_trans f.wt (by decide)))
    · exact caught1 (k := k) (.inr rfl) rp (surely_lst (L := own) (k := k) f.lay (Nat.le_trans f.dep (by decide)) (Nat.le_trans f.wt (by decide)))
  rw [z1] at e2 n1
  refine ⟨W1, hW1, ?_⟩
  generalize PyData.str (PyData.list [eN s.kinds, eN s.signs, eNs s.trn]).shown = sx at *
  generalize PyData.list [eN s.kinds, eN s.signs, eNs s.trn] = bx at *
  simp [evL, call_caught, opd1, opd2, opds, pre, fill, getP, ioC, e1, li, e2, n1, rp, line, bD, tru, setRoot, List.set, seqL]
end
end K50
namespace K50
open PySem Pv GP
section
variable {k : Nat} {ns : List Int}
def bodyL : List Q := match f_law.body with
  | [_, .for_ _ _ b, _] => b
  | _ => []
theorem turn_ok (hl : ns.length ≤ 1000) (j : Nat) (c2 c3 c4 c5 c6 c7 c8 c9 c10 c11 : Option Cell) : ∃ d2 d3 d4 d5 d6 d7 d8 d9 d10 d11 : Option Cell, turnS (evN (mkP own) (k + 8) (runK (mkP own) (k + 8)) 59) (.nm 2) bodyL (eN j) [some (.pl (intsP ns)), some (.ow (.list (srts.map eS))), c2, c3, c4, c5, c6, c7, c8, c9, c10, c11, none] = .ok .nx [some (.pl (intsP ns)), some (.ow (.list (srts.map eS))), d2, d3, d4, d5, d6, d7, d8, d9, d10, d11, none] := by
  obtain ⟨W, w0, e0⟩ := t0 (k := k) (ns := ns) (j := j) hl (c3 := c3) (c4 := c4) (c5 := c5) (c6 := c6) (c7 := c7) (c8 := c8) (c9 := c9) (c10 := c10) (c11 := c11)
  obtain ⟨s, lo, W1, hs, hlo, w1, e1⟩ := t1 (k := k) (ns := ns) w0 (by decide) (c2 := some (.pl (eN j))) (c4 := c4) (c5 := c5) (c6 := c6) (c7 := c7) (c8 := c8) (c9 := c9) (c10 := c10) (c11 := c11)
  obtain ⟨z, W2, z1, z2, w2, e2⟩ := t2 (k := k) (ns := ns) (lo := lo) w1 (by decide) (c2 := some (.pl (eN j))) (c4 := c4) (c5 := c5) (c6 := c6) (c7 := c7) (c8 := c8) (c9 := c9) (c10 := some (.pl (eS s)))
  have e3 := t3 (k := k) (ns := ns) hs hlo z1 z2 (c2 := some (.pl (eN j))) (c3 := some (.ow W2)) (c5 := c5) (c6 := c6) (c7 := c7) (c8 := c8) (c9 := c9)
  have e4 := t4 (k := k) (ns := ns) hs hlo z1 z2 (c2 := some (.pl (eN j))) (c3 := some (.ow W2)) (c6 := c6) (c7 := c7) (c8 := c8) (c9 := c9)
  obtain ⟨d, W3, hd, w3, e5⟩ := t5 (k := k) (ns := ns) w2 (by decide) (c2 := some (.pl (eN j))) (c4 := some (.pl (eN z))) (c5 := some (.pl (eN2 (low2 (lin (wys s lo) lo z))))) (c6 := c6) (c7 := c7) (c8 := c8) (c9 := c9) (c10 := some (.pl (eS s))) (c11 := some (.pl (eN lo)))
  obtain ⟨m, W4, m1, m2, w4, e6⟩ := t6 (k := k) (ns := ns) w3 (by decide) (c2 := some (.pl (eN j))) (c4 := some (.pl (eN z))) (c5 := some (.pl (eN2 (low2 (lin (wys s lo) lo z))))) (c6 := some (.pl (eN d))) (c7 := c7) (c8 := c8) (c9 := c9) (c10 := some (.pl (eS s))) (c11 := some (.pl (eN lo)))
  obtain ⟨d', m', hd', m1', m2', e7⟩ := t7 (k := k) (ns := ns) hs hd m1 m2 (c2 := some (.pl (eN j))) (c3 := some (.ow W4)) (c4 := some (.pl (eN z))) (c5 := some (.pl (eN2 (low2 (lin (wys s lo) lo z))))) (c8 := c8) (c9 := c9) (c11 := some (.pl (eN lo)))
  obtain ⟨r, hF, e8⟩ := t8 (k := k) (ns := ns) hs hd' m1' m2' (c2 := some (.pl (eN j))) (c3 := some (.ow W4)) (c4 := some (.pl (eN z))) (c5 := some (.pl (eN2 (low2 (lin (wys s lo) lo z))))) (c8 := c8) (c9 := c9) (c11 := some (.pl (eN lo)))
  have e9 := t9 (k := k) (ns := ns) (r := r) hs hd' m1' m2' (c2 := some (.pl (eN j))) (c3 := some (.ow W4)) (c4 := some (.pl (eN z))) (c5 := some (.pl (eN2 (low2 (lin (wys s lo) lo z))))) (c9 := c9) (c11 := some (.pl (eN lo)))
  have e10 := t10 (k := k) (ns := ns) hs hd' m2' hF (c2 := some (.pl (eN j))) (c3 := some (.ow W4)) (c4 := some (.pl (eN z))) (c5 := some (.pl (eN2 (low2 (lin (wys s lo) lo z))))) (c11 := some (.pl (eN lo)))
  have e11 := t11 (k := k) (ns := ns) hs hd' m2' hF (c2 := some (.pl (eN j))) (c3 := some (.ow W4)) (c4 := some (.pl (eN z))) (c5 := some (.pl (eN2 (low2 (lin (wys s lo) lo z))))) (c11 := some (.pl (eN lo)))
  have e12 := t12 (k := k) (ns := ns) (m := m') (r := r) hs hd' hlo (c2 := some (.pl (eN j))) (c3 := some (.ow W4)) (c4 := some (.pl (eN z))) (c5 := some (.pl (eN2 (low2 (lin (wys s lo) lo z))))) (c8 := some (.pl (eN r))) (c9 := some (.pl (eN (leastS s d'))))
  have e13 := t13 (k := k) (ns := ns) (m := m') (r := r) hs hd' hlo (c2 := some (.pl (eN j))) (c3 := some (.ow W4)) (c4 := some (.pl (eN z))) (c5 := some (.pl (eN2 (low2 (lin (wys s lo) lo z))))) (c8 := some (.pl (eN r))) (c9 := some (.pl (eN (leastS s d'))))
  have e14 := t14 (k := k) (ns := ns) (m := m') (r := r) hs hd' hlo (c2 := some (.pl (eN j))) (c3 := some (.ow W4)) (c4 := some (.pl (eN z))) (c5 := some (.pl (eN2 (low2 (lin (wys s lo) lo z))))) (c8 := some (.pl (eN r))) (c9 := some (.pl (eN (leastS s d'))))
  obtain ⟨W5, w5, e15⟩ := t15 (k := k) (ns := ns) hs w4 (by decide) (c2 := some (.pl (eN j))) (c4 := some (.pl (eN z))) (c5 := some (.pl (eN2 (low2 (lin (wys s lo) lo z))))) (c6 := some (.pl (eN d'))) (c7 := some (.pl (eN m'))) (c8 := some (.pl (eN r))) (c9 := some (.pl (eN (leastS s d')))) (c11 := some (.pl (eN lo)))
  have h := (seqL_step e0).trans <| (seqL_step e1).trans <| (seqL_step e2).trans <| (seqL_step e3).trans <| (seqL_step e4).trans <| (seqL_step e5).trans <| (seqL_step e6).trans <| (seqL_step e7).trans <| (seqL_step e8).trans <| (seqL_step e9).trans <| (seqL_step e10).trans <| (seqL_step e11).trans <| (seqL_step e12).trans <| (seqL_step e13).trans <| (seqL_step e14).trans (seqL_step (r := []) e15)
  exact ⟨_, _, _, _, _, _, _, _, _, _, h⟩
theorem loop_ok (hl : ns.length ≤ 1000) : ∀ (ks : List Nat) (c2 c3 c4 c5 c6 c7 c8 c9 c10 c11 : Option Cell), ∃ d2 d3 d4 d5 d6 d7 d8 d9 d10 d11 : Option Cell, forL (turnS (evN (mkP own) (k + 8) (runK (mkP own) (k + 8)) 59) (.nm 2) bodyL) (ks.map eN) [some (.pl (intsP ns)), some (.ow (.list (srts.map eS))), c2, c3, c4, c5, c6, c7, c8, c9, c10, c11, none] = .ok .nx [some (.pl (intsP ns)), some (.ow (.list (srts.map eS))), d2, d3, d4, d5, d6, d7, d8, d9, d10, d11, none]
  | [], c2, c3, c4, c5, c6, c7, c8, c9, c10, c11 => ⟨c2, c3, c4, c5, c6, c7, c8, c9, c10, c11, rfl⟩
  | j :: ks, c2, c3, c4, c5, c6, c7, c8, c9, c10, c11 => by
    obtain ⟨d2, d3, d4, d5, d6, d7, d8, d9, d10, d11, e⟩ := turn_ok (k := k) hl j c2 c3 c4 c5 c6 c7 c8 c9 c10 c11
    obtain ⟨x2, x3, x4, x5, x6, x7, x8, x9, x10, x11, e2⟩ := loop_ok hl ks d2 d3 d4 d5 d6 d7 d8 d9 d10 d11
    refine ⟨x2, x3, x4, x5, x6, x7, x8, x9, x10, x11, ?_⟩
    show (turnS (evN (mkP own) (k + 8) (runK (mkP own) (k + 8)) 59) _ _ (eN j) _).bind (fun fl s => match fl with
        | .nx => forL _ _ s
        | .ct => forL _ _ s
        | .bk => .ok .nx s
        | .rt d f => .ok (.rt d f) s) = _
    rw [e]
    exact e2
theorem law_ok (ns : List Int) (hl : ns.length ≤ 63) : ∃ fr ios, runK prg (k + 9) 5 [intsP ns] = .ret (.bool true) fr ios := by
  obtain ⟨j, hj, hj2⟩ : ∃ j : Nat, (j : Int) = (if (if (ns.length : Int) < 3 then (ns.length : Int) else 3) > 1 then (if (ns.length : Int) < 3 then (ns.length : Int) else 3) else 1) ∧ j ≤ 1001 := by
    refine ⟨(if (if (ns.length : Int) < 3 then (ns.length : Int) else 3) > 1 then (if (ns.length : Int) < 3 then (ns.length : Int) else 3) else 1 : Int).toNat, ?_, ?_⟩ <;> split <;> split <;> omega
  obtain ⟨d2, d3, d4, d5, d6, d7, d8, d9, d10, d11, e⟩ := loop_ok (k := k) (ns := ns) (by omega) (List.range j) none none none none none none none none none none
  have rg : rngD [.int (j : Int)] = some ((List.range j).map eN) := rng1 (by omega)
  have hi : items (evN (mkP own) (k + 8) (runK (mkP own) (k + 8)) 59) (.rng [.bi .max2 [.int 1, .bi .min2 [.int 3, .bi .len [.var 0]]]]) [some (.pl (intsP ns)), some (.ow (.list (srts.map eS))), none, none, none, none, none, none, none, none, none, none, none] = .ok ((List.range j).map eN) [some (.pl (intsP ns)), some (.ow (.list (srts.map eS))), none, none, none, none, none, none, none, none, none, none, none] := by
    simp only [gt_iff_lt] at hj
    simp [items, intsP, opds, pre, fill, getP, bop2, ← hj, rg]
  have q0 : stepS (mkP own) (evN (mkP own) (k + 8) (runK (mkP own) (k + 8)) 59) (f_law.body.getD 0 .pass) [some (.pl (intsP ns)), none, none, none, none, none, none, none, none, none, none, none, none] = .ok .nx [some (.pl (intsP ns)), some (.ow (.list (srts.map eS))), none, none, none, none, none, none, none, none, none, none, none] := by
    simp [f_law, evL, line, List.set]
    rfl
  have q1 : stepS (mkP own) (evN (mkP own) (k + 8) (runK (mkP own) (k + 8)) 59) (f_law.body.getD 1 .pass) [some (.pl (intsP ns)), some (.ow (.list (srts.map eS))), none, none, none, none, none, none, none, none, none, none, none] = .ok .nx [some (.pl (intsP ns)), some (.ow (.list (srts.map eS))), d2, d3, d4, d5, d6, d7, d8, d9, d10, d11, none] := by
    show (items _ _ _).bind _ = _
    rw [hi]
    exact e
  have q2 : stepS (mkP own) (evN (mkP own) (k + 8) (runK (mkP own) (k + 8)) 59) (f_law.body.getD 2 .pass) [some (.pl (intsP ns)), some (.ow (.list (srts.map eS))), d2, d3, d4, d5, d6, d7, d8, d9, d10, d11, none] = .ok (.rt (.bool true) false) [some (.pl (intsP ns)), some (.ow (.list (srts.map eS))), d2, d3, d4, d5, d6, d7, d8, d9, d10, d11, none] := by
    simp [f_law]
  have h := (seqL_step q0).trans <| (seqL_step q1).trans (seqL_rt (r := []) q2)
  refine ⟨false, [], ?_⟩
  show runK (mkP own) (k + 9) 5 [intsP ns] = _
  rw [runK_at (show (mkP own).fns[5]? = some f_law from rfl)]
  exact run_of rfl rfl rfl h rfl
end
end K50
namespace K50
open PySem PySem.Spec PyProof.Rows L2 Pv GP
def body : List Stmt := PySem.Challenge.pw_picturesheld_k50_shares_that_lack_ways.main.body
def ds : List DefS := [
  { id := 128, name := "power_of", ps := ["number", "times"], N := ["number", "times", "found", "turn"], top := 2 },
  { id := 129, name := "chosen", ps := ["size", "many"], N := ["size", "many", "found", "at"], top := 3 },
  { id := 130, name := "lacks_in", ps := ["sort", "k", "size"], N := ["sort", "k", "size", "ways"], top := 4 },
  { id := 131, name := "lowest", ps := ["above", "below"], N := ["above", "below", "shared"], top := 5 },
  { id := 132, name := "is_enough", ps := ["sort", "depth", "m", "size"], N := ["sort", "depth", "m", "size", "above", "below", "k", "more", "under"], top := 6 },
  { id := 133, name := "least_size", ps := ["sort", "depth"], N := ["sort", "depth", "k"], top := 7 },
  { id := 134, name := "surely_in", ps := ["sort", "depth", "m"], N := ["sort", "depth", "m", "low", "high", "middle"], top := 8 },
  { id := 104, name := "is_integer", ps := ["value"], N := ["value"], top := 14 },
  { id := 105, name := "is_between", ps := ["value", "low", "high"], N := ["value", "low", "high"], top := 15 },
  { id := 106, name := "is_tuple", ps := ["value", "low", "high"], N := ["value", "low", "high"], top := 16 },
  { id := 135, name := "need_number", ps := ["number", "low", "high"], N := ["number", "low", "high"], top := 17 },
  { id := 107, name := "anew", ps := ["value"], N := ["value", "part"], top := 18 },
  { id := 108, name := "is_sort", ps := ["value"], N := ["value", "most", "item", "at"], top := 23 },
  { id := 109, name := "need_sort", ps := ["sort"], N := ["sort"], top := 24 },
  { id := 136, name := "lacks", ps := ["sort", "k", "size"], N := ["sort", "k", "size", "above", "below"], top := 26 },
  { id := 137, name := "surely_from", ps := ["sort", "depth", "m"], N := ["sort", "depth", "m"], top := 27 },
  { id := 138, name := "_law_source", ps := ["script", "k"], N := ["script", "k", "own", "others", "at", "cell", "seed"], top := 29 },
  { id := 139, name := "_law_pick", ps := ["source", "many"], N := ["source", "many", "told", "turn", "mixed"], top := 30 },
  { id := 0, name := "_law_cut", ps := ["above", "below"], N := ["above", "below", "one", "other", "turn"], top := 31 },
  { id := 1, name := "_law_lacks", ps := ["many", "k", "size"], N := ["many", "k", "size", "above", "below", "turn"], top := 32 },
  { id := 2, name := "_law_ways", ps := ["sort", "k"], N := ["sort", "k", "found", "turn"], top := 33 },
  { id := 3, name := "_law_is_less", ps := ["sort", "depth", "size", "m"], N := ["sort", "depth", "size", "m", "above", "below", "k", "more"], top := 34 },
  { id := 4, name := "_law_caught", ps := ["sort", "one", "other", "which"], N := ["sort", "one", "other", "which", "caught", "e"], top := 35 },
  { id := 5, name := "law", ps := ["script"], N := ["script", "sorts", "k", "source", "size", "told", "depth", "m", "found", "least", "sort", "low", "own"], top := 36 }]
def gs : Gs := { fns := (ds.map fun D => (D.id, D.name, D.ps)), cns := [("KINDS", 2), ("SIGNS", 3), ("SIGNS_OF_ONE", 4)], excs := [(0, "PicturesError"), (1, "InvalidNumber"), (2, "InvalidSort")], ups := ups, kcs := [(136, 0, [2, 1, 0]), (137, 0, [2, 1, 0])], lib := [("gcd", "math.gcd")] }
theorem chk : defsB gs body prg.fns ds = true := by decide +kernel
theorem bd0 : BD gs body 128 (ds.getD 0 default) := fun kV doc pm cdv ct an => ⟨fun us h => (match us, h with | [a0, a1], _ => rfl),  trivial⟩
theorem bd1 : BD gs body 129 (ds.getD 1 default) := fun kV doc pm cdv ct an => ⟨fun us h => (match us, h with | [a0, a1], _ => rfl),  trivial⟩
theorem bd2 : BD gs body 130 (ds.getD 2 default) := fun kV doc pm cdv ct an => ⟨fun us h => (match us, h with | [a0, a1, a2], _ => rfl),  trivial⟩
theorem bd3 : BD gs body 131 (ds.getD 3 default) := fun kV doc pm cdv ct an => ⟨fun us h => (match us, h with | [a0, a1], _ => rfl),  trivial⟩
theorem bd4 : BD gs body 132 (ds.getD 4 default) := fun kV doc pm cdv ct an => ⟨fun us h => (match us, h with | [a0, a1, a2, a3], _ => rfl),  trivial⟩
theorem bd5 : BD gs body 133 (ds.getD 5 default) := fun kV doc pm cdv ct an => ⟨fun us h => (match us, h with | [a0, a1], _ => rfl),  trivial⟩
theorem bd6 : BD gs body 134 (ds.getD 6 default) := fun kV doc pm cdv ct an => ⟨fun us h => (match us, h with | [a0, a1, a2], _ => rfl),  trivial⟩
theorem bd7 : BD gs body 104 (ds.getD 7 default) := fun kV doc pm cdv ct an => ⟨fun us h => (match us, h with | [a0], _ => rfl),  trivial⟩
theorem bd8 : BD gs body 105 (ds.getD 8 default) := fun kV doc pm cdv ct an => ⟨fun us h => (match us, h with | [a0, a1, a2], _ => rfl),  trivial⟩
theorem bd9 : BD gs body 106 (ds.getD 9 default) := fun kV doc pm cdv ct an => ⟨fun us h => (match us, h with | [a0, a1, a2], _ => rfl),  trivial⟩
theorem bd10 : BD gs body 135 (ds.getD 10 default) := fun kV doc pm cdv ct an => ⟨fun us h => (match us, h with | [a0, a1, a2], _ => rfl),  trivial⟩
theorem bd11 : BD gs body 107 (ds.getD 11 default) := fun kV doc pm cdv ct an => ⟨fun us h => (match us, h with | [a0], _ => rfl),  trivial⟩
theorem bd12 : BD gs body 108 (ds.getD 12 default) := fun kV doc pm cdv ct an => ⟨fun us h => (match us, h with | [a0], _ => rfl),  trivial⟩
theorem bd13 : BD gs body 109 (ds.getD 13 default) := fun kV doc pm cdv ct an => ⟨fun us h => (match us, h with | [a0], _ => rfl),  trivial⟩
theorem bd14 : BD gs body 136 (ds.getD 14 default) := fun kV doc pm cdv ct an => ⟨fun us h => (match us, h with | [a0, a1, a2], _ => rfl), ⟨fun us ws zs h1 h2 h3 => (match us, ws, h1, h2, h3 with | [], [b0, b1, b2], _, _, h3 => by (have e : some [b2, b1, b0] = some zs := h3); cases e; rfl),  trivial⟩⟩
theorem bd15 : BD gs body 137 (ds.getD 15 default) := fun kV doc pm cdv ct an => ⟨fun us h => (match us, h with | [a0, a1, a2], _ => rfl), ⟨fun us ws zs h1 h2 h3 => (match us, ws, h1, h2, h3 with | [], [b0, b1, b2], _, _, h3 => by (have e : some [b2, b1, b0] = some zs := h3); cases e; rfl),  trivial⟩⟩
theorem bd16 : BD gs body 138 (ds.getD 16 default) := fun kV doc pm cdv ct an => ⟨fun us h => (match us, h with | [a0, a1], _ => rfl),  trivial⟩
theorem bd17 : BD gs body 139 (ds.getD 17 default) := fun kV doc pm cdv ct an => ⟨fun us h => (match us, h with | [a0, a1], _ => rfl),  trivial⟩
theorem bd18 : BD gs body 0 (ds.getD 18 default) := fun kV doc pm cdv ct an => ⟨fun us h => (match us, h with | [a0, a1], _ => rfl),  trivial⟩
theorem bd19 : BD gs body 1 (ds.getD 19 default) := fun kV doc pm cdv ct an => ⟨fun us h => (match us, h with | [a0, a1, a2], _ => rfl),  trivial⟩
theorem bd20 : BD gs body 2 (ds.getD 20 default) := fun kV doc pm cdv ct an => ⟨fun us h => (match us, h with | [a0, a1], _ => rfl),  trivial⟩
theorem bd21 : BD gs body 3 (ds.getD 21 default) := fun kV doc pm cdv ct an => ⟨fun us h => (match us, h with | [a0, a1, a2, a3], _ => rfl),  trivial⟩
theorem bd22 : BD gs body 4 (ds.getD 22 default) := fun kV doc pm cdv ct an => ⟨fun us h => (match us, h with | [a0, a1, a2, a3], _ => rfl),  trivial⟩
theorem bd23 : BD gs body 5 (ds.getD 23 default) := fun kV doc pm cdv ct an => ⟨fun us h => (match us, h with | [a0], _ => rfl),  trivial⟩
theorem bds : AllD (fun D => BD gs body D.id D) ds := ⟨bd0, ⟨bd1, ⟨bd2, ⟨bd3, ⟨bd4, ⟨bd5, ⟨bd6, ⟨bd7, ⟨bd8, ⟨bd9, ⟨bd10, ⟨bd11, ⟨bd12, ⟨bd13, ⟨bd14, ⟨bd15, ⟨bd16, ⟨bd17, ⟨bd18, ⟨bd19, ⟨bd20, ⟨bd21, ⟨bd22, ⟨bd23, trivial⟩⟩⟩⟩⟩⟩⟩⟩⟩⟩⟩⟩⟩⟩⟩⟩⟩⟩⟩⟩⟩⟩⟩⟩
end K50
namespace K50
open PySem PySem.Spec PyProof.Rows L2 Pv
def ini : Stmt := match stAt body 10 with
  | .ClassDef (body := b :: _) .. => b
  | _ => .Pass default
theorem iniOk : IniOk ini := ⟨⟨_, _, _, _, _, _, _, _, _, _, _, _, rfl, by decide⟩, ⟨_, rfl, rfl⟩, fun _ _ _ _ _ _ _ _ _ => rfl, rfl, rfl, rfl, rfl, by decide +kernel, rfl, rfl, rfl⟩
end K50
open PySem PySem.W PyProof.Rows
set_option maxRecDepth 100000 in
set_option maxHeartbeats 0 in
theorem PySem.Challenge.cw_picturesheld_k50_shares_that_lack_ways_holds : PySem.Challenge.rw_picturesheld_k50_shares_that_lack_ways.Holds := by
  w_on; o_law; k_head; (case hw => w_witness2)
  k_fill
  refine Pv.pv_walk (l := PySem.Challenge.rw_picturesheld_k50_shares_that_lack_ways) (n := 63) (k := 30) (f := 5) (Γ := K50.gs) (P := K50.prg) rfl (by decide) rfl ⟨rfl, by decide, by decide⟩ (fun w h Y => PySem.W.kIn_of Y) rfl rfl rfl rfl ?F ?ans
  case F =>
    intro w mg h KX G
    refine' Pv.modG_of (D := ?D) (fI := ?fI) KX G rfl K50.chk ?hK K50.bds rfl ?h1 ?h2 ?h3 ?h5 K50.iniOk ?hP ?h4 ?hop (by decide +kernel)
    case hP =>
      refine' Pv.pe_mk ?p0 ?p1 ?p2 ?p3 ?p4 ?p5 ?p6 ?p7 ?p8 ?p9
      (case p0 => k_is); (case p1 => k_is); (case p2 => k_is); (case p3 => k_is); (case p4 => k_is); (case p5 => k_is); (case p6 => rfl); (case p7 => rfl); (case p8 => k_is); (case p9 => kernel_rfl)
    case hop => k_is
    case h1 => kernel_rfl
    case h2 => kernel_rfl
    case h3 => kernel_rfl
    case h5 => kernel_rfl
    case h4 => kernel_rfl
    case hK =>
      repeat (refine' Pv.kd_mk ?a ?b ?c ?d ?_; (case a => k_is); (case b => k_is); (case c => k_is); (case d => k_is))
      exact Pv.kd_nil
  case ans => exact fun ns h => K50.law_ok (k := 21) ns h
