import PyProof.Rows.All
import Wide.All
import OpenK.AllK
import Wide.FinOn
import HandS.ForMost
import HandS.ForExc
import HandS.Flow
import HandS.Wide
import HandS.TupAny
import HandS.TupLe
import HandS.TupMul
import HandS.Deep
import HandS.IsInst
import HandS.RaiseMore
import HandS.ExcInit
import HandS.ExcSuper
import HandS.ExcIs
import HandS.ExcField
import HandS.Style
import KE.KExcSuper
import HandS.Ends
import HandS.Words
import PySem.Challenge.RW_picturesheld_k01_sorts
set_option Elab.async false
set_option linter.all false
set_option maxRecDepth 100000
/-! Pv1: the small language (R, Q), values by value, the evaluator. -/
namespace Pv
open PySem

/-- what a slot holds: a plain value, an own list or dict (no one else holds it), a caller's list or dict that is handed in to be changed, an error object (its class, its value) -/
inductive Cell where
  | pl (d : PyData) | ow (d : PyData) | io (d : PyData) | ex (c : Nat) (v : PyData)
abbrev S := List (Option Cell)
inductive Res (α : Type) where
  | ok (a : α) (s : S) | err (c : Nat) (v : PyData) (s : S) | bad
def Res.bind {α β : Type} (r : Res α) (f : α → S → Res β) : Res β := match r with
  | .ok a s => f a s
  | .err c v s => .err c v s
  | .bad => .bad
inductive Bop where | add | sub | mul | fdiv | mod | pow
inductive Cop where | eq | ne | lt | le | gt | ge | isin | notin
inductive Ty where | int | bool | str | tuple | list
inductive Bi where
  | len | tuple | list | listr | sum | sumL | all | any | sorted | min | max | min2 | max2 | abs | int | repr | sortedSet | lenSet | index | count
inductive T where | nm (i : Nat) | tp (is : List Nat)
inductive R where
  | var (i : Nat) | non | bl (b : Bool) | int (i : Int) | str (x : Str)
  | tup (es : List R) | lst (es : List R)
  | bin (o : Bop) (a b : R) | neg (a : R)
  | cmp (o : Cop) (a b : R) | chain (o p : Cop) (a b c : R)
  | isn (yes : Bool) (a : R) | isb (yes b : Bool) (a : R)
  | and (es : List R) | or (es : List R) | not (a : R)
  | ife (c a b : R)
  | call (f : Nat) (args : List R) | callk (f : Nat) (args : List R) (ks : List Nat) (kws : List R)
  | bi (b : Bi) (args : List R)
  | idx (a j : R) | slc (a : R) (lo hi : Option R) | rev (a : R)
  | lc (elt : R) (own : List Nat) (t : T) (it : R) (ifs : List R)
  | lc2 (elt : R) (own own2 : List Nat) (t : T) (it : R) (ifs : List R) (t2 : T) (it2 : R) (ifs2 : List R)
  | isi (a : R) (ts : List Ty) | isx (i c : Nat) | xval (i : Nat) | xnone (yes : Bool) (i : Nat)
  | rng (args : List R) | enm (a : R) | zip (a b : R)
  | pop (i : Nat) (j : Option R)
inductive Q where
  | asg (t : T) (e : R) | par (is : List Nat) (es : List R)
  | app (i : Nat) (e : R) | ext (i : Nat) (e : R) | ins (i : Nat) (j e : R) | setix (i : Nat) (j e : R)
  | aug (i : Nat) (o : Bop) (e : R)
  | ifs (c : R) (a b : List Q)
  | for_ (t : T) (it : R) (b : List Q)
  | whl (c : R) (b : List Q)
  | ret (e : R) | raise (c : Nat) (e : R) | expr (e : R)
  | try_ (b : List Q) (c : Nat) (ie io : Nat)
  | pass | brk | doc
inductive Flow where | nx | bk | ct | rt (d : PyData) (fr : Bool)
structure FnD where
  np : Nat
  io : List Bool
  ns : Nat
  body : List Q
structure Prg where
  fns : List FnD
  /-- the classes of errors: those that each one is under, itself among them -/
  exc : List (List Nat)
inductive CRes where
  | ret (d : PyData) (fr : Bool) (ios : List PyData) | err (c : Nat) (v : PyData) (ios : List PyData) | bad

/-! ### values -/
def tru : PyData → Bool
  | .none => false
  | .bool b => b
  | .int i => i != 0
  | .str x => x.length != 0
  | .list l => !l.isEmpty
  | .tuple l => !l.isEmpty
  | .dict l => !l.isEmpty
def line : Nat := 16777216
def okD (d : PyData) : Bool := SeqAt.shaped d
def ixD (n : Nat) (i : Int) : Option Nat := if 0 ≤ i then (if i < n then some i.toNat else none) else if -(n : Int) ≤ i then some (i + n).toNat else none
def atD {α : Type} (xs : List α) (i : Int) : Option α := (ixD xs.length i).bind fun j => xs[j]?
def cutD {α : Type} (xs : List α) (lo hi : Option Int) : List α := (xs.drop (HT.sIx xs.length 0 lo)).take (HT.sIx xs.length xs.length hi - HT.sIx xs.length 0 lo)
def mulOk (i j : Int) : Bool := decide (i.natAbs < 2 ^ 64) || decide (j.natAbs < 2 ^ 64) || decide (i.natAbs.log2 + j.natAbs.log2 < 1000000)
def divOk (j : Int) : Bool := (decide (j ≠ 0) && decide (j.natAbs < 1073741824)) || (decide (0 < j) && decide (j.natAbs.log2 < 9000))
abbrev DF := PyData × Bool
def bop : Bop → PyData → PyData → Option DF
  | .add, .int i, .int j => some (.int (i + j), false)
  | .add, .tuple a, .tuple b => if a.length + b.length ≤ line then some (.tuple (a ++ b), false) else none
  | .add, .list a, .list b => if a.length + b.length ≤ line then some (.list (a ++ b), true) else none
  | .add, .str a, .str b => if a.length + b.length ≤ line then some (.str (a ++ b), false) else none
  | .sub, .int i, .int j => some (.int (i - j), false)
  | .mul, .int i, .int j => if mulOk i j then some (.int (i * j), false) else none
  | .mul, .list a, .int k => if 0 ≤ k ∧ k < 2 ^ 62 ∧ a.length * k.toNat ≤ line then some (.list (List.replicate k.toNat a).flatten, true) else none
  | .mul, .tuple a, .int k => if a ≠ [] ∧ 2 ≤ k ∧ k ≤ 1000 ∧ a.length ≤ 1000 then some (.tuple (List.replicate k.toNat a).flatten, false) else none
  | .fdiv, .int i, .int j => if divOk j then some (.int (i.fdiv j), false) else none
  | .mod, .int i, .int j => if j ≠ 0 then some (.int (i.fmod j), false) else none
  | .pow, .int i, .int j => if 0 ≤ j ∧ j ≤ 1000000 ∧ i.natAbs < 2 ^ 64 then some (.int (i ^ j.toNat), false) else none
  | _, _, _ => none
def cop : Cop → PyData → PyData → Option Bool
  | .eq, a, b => if okD a && okD b then some (PyData.eqv a b) else none
  | .ne, a, b => if okD a && okD b then some (!PyData.eqv a b) else none
  | .lt, .int i, .int j => some (decide (i < j))
  | .le, .int i, .int j => some (decide (i ≤ j))
  | .gt, .int i, .int j => some (decide (j < i))
  | .ge, .int i, .int j => some (decide (j ≤ i))
  | .isin, a, .list l => if okD a && okD (.list l) then some (l.any fun z => PyData.eqv z a) else none
  | .isin, a, .tuple l => if okD a && okD (.tuple l) then some (l.any fun z => PyData.eqv z a) else none
  | .notin, a, .list l => if okD a && okD (.list l) then some (!l.any fun z => PyData.eqv z a) else none
  | .notin, a, .tuple l => if okD a && okD (.tuple l) then some (!l.any fun z => PyData.eqv z a) else none
  | _, _, _ => none
def isT : Ty → PyData → Bool
  | .int, .int _ => true | .int, .bool _ => true
  | .bool, .bool _ => true
  | .str, .str _ => true
  | .tuple, .tuple _ => true
  | .list, .list _ => true
  | _, _ => false
def intsD : List PyData → Option (List Int)
  | [] => some []
  | .int i :: r => (intsD r).map (i :: ·)
  | _ => none
def boolsD : List PyData → Option (List Bool)
  | [] => some []
  | .bool b :: r => (boolsD r).map (b :: ·)
  | _ => none
def seqD : PyData → Option (List PyData)
  | .list l => some l
  | .tuple l => some l
  | _ => none
/-- a range's intsD, for bounds below 2 ^ 62 -/
def rngD : List PyData → Option (List PyData)
  | [.int j] => if -(2 ^ 62) ≤ j ∧ j < 2 ^ 62 then some ((List.range j.toNat).map fun (k : Nat) => PyData.int (k : Int)) else none
  | [.int i, .int j] => if -(2 ^ 62) ≤ i ∧ i < 2 ^ 62 ∧ -(2 ^ 62) ≤ j ∧ j < 2 ^ 62 then some ((List.range (j - i).toNat).map fun (k : Nat) => PyData.int (i + (k : Int))) else none
  | _ => none
def reprOk (d : PyData) : Bool := d.showable && !d.hasDict && decide (d.depth ≤ 64) && decide (d.shown.length + 64 ≤ line)
def bop2 : Bi → List PyData → Option DF
  | .len, [.list l] => some (.int l.length, false)
  | .len, [.tuple l] => some (.int l.length, false)
  | .len, [.str x] => some (.int x.length, false)
  | .tuple, [.list l] => some (.tuple l, false)
  | .tuple, [.tuple l] => some (.tuple l, false)
  | .list, [.list l] => some (.list l, true)
  | .list, [.tuple l] => some (.list l, true)
  | .listr, ds => (rngD ds).bind fun l => if l.length ≤ line then some (.list l, true) else none
  | .all, [.list l] => (boolsD l).map fun bs => (.bool (bs.all id), false)
  | .any, [.list l] => (boolsD l).map fun bs => (.bool (bs.any id), false)
  | .min2, [.int i, .int j] => some (.int (if j < i then j else i), false)
  | .max2, [.int i, .int j] => some (.int (if j > i then j else i), false)
  | .abs, [.int i] => some (.int (if i < 0 then -i else i), false)
  | .int, [.int i] => some (.int i, false)
  | .int, [.bool b] => some (.int (if b then 1 else 0), false)
  | .repr, [d] => if reprOk d then some (.str d.shown, false) else none
  | _, _ => none
def ixop : PyData → PyData → Option PyData
  | .list l, .int i => atD l i
  | .tuple l, .int i => atD l i
  | .str x, .int i => (atD x.cps.toList i).map fun c => .str ⟨#[c]⟩
  | _, _ => none
def optI : Option PyData → Option (Option Int)
  | none => some none
  | some (.int i) => some (some i)
  | _ => none
def slop (a : PyData) (lo hi : Option Int) : Option DF := match a with
  | .list l => some (.list (cutD l lo hi), true)
  | .tuple l => some (.tuple (cutD l lo hi), false)
  | _ => none

/-! ### the state -/
def getP (s : S) (i : Nat) : Option PyData := match s[i]? with
  | some (some (.pl d)) => some d
  | some (some (.ow d)) => some d
  | some (some (.io d)) => some d
  | _ => none
/-- a name read where its value goes on: an own list is own no more -/
def freeze (s : S) (i : Nat) : S := match s[i]? with
  | some (some (.ow d)) => s.set i (some (.pl d))
  | some (some (.io d)) => s.set i (some (.pl d))
  | _ => s
def wipeS (s : S) : List Nat → S
  | [] => s
  | i :: r => (wipeS s r).set i none
/-- behind a comprehension: its own names as they were -/
def backS (s₀ s : S) : List Nat → S
  | [] => s
  | i :: r => (backS s₀ s r).set i ((s₀[i]?).getD none)
def setAll (s : S) : List Nat → List PyData → Option S
  | [], [] => some s
  | i :: is, d :: ds => setAll (s.set i (some (.pl d))) is ds
  | _, _ => none
def asgT (t : T) (d : PyData) (s : S) : Option S := match t with
  | .nm i => some (s.set i (some (.pl d)))
  | .tp is => match d with
    | .tuple ds => setAll s is ds
    | _ => none
/-- a root's content changed -/
def setRoot (s : S) (i : Nat) (f : PyData → Option PyData) : Option S := match s[i]? with
  | some (some (.ow d)) => (f d).map fun e => s.set i (some (.ow e))
  | some (some (.io d)) => (f d).map fun e => s.set i (some (.io e))
  | _ => none
def ofO {α : Type} (o : Option α) (s : S) : Res α := match o with
  | some a => .ok a s
  | none => .bad
abbrev EvE := R → S → Res DF
def isVar : R → Option Nat
  | .var i => some i
  | _ => none
/-- operands: a name is read last, as it stands when all others are reckoned -/
def pre (ev : EvE) : List R → S → Res (List (Nat ⊕ PyData))
  | [], s => .ok [] s
  | e :: es, s => match isVar e with
    | some i => if (getP s i).isSome then (pre ev es s).bind fun xs s => .ok (.inl i :: xs) s else .bad
    | none => (ev e s).bind fun d s => (pre ev es s).bind fun xs s => .ok (.inr d.1 :: xs) s
def fill (s : S) : List (Nat ⊕ PyData) → Option (List PyData)
  | [] => some []
  | .inl i :: r => (getP s i).bind fun d => (fill s r).map (d :: ·)
  | .inr d :: r => (fill s r).map (d :: ·)
def opds (ev : EvE) (es : List R) (s : S) : Res (List PyData) := (pre ev es s).bind fun xs s => ofO (fill s xs) s
def opd1 (ev : EvE) (a : R) (s : S) (f : PyData → Option DF) : Res DF := (opds ev [a] s).bind fun ds s => match ds with
  | [x] => ofO (f x) s
  | _ => .bad
def opd2 (ev : EvE) (a b : R) (s : S) (f : PyData → PyData → Option DF) : Res DF := (opds ev [a, b] s).bind fun ds s => match ds with
  | [x, y] => ofO (f x y) s
  | _ => .bad
def evL (ev : EvE) : List R → S → Res (List PyData)
  | [], s => .ok [] s
  | e :: es, s => (ev e s).bind fun d s => (evL ev es s).bind fun ds s => .ok (d.1 :: ds) s
/-- arguments of an own def: those that it changes are names of roots, read last -/
def preA (ev : EvE) : List R → List Bool → S → Res (List (Nat ⊕ PyData))
  | [], _, s => .ok [] s
  | e :: es, io, s => match io.head? == some true, isVar e with
    | true, some i => if (getP s i).isSome then (preA ev es io.tail s).bind fun xs s => .ok (.inl i :: xs) s else .bad
    | true, none => .bad
    | false, _ => (ev e s).bind fun d s => (preA ev es io.tail s).bind fun xs s => .ok (.inr d.1 :: xs) s
def fillA (s : S) : List (Nat ⊕ PyData) → Option (List PyData)
  | [] => some []
  | .inl i :: r => match s[i]? with
    | some (some (.ow d)) => (fillA s r).map (d :: ·)
    | some (some (.io d)) => (fillA s r).map (d :: ·)
    | _ => none
  | .inr d :: r => (fillA s r).map (d :: ·)
def slotsOf : List (Nat ⊕ PyData) → List Nat
  | [] => []
  | .inl i :: r => i :: slotsOf r
  | .inr _ :: r => slotsOf r
def noDup : List Nat → Bool
  | [] => true
  | i :: r => !r.contains i && noDup r
def ioBack (s : S) : List (Nat ⊕ PyData) → List PyData → Option S
  | [], [] => some s
  | .inl i :: r, d :: ds => (setRoot s i fun _ => some d).bind fun s => ioBack s r ds
  | .inr _ :: r, ds => ioBack s r ds
  | _, _ => none
def forL (body : PyData → S → Res Flow) : List PyData → S → Res Flow
  | [], s => .ok .nx s
  | d :: ds, s => (body d s).bind fun fl s => match fl with
    | .nx => forL body ds s
    | .ct => forL body ds s
    | .bk => .ok .nx s
    | .rt d f => .ok (.rt d f) s
def whileL (c : S → Res Bool) (body : S → Res Flow) : Nat → S → Res Flow
  | 0, _ => .bad
  | n + 1, s => (c s).bind fun b s => if b then (body s).bind fun fl s => match fl with
    | .nx => whileL c body n s
    | .ct => whileL c body n s
    | .bk => .ok .nx s
    | .rt d f => .ok (.rt d f) s
    else .ok .nx s
def seqL (f : Q → S → Res Flow) : List Q → S → Res Flow
  | [], s => .ok .nx s
  | q :: r, s => (f q s).bind fun fl s => match fl with
    | .nx => seqL f r s
    | fl => .ok fl s
/-- tests of a comprehension, from the left -/
def testsL (ev : R → S → Res Bool) : List R → S → Res Bool
  | [], s => .ok true s
  | e :: es, s => (ev e s).bind fun b s => if b then testsL ev es s else .ok false s
def allT (ev : R → S → Res Bool) : List R → S → Res Bool
  | [], _ => .bad
  | [e], s => ev e s
  | e :: es, s => (ev e s).bind fun b s => if b then allT ev es s else .ok false s
def anyT (ev : R → S → Res Bool) : List R → S → Res Bool
  | [], _ => .bad
  | [e], s => ev e s
  | e :: es, s => (ev e s).bind fun b s => if b then .ok true s else anyT ev es s
def lcL (own : List Nat) (turn : PyData → S → Res (List PyData)) : List PyData → S → Res (List PyData)
  | [], s => .ok [] s
  | d :: ds, s => (turn d (wipeS s own)).bind fun xs s => (lcL own turn ds s).bind fun ys s => .ok (xs ++ ys) s
/-- a comprehension's own names hold no roots around it -/
def plainOwn (s : S) (own : List Nat) : Bool := own.all fun i => match s[i]? with
  | some none => true
  | some (some (.pl _)) => true
  | _ => false
def noErr {α : Type} (r : Res α) : Res α := match r with
  | .err _ _ _ => .bad
  | r => r
def asgR (t : T) (d : PyData) (s : S) : Res Unit := ofO ((asgT t d s)) s |>.bind fun s' _ => .ok () s'

abbrev EvT := R → S → Res Bool
structure Ev where
  e : EvE
  t : EvT
  s : Q → S → Res Flow
  c : Nat → List PyData → CRes
  lv : Nat
def enumD : Nat → List PyData → List PyData
  | _, [] => []
  | k, d :: ds => .tuple [.int k, d] :: enumD (k + 1) ds
/-- what a loop walks -/
def items (p : Ev) (e : R) (s : S) : Res (List PyData) := match e with
  | .rng es => (opds p.e es s).bind fun ds s => ofO (if ds.length = es.length then rngD ds else none) s
  | .enm a => (p.e a s).bind fun d s => ofO ((seqD d.1).map (enumD 0)) s
  | .zip a b => (p.e a s).bind fun d s => (p.e b s).bind fun d' s => ofO ((seqD d.1).bind fun l => (seqD d'.1).map fun l' => (l.zip l').map fun (x, y) => .tuple [x, y]) s
  | e => (p.e e s).bind fun d s => ofO (seqD d.1) s
def andL (ev : EvE) : List R → S → Res DF
  | [], s => .bad
  | [e], s => ev e s
  | e :: es, s => (ev e s).bind fun d s => if tru d.1 then andL ev es s else .ok (d.1, false) s
def orL (ev : EvE) : List R → S → Res DF
  | [], s => .bad
  | [e], s => ev e s
  | e :: es, s => (ev e s).bind fun d s => if tru d.1 then .ok (d.1, false) s else orL ev es s
def bD (o : Option Bool) : Option DF := o.map fun b => (.bool b, false)
def callRes (r : CRes) (xs : List (Nat ⊕ PyData)) (s : S) : Res DF := match r with
  | .ret d f ios => (ofO (ioBack s xs ios) s).bind fun s' _ => .ok (d, f) s'
  | .err c v ios => (ofO (ioBack s xs ios) s).bind fun s' _ => .err c v s'
  | .bad => .bad
/-- keywords: (parameter, value) put behind the positional ones, in the parameters' order -/
def kwOrder {α : Type} : List Nat → List α → Nat → Nat → Option (List α)
  | _, _, _, 0 => some []
  | ks, vs, j, n + 1 => ((ks.zip vs).lookup j).bind fun d => (kwOrder ks vs (j + 1) n).map (d :: ·)
def f1 (f : PyData → Option DF) : List PyData → Option DF
  | [x] => f x
  | _ => none
def f2 (f : PyData → PyData → Option DF) : List PyData → Option DF
  | [x, y] => f x y
  | _ => none
def intO : PyData → Option Int
  | .int i => some i
  | _ => none
def evO (ev : EvE) (e : Option R) (s : S) : Res (Option Int) := match e with
  | none => .ok none s
  | some e => (ev e s).bind fun d s => (ofO (intO d.1) s).bind fun i s => .ok (some i) s
def chainB (ev : EvE) (o q : Cop) (a b c : R) (s : S) : Res Bool := (ev a s).bind fun x s => (ev b s).bind fun y s => (ofO (cop o x.1 y.1) s).bind fun k s =>
  if k then (ev c s).bind fun z s => ofO (cop q y.1 z.1) s else .ok false s
def stepE (P : Prg) (p : Ev) (e : R) (s : S) : Res DF := match e with
  | .var i => match s[i]? with
    | some (some (.pl d)) => .ok (d, false) s
    | some (some (.ow d)) => .ok (d, false) (s.set i (some (.pl d)))
    | some (some (.io d)) => .ok (d, false) (s.set i (some (.pl d)))
    | _ => .bad
  | .non => .ok (.none, false) s
  | .bl b => .ok (.bool b, false) s
  | .int i => .ok (.int i, false) s
  | .str x => if x.length ≤ line then .ok (.str x, false) s else .bad
  | .tup es => (evL p.e es s).bind fun ds s => if ds.length ≤ line then .ok (.tuple ds, false) s else .bad
  | .lst es => (evL p.e es s).bind fun ds s => if ds.length ≤ line then .ok (.list ds, true) s else .bad
  | .bin o a b => opd2 p.e a b s (bop o)
  | .neg a => opd1 p.e a s fun x => match x with | .int i => some (.int (-i), false) | _ => none
  | .cmp o a b => opd2 p.e a b s fun x y => bD (cop o x y)
  | .chain o q a b c => (chainB p.e o q a b c s).bind fun b s => .ok (.bool b, false) s
  | .isn yes a => opd1 p.e a s fun x => match x with | .none => some (.bool yes, false) | _ => some (.bool !yes, false)
  | .isb yes b a => opd1 p.e a s fun x => match x with | .bool c => some (.bool ((c == b) == yes), false) | _ => none
  | .and es => andL p.e es s
  | .or es => orL p.e es s
  | .not a => opd1 p.e a s fun x => some (.bool !(tru x), false)
  | .ife c a b => (p.t c s).bind fun d s => if d then p.e a s else p.e b s
  | .call f es => match P.fns[f]? with
    | some fd => (preA p.e es fd.io s).bind fun xs s => if noDup (slotsOf xs) && xs.length == fd.np then (ofO (fillA s xs) s).bind fun ds s => callRes (p.c f ds) xs s else .bad
    | none => .bad
  | .callk f es ks kws => match P.fns[f]? with
    | some fd => if fd.io.any id then .bad else (evL p.e es s).bind fun ds s => (evL p.e kws s).bind fun ws s =>
        (ofO (kwOrder ks ws es.length (fd.np - es.length)) s).bind fun zs s => if (ds ++ zs).length = fd.np then callRes (p.c f (ds ++ zs)) ((ds ++ zs).map .inr) s else .bad
    | none => .bad
  | .bi b es => (opds p.e es s).bind fun ds s => ofO (bop2 b ds) s
  | .idx a j => opd2 p.e a j s fun x y => (ixop x y).map fun d => (d, false)
  | .slc a lo hi => (pre p.e [a] s).bind fun xs s => (evO p.e lo s).bind fun l s => (evO p.e hi s).bind fun h s => (ofO (fill s xs) s).bind fun ds s => ofO (f1 (fun x => slop x l h) ds) s
  | .rev _ => .bad
  | .lc elt own t it ifs => (items p it s).bind fun ds s₁ => if plainOwn s₁ own then noErr ((lcL own (fun d s => (asgR t d s).bind fun _ s => (testsL p.t ifs s).bind fun b s =>
      if b then (p.e elt s).bind fun x s => .ok [x.1] s else .ok [] s) ds s₁).bind fun l s => if l.length ≤ line then .ok (.list l, true) (backS s₁ s own) else .bad) else .bad
  | .lc2 elt own own2 t it ifs t2 it2 ifs2 => (items p it s).bind fun ds s₁ => if plainOwn s₁ own then noErr ((lcL own (fun d s => (asgR t d s).bind fun _ s => (testsL p.t ifs s).bind fun b s =>
      if b then (items p it2 s).bind fun ds2 s => lcL own2 (fun d s => (asgR t2 d s).bind fun _ s => (testsL p.t ifs2 s).bind fun b s =>
        if b then (p.e elt s).bind fun x s => .ok [x.1] s else .ok [] s) ds2 s else .ok [] s) ds s₁).bind fun l s => if l.length ≤ line then .ok (.list l, true) (backS s₁ s own) else .bad) else .bad
  | .isi a ts => opd1 p.e a s fun x => some (.bool (ts.any fun t => isT t x), false)
  | .isx i c => match s[i]? with
    | some (some (.ex k _)) => match P.exc[k]? with
      | some up => .ok (.bool (up.contains c), false) s
      | none => .bad
    | some (some (.pl .none)) => .ok (.bool false, false) s
    | _ => .bad
  | .xval i => match s[i]? with
    | some (some (.ex _ v)) => .ok (v, false) s
    | _ => .bad
  | .xnone yes i => match s[i]? with
    | some (some (.ex _ _)) => .ok (.bool !yes, false) s
    | some (some (.pl .none)) => .ok (.bool yes, false) s
    | _ => .bad
  | .rng _ => .bad
  | .enm _ => .bad
  | .zip _ _ => .bad
  | .pop _ _ => .bad
/-- a test -/
def stepT (P : Prg) (p : Ev) (e : R) (s : S) : Res Bool := match e with
  | .var i => ofO ((getP s i).map tru) s
  | .not a => (p.t a s).bind fun b s => .ok (!b) s
  | .and es => allT p.t es s
  | .or es => anyT p.t es s
  | .ife c a b => (p.t c s).bind fun d s => if d then p.t a s else p.t b s
  | e => (stepE P p e s).bind fun d s => .ok (tru d.1) s
def whileMost : Nat := 100000
def toFlow (r : Res Unit) : Res Flow := r.bind fun _ s => .ok .nx s
def setR (o : Option S) : Res Flow := match o with
  | some s => .ok .nx s
  | none => .bad
def appD (d : PyData) : PyData → Option PyData
  | .list l => if l.length < line then some (.list (l ++ [d])) else none
  | _ => none
def extD (d : PyData) : PyData → Option PyData
  | .list l => match d with
    | .list m => if l.length + m.length ≤ line then some (.list (l ++ m)) else none
    | _ => none
  | _ => none
def setD (j d : PyData) : PyData → Option PyData
  | .list l => match j with
    | .int i => (ixD l.length i).map fun k => .list (l.set k d)
    | _ => none
  | _ => none
def stepS (P : Prg) (p : Ev) (q : Q) (s : S) : Res Flow := match q with
  | .asg t e => (p.e e s).bind fun d s => match t with
    | .nm i => .ok .nx (s.set i (some (if d.2 then .ow d.1 else .pl d.1)))
    | t => setR (asgT t d.1 s)
  | .par is es => (evL p.e es s).bind fun ds s => setR (setAll s is ds)
  | .app i e => (p.e e s).bind fun d s => setR (setRoot s i (appD d.1))
  | .ext i e => (opds p.e [e] s).bind fun ds s => match ds with
    | [d] => setR (setRoot s i (extD d))
    | _ => .bad
  | .ins _ _ _ => .bad
  | .setix i j e => (p.e e s).bind fun d s => if (getP s i).isSome then (p.e j s).bind fun j s => setR (setRoot s i (setD j.1 d.1)) else .bad
  | .aug i o e => opd2 p.e (.var i) e s (bop o) |>.bind fun d s => .ok .nx (s.set i (some (.pl d.1)))
  | .ifs c a b => (p.t c s).bind fun d s => if d then seqL p.s a s else seqL p.s b s
  | .for_ t it b => (items p it s).bind fun ds s => forL (fun d s => (asgR t d s).bind fun _ s => seqL p.s b s) ds s
  | .whl c b => whileL (p.t c) (seqL p.s b) whileMost s
  | .ret e => match isVar e with
    | some i => match s[i]? with
      | some (some (.pl d)) => .ok (.rt d false) s
      | some (some (.ow d)) => .ok (.rt d true) (s.set i none)
      | _ => .bad
    | none => (p.e e s).bind fun d s => .ok (.rt d.1 d.2) s
  | .raise c e => if p.lv < 4 then .bad else (p.e e s).bind fun d s => .err c d.1 s
  | .expr e => (p.e e s).bind fun _ s => .ok .nx s
  | .try_ b c ie io => match seqL p.s b s with
    | .err k v s => match P.exc[k]? with
      | some up => if up.contains c then .ok .nx ((s.set io (some (.ex k v))).set ie none) else .err k v s
      | none => .bad
    | r => r
  | .pass => .ok .nx s
  | .brk => .ok .bk s
  | .doc => .ok .nx s
/-- the slots of the parameters at a call -/
def start : List Bool → List PyData → List (Option Cell)
  | _, [] => []
  | true :: io, d :: ds => some (.io d) :: start io ds
  | _ :: io, d :: ds => some (.pl d) :: start io ds
  | [], d :: ds => some (.pl d) :: start [] ds
def iosOf : List Bool → S → Option (List PyData)
  | [], _ => some []
  | true :: io, some (.io d) :: s => (iosOf io s).map (d :: ·)
  | false :: io, _ :: s => iosOf io s
  | _, _ => none
/-- evaluation within a def, by the depth of the text; c: its calls -/
def evN (P : Prg) (lv : Nat) (c : Nat → List PyData → CRes) : Nat → Ev
  | 0 => ⟨fun _ _ => .bad, fun _ _ => .bad, fun _ _ => .bad, c, lv⟩
  | n + 1 => ⟨stepE P (evN P lv c n), stepT P (evN P lv c n), stepS P (evN P lv c n), c, lv⟩
def runF (p : Ev) (fd : FnD) (ds : List PyData) : CRes :=
  if ds.length ≠ fd.np ∨ fd.io.length ≠ fd.np then .bad else match seqL p.s fd.body (start fd.io ds ++ List.replicate (fd.ns - fd.np) none) with
    | .ok fl s => match iosOf fd.io s with
      | none => .bad
      | some ios => match fl with
        | .nx => .ret .none false ios
        | .rt d f => .ret d f ios
        | _ => .bad
    | .err c v s => match iosOf fd.io s with
      | none => .bad
      | some ios => .err c v ios
    | .bad => .bad
/-- the depth of a def's text -/
def deep : Nat := 60
/-- a call, at most so many calls deep -/
def runK (P : Prg) : Nat → Nat → List PyData → CRes
  | 0, _, _ => .bad
  | k + 1, f, ds => match P.fns[f]? with
    | none => .bad
    | some fd => runF (evN P k (runK P k) deep) fd ds
end Pv
/-! Pv2: how a value stands in the abstract heap, how the slots do. -/
namespace Pv
open PySem L2

abbrev Frag := PySem.W.Frag
abbrev ASet := Addr → Prop
/-- a list that is read: tracked (or locked) and not to be changed by us, or an object of the top -/
def LsAt (K : Frag) (A : ASet) (H : Hp) (a : Addr) (xs : List V) : Prop :=
  (Rd H a (.lst xs) ∧ ¬ A a) ∨ (∃ (its : Array Value) (n : Nat), K.lookup a = some { cls := .type "list", data := .seq its n } ∧ its.size ≤ sizeLine ∧ Vals xs its.toList)
/-- a list that is read -/
def LsR (K : Frag) (H : Hp) (a : Addr) (xs : List V) : Prop :=
  Rd H a (.lst xs) ∨ (∃ (its : Array Value) (n : Nat), K.lookup a = some { cls := .type "list", data := .seq its n } ∧ its.size ≤ sizeLine ∧ Vals xs its.toList)
theorem LsR.sq {K : Frag} {H : Hp} {a : Addr} {xs : List V} (h : LsR K H a xs) : SqL K H a xs := h.imp id fun ⟨its, n, e, z, r⟩ => ⟨_, its, n, e, rfl, rfl, rfl, z, r⟩
theorem LsAt.rd {K : Frag} {A : ASet} {H : Hp} {a : Addr} {xs : List V} (h : LsAt K A H a xs) : LsR K H a xs := h.elim (fun x => .inl x.1) .inr
theorem LsAt.sq {K : Frag} {A : ASet} {H : Hp} {a : Addr} {xs : List V} (h : LsAt K A H a xs) : SqL K H a xs := h.rd.sq
theorem LsR.obj {X : Cx} {pins : List (Addr × Obj)} {σ : St} {H : Hp} {s : Shared} {a : Addr} {xs : List V} (I : Inv X pins σ H s) (h : LsR X.K H a xs) :
    xs.length ≤ sizeLine ∧ ∃ (its : List Value) (n : Nat), Vals xs its ∧ xs.length = its.length ∧ s.heap.get? a = some { cls := .type "list", data := .seq its.toArray n } := by
  rcases h with h | ⟨its, n, e, z, r⟩
  · obtain ⟨z, its, n, r, e⟩ := h.ok I.hok
    exact ⟨z, its, n, r, r.length, e⟩
  · refine ⟨?_, its.toList, n, r, r.length, by simpa using I.kIn a _ e⟩
    have l := r.length
    simp only [Array.length_toList] at l
    omega
mutual
/-- the value v reads as d; none of its lists stands at an address of A -/
inductive Rp (K : Frag) (A : ASet) (H : Hp) : V → PyData → Prop
  | non : Rp K A H .non .none
  | bl (b : Bool) : Rp K A H (.bl b) (.bool b)
  | int (i : Int) : Rp K A H (.int i) (.int i)
  | str (x : Str) : x.length ≤ line → Rp K A H (.str x) (.str x)
  | lst {a : Addr} {xs : List V} {ds : List PyData} : LsAt K A H a xs → Rps K A H xs ds → Rp K A H (.ref a) (.list ds)
  | tup {a : Addr} {xs : List V} {ds : List PyData} : SqT K H a xs → Rps K A H xs ds → Rp K A H (.ref a) (.tuple ds)
inductive Rps (K : Frag) (A : ASet) (H : Hp) : List V → List PyData → Prop
  | nil : Rps K A H [] []
  | cons {v : V} {vs : List V} {d : PyData} {ds : List PyData} : Rp K A H v d → Rps K A H vs ds → Rps K A H (v :: vs) (d :: ds)
end
section
variable {K : Frag} {A A' : ASet} {H H' : Hp}
/-- what a change of the heap keeps: all tracked things out of A; what is tracked stays tracked -/
structure Kp (A : ASet) (H H' : Hp) : Prop where
  at_ : ∀ b o, H b = some o → ¬ A b → H' b = some o
  tr : ∀ b, H' b = none → H b = none
theorem Kp.refl : Kp A H H := ⟨fun _ _ h _ => h, fun _ h => h⟩
theorem Kp.trans {H'' : Hp} (x : Kp A H H') (y : Kp A' H' H'') (h : ∀ a, A' a → A a ∨ H a = none) : Kp A H H'' :=
  ⟨fun b o e n => y.at_ b o (x.at_ b o e n) fun z => (h b z).elim n fun q => (by rw [e] at q; cases q), fun b e => x.tr b (y.tr b e)⟩
theorem Kp.weak (x : Kp A H H') (h : ∀ a, A a → A' a) : Kp A' H H' := ⟨fun b o e n => x.at_ b o e fun z => n (h b z), x.tr⟩
theorem Kp.new {p : Addr} {o : HO} (h : H p = none) : Kp A H (upd H p o) := by
  refine ⟨fun b u e _ => ?_, fun b e => ?_⟩
  · rw [upd_ne (ne_of_none e h)]; exact e
  · by_cases hb : b = p
    · subst hb; rw [upd_same] at e; cases e
    · rw [upd_ne hb] at e; exact e
theorem Kp.put {p : Addr} {o : HO} (h : A p) : Kp A H (upd H p o) := by
  refine ⟨fun b u e n => ?_, fun b e => ?_⟩
  · rw [upd_ne (fun z => n (by rw [z]; exact h))]; exact e
  · by_cases hb : b = p
    · subst hb; rw [upd_same] at e; cases e
    · rw [upd_ne hb] at e; exact e
theorem LsAt.keep {a : Addr} {xs : List V} (k : Kp A H H') (h : LsAt K A H a xs) : LsAt K A H' a xs := by
  rcases h with ⟨(h | ⟨o, h⟩), n⟩ | h
  · exact .inl ⟨.inl (k.at_ _ _ h n), n⟩
  · exact .inl ⟨.inr ⟨o, k.at_ _ _ h n⟩, n⟩
  · exact .inr h
theorem LsAt.weak {a : Addr} {xs : List V} (k : ∀ b, A' b → A b) (h : LsAt K A H a xs) : LsAt K A' H a xs := h.elim (fun x => .inl ⟨x.1, fun z => x.2 (k a z)⟩) .inr
theorem Rd.some_ {a : Addr} {u : HO} (h : Rd H a u) : H a ≠ none := by
  rcases h with h | ⟨o, h⟩ <;> (rw [h]; exact fun z => by cases z)
/-- an address that is not tracked may be avoided too -/
theorem LsAt.more {a p : Addr} {xs : List V} (hp : H p = none) (h : LsAt K A H a xs) : LsAt K (fun b => A b ∨ b = p) H a xs := by
  rcases h with ⟨h, n⟩ | h
  · refine .inl ⟨h, fun z => ?_⟩
    rcases z with z | z
    · exact n z
    · rw [z] at h; exact Rd.some_ h hp
  · exact .inr h
theorem SqT.keep {a : Addr} {xs : List V} (k : Kp A H H') (hA : ∀ b, A b → ∀ ys, ¬ Rd H b (.tup ys)) (h : SqT K H a xs) : SqT K H' a xs := by
  rcases h with h | h
  · have n : ¬ A a := fun z => hA a z xs h
    rcases h with h | ⟨o, h⟩
    · exact .inl (.inl (k.at_ _ _ h n))
    · exact .inl (.inr ⟨o, k.at_ _ _ h n⟩)
  · exact .inr h
/-- no tuple stands at an address of A -/
def NoTup (A : ASet) (H : Hp) : Prop := ∀ b, A b → ∀ ys, ¬ Rd H b (.tup ys)
mutual
theorem Rp.keep (k : Kp A H H') (hA : NoTup A H) : ∀ {v : V} {d : PyData}, Rp K A H v d → Rp K A H' v d
  | _, _, .non => .non
  | _, _, .bl b => .bl b
  | _, _, .int i => .int i
  | _, _, .str x h => .str x h
  | _, _, .lst h r => .lst (h.keep k) (Rps.keep k hA r)
  | _, _, .tup h r => .tup (SqT.keep k hA h) (Rps.keep k hA r)
theorem Rps.keep (k : Kp A H H') (hA : NoTup A H) : ∀ {vs : List V} {ds : List PyData}, Rps K A H vs ds → Rps K A H' vs ds
  | _, _, .nil => .nil
  | _, _, .cons h r => .cons (Rp.keep k hA h) (Rps.keep k hA r)
end
mutual
theorem Rp.weak (k : ∀ b, A' b → A b) : ∀ {v : V} {d : PyData}, Rp K A H v d → Rp K A' H v d
  | _, _, .non => .non
  | _, _, .bl b => .bl b
  | _, _, .int i => .int i
  | _, _, .str x h => .str x h
  | _, _, .lst h r => .lst (h.weak k) (Rps.weak k r)
  | _, _, .tup h r => .tup h (Rps.weak k r)
theorem Rps.weak (k : ∀ b, A' b → A b) : ∀ {vs : List V} {ds : List PyData}, Rps K A H vs ds → Rps K A' H vs ds
  | _, _, .nil => .nil
  | _, _, .cons h r => .cons (Rp.weak k h) (Rps.weak k r)
end
mutual
theorem Rp.more {p : Addr} (hp : H p = none) : ∀ {v : V} {d : PyData}, Rp K A H v d → Rp K (fun b => A b ∨ b = p) H v d
  | _, _, .non => .non
  | _, _, .bl b => .bl b
  | _, _, .int i => .int i
  | _, _, .str x h => .str x h
  | _, _, .lst h r => .lst (h.more hp) (Rps.more hp r)
  | _, _, .tup h r => .tup h (Rps.more hp r)
theorem Rps.more {p : Addr} (hp : H p = none) : ∀ {vs : List V} {ds : List PyData}, Rps K A H vs ds → Rps K (fun b => A b ∨ b = p) H vs ds
  | _, _, .nil => .nil
  | _, _, .cons h r => .cons (Rp.more hp h) (Rps.more hp r)
end
mutual
theorem Rp.dp : ∀ {v : V} {d : PyData}, Rp K A H v d → Dp K H v d
  | _, _, .non => .non
  | _, _, .bl b => .bl b
  | _, _, .int i => .int i
  | _, _, .str x h => .str x
  | _, _, .lst h r => .lst h.sq (Rps.dp r)
  | _, _, .tup h r => .tup h (Rps.dp r)
theorem Rps.dp : ∀ {vs : List V} {ds : List PyData}, Rps K A H vs ds → DpAll K H vs ds
  | _, _, .nil => .nil
  | _, _, .cons h r => .cons (Rp.dp h) (Rps.dp r)
end
theorem Rps.len : ∀ {vs : List V} {ds : List PyData}, Rps K A H vs ds → vs.length = ds.length
  | _, _, .nil => rfl
  | _, _, .cons _ r => by simp [Rps.len r]
theorem Rps.app : ∀ {vs ws : List V} {ds es : List PyData}, Rps K A H vs ds → Rps K A H ws es → Rps K A H (vs ++ ws) (ds ++ es)
  | _, _, _, _, .nil, r => r
  | _, _, _, _, .cons h r, q => .cons h (Rps.app r q)
theorem Rps.get : ∀ {vs : List V} {ds : List PyData} {i : Nat} {d : PyData}, Rps K A H vs ds → ds[i]? = some d → ∃ v, vs[i]? = some v ∧ Rp K A H v d
  | _, _, _, _, .nil, e => by simp at e
  | _, _, 0, _, .cons h _, e => by simp at e; subst e; exact ⟨_, rfl, h⟩
  | _, _, i + 1, _, .cons _ r, e => by
    obtain ⟨v, h1, h2⟩ := Rps.get (i := i) r (by simpa using e)
    exact ⟨v, by simpa using h1, h2⟩
theorem Rps.get' : ∀ {vs : List V} {ds : List PyData} {i : Nat} {v : V}, Rps K A H vs ds → vs[i]? = some v → ∃ d, ds[i]? = some d ∧ Rp K A H v d
  | _, _, _, _, .nil, e => by simp at e
  | _, _, 0, _, .cons h _, e => by simp at e; subst e; exact ⟨_, rfl, h⟩
  | _, _, i + 1, _, .cons _ r, e => by
    obtain ⟨v, h1, h2⟩ := Rps.get' (i := i) r (by simpa using e)
    exact ⟨v, by simpa using h1, h2⟩
theorem Rps.set : ∀ {vs : List V} {ds : List PyData} (i : Nat) {v : V} {d : PyData}, Rps K A H vs ds → Rp K A H v d → Rps K A H (vs.set i v) (ds.set i d)
  | _, _, _, _, _, .nil, _ => .nil
  | _, _, 0, _, _, .cons _ r, q => .cons q r
  | _, _, i + 1, _, _, .cons h r, q => .cons h (Rps.set i r q)
theorem Rps.take : ∀ {vs : List V} {ds : List PyData} (n : Nat), Rps K A H vs ds → Rps K A H (vs.take n) (ds.take n)
  | _, _, 0, _ => .nil
  | _, _, _ + 1, .nil => .nil
  | _, _, n + 1, .cons h r => .cons h (Rps.take n r)
theorem Rps.drop : ∀ {vs : List V} {ds : List PyData} (n : Nat), Rps K A H vs ds → Rps K A H (vs.drop n) (ds.drop n)
  | _, _, 0, r => r
  | _, _, _ + 1, .nil => .nil
  | _, _, n + 1, .cons _ r => Rps.drop n r
theorem Rps.rep {vs : List V} {ds : List PyData} (h : Rps K A H vs ds) : ∀ n : Nat, Rps K A H (List.replicate n vs).flatten (List.replicate n ds).flatten
  | 0 => .nil
  | n + 1 => by
    rw [List.replicate_succ, List.replicate_succ, List.flatten_cons, List.flatten_cons]
    exact Rps.app h (Rps.rep h n)
end

/-! ### the slots -/
/-- what a def's run stands upon: the heap at its entry, the addresses of the lists that it was handed to change (by slot), what it may not reach, the addresses of the classes of errors -/
structure Vw where
  K : Frag
  H0 : Hp
  io : Nat → Option Addr
  Ex : ASet
  cls : Nat → Option Addr
def Vw.ex (B : Vw) (a : Addr) : Vw := { B with Ex := fun b => B.Ex b ∨ b = a }
/-- slot i holds a root that stands at a -/
def Rt (σ : S) (σV : St) (i : Nat) (a : Addr) : Prop := (∃ d, σ[i]? = some (some (.ow d)) ∨ σ[i]? = some (some (.io d))) ∧ σV[i]? = some (some (.ref a))
def RO (σ : S) (σV : St) : ASet := fun a => ∃ i, Rt σ σV i a
def Av (B : Vw) (σ : S) (σV : St) : ASet := fun a => RO σ σV a ∨ B.Ex a
/-- a root's content -/
def RootD (K : Frag) (A : ASet) (H : Hp) (a : Addr) : PyData → Prop
  | .list ds => ∃ xs, H a = some (.lst xs) ∧ Rps K A H xs ds
  | _ => False
/-- an error object at v -/
def ErrV (B : Vw) (A : ASet) (H : Hp) (v : V) (c : Nat) (d : PyData) : Prop :=
  ∃ (a dx C : Addr) (w : V), v = .ref a ∧ B.cls c = some C ∧ H a = some (.ext fun h => ∃ (oe : Obj) (vs : Array Value), h.get? a = some oe ∧ Zc (.ref C) (some dx) oe ∧ oe.data = .fields vs) ∧ H dx = some (.xd [("value", w)]) ∧ ¬ A a ∧ ¬ A dx ∧ Rp B.K A H w d
def CellOk (B : Vw) (A : ASet) (H : Hp) (i : Nat) (v : V) : Cell → Prop
  | .pl d => Rp B.K A H v d
  | .ow d => ∃ a, v = .ref a ∧ RootD B.K A H a d ∧ B.H0 a = none
  | .io d => ∃ a, v = .ref a ∧ RootD B.K A H a d ∧ B.io i = some a
  | .ex c d => ErrV B A H v c d
structure Rep (B : Vw) (H : Hp) (σ : S) (σV : St) : Prop where
  len : σ.length = σV.length
  cell : ∀ i c, σ[i]? = some (some c) → ∃ v, σV[i]? = some (some v) ∧ CellOk B (Av B σ σV) H i v c
  inj : ∀ i j a, Rt σ σV i a → Rt σ σV j a → i = j
  exr : ∀ a, RO σ σV a → ¬ B.Ex a
  ext : ∀ b, H b = none → B.H0 b = none
  kp : ∀ b o, B.H0 b = some o → (∀ i, B.io i ≠ some b) → H b = some o
  nt : NoTup (Av B σ σV) H
  exT : ∀ a, B.Ex a → H a ≠ none
/-- v is d; fr: a new list (since H) that nobody else holds -/
def Val (B : Vw) (H : Hp) (σ : S) (σV : St) (H' : Hp) (v : V) (d : DF) : Prop :=
  if d.2 then ∃ a, v = .ref a ∧ H a = none ∧ ¬ Av B σ σV a ∧ Rep (B.ex a) H' σ σV ∧ RootD B.K (Av (B.ex a) σ σV) H' a d.1
  else Rp B.K (Av B σ σV) H' v d.1
section
variable {B : Vw} {A A' : ASet} {H H' : Hp} {σ σ' : S} {σV : St} {i : Nat} {v : V} {a : Addr}
theorem RootD.rp {K : Frag} {d : PyData} (h : RootD K A H a d) (w : ∀ b, A' b → A b) (n : ¬ A' a) : Rp K A' H (.ref a) d := by
  cases d with
  | list ds =>
    obtain ⟨xs, e, r⟩ := h
    exact .lst (.inl ⟨.inl e, n⟩) (r.weak w)
  | _ => exact h.elim
theorem RootD.dp {K : Frag} {d : PyData} (h : RootD K A H a d) : Dp K H (.ref a) d := (h.rp (A' := fun _ => False) (fun _ z => z.elim) (fun z => z)).dp
theorem Val.rp {d : DF} (r : Rep B H' σ σV) (h : Val B H σ σV H' v d) : Rp B.K (Av B σ σV) H' v d.1 := by
  obtain ⟨d, fr⟩ := d
  cases fr with
  | false => exact h
  | true =>
    obtain ⟨a, rfl, n, nr, q, hd⟩ := h
    exact hd.rp (fun b z => z.elim .inl fun y => .inr (.inl y)) nr
theorem RootD.weak {K : Frag} {d : PyData} (k : ∀ b, A' b → A b) (h : RootD K A H a d) : RootD K A' H a d := by
  cases d with
  | list ds => obtain ⟨xs, e, r⟩ := h; exact ⟨xs, e, r.weak k⟩
  | _ => exact h.elim
theorem RootD.at_ {K : Frag} {d : PyData} (h : RootD K A H a d) : ∃ xs, H a = some (.lst xs) := by
  cases d with
  | list ds => obtain ⟨xs, e, r⟩ := h; exact ⟨xs, e⟩
  | _ => exact h.elim
theorem RootD.keep {K : Frag} {d : PyData} (k : Kp A H H') (hA : NoTup A H) (e : ∀ o, H a = some o → H' a = some o) (h : RootD K A H a d) : RootD K A H' a d := by
  cases d with
  | list ds => obtain ⟨xs, q, r⟩ := h; exact ⟨xs, e _ q, r.keep k hA⟩
  | _ => exact h.elim
theorem CellOk.weak {c : Cell} (k : ∀ b, A' b → A b) (h : CellOk B A H i v c) : CellOk B A' H i v c := by
  cases c with
  | pl d => exact Rp.weak k h
  | ow d => obtain ⟨a, e, r, q⟩ := h; exact ⟨a, e, r.weak k, q⟩
  | io d => obtain ⟨a, e, r, q⟩ := h; exact ⟨a, e, r.weak k, q⟩
  | ex c d => obtain ⟨a, dx, C, w, e, q, h1, h2, n1, n2, r⟩ := h; exact ⟨a, dx, C, w, e, q, h1, h2, fun z => n1 (k _ z), fun z => n2 (k _ z), r.weak k⟩
/-- all tracked things stay but those that we may not reach -/
theorem Rep.heap (r : Rep B H σ σV) (h1 : ∀ b o, H b = some o → ¬ B.Ex b → H' b = some o) (h2 : ∀ b, H' b = none → H b = none) (h3 : ∀ b, B.Ex b → ∀ ys, ¬ Rd H' b (.tup ys)) (h4 : ∀ b, B.Ex b → B.H0 b = none ∨ H b = H' b) : Rep B H' σ σV := by
  have k : Kp (Av B σ σV) H H' := ⟨fun b o e n => h1 b o e fun z => n (.inr z), h2⟩
  refine ⟨r.len, fun i c e => ?_, r.inj, r.exr, fun b e => r.ext b (h2 b e), fun b o e n => ?_, fun b hb ys => ?_, fun a ha e => r.exT a ha (h2 a e)⟩
  · obtain ⟨v, ev, hc⟩ := r.cell i c e
    refine ⟨v, ev, ?_⟩
    have rt : ∀ d a, (c = .ow d ∨ c = .io d) → v = .ref a → ∀ o, H a = some o → H' a = some o := fun d a hcd hv o q =>
      h1 a o q (r.exr a ⟨i, ⟨d, hcd.elim (fun z => .inl (by rw [e, z])) fun z => .inr (by rw [e, z])⟩, by rw [ev, hv]⟩)
    cases c with
    | pl d => exact Rp.keep k r.nt hc
    | ow d => obtain ⟨a, ea, q, z⟩ := hc; exact ⟨a, ea, q.keep k r.nt (rt d a (.inl rfl) ea), z⟩
    | io d => obtain ⟨a, ea, q, z⟩ := hc; exact ⟨a, ea, q.keep k r.nt (rt d a (.inr rfl) ea), z⟩
    | ex c d =>
      obtain ⟨a, dx, C, w, ea, q, e1, e2, n1, n2, q2⟩ := hc
      exact ⟨a, dx, C, w, ea, q, k.at_ _ _ e1 n1, k.at_ _ _ e2 n2, n1, n2, q2.keep k r.nt⟩
  · have q := r.kp b o e n
    by_cases hb : B.Ex b
    · rcases h4 b hb with z | z
      · rw [z] at e; cases e
      · rw [← z]; exact q
    · exact h1 b o q hb
  · rcases hb with hb | hb
    · intro z
      obtain ⟨j, hj⟩ := hb
      obtain ⟨⟨d, hd⟩, hv⟩ := id hj
      have ne : ¬ B.Ex b := r.exr b ⟨j, hj⟩
      have lst : ∃ xs, H b = some (.lst xs) := by
        rcases hd with hd | hd
        · obtain ⟨v, ev, a, ea, q, _⟩ := r.cell j _ hd
          rw [hv] at ev; cases ev; cases ea; exact q.at_
        · obtain ⟨v, ev, a, ea, q, _⟩ := r.cell j _ hd
          rw [hv] at ev; cases ev; cases ea; exact q.at_
      obtain ⟨xs, q⟩ := lst
      have q' := h1 b _ q ne
      rcases z with z | ⟨o, z⟩ <;> (rw [q'] at z; cases z)
    · exact h3 b hb ys
/-- a new object -/
theorem Rep.new {p : Addr} {o : HO} (r : Rep B H σ σV) (hp : H p = none) : Rep B (upd H p o) σ σV := by
  have np : ∀ b, B.Ex b → b ≠ p := fun b hb z => r.exT b hb (by rw [z]; exact hp)
  refine r.heap (fun b u e _ => (by rw [upd_ne (ne_of_none e hp)]; exact e)) (fun b e => ?_) (fun b hb ys z => ?_) fun b hb => .inr (upd_ne (np b hb)).symm
  · by_cases hb : b = p
    · subst hb; rw [upd_same] at e; cases e
    · rw [upd_ne hb] at e; exact e
  · refine r.nt b (.inr hb) ys ?_
    rcases z with z | ⟨u, z⟩
    · rw [upd_ne (np b hb)] at z; exact .inl z
    · rw [upd_ne (np b hb)] at z; exact .inr ⟨u, z⟩
/-- no slot reaches a new object -/
theorem Rep.avoid {p : Addr} (r : Rep B H σ σV) (hp : H p = none) : ∀ {v : V} {d : PyData}, Rp B.K (Av B σ σV) H v d → Rp B.K (Av (B.ex p) σ σV) H v d := fun h =>
  (Rp.more hp h).weak fun b z => z.elim (fun y => .inl (.inl y)) fun y => y.elim (fun x => .inl (.inr x)) .inr
theorem Rep.avoids {p : Addr} (r : Rep B H σ σV) (hp : H p = none) : ∀ {v : List V} {d : List PyData}, Rps B.K (Av B σ σV) H v d → Rps B.K (Av (B.ex p) σ σV) H v d := fun h =>
  (Rps.more hp h).weak fun b z => z.elim (fun y => .inl (.inl y)) fun y => y.elim (fun x => .inl (.inr x)) .inr
theorem RootD.avoid {d : PyData} {p : Addr} (hp : H p = none) (h : RootD B.K (Av B σ σV) H a d) : RootD B.K (Av (B.ex p) σ σV) H a d := by
  cases d with
  | list ds =>
    obtain ⟨xs, e, r⟩ := h
    exact ⟨xs, e, (Rps.more hp r).weak fun b z => z.elim (fun y => .inl (.inl y)) fun y => y.elim (fun x => .inl (.inr x)) .inr⟩
  | _ => exact h.elim
/-- a new list: put under what is not to be reached -/
theorem Rep.newEx {p : Addr} {xs : List V} (r : Rep B H σ σV) (hp : H p = none) : Rep (B.ex p) (upd H p (.lst xs)) σ σV := by
  have r0 := r.new (o := .lst xs) hp
  have np : ∀ b, Av B σ σV b → b ≠ p := fun b hb z => by
    rcases hb with hb | hb
    · obtain ⟨j, ⟨d, hd⟩, hv⟩ := hb
      have lst : ∃ xs, H b = some (.lst xs) := by
        rcases hd with hd | hd
        · obtain ⟨v, ev, a, ea, q, _⟩ := r.cell j _ hd
          rw [hv] at ev; cases ev; cases ea; exact q.at_
        · obtain ⟨v, ev, a, ea, q, _⟩ := r.cell j _ hd
          rw [hv] at ev; cases ev; cases ea; exact q.at_
      obtain ⟨xs, q⟩ := lst
      rw [z, hp] at q; cases q
    · exact r.exT b hb (by rw [z]; exact hp)
  have k : Kp (Av (B.ex p) σ σV) H (upd H p (.lst xs)) := Kp.put (.inr (.inr rfl))
  have nt' : NoTup (Av (B.ex p) σ σV) H := fun b hb ys z => by
    rcases hb with hb | (hb | hb)
    · exact r.nt b (.inl hb) ys z
    · exact r.nt b (.inr hb) ys z
    · rw [hb] at z; exact Rd.some_ z hp
  refine ⟨r0.len, fun i c e => ?_, r0.inj, fun a ha z => ?_, r0.ext, r0.kp, fun b hb ys z => ?_, fun a ha e => ?_⟩
  · obtain ⟨v, ev, hc⟩ := r.cell i c e
    refine ⟨v, ev, ?_⟩
    have rt : ∀ a o, H a = some o → upd H p (.lst xs) a = some o := fun a o q => by rw [upd_ne (ne_of_none q hp)]; exact q
    cases c with
    | pl d => exact Rp.keep k nt' (r.avoid hp hc)
    | ow d => obtain ⟨a, ea, q, z⟩ := hc; exact ⟨a, ea, (q.avoid hp).keep k nt' (rt a), z⟩
    | io d => obtain ⟨a, ea, q, z⟩ := hc; exact ⟨a, ea, (q.avoid hp).keep k nt' (rt a), z⟩
    | ex c d =>
      obtain ⟨a, dx, C, w, ea, q, e1, e2, n1, n2, q2⟩ := hc
      exact ⟨a, dx, C, w, ea, q, rt _ _ e1, rt _ _ e2, fun z => z.elim (fun y => n1 (.inl y)) fun y => y.elim (fun x => n1 (.inr x)) fun x => (by rw [x, hp] at e1; cases e1),
        fun z => z.elim (fun y => n2 (.inl y)) fun y => y.elim (fun x => n2 (.inr x)) fun x => (by rw [x, hp] at e2; cases e2), (r.avoid hp q2).keep k nt'⟩
  · rcases z with z | z
    · exact r.exr a ha z
    · exact np a (.inl ha) z
  · rcases hb with hb | (hb | hb)
    · exact r0.nt b (.inl hb) ys z
    · exact r0.nt b (.inr hb) ys z
    · rw [hb] at z
      rcases z with z | ⟨u, z⟩ <;> (rw [upd_same] at z; cases z)
  · rcases ha with ha | ha
    · exact r0.exT a ha e
    · rw [ha, upd_same] at e; cases e
theorem Rep.unex (r : Rep (B.ex a) H σ σV) : Rep B H σ σV :=
  ⟨r.len, fun i c e => let ⟨v, ev, h⟩ := r.cell i c e; ⟨v, ev, by
      have h' : CellOk B (Av (B.ex a) σ σV) H i v c := by cases c <;> exact h
      exact h'.weak fun b z => z.elim .inl fun y => .inr (.inl y)⟩,
    r.inj, fun b hb z => r.exr b hb (.inl z), r.ext, r.kp, fun b hb => r.nt b (hb.elim .inl fun y => .inr (.inl y)), fun b hb => r.exT b (.inl hb)⟩
/-- the slots' cells change, the slots themselves do not: each cell as it was, or plain -/
theorem Rep.cells (r : Rep B H σ σV) (hl : σ'.length = σ.length) (h : ∀ (i : Nat) (c : Cell), σ'[i]? = some (some c) → σ[i]? = some (some c) ∨ ∃ d v, c = .pl d ∧ σV[i]? = some (some v) ∧ Rp B.K (Av B σ' σV) H v d) : Rep B H σ' σV := by
  have ro : ∀ i a, Rt σ' σV i a → Rt σ σV i a := fun i a ⟨⟨d, hd⟩, hv⟩ => by
    refine ⟨⟨d, ?_⟩, hv⟩
    rcases hd with hd | hd
    · rcases h i _ hd with z | ⟨d', v, z, _⟩
      · exact .inl z
      · cases z
    · rcases h i _ hd with z | ⟨d', v, z, _⟩
      · exact .inr z
      · cases z
  have av : ∀ b, Av B σ' σV b → Av B σ σV b := fun b z => z.elim (fun ⟨i, y⟩ => .inl ⟨i, ro i b y⟩) .inr
  refine ⟨hl.trans r.len, fun i c e => ?_, fun i j a x y => r.inj i j a (ro i a x) (ro j a y), fun a ⟨i, x⟩ => r.exr a ⟨i, ro i a x⟩, r.ext, r.kp, fun b hb => r.nt b (av b hb), r.exT⟩
  rcases h i c e with z | ⟨d, v, rfl, ev, q⟩
  · obtain ⟨v, ev, hc⟩ := r.cell i c z
    exact ⟨v, ev, hc.weak av⟩
  · exact ⟨v, ev, q⟩
theorem Rep.rt_ow {d : PyData} (r : Rep B H σ σV) (e : σ[i]? = some (some (.ow d))) : ∃ a, σV[i]? = some (some (.ref a)) ∧ Rt σ σV i a ∧ RootD B.K (Av B σ σV) H a d ∧ B.H0 a = none := by
  obtain ⟨v, ev, a, rfl, q, z⟩ := r.cell i _ e
  exact ⟨a, ev, ⟨⟨d, .inl e⟩, ev⟩, q, z⟩
theorem Rep.rt_io {d : PyData} (r : Rep B H σ σV) (e : σ[i]? = some (some (.io d))) : ∃ a, σV[i]? = some (some (.ref a)) ∧ Rt σ σV i a ∧ RootD B.K (Av B σ σV) H a d ∧ B.io i = some a := by
  obtain ⟨v, ev, a, rfl, q, z⟩ := r.cell i _ e
  exact ⟨a, ev, ⟨⟨d, .inr e⟩, ev⟩, q, z⟩
theorem Rep.pl {d : PyData} (r : Rep B H σ σV) (e : σ[i]? = some (some (.pl d))) : ∃ v, σV[i]? = some (some v) ∧ Rp B.K (Av B σ σV) H v d := r.cell i _ e
/-- a root that goes on as a value: it is a root no more -/
theorem Rep.freeze {d : PyData} (r : Rep B H σ σV) (e : σ[i]? = some (some (.ow d)) ∨ σ[i]? = some (some (.io d))) :
    ∃ v, σV[i]? = some (some v) ∧ Rep B H (σ.set i (some (.pl d))) σV ∧ Rp B.K (Av B (σ.set i (some (.pl d))) σV) H v d := by
  have hR : ∃ a, σV[i]? = some (some (.ref a)) ∧ Rt σ σV i a ∧ RootD B.K (Av B σ σV) H a d := by
    rcases e with e | e
    · obtain ⟨a, h1, h2, h3, _⟩ := r.rt_ow e; exact ⟨a, h1, h2, h3⟩
    · obtain ⟨a, h1, h2, h3, _⟩ := r.rt_io e; exact ⟨a, h1, h2, h3⟩
  obtain ⟨a, ev, rt, q⟩ := hR
  have hi : i < σ.length := by rcases e with e | e <;> exact (List.getElem?_eq_some_iff.mp e).1
  have old : ∀ j b, Rt (σ.set i (some (.pl d))) σV j b → j ≠ i ∧ Rt σ σV j b := fun j b ⟨⟨d', hd⟩, hv⟩ => by
    by_cases hj : j = i
    · subst hj
      rw [List.getElem?_set_self hi] at hd
      rcases hd with hd | hd <;> cases hd
    · rw [List.getElem?_set_ne (Ne.symm hj)] at hd
      exact ⟨hj, ⟨d', hd⟩, hv⟩
  have na : ¬ Av B (σ.set i (some (.pl d))) σV a := fun z => by
    rcases z with ⟨j, z⟩ | z
    · obtain ⟨hj, y⟩ := old j a z
      exact hj (r.inj j i a y rt)
    · exact r.exr a ⟨i, rt⟩ z
  have av : ∀ b, Av B (σ.set i (some (.pl d))) σV b → Av B σ σV b := fun b z => z.elim (fun ⟨j, y⟩ => .inl ⟨j, (old j b y).2⟩) .inr
  have val := q.rp (A' := Av B (σ.set i (some (.pl d))) σV) av na
  refine ⟨_, ev, r.cells (by simp) fun j c ec => ?_, val⟩
  by_cases hj : j = i
  · subst hj
    rw [List.getElem?_set_self hi] at ec
    cases ec
    exact .inr ⟨d, _, rfl, ev, val⟩
  · rw [List.getElem?_set_ne (Ne.symm hj)] at ec
    exact .inl ec
/-- a slot is stored: a plain value -/
theorem Rep.set {d : PyData} (r : Rep B H σ σV) (h : Rp B.K (Av B σ σV) H v d) : Rep B H (σ.set i (some (.pl d))) (σV.set i (some v)) := by
  have old : ∀ j b, Rt (σ.set i (some (.pl d))) (σV.set i (some v)) j b → Rt σ σV j b := fun j b ⟨⟨d', hd⟩, hv⟩ => by
    by_cases hj : j = i
    · subst hj
      by_cases hi : j < σ.length
      · rw [List.getElem?_set_self hi] at hd
        rcases hd with hd | hd <;> cases hd
      · rw [List.getElem?_eq_none (by simpa using hi)] at hd
        rcases hd with hd | hd <;> cases hd
    · rw [List.getElem?_set_ne (Ne.symm hj)] at hd hv
      exact ⟨⟨d', hd⟩, hv⟩
  have av : ∀ b, Av B (σ.set i (some (.pl d))) (σV.set i (some v)) b → Av B σ σV b := fun b z => z.elim (fun ⟨j, y⟩ => .inl ⟨j, old j b y⟩) .inr
  refine ⟨by simpa using r.len, fun j c ec => ?_, fun j k a x y => r.inj j k a (old j a x) (old k a y), fun a ⟨j, x⟩ => r.exr a ⟨j, old j a x⟩, r.ext, r.kp, fun b hb => r.nt b (av b hb), r.exT⟩
  by_cases hj : j = i
  · subst hj
    have hi : j < σ.length := by
      have := (List.getElem?_eq_some_iff.mp ec).1
      simpa using this
    rw [List.getElem?_set_self hi] at ec
    cases ec
    exact ⟨v, by rw [List.getElem?_set_self (by rw [← r.len]; exact hi)], h.weak av⟩
  · rw [List.getElem?_set_ne (Ne.symm hj)] at ec
    obtain ⟨u, eu, hc⟩ := r.cell j c ec
    exact ⟨u, by rw [List.getElem?_set_ne (Ne.symm hj)]; exact eu, hc.weak av⟩
/-- a slot is forgotten -/
theorem Rep.drop (r : Rep B H σ σV) (x : Option V) : Rep B H (σ.set i none) (σV.set i x) := by
  have ne : ∀ {α : Type} {l : List (Option α)} {j : Nat} {c : α}, (l.set i none)[j]? = some (some c) → j ≠ i ∧ l[j]? = some (some c) := fun {α l j c} e => by
    by_cases hj : j = i
    · subst hj
      by_cases hi : j < l.length
      · rw [List.getElem?_set_self hi] at e; cases e
      · rw [List.getElem?_eq_none (by simpa using hi)] at e; cases e
    · rw [List.getElem?_set_ne (Ne.symm hj)] at e
      exact ⟨hj, e⟩
  have old : ∀ j b, Rt (σ.set i none) (σV.set i x) j b → Rt σ σV j b := fun j b ⟨⟨d', hd⟩, hv⟩ => by
    have hj : j ≠ i := by rcases hd with hd | hd <;> exact (ne hd).1
    rw [List.getElem?_set_ne (Ne.symm hj)] at hv
    exact ⟨⟨d', hd.imp (fun z => (ne z).2) fun z => (ne z).2⟩, hv⟩
  have av : ∀ b, Av B (σ.set i none) (σV.set i x) b → Av B σ σV b := fun b z => z.elim (fun ⟨j, y⟩ => .inl ⟨j, old j b y⟩) .inr
  refine ⟨by simpa using r.len, fun j c ec => ?_, fun j k a x y => r.inj j k a (old j a x) (old k a y), fun a ⟨j, x⟩ => r.exr a ⟨j, old j a x⟩, r.ext, r.kp, fun b hb => r.nt b (av b hb), r.exT⟩
  obtain ⟨hj, ec⟩ := ne ec
  obtain ⟨u, eu, hc⟩ := r.cell j c ec
  exact ⟨u, by rw [List.getElem?_set_ne (Ne.symm hj)]; exact eu, hc.weak av⟩
/-- a slot is stored: a new list that is the slot's own from then on -/
theorem Rep.own {d : PyData} (hi : i < σ.length) (r : Rep (B.ex a) H σ σV) (nr : ¬ Av B σ σV a) (h0 : B.H0 a = none) (h : RootD B.K (Av (B.ex a) σ σV) H a d) : Rep B H (σ.set i (some (.ow d))) (σV.set i (some (.ref a))) := by
  have hiV : i < σV.length := by rw [← r.len]; exact hi
  have old : ∀ j b, Rt (σ.set i (some (.ow d))) (σV.set i (some (.ref a))) j b → (j = i ∧ b = a) ∨ (j ≠ i ∧ Rt σ σV j b) := fun j b ⟨⟨d', hd⟩, hv⟩ => by
    by_cases hj : j = i
    · subst hj
      rw [List.getElem?_set_self hiV] at hv
      cases hv
      exact .inl ⟨rfl, rfl⟩
    · rw [List.getElem?_set_ne (Ne.symm hj)] at hd hv
      exact .inr ⟨hj, ⟨d', hd⟩, hv⟩
  have av : ∀ b, Av B (σ.set i (some (.ow d))) (σV.set i (some (.ref a))) b → Av (B.ex a) σ σV b := fun b z => by
    rcases z with ⟨j, z⟩ | z
    · rcases old j b z with ⟨_, e⟩ | ⟨_, y⟩
      · exact .inr (.inr e)
      · exact .inl ⟨j, y⟩
    · exact .inr (.inl z)
  have nRt : ∀ j, ¬ Rt σ σV j a := fun j z => nr (.inl ⟨j, z⟩)
  refine ⟨by simpa using r.len, fun j c ec => ?_, fun j k b x y => ?_, fun b ⟨j, x⟩ z => ?_, r.ext, r.kp, fun b hb => r.nt b (av b hb), fun b hb => r.exT b (.inl hb)⟩
  · by_cases hj : j = i
    · subst hj
      rw [List.getElem?_set_self hi] at ec
      cases ec
      exact ⟨_, by rw [List.getElem?_set_self hiV], a, rfl, h.weak av, h0⟩
    · rw [List.getElem?_set_ne (Ne.symm hj)] at ec
      obtain ⟨u, eu, hc⟩ := r.cell j c ec
      have hc' : CellOk B (Av (B.ex a) σ σV) H j u c := by cases c <;> exact hc
      exact ⟨u, by rw [List.getElem?_set_ne (Ne.symm hj)]; exact eu, hc'.weak av⟩
  · rcases old j b x with ⟨e1, e2⟩ | ⟨_, y1⟩ <;> rcases old k b y with ⟨e3, e4⟩ | ⟨_, y2⟩
    · rw [e1, e3]
    · rw [e2] at y2; exact (nRt k y2).elim
    · rw [e4] at y1; exact (nRt j y1).elim
    · exact r.inj j k b y1 y2
  · rcases old j b x with ⟨_, e⟩ | ⟨_, y⟩
    · rw [e] at z; exact nr (.inr z)
    · exact r.exr b ⟨j, y⟩ (.inl z)
/-- slots forgotten, on both sides -/
theorem Rep.wipe (r : Rep B H σ σV) : ∀ own : List Nat, Rep B H (wipeS σ own) (L2.wipe σV own)
  | [] => r
  | i :: own => (Rep.wipe r own).drop none
theorem wipeS_at (σ : S) (j : Nat) : ∀ own : List Nat, (wipeS σ own)[j]? = if j ∈ own then (σ[j]?).map (fun _ => none) else σ[j]?
  | [] => by simp [wipeS]
  | i :: own => by
    unfold wipeS
    have ih := wipeS_at σ j own
    by_cases hj : j = i
    · subst hj
      by_cases hl : j < (wipeS σ own).length
      · have h2 : j < σ.length := by
          by_cases h2 : j < σ.length
          · exact h2
          · rw [List.getElem?_eq_getElem hl, List.getElem?_eq_none (by omega)] at ih
            split at ih <;> cases ih
        rw [List.getElem?_set_self hl, if_pos (by simp), List.getElem?_eq_getElem h2]; rfl
      · rw [List.getElem?_eq_none (by simpa using hl)]
        rw [List.getElem?_eq_none (by omega)] at ih
        have h2 : σ[j]? = none := by
          split at ih
          · cases e : σ[j]? with
            | none => rfl
            | some x => rw [e] at ih; cases ih
          · exact ih.symm
        rw [if_pos (by simp), h2]; rfl
    · rw [List.getElem?_set_ne (Ne.symm hj), ih]
      by_cases hm : j ∈ own
      · rw [if_pos hm, if_pos (by simp [hm])]
      · rw [if_neg hm, if_neg (by simp [hm, hj])]
theorem wipe_at (σ : St) (j : Nat) : ∀ own : List Nat, (L2.wipe σ own)[j]? = if j ∈ own then (σ[j]?).map (fun _ => none) else σ[j]?
  | [] => by simp [L2.wipe]
  | i :: own => by
    unfold L2.wipe
    have ih := wipe_at σ j own
    by_cases hj : j = i
    · subst hj
      by_cases hl : j < (L2.wipe σ own).length
      · have h2 : j < σ.length := by rw [L2.wipe_length] at hl; exact hl
        rw [List.getElem?_set_self hl, if_pos (by simp), List.getElem?_eq_getElem h2]; rfl
      · rw [List.getElem?_eq_none (by simpa using hl)]
        have h2 : σ[j]? = none := by rw [L2.wipe_length] at hl; exact List.getElem?_eq_none (by omega)
        rw [if_pos (by simp), h2]; rfl
    · rw [List.getElem?_set_ne (Ne.symm hj), ih]
      by_cases hm : j ∈ own
      · rw [if_pos hm, if_pos (by simp [hm])]
      · rw [if_neg hm, if_neg (by simp [hm, hj])]
theorem wipeS_length (σ : S) : ∀ own : List Nat, (wipeS σ own).length = σ.length
  | [] => rfl
  | i :: own => by unfold wipeS; rw [List.length_set, wipeS_length σ own]
theorem backS_length (σ₀ σ : S) : ∀ own : List Nat, (backS σ₀ σ own).length = σ.length
  | [] => rfl
  | i :: own => by unfold backS; rw [List.length_set, backS_length σ₀ σ own]
theorem backS_at (σ₀ σ : S) (hl : σ₀.length = σ.length) (j : Nat) : ∀ own : List Nat, (backS σ₀ σ own)[j]? = if j ∈ own then σ₀[j]? else σ[j]?
  | [] => by simp [backS]
  | i :: own => by
    unfold backS
    have ih := backS_at σ₀ σ hl j own
    by_cases hj : j = i
    · subst hj
      rw [if_pos (by simp)]
      by_cases h2 : j < σ.length
      · rw [List.getElem?_set_self (by rw [backS_length]; exact h2)]
        rw [List.getElem?_eq_getElem (by rw [hl]; exact h2)]
        rfl
      · rw [List.getElem?_eq_none (by rw [List.length_set, backS_length]; omega), List.getElem?_eq_none (by omega)]
    · rw [List.getElem?_set_ne (Ne.symm hj), ih]
      by_cases hm : j ∈ own
      · rw [if_pos hm, if_pos (by simp [hm])]
      · rw [if_neg hm, if_neg (by simp [hm, hj])]
/-- slots off a list stand as they stood -/
structure Off (is : List Nat) (σV σV' : St) : Prop where
  len : σV'.length = σV.length
  at_ : ∀ j, j ∉ is → σV'[j]? = σV[j]?
theorem Off.refl {is : List Nat} : Off is σV σV := ⟨rfl, fun _ _ => rfl⟩
theorem Off.trans {is : List Nat} {a b c : St} (x : Off is a b) (y : Off is b c) : Off is a c := ⟨y.len.trans x.len, fun j h => (y.at_ j h).trans (x.at_ j h)⟩
theorem Off.mono {is js : List Nat} {a b : St} (x : Off is a b) (h : ∀ i ∈ is, i ∈ js) : Off js a b := ⟨x.len, fun j hj => x.at_ j fun z => hj (h j z)⟩
theorem Off.set {is : List Nat} {i : Nat} (x : Option V) (h : i ∈ is) : Off is σV (σV.set i x) := ⟨by simp, fun j hj => by rw [List.getElem?_set_ne (fun z => hj (by rw [← z]; exact h))]⟩
theorem Off.wipe {is : List Nat} {a b : St} (x : Off is a b) : L2.wipe b is = L2.wipe a is := by
  refine List.ext_getElem? fun j => ?_
  rw [wipe_at, wipe_at]
  by_cases hj : j ∈ is
  · rw [if_pos hj, if_pos hj]
    by_cases hl : j < a.length
    · rw [List.getElem?_eq_getElem hl, List.getElem?_eq_getElem (by rw [x.len]; exact hl)]; rfl
    · have e1 : a[j]? = none := List.getElem?_eq_none (Nat.le_of_not_lt hl)
      have e2 : b[j]? = none := List.getElem?_eq_none (by rw [x.len]; exact Nat.le_of_not_lt hl)
      rw [e1, e2]
  · rw [if_neg hj, if_neg hj, x.at_ j hj]
theorem Off.wiped {is : List Nat} : Off is σV (L2.wipe σV is) := ⟨L2.wipe_length _ _, fun j hj => by rw [wipe_at, if_neg hj]⟩
theorem ro_off {own : List Nat} {σV' : St} (h : ∀ i d, (σ'[i]? = some (some (.ow d)) ∨ σ'[i]? = some (some (.io d))) → i ∉ own ∧ ∃ d', σ[i]? = some (some (.ow d')) ∨ σ[i]? = some (some (.io d')))
    (o : Off own σV σV') : ∀ a, RO σ' σV' a → RO σ σV a := fun a ⟨i, ⟨d, hd⟩, hv⟩ => by
  obtain ⟨h1, d', h2⟩ := h i d hd
  exact ⟨i, ⟨d', h2⟩, by rw [← o.at_ i h1]; exact hv⟩
/-- behind a comprehension: its own names as they were -/
theorem Rep.back {σc : S} {own : List Nat} {D : Addr} {H1 Hc : Hp} {σ1 : S} (r1 : Rep B H1 σ1 σV) (rc : Rep (B.ex D) Hc (wipeS σc own) (L2.wipe σV own)) (hD : H1 D = none) (k : Kp (fun b => Av B σ1 σV b ∨ b = D) H1 Hc)
    (ro : ∀ a, RO (wipeS σc own) (L2.wipe σV own) a → RO σ1 σV a) (po : plainOwn σ1 own = true) : Rep (B.ex D) Hc (backS σ1 σc own) σV ∧ ∀ a, RO (backS σ1 σc own) σV a → RO (wipeS σc own) (L2.wipe σV own) a := by
  have hl : σ1.length = σc.length := by
    have e1 := rc.len
    rw [wipeS_length, L2.wipe_length] at e1
    exact r1.len.trans e1.symm
  have at_ := backS_at σ1 σc hl
  have own_pl : ∀ i, i ∈ own → ∀ c, σ1[i]? = some (some c) → ∃ d, c = .pl d := fun i hi c e => by
    unfold plainOwn at po
    have q := List.all_eq_true.mp po i hi
    rw [e] at q
    cases c with
    | pl d => exact ⟨d, rfl⟩
    | _ => cases q
  have rt : ∀ i a, Rt (backS σ1 σc own) σV i a → i ∉ own ∧ Rt (wipeS σc own) (L2.wipe σV own) i a := fun i a ⟨⟨d, hd⟩, hv⟩ => by
    by_cases hi : i ∈ own
    · rw [at_ i own, if_pos hi] at hd
      rcases hd with hd | hd
      · obtain ⟨d', e⟩ := own_pl i hi _ hd; cases e
      · obtain ⟨d', e⟩ := own_pl i hi _ hd; cases e
    · rw [at_ i own, if_neg hi] at hd
      exact ⟨hi, ⟨d, by rw [wipeS_at, if_neg hi]; exact hd⟩, by rw [wipe_at, if_neg hi]; exact hv⟩
  have roB : ∀ a, RO (backS σ1 σc own) σV a → RO (wipeS σc own) (L2.wipe σV own) a := fun a ⟨i, h⟩ => ⟨i, (rt i a h).2⟩
  have av1 : ∀ a, Av (B.ex D) (backS σ1 σc own) σV a → Av (B.ex D) (wipeS σc own) (L2.wipe σV own) a := fun a h => h.elim (fun z => .inl (roB a z)) .inr
  have av2 : ∀ a, Av (B.ex D) (backS σ1 σc own) σV a → Av B σ1 σV a ∨ a = D := fun a h => h.elim (fun z => .inl (.inl (ro a (roB a z)))) fun z => z.elim (fun y => .inl (.inr y)) .inr
  have nt : NoTup (fun b => Av B σ1 σV b ∨ b = D) H1 := fun b hb ys z => by
    rcases hb with hb | hb
    · exact r1.nt b hb ys z
    · rw [hb] at z; exact Rd.some_ z hD
  refine ⟨⟨by rw [backS_length, ← hl]; exact r1.len, fun i c e => ?_, fun i j a x y => rc.inj i j a (rt i a x).2 (rt j a y).2, fun a h => rc.exr a (roB a h), rc.ext, rc.kp, fun b hb => rc.nt b (av1 b hb), rc.exT⟩, roB⟩
  by_cases hi : i ∈ own
  · rw [at_ i own, if_pos hi] at e
    obtain ⟨d, rfl⟩ := own_pl i hi c e
    obtain ⟨v, ev, h⟩ := r1.pl e
    exact ⟨v, ev, ((Rp.more hD h).keep k nt).weak av2⟩
  · rw [at_ i own, if_neg hi] at e
    obtain ⟨v, ev, h⟩ := rc.cell i c (by rw [wipeS_at, if_neg hi]; exact e)
    exact ⟨v, by rw [wipe_at, if_neg hi] at ev; exact ev, h.weak av1⟩
end
end Pv
/-! Pv3: readings of the evaluator; operands; what an operation asks. -/
namespace Pv
open PySem L2
section
variable {B : Vw} {H H1 H2 : Hp} {σ σ1 σ2 : S} {σV : St} {v : V} {d : PyData}
/-- what one step of the evaluator may change -/
structure Stp (B : Vw) (σ σ' : S) (σV : St) (H H' : Hp) : Prop where
  kp : Kp (RO σ σV) H H'
  ro : ∀ a, RO σ' σV a → RO σ σV a
theorem Stp.refl : Stp B σ σ σV H H := ⟨.refl, fun _ h => h⟩
theorem Stp.av (x : Stp B σ σ1 σV H H1) : ∀ a, Av B σ1 σV a → Av B σ σV a := fun a z => z.elim (fun y => .inl (x.ro a y)) .inr
theorem Stp.trans (x : Stp B σ σ1 σV H H1) (y : Stp B σ1 σ2 σV H1 H2) : Stp B σ σ2 σV H H2 :=
  ⟨x.kp.trans y.kp fun a z => .inl (x.ro a z), fun a z => x.ro a (y.ro a z)⟩
theorem Stp.kpA (x : Stp B σ σ1 σV H H1) : Kp (Av B σ σV) H H1 := x.kp.weak fun _ => .inl
theorem Stp.heap (k : Kp (RO σ σV) H H1) : Stp B σ σ σV H H1 := ⟨k, fun _ h => h⟩
theorem Rp.stp (r : Rep B H σ σV) (x : Stp B σ σ1 σV H H1) (h : Rp B.K (Av B σ σV) H v d) : Rp B.K (Av B σ1 σV) H1 v d := (h.keep x.kpA r.nt).weak x.av
theorem Rps.stp {vs : List V} {ds : List PyData} (r : Rep B H σ σV) (x : Stp B σ σ1 σV H H1) (h : Rps B.K (Av B σ σV) H vs ds) : Rps B.K (Av B σ1 σV) H1 vs ds := (h.keep x.kpA r.nt).weak x.av
theorem Val.since {d : DF} (h : Val B H1 σ σV H2 v d) (t : ∀ b, H1 b = none → H b = none) : Val B H σ σV H2 v d := by
  obtain ⟨d, fr⟩ := d
  cases fr with
  | false => exact h
  | true => obtain ⟨a, e, n, q⟩ := h; exact ⟨a, e, t a n, q⟩
/-- an operand that is read: a value, or a root where it stands -/
def Opr (K : Frag) (A : ASet) (H : Hp) (v : V) (d : PyData) : Prop := Rp K A H v d ∨ ∃ a, v = .ref a ∧ RootD K A H a d
theorem Opr.dp {K : Frag} {A : ASet} (h : Opr K A H v d) : Dp K H v d := by
  rcases h with h | ⟨a, rfl, h⟩
  · exact h.dp
  · exact h.dp
theorem Opr.lst {K : Frag} {A : ASet} {ds : List PyData} (h : Opr K A H v (.list ds)) : ∃ a xs, v = .ref a ∧ LsR K H a xs ∧ Rps K A H xs ds := by
  rcases h with h | ⟨a, rfl, h⟩
  · cases h with
    | lst h r => exact ⟨_, _, rfl, h.rd, r⟩
  · obtain ⟨xs, e, r⟩ := h
    exact ⟨a, xs, rfl, .inl (.inl e), r⟩
theorem Opr.tup {K : Frag} {A : ASet} {ds : List PyData} (h : Opr K A H v (.tuple ds)) : ∃ a xs, v = .ref a ∧ SqT K H a xs ∧ Rps K A H xs ds := by
  rcases h with h | ⟨a, rfl, h⟩
  · cases h with
    | tup h r => exact ⟨_, _, rfl, h, r⟩
  · exact h.elim
theorem Opr.rp {K : Frag} {A : ASet} (h : Opr K A H v d) (n : ∀ ds, d ≠ .list ds) : Rp K A H v d := by
  rcases h with h | ⟨a, rfl, h⟩
  · exact h
  · cases d with
    | list ds => exact (n ds rfl).elim
    | _ => exact h.elim
theorem Opr.int {K : Frag} {A : ASet} {i : Int} (h : Opr K A H v (.int i)) : v = .int i := by
  have h := h.rp fun _ z => by cases z
  cases h; rfl
theorem Opr.bl {K : Frag} {A : ASet} {i : Bool} (h : Opr K A H v (.bool i)) : v = .bl i := by
  have h := h.rp fun _ z => by cases z
  cases h; rfl
theorem Opr.non {K : Frag} {A : ASet} (h : Opr K A H v .none) : v = .non := by
  have h := h.rp fun _ z => by cases z
  cases h; rfl
theorem Opr.str {K : Frag} {A : ASet} {x : Str} (h : Opr K A H v (.str x)) : v = .str x ∧ x.length ≤ line := by
  have h := h.rp fun _ z => by cases z
  cases h with
  | str _ q => exact ⟨rfl, q⟩
theorem Opr.nodict {K : Frag} {A : ASet} {x : List (PyData × PyData)} (h : Opr K A H v (.dict x)) : False := by
  have h := h.rp fun _ z => by cases z
  cases h
theorem getP_ok {i : Nat} (r : Rep B H σ σV) (e : getP σ i = some d) (ev : σV[i]? = some (some v)) : Opr B.K (Av B σ σV) H v d := by
  unfold getP at e
  split at e
  · rename_i d' q
    cases e
    obtain ⟨u, eu, h⟩ := r.pl q
    rw [ev] at eu; cases eu
    exact .inl h
  · rename_i d' q
    cases e
    obtain ⟨a, eu, _, h, _⟩ := r.rt_ow q
    rw [ev] at eu; cases eu
    exact .inr ⟨a, rfl, h⟩
  · rename_i d' q
    cases e
    obtain ⟨a, eu, _, h, _⟩ := r.rt_io q
    rw [ev] at eu; cases eu
    exact .inr ⟨a, rfl, h⟩
  · cases e
theorem getP_slot {i : Nat} (r : Rep B H σ σV) (e : getP σ i = some d) : ∃ v, σV[i]? = some (some v) := by
  unfold getP at e
  split at e
  · rename_i d' q; obtain ⟨u, eu, _⟩ := r.pl q; exact ⟨u, eu⟩
  · rename_i d' q; obtain ⟨a, eu, _⟩ := r.rt_ow q; exact ⟨_, eu⟩
  · rename_i d' q; obtain ⟨a, eu, _⟩ := r.rt_io q; exact ⟨_, eu⟩
  · cases e
end

/-! ### the readings -/
def ErrP (B : Vw) (σ : S) (σV : St) (H : Hp) (W : WX) (c : Nat) (d : PyData) (σ' : S) : Prop :=
  ∀ (C dx : Addr) (w : V) (H' : Hp), B.cls c = some C → Rep B H' σ' σV → Stp B σ σ' σV H H' → H' dx = some (.xd [("value", w)]) → ¬ Av B σ' σV dx → Rp B.K (Av B σ' σV) H' w d → W (.ref C) (some dx) σV H'
/-- what is wanted behind an evaluation -/
def Pst {α : Type} (B : Vw) (σ : S) (σV : St) (H : Hp) (W : WX) (q : α → S → Prop) : Res α → Prop
  | .ok a σ' => q a σ'
  | .err c d σ' => ErrP B σ σV H W c d σ'
  | .bad => False
structure Gk where
  K : Frag
  cls : Nat → Option Addr
def Vw.of (B : Vw) (G : Gk) : Prop := B.K = G.K ∧ B.cls = G.cls
def tE (G : Gk) (W : WX) (p : S → Res DF) : TE := fun σV H Q => ∃ B σ, B.of G ∧ Rep B H σ σV ∧ Pst B σ σV H W (fun d σ' => ∀ v H', Rep B H' σ' σV → Stp B σ σ' σV H H' → Val B H σ' σV H' v d → Q v H') (p σ)
def tT (G : Gk) (W : WX) (p : S → Res Bool) : TT := fun σV H Q => ∃ B σ, B.of G ∧ Rep B H σ σV ∧ Pst B σ σV H W (fun b σ' => ∀ H', Rep B H' σ' σV → Stp B σ σ' σV H H' → Q b H') (p σ)
section
variable {B : Vw} {H H1 H2 : Hp} {σ σ1 σ2 : S} {σV : St} {v : V} {d : PyData} {W : WX} {G : Gk}
theorem ErrP.back {c : Nat} (x : Stp B σ σ1 σV H H1) (h : ErrP B σ σV H W c d σ2) : ErrP B σ1 σV H1 W c d σ2 := fun C dx w H' hc r s e n q => h C dx w H' hc r (x.trans s) e n q
theorem Pst.imp {α : Type} {q q' : α → S → Prop} {r : Res α} (h : Pst B σ σV H W q r) (k : ∀ a σ', q a σ' → q' a σ') : Pst B σ σV H W q' r := by
  cases r with
  | ok a s => exact k a s h
  | err c d s => exact h
  | bad => exact h
theorem Pst.back {α : Type} {q : α → S → Prop} {r : Res α} (x : Stp B σ σ1 σV H H1) (h : Pst B σ σV H W q r) : Pst B σ1 σV H1 W q r := by
  cases r with
  | ok a s => exact h
  | err c d s => exact ErrP.back x h
  | bad => exact h
/-- of two steps: the first one's wish -/
theorem Pst.bind {α β : Type} {q : β → S → Prop} {r : Res α} {f : α → S → Res β} (h : Pst B σ σV H W q (r.bind f)) : Pst B σ σV H W (fun a σ' => Pst B σ σV H W q (f a σ')) r := by
  cases r with
  | ok a s => exact h
  | err c d s => exact h
  | bad => exact h
theorem Pst.ofO {α : Type} {q : α → S → Prop} {o : Option α} {s : S} (h : Pst B σ σV H W q (ofO o s)) : ∃ a, o = some a ∧ q a s := by
  cases o with
  | none => exact h.elim
  | some a => exact ⟨a, rfl, h⟩
theorem tE.mk {p : S → Res DF} {Q : VK} (g : B.of G) (r : Rep B H σ σV) (h : Pst B σ σV H W (fun d σ' => ∀ v H', Rep B H' σ' σV → Stp B σ σ' σV H H' → Val B H σ' σV H' v d → Q v H') (p σ)) : tE G W p σV H Q := ⟨B, σ, g, r, h⟩
theorem tT.mk {p : S → Res Bool} {Q : Bool → Hp → Prop} (g : B.of G) (r : Rep B H σ σV) (h : Pst B σ σV H W (fun b σ' => ∀ H', Rep B H' σ' σV → Stp B σ σ' σV H H' → Q b H') (p σ)) : tT G W p σV H Q := ⟨B, σ, g, r, h⟩

/-! ### operands -/
def tOpd (G : Gk) (W : WX) (ev : EvE) (e : R) : TE := match isVar e with
  | some i => tVar i
  | none => tE G W (ev e)
def tOpds (G : Gk) (W : WX) (ev : EvE) : List R → TA
  | [] => tNil
  | e :: es => tCons (tOpd G W ev e) (tOpds G W ev es)
def OpdOk (B : Vw) (σ : S) (σV : St) (H : Hp) (v : V) : Nat ⊕ PyData → Prop
  | .inl i => σV[i]? = some (some v)
  | .inr d => Rp B.K (Av B σ σV) H v d
theorem OpdOk.stp {o : Nat ⊕ PyData} (r : Rep B H σ σV) (x : Stp B σ σ1 σV H H1) (h : OpdOk B σ σV H v o) : OpdOk B σ1 σV H1 v o := by
  cases o with
  | inl i => exact h
  | inr d => exact Rp.stp r x h
theorem fill_ok {xs : List (Nat ⊕ PyData)} {vs : List V} {ds : List PyData} (r : Rep B H σ σV) (p : Paired (OpdOk B σ σV H) vs xs) (h : fill σ xs = some ds) : Paired (Opr B.K (Av B σ σV) H) vs ds := by
  induction p generalizing ds with
  | nil => cases h; exact .nil
  | @cons v o vs xs q _ ih =>
    cases o with
    | inl j =>
      unfold fill at h
      cases e : getP σ j with
      | none => rw [e] at h; cases h
      | some d =>
        rw [e] at h
        cases e2 : fill σ xs with
        | none => rw [e2] at h; cases h
        | some l =>
          rw [e2] at h
          cases h
          exact .cons (getP_ok r e q) (ih e2)
    | inr d =>
      unfold fill at h
      cases e2 : fill σ xs with
      | none => rw [e2] at h; cases h
      | some l =>
        rw [e2] at h
        cases h
        exact .cons (.inl q) (ih e2)
theorem Paired.imp2 {α β : Type} {F F' : α → β → Prop} (h : ∀ a b, F a b → F' a b) : ∀ {xs : List α} {ys : List β}, Paired F xs ys → Paired F' xs ys
  | _, _, .nil => .nil
  | _, _, .cons r t => .cons (h _ _ r) (Paired.imp2 h t)
theorem tOpd_var {ev : EvE} {e : R} {i : Nat} {Q : VK} (hv : isVar e = some i) (h : tVar i σV H Q) : tOpd G W ev e σV H Q := by
  unfold tOpd; rw [hv]; exact h
theorem tOpd_ev {ev : EvE} {e : R} {Q : VK} (hv : isVar e = none) (h : tE G W (ev e) σV H Q) : tOpd G W ev e σV H Q := by
  unfold tOpd; rw [hv]; exact h
/-- the operands, from the left -/
theorem pre_ok (g : B.of G) {ev : EvE} : ∀ {es : List R} {σ : S} {H : Hp} {Q : List V → Hp → Prop}, Rep B H σ σV →
    Pst B σ σV H W (fun xs σ' => ∀ vs H', Rep B H' σ' σV → Stp B σ σ' σV H H' → Paired (OpdOk B σ' σV H') vs xs → Q vs H') (pre ev es σ) → tOpds G W ev es σV H Q
  | [], σ, H, Q, r, h => h [] H r .refl .nil
  | e :: es, σ, H, Q, r, h => by
    unfold pre at h
    show tOpd G W ev e σV H fun x H1 => tOpds G W ev es σV H1 fun xs H2 => Q (x :: xs) H2
    split at h
    · rename_i i hv
      split at h
      · rename_i hs
        obtain ⟨d, hd⟩ := Option.isSome_iff_exists.mp hs
        obtain ⟨v, ev'⟩ := getP_slot r hd
        refine tOpd_var hv ⟨v, ev', pre_ok g r (h.bind.imp fun xs σ' q vs H' r' s p => ?_)⟩
        exact q (v :: vs) H' r' s (.cons ev' p)
      · exact h.elim
    · rename_i hv
      refine tOpd_ev hv (tE.mk g r (h.bind.imp fun d σ' q v H' r' s hval => ?_))
      refine pre_ok g r' ((Pst.back s q).bind.imp fun xs σ2 q2 vs H2 r2 s2 p => ?_)
      exact q2 (v :: vs) H2 r2 (s.trans s2) (.cons (Rp.stp r' s2 (hval.rp r')) p)
/-- operands that are all read -/
theorem opds_ok (g : B.of G) {ev : EvE} {es : List R} {Q : List V → Hp → Prop} (r : Rep B H σ σV)
    (h : Pst B σ σV H W (fun ds σ' => ∀ vs H', Rep B H' σ' σV → Stp B σ σ' σV H H' → Paired (Opr B.K (Av B σ' σV) H') vs ds → Q vs H') (opds ev es σ)) : tOpds G W ev es σV H Q := by
  refine pre_ok g r ((Pst.bind h).imp fun xs σ' q vs H' r' s p => ?_)
  obtain ⟨ds, e, q⟩ := q.ofO
  exact q vs H' r' s (fill_ok r' p e)
/-- displays: each value goes on -/
def tEs (G : Gk) (W : WX) (ev : EvE) : List R → TA
  | [] => tNil
  | e :: es => tCons (tE G W (ev e)) (tEs G W ev es)
theorem evL_ok (g : B.of G) {ev : EvE} : ∀ {es : List R} {σ : S} {H : Hp} {Q : List V → Hp → Prop}, Rep B H σ σV →
    Pst B σ σV H W (fun ds σ' => ∀ vs H', Rep B H' σ' σV → Stp B σ σ' σV H H' → Rps B.K (Av B σ' σV) H' vs ds → Q vs H') (evL ev es σ) → tEs G W ev es σV H Q
  | [], σ, H, Q, r, h => h [] H r .refl .nil
  | e :: es, σ, H, Q, r, h => by
    unfold evL at h
    show tE G W (ev e) σV H fun x H1 => tEs G W ev es σV H1 fun xs H2 => Q (x :: xs) H2
    refine tE.mk g r ((Pst.bind h).imp fun d σ' q v H' r' s hval => ?_)
    refine evL_ok g r' ((Pst.back s q).bind.imp fun xs σ2 q2 vs H2 r2 s2 p => ?_)
    exact q2 (v :: vs) H2 r2 (s.trans s2) (.cons (Rp.stp r' s2 (hval.rp r')) p)

/-! ### what an operation of values asks -/
/-- r serves f: from operands that read as ds, f ds = some e -/
def Srv (G : Gk) (f : List PyData → Option DF) (r : List V → Hp → VK → Prop) : Prop :=
  ∀ (B : Vw) (σ : S) (σV : St) (H : Hp) (vs : List V) (ds : List PyData) (e : DF) (Q : VK), B.of G → Rep B H σ σV → Paired (Opr B.K (Av B σ σV) H) vs ds → f ds = some e →
    (∀ v H', Rep B H' σ σV → Stp B σ σ σV H H' → Val B H σ σV H' v e → Q v H') → r vs H Q
theorem srv_opds {f : List PyData → Option DF} {r : List V → Hp → VK → Prop} {ev : EvE} {es : List R} {Q : VK} (s : Srv G f r) (h : tE G W (fun σ => (opds ev es σ).bind fun ds σ => ofO (f ds) σ) σV H Q) :
    tOpds G W ev es σV H fun vs H' => r vs H' Q := by
  obtain ⟨B, σ, g, rp, h⟩ := h
  refine opds_ok g rp ((Pst.bind h).imp fun ds σ' q vs H' r' st p => ?_)
  obtain ⟨e, he, q⟩ := q.ofO
  exact s B σ' σV H' vs ds e Q g r' p he fun v H2 r2 s2 hv => q v H2 r2 (st.trans s2) (hv.since st.kp.tr)
theorem opd1_eq {ev : EvE} {a : R} {s : S} {f : PyData → Option DF} : opd1 ev a s f = (opds ev [a] s).bind fun ds s => ofO (f1 f ds) s := by
  unfold opd1
  congr 1
  funext ds s
  match ds with
  | [] => rfl
  | [x] => rfl
  | _ :: _ :: _ => rfl
theorem opd2_eq {ev : EvE} {a b : R} {s : S} {f : PyData → PyData → Option DF} : opd2 ev a b s f = (opds ev [a, b] s).bind fun ds s => ofO (f2 f ds) s := by
  unfold opd2
  congr 1
  funext ds s
  match ds with
  | [] => rfl
  | [x] => rfl
  | [x, y] => rfl
  | _ :: _ :: _ :: _ => rfl
def Srv1 (G : Gk) (f : PyData → Option DF) (r : V → Hp → VK → Prop) : Prop :=
  ∀ (B : Vw) (σ : S) (σV : St) (H : Hp) (v : V) (d : PyData) (e : DF) (Q : VK), B.of G → Rep B H σ σV → Opr B.K (Av B σ σV) H v d → f d = some e →
    (∀ v H', Rep B H' σ σV → Stp B σ σ σV H H' → Val B H σ σV H' v e → Q v H') → r v H Q
def Srv2 (G : Gk) (f : PyData → PyData → Option DF) (r : R2) : Prop :=
  ∀ (B : Vw) (σ : S) (σV : St) (H : Hp) (v u : V) (d c : PyData) (e : DF) (Q : VK), B.of G → Rep B H σ σV → Opr B.K (Av B σ σV) H v d → Opr B.K (Av B σ σV) H u c → f d c = some e →
    (∀ v H', Rep B H' σ σV → Stp B σ σ σV H H' → Val B H σ σV H' v e → Q v H') → r v u H Q
theorem srv1 {f : PyData → Option DF} {r : V → Hp → VK → Prop} {ev : EvE} {a : R} {Q : VK} (s : Srv1 G f r) (h : tE G W (fun σ => opd1 ev a σ f) σV H Q) : tUn r (tOpd G W ev a) σV H Q := by
  obtain ⟨B, σ, g, rp, h⟩ := h
  have h' : Pst B σ σV H W (fun d σ' => ∀ v H', Rep B H' σ' σV → Stp B σ σ' σV H H' → Val B H σ' σV H' v d → Q v H') (opd1 ev a σ f) := h
  rw [opd1_eq] at h'
  have q : tOpds G W ev [a] σV H fun vs H' => match vs with | [x] => r x H' Q | _ => True := by
    refine opds_ok g rp ((Pst.bind h').imp fun ds σ' q vs H' r' st p => ?_)
    obtain ⟨e, he, q2⟩ := q.ofO
    cases p with
    | nil => cases he
    | cons p1 p =>
      cases p with
      | nil => exact s B σ' σV H' _ _ e Q g r' p1 he fun v H2 r2 s2 hv => q2 v H2 r2 (st.trans s2) (hv.since st.kp.tr)
      | cons _ _ => cases he
  exact q
theorem srv2 {f : PyData → PyData → Option DF} {r : R2} {ev : EvE} {a b : R} {Q : VK} (s : Srv2 G f r) (h : tE G W (fun σ => opd2 ev a b σ f) σV H Q) : tOp r (tOpd G W ev a) (tOpd G W ev b) σV H Q := by
  obtain ⟨B, σ, g, rp, h⟩ := h
  have h' : Pst B σ σV H W (fun d σ' => ∀ v H', Rep B H' σ' σV → Stp B σ σ' σV H H' → Val B H σ' σV H' v d → Q v H') (opd2 ev a b σ f) := h
  rw [opd2_eq] at h'
  have q : tOpds G W ev [a, b] σV H fun vs H' => match vs with | [x, y] => r x y H' Q | _ => True := by
    refine opds_ok g rp ((Pst.bind h').imp fun ds σ' q vs H' r' st p => ?_)
    obtain ⟨e, he, q2⟩ := q.ofO
    cases p with
    | nil => cases he
    | cons p1 p =>
      cases p with
      | nil => cases he
      | cons p2 p =>
        cases p with
        | nil => exact s B σ' σV H' _ _ _ _ e Q g r' p1 p2 he fun v H2 r2 s2 hv => q2 v H2 r2 (st.trans s2) (hv.since st.kp.tr)
        | cons _ _ => cases he
  exact q
end

/-! ### the ends of an operation -/
section
variable {B : Vw} {H : Hp} {σ : S} {σV : St} {v : V} {d : PyData} {Q : VK} {xs : List V} {ds : List PyData} {p : Addr}
abbrev EndK (B : Vw) (σ : S) (σV : St) (H : Hp) (e : DF) (Q : VK) : Prop := ∀ v H', Rep B H' σ σV → Stp B σ σ σV H H' → Val B H σ σV H' v e → Q v H'
theorem end_pl (r : Rep B H σ σV) (h : Rp B.K (Av B σ σV) H v d) (k : EndK B σ σV H (d, false) Q) : Q v H := k v H r .refl h
theorem end_int {i : Int} (r : Rep B H σ σV) (k : EndK B σ σV H (.int i, false) Q) : Q (.int i) H := end_pl r (.int i) k
theorem end_bl {i : Bool} (r : Rep B H σ σV) (k : EndK B σ σV H (.bool i, false) Q) : Q (.bl i) H := end_pl r (.bl i) k
theorem newRps (r : Rep B H σ σV) (hp : H p = none) {o : HO} (h : Rps B.K (Av B σ σV) H xs ds) : Rps B.K (Av B σ σV) (upd H p o) xs ds := h.keep (.new hp) r.nt
theorem end_tup (r : Rep B H σ σV) (hp : H p = none) (h : Rps B.K (Av B σ σV) H xs ds) (k : EndK B σ σV H (.tuple ds, false) Q) : Q (.ref p) (upd H p (.tup xs)) :=
  k _ _ (r.new hp) (.heap (.new hp)) (.tup (SqT.of upd_same) (newRps r hp h))
theorem Rep.notAv (r : Rep B H σ σV) (hp : H p = none) : ¬ Av B σ σV p := fun hb => by
  rcases hb with hb | hb
  · obtain ⟨j, ⟨d, hd⟩, hv⟩ := hb
    have lst : ∃ xs, H p = some (.lst xs) := by
      rcases hd with hd | hd
      · obtain ⟨v, ev, a, ea, q, _⟩ := r.cell j _ hd
        rw [hv] at ev; cases ev; cases ea; exact q.at_
      · obtain ⟨v, ev, a, ea, q, _⟩ := r.cell j _ hd
        rw [hv] at ev; cases ev; cases ea; exact q.at_
    obtain ⟨xs, q⟩ := lst
    rw [hp] at q; cases q
  · exact r.exT p hb hp
theorem end_lst (r : Rep B H σ σV) (hp : H p = none) (h : Rps B.K (Av B σ σV) H xs ds) (k : EndK B σ σV H (.list ds, true) Q) : Q (.ref p) (upd H p (.lst xs)) := by
  refine k _ _ (r.new hp) (.heap (.new hp)) ⟨p, rfl, hp, r.notAv hp, r.newEx hp, xs, upd_same, ?_⟩
  refine (r.avoids hp h).keep (Kp.put (.inr (.inr rfl))) fun b hb ys z => ?_
  rcases hb with hb | (hb | hb)
  · exact r.nt b (.inl hb) ys z
  · exact r.nt b (.inr hb) ys z
  · rw [hb] at z; exact Rd.some_ z hp
end
end Pv
/-! Pv4: the operations of values. -/
namespace Pv
open PySem PySem.Spec PyProof.Rows L2
/-- what a context gives: room, nothing handled, nothing being shown -/
structure Gx (X : Cx) : Prop where
  hu : X.A.units + 150 < cLine
  calm : X.calm = true
  hd : X.A.handled = none
  gd : X.A.guards = some []
section
variable {X : Cx}
/-! ### + - * // % ** -/
def rCatL (K : Frag) : R2 := fun x y H Q => ∃ l b xs zs, x = .ref l ∧ y = .ref b ∧ LsR K H l xs ∧ LsR K H b zs ∧ xs.length + zs.length ≤ sizeLine ∧ ∀ p, H p = none → Q (.ref p) (upd H p (.lst (xs ++ zs)))
theorem op_catL : OpR X (binaryOp .Add) (rCatL X.K) := by
  intro pins s σ H x y v u Q I rx ry ⟨l, b, xs, zs, ex, ey, hl, hb, hz, q⟩
  subst ex; subst ey
  cases rx; cases ry
  obtain ⟨_, i1, n1, r1, l1, e1⟩ := hl.obj I
  obtain ⟨_, i2, n2, r2, l2, e2⟩ := hb.obj I
  refine PySem.P.add_list e1 e2 ?_ (by rw [List.size_toArray, List.size_toArray, ← l1, ← l2]; exact hz)
  rw [show i1.toArray ++ i2.toArray = (i1 ++ i2).toArray by simp]
  exact ⟨.ref _, _, I.lnew (t' := s.toks) (r1.append r2) (by rw [List.length_append]; exact hz), rfl, q _ I.fresh⟩
def rAddAll (K : Frag) : R2 := fun x y H Q => rI0 (fun i j => .int (i + j)) x y H Q ∨ rCatA K x y H Q ∨ rCatL K x y H Q ∨ (∃ i j, x = .str i ∧ y = .str j ∧ i.length + j.length ≤ sizeLine ∧ Q (.str (i ++ j)) H)
theorem op_addAll : OpR X (binaryOp .Add) (rAddAll X.K) := op_add.or (op_catA.or (op_catL.or op_add_str))
theorem str_len (x y : Str) : (x ++ y).length = x.length + y.length := by
  show (x.cps ++ y.cps).size = _
  exact Array.size_append
theorem line_eq : line = sizeLine := by rw [sizeLine_eq]; rfl
theorem tup_cat {G : Gk} {B : Vw} {σ : S} {σV : L2.St} {H : Hp} {a b : Addr} {xs ys : List V} {ds es : List PyData} {Q : VK} (g : B.of G) (r : Rep B H σ σV) (h1 : SqT G.K H a xs) (h2 : SqT G.K H b ys)
    (p1 : Rps B.K (Av B σ σV) H xs ds) (p2 : Rps B.K (Av B σ σV) H ys es) (hz : xs.length + ys.length ≤ sizeLine) (k : EndK B σ σV H (.tuple (ds ++ es), false) Q) : rCatA G.K (.ref a) (.ref b) H Q := by
  refine ⟨a, b, xs, ys, rfl, rfl, h1, h2, hz, fun e => ?_, fun _ e => ?_, fun _ _ p hp => end_tup r hp (p1.app p2) k⟩
  · subst e
    cases p1
    exact end_pl r (.tup (by rw [g.1]; exact h2) p2) k
  · subst e
    cases p2
    rw [List.append_nil] at k
    exact end_pl r (.tup (by rw [g.1]; exact h1) p1) k
theorem srv_add (G : Gk) : Srv2 G (bop .add) (rAddAll G.K) := by
  intro B σ σV H v u d c e Q g r p1 p2 he k
  cases d with
  | int i =>
    cases c with
    | int j => cases p1.int; cases p2.int; cases he; exact .inl ⟨i, j, rfl, rfl, end_int r k⟩
    | _ => cases he
  | str i =>
    cases c with
    | str j =>
      obtain ⟨rfl, z1⟩ := p1.str
      obtain ⟨rfl, z2⟩ := p2.str
      simp only [bop] at he
      split at he
      · rename_i hz
        cases he
        exact .inr (.inr (.inr ⟨i, j, rfl, rfl, by rw [← line_eq]; exact hz, end_pl r (.str _ (by rw [str_len]; exact hz)) k⟩))
      · cases he
    | _ => cases he
  | list l =>
    cases c with
    | list m =>
      simp only [bop] at he
      split at he
      · rename_i hz
        cases he
        obtain ⟨a, xs, rfl, h1, q1⟩ := p1.lst
        obtain ⟨b, ys, rfl, h2, q2⟩ := p2.lst
        rw [g.1] at h1 h2
        refine .inr (.inr (.inl ⟨a, b, xs, ys, rfl, rfl, h1, h2, by rw [q1.len, q2.len, ← line_eq]; exact hz, fun p hp => end_lst r hp (q1.app q2) k⟩))
      · cases he
    | _ => cases he
  | tuple l =>
    cases c with
    | tuple m =>
      simp only [bop] at he
      split at he
      · rename_i hz
        cases he
        obtain ⟨a, xs, rfl, h1, q1⟩ := p1.tup
        obtain ⟨b, ys, rfl, h2, q2⟩ := p2.tup
        rw [g.1] at h1 h2
        exact .inr (.inl (tup_cat g r h1 h2 q1 q2 (by rw [q1.len, q2.len, ← line_eq]; exact hz) k))
      · cases he
    | _ => cases he
  | _ => cases c <;> cases he
theorem srv_sub (G : Gk) : Srv2 G (bop .sub) (rI0 fun i j => .int (i - j)) := by
  intro B σ σV H v u d c e Q g r p1 p2 he k
  cases d with
  | int i =>
    cases c with
    | int j => cases p1.int; cases p2.int; cases he; exact ⟨i, j, rfl, rfl, end_int r k⟩
    | _ => cases he
  | _ => cases c <;> cases he
def rMulI : R2 := rI (fun i j => CMul i j ∨ CMulW i j) fun i j => .int (i * j)
theorem op_mulI : OpR X (binaryOp .Mult) rMulI := by
  intro pins s σ H x y v u Q I rx ry ⟨i, j, ex, ey, hc, q⟩
  rcases hc with hc | hc
  · exact op_mul pins s σ H x y v u Q I rx ry ⟨i, j, ex, ey, hc, q⟩
  · exact op_mulW pins s σ H x y v u Q I rx ry ⟨i, j, ex, ey, hc, q⟩
theorem srv_mulI {B : Vw} {σ : S} {σV : L2.St} {H : Hp} {i j : Int} {Q : VK} (r : Rep B H σ σV) (h : mulOk i j = true) (k : EndK B σ σV H (.int (i * j), false) Q) : rMulI (.int i) (.int j) H Q := by
  refine ⟨i, j, rfl, rfl, ?_, end_int r k⟩
  unfold mulOk at h
  simp only [Bool.or_eq_true, decide_eq_true_eq] at h
  rcases h with (h | h) | h
  · exact .inl (.inl (by omega))
  · exact .inl (.inr (by omega))
  · exact .inr h
def rDivI : R2 := rI (fun _ j => divOk j = true) fun i j => .int (i.fdiv j)
theorem op_divI : OpR X (binaryOp .FloorDiv) rDivI := by
  intro pins s σ H x y v u Q I rx ry ⟨i, j, ex, ey, hc, q⟩
  have hc : divOk j = true := hc
  unfold divOk at hc
  simp only [Bool.or_eq_true, Bool.and_eq_true, decide_eq_true_eq] at hc
  rcases hc with hc | hc
  · exact op_fdivN pins s σ H x y v u Q I rx ry ⟨i, j, ex, ey, hc, q⟩
  · refine op_fdivW pins s σ H x y v u Q I rx ry ⟨i, j, ex, ey, hc, ?_⟩
    have h0 : (0 : Int) < j := hc.1
    show Q (.int (i / j)) H
    rw [← Int.fdiv_eq_ediv_of_nonneg i (by omega)]
    exact q
theorem srv_fdiv (G : Gk) : Srv2 G (bop .fdiv) rDivI := by
  intro B σ σV H v u d c e Q g r p1 p2 he k
  cases d with
  | int i =>
    cases c with
    | int j =>
      cases p1.int; cases p2.int
      simp only [bop] at he
      split at he
      · rename_i hz; cases he; exact ⟨i, j, rfl, rfl, hz, end_int r k⟩
      · cases he
    | _ => cases he
  | _ => cases c <;> cases he
theorem srv_mod (G : Gk) : Srv2 G (bop .mod) (rI (fun _ j => j ≠ 0) fun i j => .int (i.fmod j)) := by
  intro B σ σV H v u d c e Q g r p1 p2 he k
  cases d with
  | int i =>
    cases c with
    | int j =>
      cases p1.int; cases p2.int
      simp only [bop] at he
      split at he
      · rename_i hz; cases he; exact ⟨i, j, rfl, rfl, hz, end_int r k⟩
      · cases he
    | _ => cases he
  | _ => cases c <;> cases he
theorem srv_pow (G : Gk) : Srv2 G (bop .pow) (rI CPow fun i j => .int (i ^ j.toNat)) := by
  intro B σ σV H v u d c e Q g r p1 p2 he k
  cases d with
  | int i =>
    cases c with
    | int j =>
      cases p1.int; cases p2.int
      simp only [bop] at he
      split at he
      · rename_i hz; cases he; exact ⟨i, j, rfl, rfl, hz, end_int r k⟩
      · cases he
    | _ => cases he
  | _ => cases c <;> cases he
/-! ### list * int, tuple * int -/
def rRepL (K : Frag) : R2 := fun x y H Q => ∃ l k xs, x = .ref l ∧ y = .int k ∧ LsR K H l xs ∧ 0 ≤ k ∧ k < 2 ^ 62 ∧ xs.length * k.toNat ≤ sizeLine ∧ ∀ p, H p = none → Q (.ref p) (upd H p (.lst (List.replicate k.toNat xs).flatten))
theorem op_repL : OpR X (binaryOp .Mult) (rRepL X.K) := by
  intro pins s σ H x y v u Q I rx ry ⟨l, k, xs, ex, ey, hl, h1, h2, hz, q⟩
  subst ex; subst ey
  cases rx
  obtain ⟨t, rfl⟩ := ry
  obtain ⟨_, its, n, r, ln, e⟩ := hl.obj I
  have a1 : its.toArray.size * k.toNat ≤ sizeLine := by rw [List.size_toArray, ← ln]; exact hz
  have a2 : ¬ its.toArray.size * k.toNat > (2 ^ 63 - 1) / 8 := by
    have : (sizeLine : Nat) ≤ (2 ^ 63 - 1) / 8 := by decide
    omega
  have a3 : ¬ (!Builtin.List.listFitsIndex k) = true := by
    rw [fitsIndex_both (by omega) (by omega)]
    exact Bool.false_ne_true
  have a4 : ¬ Builtin.List.listTooLong (its.toArray.size * k.toNat) = true := by
    rw [notLongL a1]
    exact Bool.false_ne_true
  have a5 : List.foldl (fun x1 x2 => x1 ++ x2) #[] (List.replicate (if its.toArray.isEmpty = true then 0 else k.toNat) its.toArray) = (List.replicate k.toNat its).flatten.toArray := by
    rw [size_rep]
    cases its with
    | nil => simp
    | cons a r' => rw [if_neg (by simp)]
  refine wpAny_binaryOp_repeat_ref (T := "list") (U := "int") (by decide) ⟨_, e, rfl⟩ (fun s' => typeIs_int s' k t) noFill_list_mul F.fills_int_mul F.slot_int_rmul repeat_list F.slot_int_index.lookup
    (call_meets F.slot_int_rmul (typeIs_int s k t) F.entry_int_rmul (F.args_int_rmul_2 _ _) (int___rmul___int_list k t l its.toArray n)
      ⟨e, rfl, ⟨_, e, rfl⟩, call_meets F.slot_list_mul ⟨_, e, rfl⟩ F.entry_list_mul (F.args_list_mul_2 _ _) (AutoListH.list___mul___list_int_3 l its.toArray n k t a3 a2 a4) ⟨e, ?_⟩⟩)
  rw [a5]
  exact ⟨.ref _, _, I.lnew (t' := s.toks) (r.rep k.toNat) (by rw [PyProof.Rows.lm_len_rep_flat, Nat.mul_comm]; exact hz), rfl, q _ I.fresh⟩
def rMulAll (K : Frag) : R2 := fun x y H Q => rMulI x y H Q ∨ rRepL K x y H Q ∨ rRepT K x y H Q
theorem op_mulAll : OpR X (binaryOp .Mult) (rMulAll X.K) := op_mulI.or (op_repL.or op_repT)
theorem srv_mul (G : Gk) : Srv2 G (bop .mul) (rMulAll G.K) := by
  intro B σ σV H v u d c e Q g r p1 p2 he k
  cases d with
  | int i =>
    cases c with
    | int j =>
      cases p1.int; cases p2.int
      simp only [bop] at he
      split at he
      · rename_i hz; cases he; exact .inl (srv_mulI r hz k)
      · cases he
    | _ => cases he
  | list l =>
    cases c with
    | int j =>
      cases p2.int
      simp only [bop] at he
      split at he
      · rename_i hz
        cases he
        obtain ⟨a, xs, rfl, h1, q1⟩ := p1.lst
        rw [g.1] at h1
        exact .inr (.inl ⟨a, j, xs, rfl, rfl, h1, hz.1, hz.2.1, by rw [q1.len, ← line_eq]; exact hz.2.2, fun p hp => end_lst r hp (q1.rep _) k⟩)
      · cases he
    | _ => cases he
  | tuple l =>
    cases c with
    | int j =>
      cases p2.int
      simp only [bop] at he
      split at he
      · rename_i hz
        cases he
        obtain ⟨a, xs, rfl, h1, q1⟩ := p1.tup
        rw [g.1] at h1
        refine .inr (.inr ⟨a, j, xs, rfl, rfl, h1, fun z => hz.1 ?_, hz.2.1, hz.2.2.1, by rw [q1.len]; exact hz.2.2.2, fun p hp => end_tup r hp (q1.rep _) k⟩)
        subst z; cases q1; rfl
      · cases he
    | _ => cases he
  | _ => cases c <;> cases he
/-! ### comparisons -/
theorem srv_eq (G : Gk) : Srv2 G (fun x y => bD (cop .eq x y)) (rEqD G.K) := by
  intro B σ σV H v u d c e Q g r p1 p2 he k
  simp only [cop, bD] at he
  split at he
  · rename_i hz
    cases he
    obtain ⟨z1, z2⟩ := Bool.and_eq_true_iff.mp hz
    exact ⟨d, c, by rw [← g.1]; exact p1.dp, by rw [← g.1]; exact p2.dp, z1, z2, end_bl r k⟩
  · cases he
theorem srv_ne (G : Gk) : Srv2 G (fun x y => bD (cop .ne x y)) (rNeD G.K) := by
  intro B σ σV H v u d c e Q g r p1 p2 he k
  simp only [cop, bD] at he
  split at he
  · rename_i hz
    cases he
    obtain ⟨z1, z2⟩ := Bool.and_eq_true_iff.mp hz
    exact ⟨d, c, by rw [← g.1]; exact p1.dp, by rw [← g.1]; exact p2.dp, z1, z2, end_bl r k⟩
  · cases he
theorem srv_cmpI (G : Gk) (o : Cop) (f : Int → Int → Bool) (h1 : ∀ i j, cop o (.int i) (.int j) = some (f i j)) (h2 : ∀ x y, (∀ i j, ¬ (x = .int i ∧ y = .int j)) → cop o x y = none) : Srv2 G (fun x y => bD (cop o x y)) (rI0 fun i j => .bl (f i j)) := by
  intro B σ σV H v u d c e Q g r p1 p2 he k
  have he : bD (cop o d c) = some e := he
  by_cases hh : ∃ i j, d = .int i ∧ c = .int j
  · obtain ⟨i, j, rfl, rfl⟩ := hh
    cases p1.int; cases p2.int
    rw [h1] at he
    cases he
    exact ⟨i, j, rfl, rfl, end_bl r k⟩
  · rw [h2 d c fun i j z => hh ⟨i, j, z⟩] at he
    cases he
theorem noI (f : Int → Int → Bool) (o : Cop) (h : o = .lt ∨ o = .le ∨ o = .gt ∨ o = .ge) : ∀ x y, (∀ i j, ¬ (x = .int i ∧ y = .int j)) → cop o x y = none := by
  intro x y z
  cases x <;> cases y <;> first
    | exact absurd ⟨rfl, rfl⟩ (z _ _)
    | (rcases h with rfl | rfl | rfl | rfl <;> rfl)
theorem srv_lt (G : Gk) : Srv2 G (fun x y => bD (cop .lt x y)) (rI0 fun i j => .bl (decide (i < j))) := srv_cmpI G _ _ (fun _ _ => rfl) (noI (fun _ _ => true) _ (.inl rfl))
theorem srv_le (G : Gk) : Srv2 G (fun x y => bD (cop .le x y)) (rI0 fun i j => .bl (decide (i ≤ j))) := srv_cmpI G _ _ (fun _ _ => rfl) (noI (fun _ _ => true) _ (.inr (.inl rfl)))
theorem srv_gt (G : Gk) : Srv2 G (fun x y => bD (cop .gt x y)) (rI0 fun i j => .bl (decide (j < i))) := srv_cmpI G _ _ (fun _ _ => rfl) (noI (fun _ _ => true) _ (.inr (.inr (.inl rfl))))
theorem srv_ge (G : Gk) : Srv2 G (fun x y => bD (cop .ge x y)) (rI0 fun i j => .bl (decide (j ≤ i))) := srv_cmpI G _ _ (fun _ _ => rfl) (noI (fun _ _ => true) _ (.inr (.inr (.inr rfl))))
/-- x in xs, a list or a tuple; neg: not in -/
def rInA (K : Frag) (neg : Bool) : R2 := fun x y H Q => ∃ d ds, Dp K H x d ∧ (Dp K H y (.list ds) ∨ Dp K H y (.tuple ds)) ∧ SeqAt.shaped d = true ∧ PyData.canLayAll0 ds = true ∧ Q (.bl (if neg then !ds.any fun z => PyData.eqv z d else ds.any fun z => PyData.eqv z d)) H
theorem op_inA (gx : Gx X) : OpR X (compareOp .In) (rInA X.K false) := by
  intro pins s σ H x y v u Q I rx ry ⟨d, ds, hd, he, sd, se, q⟩
  have hu := gx.hu
  obtain ⟨as, r1⟩ := Dp.reads I d x v hd rx
  rcases he with he | he
  · obtain ⟨bs, r2⟩ := Dp.reads I (.list ds) y u he ry
    exact SeqAt.in_list_reads r2 r1 se (SeqAt.canLay_of_shaped sd) (room_in_shaped sd (by omega)) ⟨.bl _, H, I, rfl, q⟩
  · obtain ⟨bs, r2⟩ := Dp.reads I (.tuple ds) y u he ry
    exact SeqAt.in_tuple_reads r2 r1 se (SeqAt.canLay_of_shaped sd) (room_in_shaped sd (by omega)) ⟨.bl _, H, I, rfl, q⟩
theorem op_ninA (gx : Gx X) : OpR X (compareOp .NotIn) (rInA X.K true) := by
  intro pins s σ H x y v u Q I rx ry ⟨d, ds, hd, he, sd, se, q⟩
  have hu := gx.hu
  obtain ⟨as, r1⟩ := Dp.reads I d x v hd rx
  rcases he with he | he
  · obtain ⟨bs, r2⟩ := Dp.reads I (.list ds) y u he ry
    exact SeqAt.notIn_list_reads r2 r1 se (SeqAt.canLay_of_shaped sd) (room_in_shaped sd (by omega)) ⟨.bl _, H, I, rfl, q⟩
  · obtain ⟨bs, r2⟩ := Dp.reads I (.tuple ds) y u he ry
    exact SeqAt.notIn_tuple_reads r2 r1 se (SeqAt.canLay_of_shaped sd) (room_in_shaped sd (by omega)) ⟨.bl _, H, I, rfl, q⟩
theorem okD_l {l : List PyData} (h : okD (.list l) = true) : PyData.canLayAll0 l = true := SeqAt.canLay_of_shaped h
theorem okD_t {l : List PyData} (h : okD (.tuple l) = true) : PyData.canLayAll0 l = true := SeqAt.canLay_of_shaped h
theorem srv_in (G : Gk) : Srv2 G (fun x y => bD (cop .isin x y)) (rInA G.K false) := by
  intro B σ σV H v u d c e Q g r p1 p2 he k
  cases c with
  | list l =>
    simp only [cop, bD] at he
    split at he
    · rename_i hz
      cases he
      obtain ⟨z1, z2⟩ := Bool.and_eq_true_iff.mp hz
      exact ⟨d, l, by rw [← g.1]; exact p1.dp, .inl (by rw [← g.1]; exact p2.dp), z1, okD_l z2, end_bl r k⟩
    · cases he
  | tuple l =>
    simp only [cop, bD] at he
    split at he
    · rename_i hz
      cases he
      obtain ⟨z1, z2⟩ := Bool.and_eq_true_iff.mp hz
      exact ⟨d, l, by rw [← g.1]; exact p1.dp, .inr (by rw [← g.1]; exact p2.dp), z1, okD_t z2, end_bl r k⟩
    · cases he
  | _ => cases d <;> cases he
theorem srv_nin (G : Gk) : Srv2 G (fun x y => bD (cop .notin x y)) (rInA G.K true) := by
  intro B σ σV H v u d c e Q g r p1 p2 he k
  cases c with
  | list l =>
    simp only [cop, bD] at he
    split at he
    · rename_i hz
      cases he
      obtain ⟨z1, z2⟩ := Bool.and_eq_true_iff.mp hz
      exact ⟨d, l, by rw [← g.1]; exact p1.dp, .inl (by rw [← g.1]; exact p2.dp), z1, okD_l z2, end_bl r k⟩
    · cases he
  | tuple l =>
    simp only [cop, bD] at he
    split at he
    · rename_i hz
      cases he
      obtain ⟨z1, z2⟩ := Bool.and_eq_true_iff.mp hz
      exact ⟨d, l, by rw [← g.1]; exact p1.dp, .inr (by rw [← g.1]; exact p2.dp), z1, okD_t z2, end_bl r k⟩
    · cases he
  | _ => cases d <;> cases he
/-- the rule of a comparison -/
def CmpOf : Cop → CmpOp
  | .eq => .Eq | .ne => .NotEq | .lt => .Lt | .le => .LtE | .gt => .Gt | .ge => .GtE | .isin => .In | .notin => .NotIn
def rCmp (K : Frag) : Cop → R2
  | .eq => rEqD K | .ne => rNeD K
  | .lt => rI0 fun i j => .bl (decide (i < j)) | .le => rI0 fun i j => .bl (decide (i ≤ j)) | .gt => rI0 fun i j => .bl (decide (j < i)) | .ge => rI0 fun i j => .bl (decide (j ≤ i))
  | .isin => rInA K false | .notin => rInA K true
theorem op_cmp (gx : Gx X) (o : Cop) : OpR X (compareOp (CmpOf o)) (rCmp X.K o) := by
  have hu := gx.hu
  cases o with
  | eq => exact op_eqD (by omega)
  | ne => exact op_neD (by omega)
  | lt => exact op_lt
  | le => exact op_le
  | gt => exact op_gt
  | ge => exact op_ge
  | isin => exact op_inA gx
  | notin => exact op_ninA gx
theorem srv_cmp (G : Gk) (o : Cop) : Srv2 G (fun x y => bD (cop o x y)) (rCmp G.K o) := by
  cases o with
  | eq => exact srv_eq G
  | ne => exact srv_ne G
  | lt => exact srv_lt G
  | le => exact srv_le G
  | gt => exact srv_gt G
  | ge => exact srv_ge G
  | isin => exact srv_in G
  | notin => exact srv_nin G
def BinOf : Bop → Operator
  | .add => .Add | .sub => .Sub | .mul => .Mult | .fdiv => .FloorDiv | .mod => .Mod | .pow => .Pow
def rBin (K : Frag) : Bop → R2
  | .add => rAddAll K | .sub => rI0 fun i j => .int (i - j) | .mul => rMulAll K | .fdiv => rDivI | .mod => rI (fun _ j => j ≠ 0) fun i j => .int (i.fmod j) | .pow => rI CPow fun i j => .int (i ^ j.toNat)
theorem op_bin (o : Bop) : OpR X (binaryOp (BinOf o)) (rBin X.K o) := by
  cases o with
  | add => exact op_addAll
  | sub => exact op_sub
  | mul => exact op_mulAll
  | fdiv => exact op_divI
  | mod => exact op_modN
  | pow => exact op_pow
theorem srv_bin (G : Gk) (o : Bop) : Srv2 G (bop o) (rBin G.K o) := by
  cases o with
  | add => exact srv_add G
  | sub => exact srv_sub G
  | mul => exact srv_mul G
  | fdiv => exact srv_fdiv G
  | mod => exact srv_mod G
  | pow => exact srv_pow G
/-! ### one operand -/
theorem srv_neg (G : Gk) : Srv1 G (fun x => match x with | .int i => some (.int (-i), false) | _ => none) (rU fun i => .int (-i)) := by
  intro B σ σV H v d e Q g r p he k
  cases d with
  | int i => cases p.int; cases he; exact ⟨i, rfl, end_int r k⟩
  | _ => cases he
def isNone : PyData → Bool
  | .none => true
  | _ => false
theorem Opr.nonIff {K : Frag} {A : ASet} {H : Hp} {v : V} {d : PyData} (h : Opr K A H v d) : decide (v = .non) = isNone d := by
  cases d with
  | none => rw [h.non]; rfl
  | bool b => rw [h.bl]; exact decide_eq_false fun z => by cases z
  | int b => rw [h.int]; exact decide_eq_false fun z => by cases z
  | str b => rw [h.str.1]; exact decide_eq_false fun z => by cases z
  | list b => obtain ⟨a, xs, rfl, _⟩ := h.lst; exact decide_eq_false fun z => by cases z
  | tuple b => obtain ⟨a, xs, rfl, _⟩ := h.tup; exact decide_eq_false fun z => by cases z
  | dict b => exact h.nodict.elim
def rIsN (yes : Bool) : V → Hp → VK → Prop := fun x H Q => Q (.bl (decide (x = .non) == yes)) H
theorem srv_isn (G : Gk) (yes : Bool) : Srv1 G (fun x => match x with | .none => some (.bool yes, false) | _ => some (.bool !yes, false)) (rIsN yes) := by
  intro B σ σV H v d e Q g r p he k
  show Q (.bl (decide (v = .non) == yes)) H
  rw [p.nonIff]
  cases d <;> (cases he; cases yes <;> exact end_bl r k)
def rIsB (yes b : Bool) : V → Hp → VK → Prop := fun x H Q => ∃ c, x = .bl c ∧ Q (.bl ((c == b) == yes)) H
theorem srv_isb (G : Gk) (yes b : Bool) : Srv1 G (fun x => match x with | .bool c => some (.bool ((c == b) == yes), false) | _ => none) (rIsB yes b) := by
  intro B σ σV H v d e Q g r p he k
  cases d with
  | bool c => cases p.bl; cases he; exact ⟨c, rfl, end_bl r k⟩
  | _ => cases he
/-! ### truth -/
theorem tru_val {K : Frag} {A : ASet} {H : Hp} {v : V} {d : PyData} (h : Opr K A H v d) : TruV K v H (tru d) := by
  cases d with
  | none => rw [h.non]; rfl
  | bool b => rw [h.bl]; rfl
  | int b => rw [h.int]; rfl
  | str b =>
    rw [h.str.1]
    refine ⟨by rw [← line_eq]; exact h.str.2, ?_⟩
    show (b.length != 0) = _
    rw [Bool.eq_iff_iff]
    simp
  | list b =>
    obtain ⟨a, xs, rfl, h1, q⟩ := h.lst
    refine .inl ⟨xs, h1.sq, ?_⟩
    cases q <;> rfl
  | tuple b =>
    obtain ⟨a, xs, rfl, h1, q⟩ := h.tup
    refine .inr (.inl ⟨xs, h1, ?_⟩)
    cases q <;> rfl
  | dict b => exact h.nodict.elim
/-! ### x[i], x[i:j] -/
theorem ixD_eq : @ixD = @ixN := rfl
theorem atD_map {K : Frag} {A : ASet} {H : Hp} {xs : List V} {ds : List PyData} {i : Int} {d : PyData} (q : Rps K A H xs ds) (h : atD ds i = some d) : ∃ v, atI xs i = some v ∧ Rp K A H v d := by
  unfold atD at h
  unfold atI
  rw [q.len]
  cases e : ixD ds.length i with
  | none => rw [e] at h; cases h
  | some j =>
    rw [e] at h
    obtain ⟨v, h1, h2⟩ := q.get (i := j) h
    exact ⟨v, by show (ixN ds.length i).bind _ = _; rw [show ixN ds.length i = some j from e]; exact h1, h2⟩
theorem srv_ix (G : Gk) : Srv2 G (fun x y => (ixop x y).map fun d => (d, false)) (rIx G.K) := by
  intro B σ σV H v u d c e Q g r p1 p2 he k
  cases c with
  | int i =>
    cases p2.int
    cases d with
    | list l =>
      obtain ⟨a, xs, rfl, h1, q1⟩ := p1.lst
      rw [g.1] at h1
      simp only [ixop] at he
      cases h : atD l i with
      | none => rw [h] at he; cases he
      | some z =>
        rw [h] at he
        cases he
        obtain ⟨v, h2, h3⟩ := atD_map q1 h
        exact .inl ⟨a, xs, i, v, rfl, rfl, h1.sq, h2, end_pl r h3 k⟩
    | tuple l =>
      obtain ⟨a, xs, rfl, h1, q1⟩ := p1.tup
      rw [g.1] at h1
      simp only [ixop] at he
      cases h : atD l i with
      | none => rw [h] at he; cases he
      | some z =>
        rw [h] at he
        cases he
        obtain ⟨v, h2, h3⟩ := atD_map q1 h
        exact .inr (.inl ⟨a, xs, i, v, rfl, rfl, h1, h2, end_pl r h3 k⟩)
    | str x =>
      obtain ⟨rfl, z⟩ := p1.str
      simp only [ixop] at he
      cases h : atD x.cps.toList i with
      | none => rw [h] at he; cases he
      | some c =>
        rw [h] at he
        cases he
        exact .inr (.inr ⟨x, i, c, rfl, rfl, by rw [← line_eq]; exact z, h, end_pl r (.str _ (by show 1 ≤ line; decide)) k⟩)
    | _ => cases he
  | _ => cases d <;> cases he
theorem cutD_rps {K : Frag} {A : ASet} {H : Hp} {xs : List V} {ds : List PyData} {lo hi : Option Int} (q : Rps K A H xs ds) : Rps K A H (cutV xs lo hi) (cutD ds lo hi) := by
  unfold cutV cutD
  rw [q.len]
  exact (q.drop _).take _
def rSlL' (K : Frag) : V → Option Int → Option Int → Hp → VK → Prop := fun x lo hi H Q => rSlL K x lo hi H Q ∨ rSlA K x lo hi H Q
theorem sl_all : SlR X (rSlL' X.K) := sl_list.or sl_tupA
theorem srv_sl {G : Gk} {B : Vw} {σ : S} {σV : L2.St} {H : Hp} {v : V} {d : PyData} {e : DF} {Q : VK} {lo hi : Option Int} (g : B.of G) (r : Rep B H σ σV) (p : Opr B.K (Av B σ σV) H v d) (he : slop d lo hi = some e) (k : EndK B σ σV H e Q) : rSlL' G.K v lo hi H Q := by
  cases d with
  | list l =>
    cases he
    obtain ⟨a, xs, rfl, h1, q1⟩ := p.lst
    rw [g.1] at h1
    exact .inl ⟨a, xs, rfl, h1.sq, fun p hp => end_lst r hp (cutD_rps q1) k⟩
  | tuple l =>
    cases he
    obtain ⟨a, xs, rfl, h1, q1⟩ := p.tup
    rw [g.1] at h1
    refine .inr ⟨a, xs, rfl, h1, fun z => ?_, fun _ p hp => end_tup r hp (cutD_rps q1) k⟩
    have e : cutD l lo hi = l := by
      unfold cutD
      rw [← q1.len, z.1, z.2]
      simp [q1.len]
    rw [e] at k
    exact end_pl r (.tup (by rw [g.1]; exact h1) q1) k
  | _ => cases he
/-! ### builtins by values -/
theorem pd1 {α β : Type} {F : α → β → Prop} {xs : List α} {b : β} (p : Paired F xs [b]) : ∃ a, xs = [a] ∧ F a b := by
  cases p with
  | cons q p => cases p; exact ⟨_, rfl, q⟩
theorem pd2 {α β : Type} {F : α → β → Prop} {xs : List α} {b c : β} (p : Paired F xs [b, c]) : ∃ x y, xs = [x, y] ∧ F x b ∧ F y c := by
  cases p with
  | cons q p =>
    obtain ⟨y, rfl, q2⟩ := pd1 p
    exact ⟨_, y, rfl, q, q2⟩
theorem srv_len (G : Gk) : Srv G (bop2 .len) (fun xs H Q => ∃ x n, xs = [x] ∧ LenV G.K x H n ∧ Q (.int n) H) := by
  intro B σ σV H vs ds e Q g r p he k
  match ds, he with
  | [.list l], he =>
    obtain ⟨v, rfl, p1⟩ := pd1 p
    cases he
    obtain ⟨a, xs, rfl, h1, q1⟩ := p1.lst
    rw [g.1] at h1
    exact ⟨_, _, rfl, .inl ⟨xs, h1.sq, q1.len.symm⟩, end_int r k⟩
  | [.tuple l], he =>
    obtain ⟨v, rfl, p1⟩ := pd1 p
    cases he
    obtain ⟨a, xs, rfl, h1, q1⟩ := p1.tup
    rw [g.1] at h1
    exact ⟨_, _, rfl, .inr ⟨xs, h1, q1.len.symm⟩, end_int r k⟩
  | [.str l], he =>
    obtain ⟨v, rfl, p1⟩ := pd1 p
    cases he
    obtain ⟨rfl, z⟩ := p1.str
    exact ⟨_, _, rfl, ⟨by rw [← line_eq]; exact z, rfl⟩, end_int r k⟩
theorem srv_tuple (G : Gk) : Srv G (bop2 .tuple) (fun xs H Q => ∃ p ys, xs = [.ref p] ∧ ((SqL G.K H p ys ∧ ∀ l, H l = none → Q (.ref l) (upd H l (.tup ys))) ∨ (SqT G.K H p ys ∧ Q (.ref p) H))) := by
  intro B σ σV H vs ds e Q g r p he k
  match ds, he with
  | [.list l], he =>
    obtain ⟨v, rfl, p1⟩ := pd1 p
    cases he
    obtain ⟨a, xs, rfl, h1, q1⟩ := p1.lst
    rw [g.1] at h1
    exact ⟨a, xs, rfl, .inl ⟨h1.sq, fun l hl => end_tup r hl q1 k⟩⟩
  | [.tuple l], he =>
    obtain ⟨v, rfl, p1⟩ := pd1 p
    cases he
    obtain ⟨a, xs, rfl, h1, q1⟩ := p1.tup
    exact ⟨a, xs, rfl, .inr ⟨by rw [g.1] at h1; exact h1, end_pl r (.tup h1 q1) k⟩⟩
theorem srv_list (G : Gk) : Srv G (bop2 .list) (fun xs H Q => ∃ p ys, xs = [.ref p] ∧ (SqL G.K H p ys ∨ SqT G.K H p ys) ∧ ∀ l, H l = none → Q (.ref l) (upd H l (.lst ys))) := by
  intro B σ σV H vs ds e Q g r p he k
  match ds, he with
  | [.list l], he =>
    obtain ⟨v, rfl, p1⟩ := pd1 p
    cases he
    obtain ⟨a, xs, rfl, h1, q1⟩ := p1.lst
    rw [g.1] at h1
    exact ⟨a, xs, rfl, .inl h1.sq, fun l hl => end_lst r hl q1 k⟩
  | [.tuple l], he =>
    obtain ⟨v, rfl, p1⟩ := pd1 p
    cases he
    obtain ⟨a, xs, rfl, h1, q1⟩ := p1.tup
    rw [g.1] at h1
    exact ⟨a, xs, rfl, .inr h1, fun l hl => end_lst r hl q1 k⟩
theorem boolsD_ok {K : Frag} {A : ASet} {H : Hp} : ∀ {xs : List V} {ds : List PyData} {bs : List Bool}, Rps K A H xs ds → boolsD ds = some bs → xs = bs.map V.bl
  | _, _, _, .nil, h => by cases h; rfl
  | _, _, _, .cons q p, h => by
    cases q with
    | bl b =>
      simp only [boolsD] at h
      obtain ⟨l, h1, h2⟩ := Option.map_eq_some_iff.mp h
      subst h2
      rw [boolsD_ok p h1]
      rfl
    | _ => cases h
theorem intsD_ok {K : Frag} {A : ASet} {H : Hp} : ∀ {xs : List V} {ds : List PyData} {bs : List Int}, Rps K A H xs ds → intsD ds = some bs → xs = bs.map V.int
  | _, _, _, .nil, h => by cases h; rfl
  | _, _, _, .cons q p, h => by
    cases q with
    | int b =>
      simp only [intsD] at h
      obtain ⟨l, h1, h2⟩ := Option.map_eq_some_iff.mp h
      subst h2
      rw [intsD_ok p h1]
      rfl
    | _ => cases h
theorem srv_all (G : Gk) : Srv G (bop2 .all) (rAll G.K) := by
  intro B σ σV H vs ds e Q g r p he k
  match ds, he with
  | [.list l], he =>
    obtain ⟨v, rfl, p1⟩ := pd1 p
    obtain ⟨a, xs, rfl, h1, q1⟩ := p1.lst
    rw [g.1] at h1
    simp only [bop2] at he
    obtain ⟨bs, e1, e2⟩ := Option.map_eq_some_iff.mp he
    subst e2
    cases boolsD_ok q1 e1
    exact ⟨a, bs, rfl, h1.sq, end_bl r k⟩
theorem srv_any (G : Gk) : Srv G (bop2 .any) (rAny G.K) := by
  intro B σ σV H vs ds e Q g r p he k
  match ds, he with
  | [.list l], he =>
    obtain ⟨v, rfl, p1⟩ := pd1 p
    obtain ⟨a, xs, rfl, h1, q1⟩ := p1.lst
    rw [g.1] at h1
    simp only [bop2] at he
    obtain ⟨bs, e1, e2⟩ := Option.map_eq_some_iff.mp he
    subst e2
    cases boolsD_ok q1 e1
    exact ⟨a, bs, rfl, h1.sq, end_bl r k⟩
theorem srv_min2 (G : Gk) : Srv G (bop2 .min2) (fun xs H Q => ∃ i j, xs = [.int i, .int j] ∧ Q (.int (if j < i then j else i)) H) := by
  intro B σ σV H vs ds e Q g r p he k
  match ds, he with
  | [.int i, .int j], he =>
    obtain ⟨v, u, rfl, p1, p2⟩ := pd2 p
    cases he; cases p1.int; cases p2.int
    exact ⟨i, j, rfl, end_int r k⟩
theorem srv_max2 (G : Gk) : Srv G (bop2 .max2) (fun xs H Q => ∃ i j, xs = [.int i, .int j] ∧ Q (.int (if j > i then j else i)) H) := by
  intro B σ σV H vs ds e Q g r p he k
  match ds, he with
  | [.int i, .int j], he =>
    obtain ⟨v, u, rfl, p1, p2⟩ := pd2 p
    cases he; cases p1.int; cases p2.int
    exact ⟨i, j, rfl, end_int r k⟩
theorem srv_abs (G : Gk) : Srv G (bop2 .abs) (fun xs H Q => ∃ i, xs = [.int i] ∧ Q (.int (if i < 0 then -i else i)) H) := by
  intro B σ σV H vs ds e Q g r p he k
  match ds, he with
  | [.int i], he =>
    obtain ⟨v, rfl, p1⟩ := pd1 p
    cases he; cases p1.int
    exact ⟨i, rfl, end_int r k⟩
theorem srv_int (G : Gk) : Srv G (bop2 .int) (fun xs H Q => (∃ i, xs = [.int i] ∧ Q (.int i) H) ∨ ∃ k, xs = [.bl k] ∧ Q (.int (if k then 1 else 0)) H) := by
  intro B σ σV H vs ds e Q g r p he k
  match ds, he with
  | [.int i], he =>
    obtain ⟨v, rfl, p1⟩ := pd1 p
    cases he; cases p1.int
    exact .inl ⟨i, rfl, end_int r k⟩
  | [.bool i], he =>
    obtain ⟨v, rfl, p1⟩ := pd1 p
    cases he; cases p1.bl
    exact .inr ⟨i, rfl, end_int r k⟩
/-- repr(x) of data -/
def rRepr (K : Frag) : List V → Hp → VK → Prop := fun vs H Q => ∃ x d, vs = [x] ∧ Dp K H x d ∧ reprOk d = true ∧ Q (.str d.shown) H
theorem call_reprD (gx : Gx X) : CallR X (.builtin "repr") (rRepr X.K) := by
  intro pins s σ H xs us Q I r ⟨x, d, ex, hd, ok, q⟩
  subst ex
  have hu := gx.hu
  obtain ⟨u, rfl, ru⟩ := Vals.one r
  obtain ⟨as, rd⟩ := Dp.reads I d x u hd ru
  unfold reprOk at ok
  simp only [Bool.and_eq_true, Bool.not_eq_true', decide_eq_true_eq] at ok
  obtain ⟨⟨⟨o1, o2⟩, o3⟩, o4⟩ := ok
  rw [line_eq] at o4
  have onRef : ∀ a, u = .ref a → wpAny (model X.prog X.w) X.A (call (.builtin "repr") [u]) (EP X pins σ Q) X.xe s := fun a e => by
    subst e
    exact repr_of_reads' rd o1 (PyData.noDict_hsm o2) gx.gd (by omega) (fun _ _ z => z) (fun h' t tk kk => ⟨.str d.shown, H, I.kept kk, ⟨_, rfl⟩, q⟩) (by omega)
  cases hd with
  | non => cases ru; exact PySem.P.repr_of_none ⟨.str _, H, I.tok _, ⟨_, rfl⟩, q⟩
  | bl b => cases ru; exact PySem.P.repr_of_bool ⟨.str _, H, I.tok _, ⟨_, rfl⟩, by cases b <;> exact q⟩
  | int i => obtain ⟨t, rfl⟩ := ru; exact PySem.P.repr_of_int (by simpa [PyData.showable] using o1) ⟨.str _, H, I.tok _, ⟨_, rfl⟩, q⟩
  | str y =>
    obtain ⟨t, rfl⟩ := ru
    exact PySem.P.repr_of_str ⟨.str _, H, I.tok _, ⟨_, rfl⟩, q⟩ (by have : (PyData.shown (.str y)).length + 64 ≤ sizeLine := o4; simp only [PyData.shown] at this; omega)
  | lst _ _ => exact onRef _ ru
  | tup _ _ => exact onRef _ ru
theorem srv_repr (G : Gk) : Srv G (bop2 .repr) (rRepr G.K) := by
  intro B σ σV H vs ds e Q g r p he k
  match ds, he with
  | [d], he =>
    obtain ⟨v, rfl, p1⟩ := pd1 p
    simp only [bop2] at he
    split at he
    · rename_i ok
      cases he
      have ok' := ok
      unfold reprOk at ok'
      simp only [Bool.and_eq_true, Bool.not_eq_true', decide_eq_true_eq] at ok'
      exact ⟨v, d, rfl, by rw [← g.1]; exact p1.dp, ok, end_pl r (.str _ (by omega)) k⟩
    · cases he
end
end Pv
/-! Pv5: the checker, the context, what one construct of an expression asks. -/
namespace Pv
open PySem PySem.Spec PyProof.Rows L2

/-! ### the checker: an R text is this expression -/
/-- a def's names by slots, the scope that runs, the scope as written -/
structure Sx where
  N : List Str
  sc : Scope
  osc : Scope
/-- the module: its defs (with their parameters), its whole numbers, its classes of errors -/
structure Gs where
  fns : List (Str × List Str)
  cns : List (Str × Int)
  excs : List Str
  ups : List (List Nat)
  /-- calls with keywords: the def, the number of positional values, the keywords' parameters -/
  kcs : List (Nat × Nat × List Nat)
def vis (S : Sx) (x : Str) : Bool := match S.sc.names.lookup x with
  | some .local => true
  | some .cell => true
  | some .free => true
  | _ => false
def gl (S : Sx) (x : Str) : Bool := (S.sc.names.lookup x == some NameKind.globalImplicit) && !(x == ("__debug__" : Str)) && !(x == ("__name__" : Str))
def isSlot (S : Sx) (i : Nat) (x : Str) : Bool := (S.N[i]? == some x) && vis S x && !(x == ("__debug__" : Str)) && !(x == ("__classdict__" : Str))
/-- a name that may be stored -/
def isTgt (S : Sx) (i : Nat) (x : Str) : Bool := (S.N[i]? == some x) && (S.osc.names.lookup x == some NameKind.local || S.osc.names.lookup x == some NameKind.cell)
def biName : Bi → Str
  | .len => "len" | .tuple => "tuple" | .list => "list" | .listr => "list" | .sum => "sum" | .sumL => "sum" | .all => "all" | .any => "any" | .sorted => "sorted" | .min => "min" | .max => "max"
  | .min2 => "min" | .max2 => "max" | .abs => "abs" | .int => "int" | .repr => "repr" | .sortedSet => "sorted" | .lenSet => "len" | .index => "index" | .count => "count"
/-- the builtins that are carried -/
def biOk : Bi → Bool
  | .len => true | .tuple => true | .list => true | .all => true | .any => true | .min2 => true | .max2 => true | .abs => true | .int => true | .repr => true
  | _ => false
def tyName : Ty → Str
  | .int => "int" | .bool => "bool" | .str => "str" | .tuple => "tuple" | .list => "list"
def plainIx : Expr → Bool
  | .Slice _ _ _ _ => false
  | _ => true
def all2 {α β : Type} (f : α → β → Bool) : List α → List β → Bool
  | [], [] => true
  | a :: as, b :: bs => f a b && all2 f as bs
  | _, _ => false
def isExp : CmpOp → Bool → Bool
  | .Is, true => true
  | .IsNot, false => true
  | _, _ => false
def chkT (S : Sx) : T → Expr → Bool
  | .nm i, .Name x _ => isTgt S i x
  | .tp is, .Tuple es _ _ => all2 (fun i e => match e with | .Name x _ => isTgt S i x | _ => false) is es
  | _, _ => false
def tgNames : Expr → List Str
  | .Name x _ => [x]
  | .Tuple es _ _ => es.filterMap fun e => match e with | .Name x _ => some x | _ => none
  | _ => []
def tgSlots : T → List Nat
  | .nm i => [i]
  | .tp is => is
/-- the scope of a comprehension's block, seen from its def -/
def inBlk (S : Sx) (sc : Scope) : Sx := { N := S.N, sc := relS sc S.sc, osc := sc }
def chkI (S : Sx) (f : R → Expr → Bool) (it : R) (e : Expr) : Bool := match it, e with
  | .rng [a], .Call (.Name x _) [g] [] _ => x == ("range" : Str) && gl S x && f a g
  | .rng [a, b], .Call (.Name x _) [g, h] [] _ => x == ("range" : Str) && gl S x && f a g && f b h
  | it, e => f it e
def chkE : Nat → Gs → Sx → R → Expr → Bool
  | 0, _, _, _, _ => false
  | n + 1, Γ, S, r, e => match r, e with
    | .var i, .Name x _ => isSlot S i x
    | .non, .Constant .none _ _ => true
    | .bl b, .Constant (.bool c) _ _ => b == c
    | .int i, .Constant (.int j) _ _ => i == j
    | .int i, .Name x _ => gl S x && (Γ.cns.lookup x == some i)
    | .str x, .Constant (.str y) _ _ => x == y
    | .tup es, .Tuple fs _ _ => all2 (chkE n Γ S) es fs
    | .lst es, .List fs _ => all2 (chkE n Γ S) es fs
    | .bin o a b, .BinOp f p g _ => p == BinOf o && chkE n Γ S a f && chkE n Γ S b g
    | .neg a, .UnaryOp .USub f _ => chkE n Γ S a f
    | .cmp o a b, .Compare f [p] [g] _ => p == CmpOf o && chkE n Γ S a f && chkE n Γ S b g
    | .chain o q a b c, .Compare f [p, p'] [g, h] _ => p == CmpOf o && p' == CmpOf q && chkE n Γ S a f && chkE n Γ S b g && chkE n Γ S c h
    | .isn yes a, .Compare f [p] [.Constant .none _ _] _ => isExp p yes && chkE n Γ S a f
    | .isb yes b a, .Compare f [p] [.Constant (.bool c) _ _] _ => isExp p yes && b == c && chkE n Γ S a f
    | .and es, .BoolOp .And fs _ => all2 (chkE n Γ S) es fs
    | .or es, .BoolOp .Or fs _ => all2 (chkE n Γ S) es fs
    | .not a, .UnaryOp .Not f _ => chkE n Γ S a f
    | .ife c a b, .IfExp f g h _ => chkE n Γ S c f && chkE n Γ S a g && chkE n Γ S b h
    | .call i es, .Call (.Name x _) fs [] _ => (Γ.fns[i]?.map (·.1) == some x) && gl S x && all2 (chkE n Γ S) es fs
    | .callk i es ks kws, .Call (.Name x _) fs kwds _ => (match Γ.fns[i]? with
        | some (y, ps) => y == x && decide (es.length + kws.length = ps.length) && decide (ks.length = kws.length) && all2 (fun k (q : Keyword) => q.arg == ps[k]? && q.arg.isSome) ks kwds
        | none => false) && Γ.kcs.contains (i, es.length, ks) && !kwds.isEmpty && gl S x && all2 (chkE n Γ S) es fs && all2 (fun r (q : Keyword) => chkE n Γ S r q.value) kws kwds
    | .bi b es, .Call (.Name x _) fs [] _ => biOk b && x == biName b && gl S x && !es.isEmpty && all2 (chkE n Γ S) es fs
    | .idx a j, .Subscript f g _ => plainIx g && chkE n Γ S a f && chkE n Γ S j g
    | .slc a lo hi, .Subscript f (.Slice l h none _) _ => chkE n Γ S a f && (match lo, l with
        | none, none => true
        | some r, some e => chkE n Γ S r e
        | _, _ => false) && (match hi, h with
        | none, none => true
        | some r, some e => chkE n Γ S r e
        | _, _ => false)
    | .lc elt own t it ifs, .ListComp f [⟨tg, ite, tests, 0⟩] sc _ => blkC S.N S.sc sc ((tgNames tg).zip own) && ((tgNames tg).zip own).map (·.2) == own && own == tgSlots t && decide (ifs.length ≤ 1) && chkT (inBlk S sc) t tg &&
        chkI S (chkE n Γ S) it ite && all2 (chkE n Γ (inBlk S sc)) ifs tests && chkE n Γ (inBlk S sc) elt f
    | .isi a [t], .Call (.Name x _) [f, .Name y _] [] _ => x == ("isinstance" : Str) && y == tyName t && gl S x && gl S y && chkE n Γ S a f
    | .isx i c, .Call (.Name x _) [.Name z _, .Name y _] [] _ => x == ("isinstance" : Str) && gl S x && gl S y && isSlot S i z && (Γ.excs[c]? == some y)
    | .xval i, .Attribute (.Name z _) a _ => a == ("value" : Str) && isSlot S i z
    | .xnone yes i, .Compare (.Name z _) [p] [.Constant .none _ _] _ => isExp p yes && isSlot S i z
    | _, _ => false
end Pv
/-! Pv6: the context; the constructs of an expression. -/
namespace Pv
open PySem PySem.Spec PyProof.Rows L2

section
open PySem.W
/-- def __init__(slf, value): super().__init__(msg); slf.value = value -/
structure PeDef (K : Frag) (prog : Program) (D f : Addr) (fd : FuncData) (sc : Scope) (slf val fld : Str) (cc cda : Addr) : Prop where
  ex : ∃ (name qual : Str) (params : Arguments) (body : List Stmt) (dV kV doc pm ct oc : Value) (an od : Option Addr) (osl : Array (Option Value)) (msg : Str) (j : Nat) (p0 p1 p2 p3 p4 p5 p6 p7 p8 p9 : Pos) (ar : Arg) (vs : Array Value) (file : Str) (tf : Tok) (ccl cl : Value) (cdd cld : Option Addr) (ccs csl : Array (Option Value)) (cdD : ClassData),
    fd = ksFn name qual params body sc dV kV doc pm an (.ref cda) ct cc ∧ K.lookup f = some ⟨oc, od, .func fd, osl⟩ ∧
    body = [.Expr (.Call (.Attribute (.Call (.Name "super" p0) [] [] p1) "__init__" p2) [.Constant (.str msg) j p3] [] p4) p5, .Assign [.Attribute (.Name slf p6) fld p7] (.Name val p8) p9] ∧
    codeIn K (.ref cda) qual = true ∧ (params.posonlyargs ++ params.args).head? = some ar ∧ ar.arg = slf ∧ K.lookup cda = some ⟨ccl, cdd, .fields vs, ccs⟩ ∧ vs[2]? = some (.str file tf) ∧ ((prog.main.file : Str) == file) = true ∧
    K.lookup cc = some ⟨cl, cld, .cell (some (.ref D)), csl⟩ ∧ clsIn K D = some cdD ∧ (p2.endLine == p4.line) = true
  bind : ∀ a u : Value, bindArgs fd ⟨[a, u], []⟩ = pure [(slf, a), (val, u)]
  ne : slf ≠ val
  hks : sc.names.lookup ("super" : Str) = some .globalImplicit
  hkc : sc.names.lookup ("__class__" : Str) = some .free
  hka : sc.names.lookup slf = some .local
  hkv : sc.names.lookup val = some .local
  hcell : ∀ x ∈ sc.names, x.2 ≠ .cell
  hco : sc.isCoroutine = false
  hgen : sc.isGenerator = false
  hk : sc.kind = .function
  dbg : (slf == ("__debug__" : Str)) = false ∧ (val == ("__debug__" : Str)) = false
/-- a class under it -/
structure PeCls (K : Frag) (C D : Addr) (fld : Str) : Prop where
  cd : ∃ cd, clsIn K C = some cd ∧ PySem.HandSPX.refsVE cd.mro = true ∧ cd.hasDict = true
  sub : mroIn K C (.ref D) = some true
  sup : ks_superIn K C D "__init__" = some (some (.builtin "ValueError.__init__"))
  ve : subIn K (.ref C) (.type "ValueError") = some true
  ini : ∃ bmB newId, ExcBaseFacts "ValueError" newId "ValueError.__init__" bmB ∧ excInitIn K C bmB newId = true
  sa : findIn K (.ref C) "__setattr__" = some (some (.builtin "object.__setattr__"))
  no : findIn K (.ref C) fld = some none
end
/-- the classes of errors -/
structure Xs (Γ : Gs) (G : Gk) (K : Frag) (prog : Program) (mg : Str → Option Value) : Prop where
  nm : ∀ c y, Γ.excs[c]? = some y → ∃ C, G.cls c = some C ∧ mg y = some (.ref C)
  make : ∀ c C, G.cls c = some C → OexC K C ∧ ∃ (fI D cc cda : Addr) (fd : FuncData) (sc : Scope) (sl val : Str), PySem.W.findIn K (.ref C) "__init__" = some (some (.ref fI)) ∧ PySem.W.typeIn K (.ref fI) = some (.type "function") ∧
    PeDef K prog D fI fd sc sl val "value" cc cda ∧ PeCls K C D "value"
  xc : ∀ c C, G.cls c = some C → ExcC K C ∧ XfC K C
  up : ∀ c C up c' C', G.cls c = some C → Γ.ups[c]? = some up → G.cls c' = some C' → PySem.W.exmOne K (.ref C) (.ref C') = some (up.contains c') ∧ PySem.W.kitOne K (.ref C) (.ref C') = some (up.contains c')
  non : ∀ c' C', G.cls c' = some C' → PySem.W.kitOne K (.type "NoneType") (.ref C') = some false
  hop : PySem.W.nsIn K cStatics "thirdparty.any" = some none
  htop : (prog.main.scope.names.lookup ("super" : Str)).isSome = false
  sup : mg "super" = none
/-- a def's promise, for calls while nothing is being shown -/
structure FnG (Pr : Program) (w : World) (K : Frag) (mg : Str → Option Value) (base : Heap) (k : Nat) (f : Addr) (fd : FuncData) (ps : List Str) (sp : Sp) : Prop where
  len : ∀ vs H Q E, sp vs H Q E → vs.length = ps.length
  run : ∀ (A : Around) (outer : List Env) (s : Shared) (H : Hp) (args : Args) (us : List Value) (vs : List V) (Q : VK) (E : XK), A.guards = some [] → Room k A → Env0 Pr w K mg base A outer s H →
    BindsTo s fd args (ps.zip us) → Vals vs us → sp vs H Q E → codeAny (model Pr w) A (.call (.ref f) args) (CR (L2.CX Pr w) outer Pr w H s Q E) s
/-- what the module gives of the def number f: its address, its data, how its arguments bind -/
structure FnAt (K : Frag) (mg : Str → Option Value) (x : Str) (ps : List Str) (kcs : List (Nat × List Nat)) (fa : Addr) (fd : FuncData) : Prop where
  mg_ : mg x = some (.ref fa)
  kp : PySem.W.keepIn K (.ref fa) = true
  binds : Binds K fd ps []
  kb : ∀ q ∈ kcs, ∀ (s : Shared) (us ws zs : List Value), K.In s.heap → us.length = q.1 → ws.length = q.2.length → kwOrder q.2 ws q.1 (ps.length - q.1) = some zs →
    BindsTo s fd ⟨us, (q.2.filterMap fun k => ps[k]?).zip ws⟩ (ps.zip (us ++ zs))
/-- the keyword calls of the def number f -/
def kcsOf (Γ : Gs) (f : Nat) : List (Nat × List Nat) := (Γ.kcs.filter fun q => q.1 == f).map (·.2)
structure Ctx (Γ : Gs) (G : Gk) (lv : Nat) (sps : Nat → Sp) (S : Sx) (X : Cx) : Prop where
  gx : Gx X
  K : X.K = G.K
  N : X.N = S.N
  sc : X.env.scope = S.sc
  nd : S.N.Nodup
  fn : ∀ x, S.osc.names.lookup x = some .cell → X.fn x = true
  loc : ∀ x k, k ≠ NameKind.free → S.osc.names.lookup x = some k → S.sc.names.lookup x = some k
  room : Room lv X.A
  blt : ∀ b, X.mg (biName b) = none
  blt2 : ∀ x ∈ (["range", "isinstance", "int", "bool", "str", "tuple", "list"] : List Str), X.mg x = none
  xs : Xs Γ G X.K X.prog X.mg
  cns : ∀ x i, Γ.cns.lookup x = some i → ∃ t, X.mg x = some (.int i t)
  fns : ∀ f x ps, Γ.fns[f]? = some (x, ps) → ∃ fa fd, FnAt X.K X.mg x ps (kcsOf Γ f) fa fd ∧ FnG X.prog X.w X.K X.mg X.base lv fa fd ps (sps f)
section
variable {Γ : Gs} {G : Gk} {lv : Nat} {sps : Nat → Sp} {Θ : Sx} {X : Cx} {W : WX}
theorem peI {e : Expr} {t t' : TE} (h : PE X e t) (k : ∀ σ H Q, t' σ H Q → t σ H Q) : PE X e t' := ⟨fun pins s σ H Q I q => h.run pins s σ H Q I (k _ _ _ q)⟩
theorem ptI {e : Expr} {t t' : TT} (h : PT X e t) (k : ∀ σ H Q, t' σ H Q → t σ H Q) : PT X e t' := ⟨fun pins s σ H Q I q => h.run pins s σ H Q I (k _ _ _ q)⟩
theorem paI {e : List Expr} {t t' : TA} (h : PA X e t) (k : ∀ σ H Q, t' σ H Q → t σ H Q) : PA X e t' := ⟨fun p pins s σ H Q I q => h.run p pins s σ H Q I (k _ _ _ q)⟩
theorem and_ {a b : Bool} (h : (a && b) = true) : a = true ∧ b = true := Bool.and_eq_true_iff.mp h
/-- both readings of an expression -/
structure Snd (G : Gk) (X : Cx) (W : WX) (e : Expr) (p : S → Res DF) (q : S → Res Bool) : Prop where
  pe : PE X e (tE G W p)
  pt : PT X e (tT G W q)
/-- evaluation sound at every text that the checker takes -/
def SndN (Γ : Gs) (G : Gk) (lv : Nat) (sps : Nat → Sp) (p : Ev) : Prop :=
  ∀ (m : Nat) (Θ : Sx) (r : R) (e : Expr) (X : Cx) (W : WX), Ctx Γ G lv sps Θ X → Takes X W → chkE m Γ Θ r e = true → Snd G X W e (p.e r) (p.t r)
theorem isSlot_ok (c : Ctx Γ G lv sps Θ X) {i : Nat} {x : Str} {pos : Pos} (h : isSlot Θ i x = true) : PE X (.Name x pos) (tVar i) := by
  unfold isSlot at h
  obtain ⟨h, h4⟩ := and_ h
  obtain ⟨h, h3⟩ := and_ h
  obtain ⟨h1, h2⟩ := and_ h
  refine pe_var (by rw [c.N]; exact eq_of_beq h1) ?_ (by simpa using h3) (by simpa using h4)
  unfold vis at h2
  show Vis X.env.scope x
  rw [c.sc]
  split at h2
  · rename_i q; exact .inl q
  · rename_i q; exact .inr (.inl q)
  · rename_i q; exact .inr (.inr q)
  · cases h2
theorem gl_ok (c : Ctx Γ G lv sps Θ X) {x : Str} (h : gl Θ x = true) : Gl X x ∧ (x == ("__debug__" : Str)) = false ∧ x ≠ "__name__" := by
  unfold gl at h
  obtain ⟨h, h3⟩ := and_ h
  obtain ⟨h1, h2⟩ := and_ h
  refine ⟨?_, by simpa using h2, by simpa using h3⟩
  show X.env.scope.names.lookup x = _
  rw [c.sc]
  exact eq_of_beq h1
theorem isVar_eq {r : R} {i : Nat} (h : isVar r = some i) : r = .var i := by
  cases r <;> first | (cases h; rfl) | cases h
/-- a name is no star; nor is anything that the checker takes -/
theorem chk_star {m : Nat} {r : R} {x : Expr} {p : Pos} : chkE m Γ Θ r (.Starred x p) = false := by
  cases m with
  | zero => rfl
  | succ m => cases r <;> first | rfl | (unfold chkE; split <;> first | rfl | (rename_i q; cases q))
theorem chk_starEach {m : Nat} {r : R} {e : Expr} {es : List Expr} {env : Env} (h : chkE m Γ Θ r e = true) : starEach (e :: es) env = (false, eval e env) :: starEach es env := by
  cases e <;> first
    | rfl
    | (rw [chk_star] at h; cases h)
theorem all2_star {m : Nat} {env : Env} {pos : Pos} : ∀ {rs : List R} {es : List Expr}, all2 (chkE m Γ Θ) rs es = true → (backTo pos (starEach es env)).any (·.1) = false
  | [], [], _ => rfl
  | r :: rs, e :: es, h => by
    obtain ⟨h1, h2⟩ := and_ h
    rw [chk_starEach h1]
    show (false || (backTo pos (starEach es env)).any (·.1)) = false
    rw [all2_star h2]
    rfl
  | [], _ :: _, h => by cases h
  | _ :: _, [], h => by cases h
/-! ### lists of expressions -/
theorem opd_pe {p : Ev} {m : Nat} {r : R} {e : Expr} (ih : SndN Γ G lv sps p) (c : Ctx Γ G lv sps Θ X) (tk : Takes X W) (h : chkE m Γ Θ r e = true) : PE X e (tOpd G W p.e r) := by
  unfold tOpd
  split
  · rename_i i hv
    have hr := isVar_eq hv
    subst hr
    cases m with
    | zero => cases h
    | succ m =>
      cases e with
      | Name x pos => exact isSlot_ok c h
      | _ => cases h
  · exact (ih m Θ r e X W c tk h).pe
theorem opds_pa {p : Ev} {m : Nat} (ih : SndN Γ G lv sps p) (c : Ctx Γ G lv sps Θ X) (tk : Takes X W) : ∀ {rs : List R} {es : List Expr}, all2 (chkE m Γ Θ) rs es = true → PA X es (tOpds G W p.e rs)
  | [], [], _ => pa_nil
  | r :: rs, e :: es, h => by
    obtain ⟨h1, h2⟩ := and_ h
    exact pa_cons (opd_pe ih c tk h1) (opds_pa ih c tk h2) (chk_starEach h1)
  | [], _ :: _, h => by cases h
  | _ :: _, [], h => by cases h
theorem es_pa {p : Ev} {m : Nat} (ih : SndN Γ G lv sps p) (c : Ctx Γ G lv sps Θ X) (tk : Takes X W) : ∀ {rs : List R} {es : List Expr}, all2 (chkE m Γ Θ) rs es = true → PA X es (tEs G W p.e rs)
  | [], [], _ => pa_nil
  | r :: rs, e :: es, h => by
    obtain ⟨h1, h2⟩ := and_ h
    exact pa_cons (ih m Θ r e X W c tk h1).pe (es_pa ih c tk h2) (chk_starEach h1)
  | [], _ :: _, h => by cases h
  | _ :: _, [], h => by cases h
/-! ### tests from values -/
abbrev truOf (f : S → Res DF) : S → Res Bool := fun s => (f s).bind fun d s => .ok (tru d.1) s
theorem pt_of {e : Expr} {f : S → Res DF} (hK : X.K = G.K) (h : PE X e (tE G W f)) (he : ∀ whole, isTrue e X.env whole = (do let v ← whole; standAt e.pos; holding [v] (truthy v))) : PT X e (tT G W (truOf f)) := by
  refine ptI (pt_truth h he) fun σV H Q ⟨B, σ, g, r, q⟩ => ?_
  refine tE.mk g r (q.bind.imp fun d σ' q v H' r' s hv => ⟨tru d.1, ?_, q H' r' s⟩)
  rw [hK, ← g.1]
  exact tru_val (.inl (hv.rp r'))
theorem snd_of {e : Expr} {f : S → Res DF} (hK : X.K = G.K) (h : PE X e (tE G W f)) (he : ∀ whole, isTrue e X.env whole = (do let v ← whole; standAt e.pos; holding [v] (truthy v))) : Snd G X W e f (truOf f) := ⟨h, pt_of hK h he⟩
/-- values that are True or False -/
theorem srv2T {g : PyData → PyData → Option Bool} {r : R2} {ev : EvE} {a b : R} {σV : L2.St} {H : Hp} {Q : Bool → Hp → Prop} (s : Srv2 G (fun x y => bD (g x y)) r) (h : tT G W (truOf fun σ => opd2 ev a b σ fun x y => bD (g x y)) σV H Q) :
    tTest (tOp r (tOpd G W ev a) (tOpd G W ev b)) σV H Q := by
  obtain ⟨B, σ, gk, rp, h⟩ := h
  have h' : Pst B σ σV H W (fun d σ' => Pst B σ σV H W (fun b σ' => ∀ H', Rep B H' σ' σV → Stp B σ σ' σV H H' → Q b H') (.ok (tru d.1) σ')) (opd2 ev a b σ fun x y => bD (g x y)) := Pst.bind h
  rw [opd2_eq] at h'
  have q : tOpds G W ev [a, b] σV H fun vs H' => match vs with | [x, y] => r x y H' (fun z H3 => ∃ k, z = .bl k ∧ Q k H3) | _ => True := by
    refine opds_ok gk rp ((Pst.bind h').imp fun ds σ' q vs H' r' st p => ?_)
    obtain ⟨e, he, q2⟩ := q.ofO
    cases p with
    | nil => cases he
    | cons p1 p =>
      cases p with
      | nil => cases he
      | cons p2 p =>
        cases p with
        | nil =>
          refine s B σ' σV H' _ _ _ _ e _ gk r' p1 p2 he fun v H2 r2 s2 hv => ?_
          obtain ⟨k, _, hk⟩ := Option.map_eq_some_iff.mp he
          subst hk
          have hv' : Rp B.K (Av B σ' σV) H2 v (.bool k) := hv
          cases hv'
          exact ⟨k, rfl, q2 H2 r2 (st.trans s2)⟩
        | cons _ _ => cases he
  exact q
theorem ro_pl {σ : S} {σV : L2.St} {i : Nat} {d : PyData} {a : Addr} (h : RO (σ.set i (some (.pl d))) σV a) : RO σ σV a := by
  obtain ⟨j, ⟨d', hd⟩, hv⟩ := h
  refine ⟨j, ⟨d', ?_⟩, hv⟩
  by_cases hj : j = i
  · subst hj
    by_cases hi : j < σ.length
    · rw [List.getElem?_set_self hi] at hd
      rcases hd with hd | hd <;> cases hd
    · rw [List.getElem?_eq_none (by simpa using hi)] at hd
      rcases hd with hd | hd <;> cases hd
  · rw [List.getElem?_set_ne (Ne.symm hj)] at hd
    exact hd
/-! ### the constructs -/
variable {p : Ev} {m n : Nat} (ih : SndN Γ G lv sps p) (c : Ctx Γ G lv sps Θ X) (tk : Takes X W)
include ih c tk
theorem snd_var {P : Prg} {i : Nat} {x : Str} {pos : Pos} (h : isSlot Θ i x = true) : Snd G X W (.Name x pos) (stepE P p (.var i)) (stepT P p (.var i)) := by
  refine ⟨peI (isSlot_ok c h) fun σV H Q ⟨B, σ, g, r, q⟩ => ?_, ptI (pt_truth (isSlot_ok c h) (fun _ => rfl)) fun σV H Q ⟨B, σ, g, r, q⟩ => ?_⟩
  · simp only [stepE] at q
    split at q
    · rename_i d e
      obtain ⟨v, ev, hv⟩ := r.pl e
      exact ⟨v, ev, q v H r .refl hv⟩
    · rename_i d e
      obtain ⟨v, ev, r2, hv⟩ := r.freeze (.inl e)
      refine ⟨v, ev, q v H r2 ⟨.refl, fun a => ro_pl⟩ hv⟩
    · rename_i d e
      obtain ⟨v, ev, r2, hv⟩ := r.freeze (.inr e)
      refine ⟨v, ev, q v H r2 ⟨.refl, fun a => ro_pl⟩ hv⟩
    · exact q.elim
  · simp only [stepT] at q
    obtain ⟨b, e, q⟩ := q.ofO
    obtain ⟨d, e1, e2⟩ := Option.map_eq_some_iff.mp e
    obtain ⟨v, ev⟩ := getP_slot r e1
    refine ⟨v, ev, b, ?_, q H r .refl⟩
    rw [c.K, ← g.1, ← e2]
    exact tru_val (getP_ok r e1 ev)
omit ih tk in
theorem tC_ok {d : PyData} {v : V} (hv : ∀ (B : Vw) (σ : S) (σV : L2.St) (H : Hp), Rp B.K (Av B σ σV) H v d) {σV : L2.St} {H : Hp} {Q : VK} (h : tE G W (fun s => .ok (d, false) s) σV H Q) : tC v σV H Q := by
  obtain ⟨B, σ, g, r, q⟩ := h
  exact q v H r .refl (hv B σ σV H)
theorem snd_non {P : Prg} {k : Nat} {pos : Pos} : Snd G X W (.Constant .none k pos) (stepE P p .non) (stepT P p .non) :=
  snd_of c.K (peI pe_non fun σV H Q h => tC_ok c (fun _ _ _ _ => .non) h) fun _ => rfl
theorem snd_bl {P : Prg} {b : Bool} {k : Nat} {pos : Pos} : Snd G X W (.Constant (.bool b) k pos) (stepE P p (.bl b)) (stepT P p (.bl b)) :=
  snd_of c.K (peI pe_bl fun σV H Q h => tC_ok c (fun _ _ _ _ => .bl b) h) fun _ => rfl
theorem snd_int {P : Prg} {i : Int} {k : Nat} {pos : Pos} : Snd G X W (.Constant (.int i) k pos) (stepE P p (.int i)) (stepT P p (.int i)) :=
  snd_of c.K (peI pe_int fun σV H Q h => tC_ok c (fun _ _ _ _ => .int i) h) fun _ => rfl
theorem snd_cns {P : Prg} {i : Int} {x : Str} {pos : Pos} (h : gl Θ x = true) (h2 : Γ.cns.lookup x = some i) : Snd G X W (.Name x pos) (stepE P p (.int i)) (stepT P p (.int i)) := by
  obtain ⟨g1, g2, _⟩ := gl_ok c h
  obtain ⟨t, ht⟩ := c.cns x i h2
  exact snd_of c.K (peI (pe_glob (v := .int i) g1 ht ⟨t, rfl⟩ g2) fun σV H Q h => tC_ok c (fun _ _ _ _ => .int i) h) fun _ => rfl
theorem snd_str {P : Prg} {x : Str} {k : Nat} {pos : Pos} : Snd G X W (.Constant (.str x) k pos) (stepE P p (.str x)) (stepT P p (.str x)) := by
  refine snd_of c.K (peI pe_str fun σV H Q ⟨B, σ, g, r, q⟩ => ?_) fun _ => rfl
  simp only [stepE] at q
  split at q
  · rename_i hz
    exact q _ H r .refl (.str x hz)
  · exact q.elim
theorem snd_tup {P : Prg} {es : List R} {fs : List Expr} {k : Nat} {pos : Pos} (h : all2 (chkE m Γ Θ) es fs = true) : Snd G X W (.Tuple fs k pos) (stepE P p (.tup es)) (stepT P p (.tup es)) := by
  refine snd_of c.K (peI (pe_tup (es_pa ih c tk h)) fun σV H Q ⟨B, σ, g, r, q⟩ => ?_) fun _ => rfl
  refine evL_ok g r ((Pst.bind q).imp fun ds σ' q vs H' r' st pr => ?_)
  split at q
  · rename_i hz
    exact ⟨by rw [pr.len, ← line_eq]; exact hz, fun a ha => end_tup r' ha pr fun v H2 r2 s2 hv => q v H2 r2 (st.trans s2) hv⟩
  · exact q.elim
theorem snd_lst {P : Prg} {es : List R} {fs : List Expr} {pos : Pos} (h : all2 (chkE m Γ Θ) es fs = true) : Snd G X W (.List fs pos) (stepE P p (.lst es)) (stepT P p (.lst es)) := by
  refine snd_of c.K (peI (pe_lst (es_pa ih c tk h)) fun σV H Q ⟨B, σ, g, r, q⟩ => ?_) fun _ => rfl
  refine evL_ok g r ((Pst.bind q).imp fun ds σ' q vs H' r' st pr => ?_)
  split at q
  · rename_i hz
    exact ⟨by rw [pr.len, ← line_eq]; exact hz, fun a ha => end_lst r' ha pr fun v H2 r2 s2 hv => q v H2 r2 (st.trans s2) (hv.since st.kp.tr)⟩
  · exact q.elim
theorem snd_bin {P : Prg} {o : Bop} {a b : R} {f g : Expr} {pos : Pos} (h1 : chkE m Γ Θ a f = true) (h2 : chkE m Γ Θ b g = true) : Snd G X W (.BinOp f (BinOf o) g pos) (stepE P p (.bin o a b)) (stepT P p (.bin o a b)) := by
  have hr : OpR X (binaryOp (BinOf o)) (rBin G.K o) := by rw [← c.K]; exact op_bin o
  exact snd_of c.K (peI (pe_op hr (opd_pe ih c tk h1) (opd_pe ih c tk h2)) fun σV H Q h => srv2 (srv_bin G o) h) fun _ => rfl
theorem snd_neg {P : Prg} {a : R} {f : Expr} {pos : Pos} (h1 : chkE m Γ Θ a f = true) : Snd G X W (.UnaryOp .USub f pos) (stepE P p (.neg a)) (stepT P p (.neg a)) :=
  snd_of c.K (peI (pe_un un_neg (opd_pe ih c tk h1)) fun σV H Q h => srv1 (srv_neg G) h) fun _ => rfl
omit ih c tk in
theorem chk_set {m : Nat} {r : R} {x : List Expr} {k : Nat} {p : Pos} : chkE m Γ Θ r (.Set x k p) = false := by
  cases m with
  | zero => rfl
  | succ m => cases r <;> first | rfl | (unfold chkE; split <;> first | rfl | (rename_i q; cases q))
omit ih c tk in
theorem marks_ok {m : Nat} {r : R} {e : Expr} {o : CmpOp} (h : chkE m Γ Θ r e = true) : behindInMarks o e = false := by
  cases e <;> first
    | rfl
    | (rw [chk_set] at h; cases h)
theorem snd_cmp {P : Prg} {o : Cop} {a b : R} {f g : Expr} {pos : Pos} (h1 : chkE m Γ Θ a f = true) (h2 : chkE m Γ Θ b g = true) : Snd G X W (.Compare f [CmpOf o] [g] pos) (stepE P p (.cmp o a b)) (stepT P p (.cmp o a b)) := by
  have hr : OpR X (compareOp (CmpOf o)) (rCmp G.K o) := by rw [← c.K]; exact op_cmp c.gx o
  have hm := marks_ok (o := CmpOf o) h2
  exact ⟨peI (pe_cmpR hr (opd_pe ih c tk h1) (opd_pe ih c tk h2) hm) fun σV H Q h => srv2 (srv_cmp G o) h,
    ptI (pt_cmpR hr (opd_pe ih c tk h1) (opd_pe ih c tk h2) hm) fun σV H Q h => srv2T (srv_cmp G o) h⟩
omit ih c tk in
theorem cmp_at {o : Cop} {B : Vw} {σ : S} {σV : L2.St} {H : Hp} {x y : V} {d e : PyData} {b : Bool} {Q : VK} (g : B.of G) (r : Rep B H σ σV) (p1 : Opr B.K (Av B σ σV) H x d) (p2 : Opr B.K (Av B σ σV) H y e)
    (h : cop o d e = some b) (k : ∀ H', Rep B H' σ σV → Stp B σ σ σV H H' → Q (.bl b) H') : rCmp G.K o x y H Q := by
  refine srv_cmp G o B σ σV H x y d e (.bool b, false) Q g r p1 p2 (by show bD (cop o d e) = _; rw [h]; rfl) fun v H2 r2 s2 hv => ?_
  have hv' : Rp B.K (Av B σ σV) H2 v (.bool b) := hv
  cases hv'
  exact k H2 r2 s2
omit ih c tk in
theorem chain_read {o q : Cop} {a b e : R} {ev : EvE} {B : Vw} {σ : S} {σV : L2.St} {H : Hp} {Q : Bool → Hp → Prop} (g : B.of G) (r : Rep B H σ σV)
    (h : Pst B σ σV H W (fun k σ' => ∀ H', Rep B H' σ' σV → Stp B σ σ' σV H H' → Q k H') (chainB ev o q a b e σ)) :
    tChain (rCmp G.K o) (rCmp G.K q) (tE G W (ev a)) (tE G W (ev b)) (tE G W (ev e)) σV H (fun v H' => ∃ k, v = .bl k ∧ Q k H') := by
  refine tE.mk g r ((Pst.bind h).imp fun d1 σ1 h1 x H1 r1 s1 v1 => ?_)
  refine tE.mk g r1 ((Pst.back s1 h1).bind.imp fun d2 σ2 h2 y H2 r2 s2 v2 => ?_)
  have h2' := (Pst.back s2 h2).bind
  cases hk : cop o d1.1 d2.1 with
  | none => rw [hk] at h2'; exact h2'.elim
  | some k =>
    rw [hk] at h2'
    refine cmp_at g r2 (.inl (Rp.stp r1 s2 (v1.rp r1))) (.inl (v2.rp r2)) hk fun H3 r3 s3 => ⟨k, rfl, ?_⟩
    cases k with
    | false =>
      have h3 : ∀ H', Rep B H' σ2 σV → Stp B σ σ2 σV H H' → Q false H' := h2'
      exact ⟨false, rfl, h3 H3 r3 (s1.trans (s2.trans s3))⟩
    | true =>
      have h3 : Pst B σ2 σV H2 W (fun k σ' => ∀ H', Rep B H' σ' σV → Stp B σ σ' σV H H' → Q k H') ((ev e σ2).bind fun z s => ofO (cop q d2.1 z.1) s) := h2'
      refine tE.mk g r3 ((Pst.back s3 h3).bind.imp fun d3 σ4 h4 z H4 r4 s4 v4 => ?_)
      obtain ⟨k2, hk2, h5⟩ := h4.ofO
      refine cmp_at g r4 (.inl (Rp.stp r3 s4 (Rp.stp r2 s3 (v2.rp r2)))) (.inl (v4.rp r4)) hk2 fun H5 r5 s5 => ⟨k2, rfl, h5 H5 r5 (s1.trans (s2.trans (s3.trans (s4.trans s5))))⟩
omit ih c tk in
theorem chain_mono {r r' : R2} {ta tb tc : TE} {σV : L2.St} {H : Hp} {Q : VK} (h : tChain r r' ta tb tc σV H Q) : tChain r r' ta tb tc σV H Q := h
omit ih c tk in
/-- a value known to be a truth value -/
theorem pst_bool {f : S → Res Bool} {B : Vw} {σ : S} {σV : L2.St} {H : Hp} {Q : VK} (h : Pst B σ σV H W (fun d σ' => ∀ v H', Rep B H' σ' σV → Stp B σ σ' σV H H' → Val B H σ' σV H' v d → Q v H') ((f σ).bind fun b s => .ok (.bool b, false) s)) :
    Pst B σ σV H W (fun b σ' => ∀ H', Rep B H' σ' σV → Stp B σ σ' σV H H' → Q (.bl b) H') (f σ) :=
  (Pst.bind h).imp fun b σ' q H' r s => q (.bl b) H' r s (.bl b)
theorem snd_chain {P : Prg} {o q : Cop} {a b e : R} {f g h : Expr} {pos : Pos} (h1 : chkE m Γ Θ a f = true) (h2 : chkE m Γ Θ b g = true) (h3 : chkE m Γ Θ e h = true) :
    Snd G X W (.Compare f [CmpOf o, CmpOf q] [g, h] pos) (stepE P p (.chain o q a b e)) (stepT P p (.chain o q a b e)) := by
  have hr : OpR X (compareOp (CmpOf o)) (rCmp G.K o) := by rw [← c.K]; exact op_cmp c.gx o
  have hq : OpR X (compareOp (CmpOf q)) (rCmp G.K q) := by rw [← c.K]; exact op_cmp c.gx q
  have hm : lastMarks [CmpOf o, CmpOf q] [g, h] = false := marks_ok (o := CmpOf q) h3
  have pa := (ih m Θ a f X W c tk h1).pe
  have pb := (ih m Θ b g X W c tk h2).pe
  have pc := (ih m Θ e h X W c tk h3).pe
  refine ⟨⟨fun pins s σV H Q I ⟨B, σ, gk, r, k⟩ => ?_⟩, ptI (pt_chain hr hq pa pb pc hm) fun σV H Q ⟨B, σ, gk, r, k⟩ => ?_⟩
  · have z := (pe_chain (pos := pos) hr hq pa pb pc hm).run pins s σV H _ I (chain_read gk r (pst_bool k))
    exact thn z fun v s' ⟨x, H', I', rx, kk, e, hq⟩ => ⟨x, H', I', rx, by subst e; exact hq⟩
  · exact chain_read gk r ((Pst.bind (Pst.bind k)).imp fun b σ' q => q)
theorem snd_not {P : Prg} {a : R} {f : Expr} {pos : Pos} (h1 : chkE m Γ Θ a f = true) : Snd G X W (.UnaryOp .Not f pos) (stepE P p (.not a)) (stepT P p (.not a)) := by
  refine ⟨peI (pe_notT (opd_pe ih c tk h1)) fun σV H Q h => ?_, ptI (pt_not (ih m Θ a f X W c tk h1).pt) fun σV H Q ⟨B, σ, g, r, q⟩ => ?_⟩
  · have s : Srv1 G (fun x => some (.bool !(tru x), false)) (fun x H Q => ∃ k, TruV X.K x H k ∧ Q (.bl (!k)) H) := by
      intro B σ σV H v d e Q g r pv he k
      cases he
      exact ⟨tru d, by rw [c.K, ← g.1]; exact tru_val pv, end_bl r k⟩
    exact srv1 s h
  · refine ⟨B, σ, g, r, (Pst.bind q).imp fun b σ' q H' r' s => q H' r' s⟩
omit ih c tk in
theorem pt_if {t b o : Expr} {tc ta tb : TT} {pos : Pos} (hc : PT X t tc) (ha : PT X b ta) (hb : PT X o tb) : PT X (.IfExp t b o pos) (fun σ H Q => tc σ H fun k H1 => if k = true then ta σ H1 Q else tb σ H1 Q) := by
  refine ⟨fun pins s σ H Q I h => ?_⟩
  show wpAny _ _ (isTrue t X.env (eval t X.env) >>= fun k => if k = true then isTrue b X.env (eval b X.env) else isTrue o X.env (eval o X.env)) _ _ s
  refine wpAny_bind (thn (hc.run pins s σ H _ I h) fun k s1 ⟨H1, I1, q1⟩ => ?_)
  cases k with
  | true => exact ha.run pins s1 σ H1 Q I1 q1
  | false => exact hb.run pins s1 σ H1 Q I1 q1
theorem snd_ife {P : Prg} {e a b : R} {f g h : Expr} {pos : Pos} (h1 : chkE m Γ Θ e f = true) (h2 : chkE m Γ Θ a g = true) (h3 : chkE m Γ Θ b h = true) : Snd G X W (.IfExp f g h pos) (stepE P p (.ife e a b)) (stepT P p (.ife e a b)) := by
  have s1 := ih m Θ e f X W c tk h1
  have s2 := ih m Θ a g X W c tk h2
  have s3 := ih m Θ b h X W c tk h3
  refine ⟨peI (pe_ifExp s1.pt s2.pe s3.pe) fun σV H Q ⟨B, σ, gk, r, q⟩ => ?_, ptI (pt_if s1.pt s2.pt s3.pt) fun σV H Q ⟨B, σ, gk, r, q⟩ => ?_⟩
  · refine tT.mk gk r ((Pst.bind q).imp fun k σ' q H' r' st => ?_)
    cases k with
    | true => exact tE.mk gk r' ((Pst.back st q).imp fun d σ2 q v H2 r2 s2 hv => q v H2 r2 (st.trans s2) (hv.since st.kp.tr))
    | false => exact tE.mk gk r' ((Pst.back st q).imp fun d σ2 q v H2 r2 s2 hv => q v H2 r2 (st.trans s2) (hv.since st.kp.tr))
  · refine tT.mk gk r ((Pst.bind q).imp fun k σ' q H' r' st => ?_)
    cases k with
    | true => exact tT.mk gk r' ((Pst.back st q).imp fun d σ2 q H2 r2 s2 => q H2 r2 (st.trans s2))
    | false => exact tT.mk gk r' ((Pst.back st q).imp fun d σ2 q H2 r2 s2 => q H2 r2 (st.trans s2))
theorem and_pe : ∀ {es : List R} {fs : List Expr} {pos : Pos}, all2 (chkE m Γ Θ) es fs = true → PE X (.BoolOp .And fs pos) (tE G W (andL p.e es))
  | [], _, _, _ => ⟨fun _ _ _ _ _ _ ⟨_, _, _, _, q⟩ => q.elim⟩
  | [e], [f], _, h => pe_one (ih m Θ e f X W c tk (and_ h).1).pe
  | e :: e2 :: es, f :: f2 :: fs, pos, h => by
    obtain ⟨h1, h2⟩ := and_ h
    refine peI (pe_andT (ih m Θ e f X W c tk h1).pe (and_pe (es := e2 :: es) (fs := f2 :: fs) h2)) fun σV H Q ⟨B, σ, gk, r, q⟩ => ?_
    have q' : Pst B σ σV H W _ ((p.e e σ).bind fun d s => if tru d.1 then andL p.e (e2 :: es) s else .ok (d.1, false) s) := q
    refine tE.mk gk r ((Pst.bind q').imp fun d σ' q v H' r' st hv => ⟨tru d.1, by rw [c.K, ← gk.1]; exact tru_val (.inl (hv.rp r')), ?_⟩)
    split at q
    · rename_i hk
      rw [if_pos hk]
      exact tE.mk gk r' ((Pst.back st q).imp fun d σ2 q v H2 r2 s2 hv => q v H2 r2 (st.trans s2) (hv.since st.kp.tr))
    · rename_i hk
      rw [if_neg hk]
      have hr := Val.rp (d := d) r' hv
      exact q v H' r' st hr
  | _ :: _ :: _, [], _, h => by cases h
  | [_], [], _, h => by cases h
  | [_], _ :: _ :: _, _, h => by cases (and_ h).2
  | _ :: _ :: _, [_], _, h => by cases (and_ h).2
theorem or_pe : ∀ {es : List R} {fs : List Expr} {pos : Pos}, all2 (chkE m Γ Θ) es fs = true → PE X (.BoolOp .Or fs pos) (tE G W (orL p.e es))
  | [], _, _, _ => ⟨fun _ _ _ _ _ _ ⟨_, _, _, _, q⟩ => q.elim⟩
  | [e], [f], _, h => pe_one (ih m Θ e f X W c tk (and_ h).1).pe
  | e :: e2 :: es, f :: f2 :: fs, pos, h => by
    obtain ⟨h1, h2⟩ := and_ h
    refine peI (pe_orT (ih m Θ e f X W c tk h1).pe (or_pe (es := e2 :: es) (fs := f2 :: fs) h2)) fun σV H Q ⟨B, σ, gk, r, q⟩ => ?_
    have q' : Pst B σ σV H W _ ((p.e e σ).bind fun d s => if tru d.1 then .ok (d.1, false) s else orL p.e (e2 :: es) s) := q
    refine tE.mk gk r ((Pst.bind q').imp fun d σ' q v H' r' st hv => ⟨tru d.1, by rw [c.K, ← gk.1]; exact tru_val (.inl (hv.rp r')), ?_⟩)
    split at q
    · rename_i hk
      rw [if_pos hk]
      have hr := Val.rp (d := d) r' hv
      exact q v H' r' st hr
    · rename_i hk
      rw [if_neg hk]
      exact tE.mk gk r' ((Pst.back st q).imp fun d σ2 q v H2 r2 s2 hv => q v H2 r2 (st.trans s2) (hv.since st.kp.tr))
  | _ :: _ :: _, [], _, h => by cases h
  | [_], [], _, h => by cases h
  | [_], _ :: _ :: _, _, h => by cases (and_ h).2
  | _ :: _ :: _, [_], _, h => by cases (and_ h).2
omit ih c tk in
theorem pw_no {e : Expr} : PW X e (tT G W fun _ => .bad) := ⟨fun _ _ _ _ _ _ _ ⟨_, _, _, _, q⟩ => q.elim⟩
omit ih c tk in
theorem pwI {e : Expr} {t t' : TT} (h : PW X e t) (k : ∀ σ H Q, t' σ H Q → t σ H Q) : PW X e t' := ⟨fun w pins s σ H Q I q => h.run w pins s σ H Q I (k _ _ _ q)⟩
theorem and_pw : ∀ {es : List R} {fs : List Expr} {pos : Pos}, all2 (chkE m Γ Θ) es fs = true → PW X (.BoolOp .And fs pos) (tT G W (allT p.t es))
  | [], _, _, _ => pw_no
  | [e], [f], _, h => pw_and1 (ih m Θ e f X W c tk (and_ h).1).pt
  | e :: e2 :: es, f :: f2 :: fs, pos, h => by
    obtain ⟨h1, h2⟩ := and_ h
    refine pwI (pw_and (ih m Θ e f X W c tk h1).pt (and_pw (es := e2 :: es) (fs := f2 :: fs) h2)) fun σV H Q ⟨B, σ, gk, r, q⟩ => ?_
    have q' : Pst B σ σV H W _ ((p.t e σ).bind fun b s => if b then allT p.t (e2 :: es) s else .ok false s) := q
    refine tT.mk gk r ((Pst.bind q').imp fun k σ' q H' r' st => ?_)
    cases k with
    | true => exact tT.mk gk r' ((Pst.back st q).imp fun d σ2 q H2 r2 s2 => q H2 r2 (st.trans s2))
    | false => exact q H' r' st
  | _ :: _ :: _, [], _, h => by cases h
  | [_], [], _, h => by cases h
  | [_], _ :: _ :: _, _, h => by cases (and_ h).2
  | _ :: _ :: _, [_], _, h => by cases (and_ h).2
theorem or_pw : ∀ {es : List R} {fs : List Expr} {pos : Pos}, all2 (chkE m Γ Θ) es fs = true → PW X (.BoolOp .Or fs pos) (tT G W (anyT p.t es))
  | [], _, _, _ => pw_no
  | [e], [f], _, h => pw_or1 (ih m Θ e f X W c tk (and_ h).1).pt
  | e :: e2 :: es, f :: f2 :: fs, pos, h => by
    obtain ⟨h1, h2⟩ := and_ h
    refine pwI (pw_or (ih m Θ e f X W c tk h1).pt (or_pw (es := e2 :: es) (fs := f2 :: fs) h2)) fun σV H Q ⟨B, σ, gk, r, q⟩ => ?_
    have q' : Pst B σ σV H W _ ((p.t e σ).bind fun b s => if b then .ok true s else anyT p.t (e2 :: es) s) := q
    refine tT.mk gk r ((Pst.bind q').imp fun k σ' q H' r' st => ?_)
    cases k with
    | true => exact q H' r' st
    | false => exact tT.mk gk r' ((Pst.back st q).imp fun d σ2 q H2 r2 s2 => q H2 r2 (st.trans s2))
  | _ :: _ :: _, [], _, h => by cases h
  | [_], [], _, h => by cases h
  | [_], _ :: _ :: _, _, h => by cases (and_ h).2
  | _ :: _ :: _, [_], _, h => by cases (and_ h).2
theorem snd_and {P : Prg} {es : List R} {fs : List Expr} {pos : Pos} (h : all2 (chkE m Γ Θ) es fs = true) : Snd G X W (.BoolOp .And fs pos) (stepE P p (.and es)) (stepT P p (.and es)) := ⟨and_pe ih c tk h, (and_pw ih c tk h).pt⟩
theorem snd_or {P : Prg} {es : List R} {fs : List Expr} {pos : Pos} (h : all2 (chkE m Γ Θ) es fs = true) : Snd G X W (.BoolOp .Or fs pos) (stepE P p (.or es)) (stepT P p (.or es)) := ⟨or_pe ih c tk h, (or_pw ih c tk h).pt⟩
omit ih c tk in
theorem bt (b : Bool) : (b == true) = b := by cases b <;> rfl
omit ih c tk in
theorem bf (b : Bool) : (b == false) = !b := by cases b <;> rfl
omit ih c tk in
theorem srv1T {f : PyData → Option DF} {r : V → Hp → VK → Prop} {ev : EvE} {a : R} {σV : L2.St} {H : Hp} {Q : Bool → Hp → Prop} (hf : ∀ d e, f d = some e → ∃ k, e = (.bool k, false)) (s : Srv1 G f r) (h : tT G W (truOf fun σ => opd1 ev a σ f) σV H Q) :
    tUn r (tOpd G W ev a) σV H (fun z H3 => ∃ k, z = .bl k ∧ Q k H3) := by
  obtain ⟨B, σ, gk, rp, h⟩ := h
  have h' : Pst B σ σV H W (fun d σ' => Pst B σ σV H W (fun b σ' => ∀ H', Rep B H' σ' σV → Stp B σ σ' σV H H' → Q b H') (.ok (tru d.1) σ')) (opd1 ev a σ f) := Pst.bind h
  rw [opd1_eq] at h'
  have q : tOpds G W ev [a] σV H fun vs H' => match vs with | [x] => r x H' (fun z H3 => ∃ k, z = .bl k ∧ Q k H3) | _ => True := by
    refine opds_ok gk rp ((Pst.bind h').imp fun ds σ' q vs H' r' st p => ?_)
    obtain ⟨e, he, q2⟩ := q.ofO
    cases p with
    | nil => cases he
    | cons p1 p =>
      cases p with
      | nil =>
        refine s B σ' σV H' _ _ e _ gk r' p1 he fun v H2 r2 s2 hv => ?_
        obtain ⟨k, hk⟩ := hf _ _ he
        subst hk
        have hv' : Rp B.K (Av B σ' σV) H2 v (.bool k) := hv
        cases hv'
        exact ⟨k, rfl, q2 H2 r2 (st.trans s2)⟩
      | cons _ _ => cases he
  exact q
omit ih c tk in
theorem isN_of {a : Expr} {ta : TE} {yes : Bool} {o : CmpOp} {k : Nat} {pos2 : Pos} (ho : isExp o yes = true) (h : PE X a ta) : PC X o a (.Constant .none k pos2) (tUn (rIsN yes) ta) := by
  cases yes with
  | true =>
    cases o <;> first | (cases ho; done) | skip
    refine ⟨fun pins s σ H Q I q => (pc_isN h).run pins s σ H Q I ?_⟩
    have q' : ta σ H fun x H1 => Q (.bl (decide (x = .non) == true)) H1 := q
    simp only [bt] at q'
    exact q'
  | false =>
    cases o <;> first | (cases ho; done) | skip
    refine ⟨fun pins s σ H Q I q => (pc_notN h).run pins s σ H Q I ?_⟩
    have q' : ta σ H fun x H1 => Q (.bl (decide (x = .non) == false)) H1 := q
    simp only [bf] at q'
    exact q'
theorem snd_isn {P : Prg} {yes : Bool} {a : R} {f : Expr} {o : CmpOp} {k : Nat} {pos pos2 : Pos} (ho : isExp o yes = true) (h1 : chkE m Γ Θ a f = true) :
    Snd G X W (.Compare f [o] [.Constant .none k pos2] pos) (stepE P p (.isn yes a)) (stepT P p (.isn yes a)) := by
  have pa := isN_of (k := k) (pos2 := pos2) ho (opd_pe ih c tk h1)
  exact ⟨peI (pe_cmp pa rfl) fun σV H Q h => srv1 (srv_isn G yes) h,
    ptI (pt_cmp pa rfl) fun σV H Q h => srv1T (fun d e q => by cases d <;> (cases q; exact ⟨_, rfl⟩)) (srv_isn G yes) h⟩
theorem snd_isb {P : Prg} {yes b : Bool} {a : R} {f : Expr} {o : CmpOp} {k : Nat} {pos pos2 : Pos} (ho : isExp o yes = true) (h1 : chkE m Γ Θ a f = true) :
    Snd G X W (.Compare f [o] [.Constant (.bool b) k pos2] pos) (stepE P p (.isb yes b a)) (stepT P p (.isb yes b a)) := by
  have pa := opd_pe ih c tk h1
  have hb : ∀ d e, (match d with | PyData.bool c => some (PyData.bool ((c == b) == yes), false) | _ => none) = some e → ∃ k, e = (PyData.bool k, false) := fun d e q => by
    cases d <;> first | (cases q; done) | (cases q; exact ⟨_, rfl⟩)
  cases yes with
  | true =>
    cases o <;> first | (cases ho; done) | skip
    have z : ∀ {σV : L2.St} {H : Hp} {Q : VK}, tUn (rIsB true b) (tOpd G W p.e a) σV H Q → tOp (fun x y H Q => ∃ a b, x = .bl a ∧ y = .bl b ∧ Q (.bl (decide (a = b))) H) (tOpd G W p.e a) (tC (.bl b)) σV H Q := fun {σV H Q} q => by
      have q' : tOpd G W p.e a σV H fun x H1 => ∃ c, x = .bl c ∧ Q (.bl ((c == b) == true)) H1 := q
      have e : (fun (x : V) (H1 : Hp) => ∃ c, x = V.bl c ∧ Q (.bl ((c == b) == true)) H1) = fun x H1 => ∃ a b_1, x = V.bl a ∧ V.bl b = V.bl b_1 ∧ Q (.bl (decide (a = b_1))) H1 := by
        funext x H1
        refine propext ⟨fun ⟨c, e, q⟩ => ⟨c, b, e, rfl, ?_⟩, fun ⟨c, b', e, e2, q⟩ => ⟨c, e, ?_⟩⟩
        · rwa [bt, Bool.beq_eq_decide_eq] at q
        · cases e2
          rwa [bt, Bool.beq_eq_decide_eq]
      rw [e] at q'
      exact q'
    exact ⟨peI (pe_cmpR op_is_bl pa pe_bl rfl) fun σV H Q h => z (srv1 (srv_isb G true b) h),
      ptI (pt_cmpR op_is_bl pa pe_bl rfl) fun σV H Q h => z (srv1T hb (srv_isb G true b) h)⟩
  | false =>
    cases o <;> first | (cases ho; done) | skip
    have z : ∀ {σV : L2.St} {H : Hp} {Q : VK}, tUn (rIsB false b) (tOpd G W p.e a) σV H Q → tOp (fun x y H Q => ∃ a b, x = .bl a ∧ y = .bl b ∧ Q (.bl (!decide (a = b))) H) (tOpd G W p.e a) (tC (.bl b)) σV H Q := fun {σV H Q} q => by
      have q' : tOpd G W p.e a σV H fun x H1 => ∃ c, x = .bl c ∧ Q (.bl ((c == b) == false)) H1 := q
      have e : (fun (x : V) (H1 : Hp) => ∃ c, x = V.bl c ∧ Q (.bl ((c == b) == false)) H1) = fun x H1 => ∃ a b_1, x = V.bl a ∧ V.bl b = V.bl b_1 ∧ Q (.bl (!decide (a = b_1))) H1 := by
        funext x H1
        refine propext ⟨fun ⟨c, e, q⟩ => ⟨c, b, e, rfl, ?_⟩, fun ⟨c, b', e, e2, q⟩ => ⟨c, e, ?_⟩⟩
        · rwa [bf, Bool.beq_eq_decide_eq] at q
        · cases e2
          rwa [bf, Bool.beq_eq_decide_eq]
      rw [e] at q'
      exact q'
    exact ⟨peI (pe_cmpR op_isnot_bl pa pe_bl rfl) fun σV H Q h => z (srv1 (srv_isb G false b) h),
      ptI (pt_cmpR op_isnot_bl pa pe_bl rfl) fun σV H Q h => z (srv1T hb (srv_isb G false b) h)⟩
omit ih c tk in
theorem plainIx_ok {g : Expr} (h : plainIx g = true) : PlainIx g := by
  cases g <;> first
    | exact fun _ _ => rfl
    | cases h
theorem snd_idx {P : Prg} {a j : R} {f g : Expr} {pos : Pos} (h0 : plainIx g = true) (h1 : chkE m Γ Θ a f = true) (h2 : chkE m Γ Θ j g = true) : Snd G X W (.Subscript f g pos) (stepE P p (.idx a j)) (stepT P p (.idx a j)) := by
  have hr : IxR X (rIx G.K) := by rw [← c.K]; exact ix_seq
  exact snd_of c.K (peI (pe_ix hr (opd_pe ih c tk h1) (opd_pe ih c tk h2) (plainIx_ok h0)) fun σV H Q h => srv2 (srv_ix G) h) fun _ => rfl
def tO (G : Gk) (W : WX) (ev : EvE) : Option R → TO
  | none => tNoPart
  | some r => tPart (tE G W (ev r))
def chkO (m : Nat) (Γ : Gs) (Θ : Sx) : Option R → Option Expr → Bool
  | none, none => true
  | some r, some e => chkE m Γ Θ r e
  | _, _ => false
theorem opt_po {lo : Option R} {l : Option Expr} (h : chkO m Γ Θ lo l = true) : PO X l (tO G W p.e lo) := by
  cases lo with
  | none => cases l with
    | none => exact po_none
    | some e => cases h
  | some r => cases l with
    | none => cases h
    | some e => exact po_some (ih m Θ r e X W c tk h).pe
omit ih c tk in
theorem evO_ok {ev : EvE} {lo : Option R} {B : Vw} {σ : S} {σV : L2.St} {H : Hp} {Q : Option Int → Hp → Prop} (g : B.of G) (r : Rep B H σ σV)
    (h : Pst B σ σV H W (fun i σ' => ∀ H', Rep B H' σ' σV → Stp B σ σ' σV H H' → Q i H') (evO ev lo σ)) : tO G W ev lo σV H Q := by
  cases lo with
  | none => exact h H r .refl
  | some e =>
    refine tE.mk g r ((Pst.bind h).imp fun d σ' q v H' r' s hv => ?_)
    obtain ⟨i, hi, q⟩ := (Pst.bind q).ofO
    have hv' := hv.rp r'
    obtain ⟨d, fr⟩ := d
    cases d with
    | int j =>
      cases hi
      cases hv'
      exact ⟨i, rfl, q H' r' s⟩
    | _ => cases hi
theorem snd_slc {P : Prg} {a : R} {lo hi : Option R} {f : Expr} {l h : Option Expr} {pos pos2 : Pos} (h1 : chkE m Γ Θ a f = true) (h2 : chkO m Γ Θ lo l = true) (h3 : chkO m Γ Θ hi h = true) :
    Snd G X W (.Subscript f (.Slice l h none pos2) pos) (stepE P p (.slc a lo hi)) (stepT P p (.slc a lo hi)) := by
  have hr : SlR X (rSlL' G.K) := by rw [← c.K]; exact sl_all
  refine snd_of c.K (peI (pe_slice hr (opd_pe ih c tk h1) (opt_po ih c tk h2) (opt_po ih c tk h3)) fun σV H Q ⟨B, σ, g, r, q⟩ => ?_) fun _ => rfl
  have key : tOpds G W p.e [a] σV H fun vs H1 => match vs with | [x] => tO G W p.e lo σV H1 fun l H2 => tO G W p.e hi σV H2 fun h H3 => rSlL' G.K x l h H3 Q | _ => True := by
    refine pre_ok g r ((Pst.bind q).imp fun xs σ1 q1 vs H1 r1 s1 pr => ?_)
    cases pr with
    | nil => trivial
    | @cons x o vs xs ho pr =>
      cases vs with
      | cons _ _ => trivial
      | nil =>
        cases pr
        refine evO_ok g r1 ((Pst.back s1 q1).bind.imp fun i σ2 q2 H2 r2 s2 => ?_)
        refine evO_ok g r2 ((Pst.back s2 q2).bind.imp fun j σ3 q3 H3 r3 s3 => ?_)
        obtain ⟨ds, hd, q4⟩ := (Pst.bind q3).ofO
        have po := fill_ok r3 (.cons ((ho.stp r1 s2).stp r2 s3) .nil) hd
        cases po with
        | cons p1 pn =>
          cases pn
          obtain ⟨e, he, q5⟩ := q4.ofO
          exact srv_sl g r3 p1 he fun v H4 r4 s4 hv => q5 v H4 r4 (s1.trans (s2.trans (s3.trans s4))) (hv.since fun b z => s1.kp.tr b (s2.kp.tr b (s3.kp.tr b z)))
  exact key
end
end Pv
/-! Pv7: builtins, isinstance, comprehensions, calls. -/
namespace Pv
open PySem PySem.Spec PyProof.Rows L2
section
variable {Γ : Gs} {G : Gk} {lv : Nat} {sps : Nat → Sp} {Θ : Sx} {X : Cx} {W : WX} {p : Ev} {m : Nat}
/-! ### builtins -/
theorem bi_call {b : Bi} {P : Prg} {id : String} {x : Str} {es : List R} {fs : List Expr} {pos pos2 : Pos} {r : List V → Hp → VK → Prop} (ih : SndN Γ G lv sps p) (c : Ctx Γ G lv sps Θ X) (tk : Takes X W) (hr : CallR X (.builtin id) r) (s : Srv G (bop2 b) r)
    (hx : x = biName b) (hv : bootBuiltins (biName b) = some (.builtin id)) (h : gl Θ x = true) (hne : es.isEmpty = false) (ha : all2 (chkE m Γ Θ) es fs = true) :
    Snd G X W (.Call (.Name x pos2) fs [] pos) (stepE P p (.bi b es)) (stepT P p (.bi b es)) := by
  obtain ⟨g1, g2, g3⟩ := gl_ok c h
  cases fs with
  | nil => cases es with
    | nil => cases hne
    | cons e es => cases ha
  | cons f fs =>
    cases es with
    | nil => cases ha
    | cons e es =>
      have hm : X.mg x = none := by rw [hx]; exact c.blt b
      have hst := chk_starEach (es := fs) (env := X.env) (and_ ha).1
      have hpl := all2_star (env := X.env) (pos := pos) (and_ ha).2
      exact snd_of c.K (peI (pe_callB hr g1 hm (by rw [hx]; exact hv) (opds_pa ih c tk ha) g3 g2 hst hpl) fun σV H Q h => srv_opds s h) fun _ => rfl
theorem bi_type {b : Bi} {P : Prg} {id : String} {x : Str} {es : List R} {fs : List Expr} {pos pos2 : Pos} {r : List V → Hp → VK → Prop} (ih : SndN Γ G lv sps p) (c : Ctx Γ G lv sps Θ X) (tk : Takes X W) (hr : CallR X (.type id) r) (s : Srv G (bop2 b) r)
    (hx : x = biName b) (hv : bootBuiltins (biName b) = some (.type id)) (h : gl Θ x = true) (hne : es.isEmpty = false) (ha : all2 (chkE m Γ Θ) es fs = true) :
    Snd G X W (.Call (.Name x pos2) fs [] pos) (stepE P p (.bi b es)) (stepT P p (.bi b es)) := by
  obtain ⟨g1, g2, g3⟩ := gl_ok c h
  cases fs with
  | nil => cases es with
    | nil => cases hne
    | cons e es => cases ha
  | cons f fs =>
    cases es with
    | nil => cases ha
    | cons e es =>
      have hm : X.mg x = none := by rw [hx]; exact c.blt b
      have hst := chk_starEach (es := fs) (env := X.env) (and_ ha).1
      have hpl := all2_star (env := X.env) (pos := pos) (and_ ha).2
      exact snd_of c.K (peI (pe_callTy hr g1 hm (by rw [hx]; exact hv) (opds_pa ih c tk ha) g3 g2 hst hpl) fun σV H Q h => srv_opds s h) fun _ => rfl
theorem snd_bi {P : Prg} {b : Bi} {x : Str} {es : List R} {fs : List Expr} {pos pos2 : Pos} (ih : SndN Γ G lv sps p) (c : Ctx Γ G lv sps Θ X) (tk : Takes X W) (hb : biOk b = true) (hx : x = biName b) (h : gl Θ x = true) (hne : es.isEmpty = false)
    (ha : all2 (chkE m Γ Θ) es fs = true) : Snd G X W (.Call (.Name x pos2) fs [] pos) (stepE P p (.bi b es)) (stepT P p (.bi b es)) := by
  have hc := c.gx.calm
  cases b with
  | len => exact bi_call ih c tk call_len (by rw [c.K]; exact srv_len G) hx (by decide +kernel) h hne ha
  | tuple => exact bi_type ih c tk call_tuple_of (by rw [c.K]; exact srv_tuple G) hx (by decide +kernel) h hne ha
  | list => exact bi_type ih c tk call_list_of (by rw [c.K]; exact srv_list G) hx (by decide +kernel) h hne ha
  | all => exact bi_call ih c tk (cr_all hc) (by rw [c.K]; exact srv_all G) hx (by decide +kernel) h hne ha
  | any => exact bi_call ih c tk (cr_any hc) (by rw [c.K]; exact srv_any G) hx (by decide +kernel) h hne ha
  | min2 => exact bi_call ih c tk (call_min2 hc) (srv_min2 G) hx (by decide +kernel) h hne ha
  | max2 => exact bi_call ih c tk (call_max2 hc) (srv_max2 G) hx (by decide +kernel) h hne ha
  | abs => exact bi_call ih c tk call_abs (srv_abs G) hx (by decide +kernel) h hne ha
  | int => exact bi_type ih c tk call_int1 (srv_int G) hx (by decide +kernel) h hne ha
  | repr => exact bi_call ih c tk (call_reprD c.gx) (by rw [c.K]; exact srv_repr G) hx (by decide +kernel) h hne ha
  | _ => cases hb
/-! ### isinstance(x, T) -/
def pyTy : PyData → String
  | .none => "NoneType" | .bool _ => "bool" | .int _ => "int" | .str _ => "str" | .list _ => "list" | .tuple _ => "tuple" | .dict _ => "dict"
def tyS : Ty → String
  | .int => "int" | .bool => "bool" | .str => "str" | .tuple => "tuple" | .list => "list"
theorem tyX_of {K : Frag} {A : ASet} {H : Hp} {v : V} {d : PyData} (h : Opr K A H v d) : TyX K H v (.type (pyTy d)) := by
  cases d with
  | none => rw [h.non]; exact .base .non
  | bool b => rw [h.bl]; exact .base (.bl b)
  | int b => rw [h.int]; exact .base (.int b)
  | str b => rw [h.str.1]; exact .base (.str b)
  | list b =>
    obtain ⟨a, xs, rfl, h1, _⟩ := h.lst
    rcases h1 with (h1 | ⟨o, h1⟩) | ⟨its, n, e, _, _⟩
    · exact .base (.lst h1)
    · exact .base (.frz h1)
    · exact .kList e rfl
  | tuple b =>
    obtain ⟨a, xs, rfl, h1, _⟩ := h.tup
    rcases h1 with (h1 | ⟨o, h1⟩) | ⟨o, its, n, e, q, _, _, _⟩
    · exact .base (.tup h1)
    · exact .fTuple h1
    · exact .kTuple e q
  | dict b => exact h.nodict.elim
theorem kit_all (d : PyData) (t : Ty) : kitB (pyTy d) (tyS t) = some (isT t d) := by
  cases d <;> cases t <;> (dsimp only [pyTy, tyS, isT]; decide +kernel)
theorem snd_isi {P : Prg} {a : R} {t : Ty} {x y : Str} {f : Expr} {pos p2 p3 : Pos} (ih : SndN Γ G lv sps p) (c : Ctx Γ G lv sps Θ X) (tk : Takes X W) (hx : x = "isinstance") (hy : y = tyName t) (h : gl Θ x = true) (h' : gl Θ y = true) (ha : chkE m Γ Θ a f = true) :
    Snd G X W (.Call (.Name x p2) [f, .Name y p3] [] pos) (stepE P p (.isi a [t])) (stepT P p (.isi a [t])) := by
  obtain ⟨g1, g2, g3⟩ := gl_ok c h
  obtain ⟨k1, k2, k3⟩ := gl_ok c h'
  have hm : X.mg x = none := by rw [hx]; exact c.blt2 _ (by simp)
  have hm' : X.mg y = none := by rw [hy]; cases t <;> exact c.blt2 _ (by simp [tyName])
  have hv : bootBuiltins y = some (.type (tyS t)) := by rw [hy]; cases t <;> decide +kernel
  have py : PE X (.Name y p3) (tC (.ty (tyS t))) := pe_bltn (v := .ty (tyS t)) k1 hm' hv rfl k3 k2
  have pa : PA X [f, .Name y p3] (tCons (tOpd G W p.e a) (tCons (tC (.ty (tyS t))) tNil)) := pa_cons (opd_pe ih c tk ha) (pa_cons py pa_nil rfl) (chk_starEach ha)
  refine snd_of c.K (peI (pe_callB call_isi g1 hm (by rw [hx]; decide +kernel) pa g3 g2 (chk_starEach ha) rfl) fun σV H Q h => ?_) fun _ => rfl
  have s : Srv1 G (fun x => some (.bool ([t].any fun t => isT t x), false)) (fun x H Q => rIsi X.K [x, .ty (tyS t)] H Q) := by
    intro B σ σV H v d e Q g r pv he k
    cases he
    rw [c.K, ← g.1]
    exact ⟨v, _, _, _, isT t d, rfl, .ty _, tyX_of pv, kit_ty (kit_all d t), end_bl r (by simpa using k)⟩
  exact srv1 s h
end
end Pv
/-! Pv8: what is walked; targets; comprehensions. -/
namespace Pv
open PySem PySem.Spec PyProof.Rows L2
section
variable {B : Vw} {K : Frag} {A A' : ASet} {H H' H1 H2 : Hp} {σ σ' σ1 : S} {σV : L2.St} {v : V} {d : PyData}
/-- all that is not tracked is avoided -/
theorem LsAt.all {a : Addr} {xs : List V} (h : LsAt K A H a xs) : LsAt K (fun b => A b ∨ H b = none) H a xs := by
  rcases h with ⟨h, n⟩ | h
  · exact .inl ⟨h, fun z => z.elim n (Rd.some_ h)⟩
  · exact .inr h
mutual
theorem Rp.all : ∀ {v : V} {d : PyData}, Rp K A H v d → Rp K (fun b => A b ∨ H b = none) H v d
  | _, _, .non => .non
  | _, _, .bl b => .bl b
  | _, _, .int i => .int i
  | _, _, .str x h => .str x h
  | _, _, .lst h r => .lst h.all (Rps.all r)
  | _, _, .tup h r => .tup h (Rps.all r)
theorem Rps.all : ∀ {vs : List V} {ds : List PyData}, Rps K A H vs ds → Rps K (fun b => A b ∨ H b = none) H vs ds
  | _, _, .nil => .nil
  | _, _, .cons h r => .cons (Rp.all h) (Rps.all r)
end
theorem NoTup.all (h : NoTup A H) : NoTup (fun b => A b ∨ H b = none) H := fun b hb ys z => hb.elim (fun q => h b q ys z) fun q => Rd.some_ z q
theorem Kp.all (k : Kp A H H') : Kp (fun b => A b ∨ H b = none) H H' := k.weak fun _ => .inl
theorem Rep.grow (r : Rep B H σ σV) (k : Kp (fun _ => False) H H') : Rep B H' σ σV := by
  refine r.heap (fun b o e _ => k.at_ b o e fun z => z) k.tr (fun b hb ys z => ?_) fun b hb => ?_
  · cases e : H b with
    | none => exact r.exT b hb e
    | some o =>
      have q := k.at_ b o e fun z => z
      refine r.nt b (.inr hb) ys ?_
      rcases z with z | ⟨u, z⟩
      · rw [q] at z; exact .inl (e.trans z)
      · rw [q] at z; exact .inr ⟨u, e.trans z⟩
  · cases e : H b with
    | none => exact (r.exT b hb e).elim
    | some o => exact .inr (k.at_ b o e fun z => z).symm
/-! ### what is walked -/
structure Wk (K : Frag) (A : ASet) (H : Hp) (J : It) (ds : List PyData) : Prop where
  go : ∀ H' i, Kp A H H' → i < ds.length → J.go i H'
  stop : ∀ H' i, Kp A H H' → ds.length ≤ i → J.stop i H'
  yld : ∀ H' i x H2, Kp A H H' → J.yld i H' x H2 → Kp (fun _ => False) H' H2 ∧ ∀ d, ds[i]? = some d → Rp K (fun b => A b ∨ H b = none) H2 x d
theorem wk_lst {a : Addr} {xs : List V} {ds : List PyData} (nt : NoTup A H) (h : LsAt K A H a xs) (r : Rps K A H xs ds) : Wk K A H (Itl K a) ds := by
  have at_ : ∀ H', Kp A H H' → SqL K H' a xs := fun H' k => (h.keep k).sq
  refine ⟨fun H' i k hi => ?_, fun H' i k hi => ⟨xs, at_ H' k, by rw [r.len]; exact hi⟩, fun H' i x H2 k y => ?_⟩
  · rw [← r.len] at hi
    exact ⟨xs, xs[i], at_ H' k, by simp [hi]⟩
  · obtain ⟨e, y⟩ := y
    subst e
    refine ⟨.refl, fun d hd => ?_⟩
    obtain ⟨u, hu, ru⟩ := r.all.get hd
    rw [y xs (at_ _ k)] at hu
    cases hu
    exact ru.keep k.all nt.all
theorem wk_tup {a : Addr} {xs : List V} {ds : List PyData} (nt : NoTup A H) (h : SqT K H a xs) (r : Rps K A H xs ds) : Wk K A H (Itt K a) ds := by
  have at_ : ∀ H', Kp A H H' → SqT K H' a xs := fun H' k => SqT.keep k nt h
  refine ⟨fun H' i k hi => ?_, fun H' i k hi => ⟨xs, at_ H' k, by rw [r.len]; exact hi⟩, fun H' i x H2 k y => ?_⟩
  · rw [← r.len] at hi
    exact ⟨xs, xs[i], at_ H' k, by simp [hi]⟩
  · obtain ⟨e, y⟩ := y
    subst e
    refine ⟨.refl, fun d hd => ?_⟩
    obtain ⟨u, hu, ru⟩ := r.all.get hd
    rw [y xs (at_ _ k)] at hu
    cases hu
    exact ru.keep k.all nt.all
theorem wk_rng (lo : Int) (n : Nat) : Wk K A H (Itr lo n) ((List.range n).map fun (k : Nat) => PyData.int (lo + (k : Int))) := by
  refine ⟨fun H' i k hi => ?_, fun H' i k hi => ?_, fun H' i x H2 k y => ?_⟩
  · have h : i < n := by simpa using hi
    exact h
  · have h : n ≤ i := by simpa using hi
    exact h
  · obtain ⟨e, y⟩ := y
    subst e y
    refine ⟨.refl, fun d hd => ?_⟩
    have hi : i < n := by
      have := (List.getElem?_eq_some_iff.mp hd).1
      simpa using this
    have e : d = .int (lo + (i : Int)) := by
      rw [List.getElem?_map, List.getElem?_range hi] at hd
      exact (Option.some.inj hd).symm
    rw [e]
    exact .int _
theorem rng0 {j : Int} : ((List.range j.toNat).map fun (k : Nat) => PyData.int (k : Int)) = (List.range j.toNat).map fun (k : Nat) => PyData.int (0 + (k : Int)) := by simp
end
section
variable {Γ : Gs} {G : Gk} {lv : Nat} {sps : Nat → Sp} {Θ : Sx} {X : Cx} {W : WX} {p : Ev} {m : Nat} {tg : Expr}
def tI (G : Gk) (W : WX) (p : S → Res (List PyData)) : TI := fun σV H R => ∃ B σ, B.of G ∧ Rep B H σ σV ∧ Pst B σ σV H W (fun ds σ' => ∀ J H', Rep B H' σ' σV → Stp B σ σ' σV H H' → Wk B.K (Av B σ' σV) H' J ds → R J H') (p σ)
theorem piI {it : Expr} {t t' : TI} (h : PI X tg it t) (k : ∀ σ H Q, t' σ H Q → t σ H Q) : PI X tg it t' := ⟨fun pins s σ H Q I q => h.run pins s σ H Q I (k _ _ _ q)⟩
theorem pi_one {it : Expr} {t : TI} {t' : TI} (h : ∀ σ H R, t' σ H R → ∃ t, PI X tg it t ∧ t σ H R) : PI X tg it t' := ⟨fun pins s σ H R I q => by
  obtain ⟨t, hp, q⟩ := h σ H R q
  exact hp.run pins s σ H R I q⟩
/-- a list or a tuple that an expression gives -/
theorem pi_seqD {it : Expr} {f : S → Res DF} (hK : X.K = G.K) (h : PE X it (tE G W f)) : PI X tg it (tI G W fun s => (f s).bind fun d s => ofO (seqD d.1) s) := by
  refine pi_one (t := iList X.K (tE G W f)) fun σV H R ⟨B, σ, g, r, q⟩ => ?_
  have hb : B.K = X.K := g.1.trans hK.symm
  have q := Pst.bind q
  cases e : f σ with
  | bad => rw [e] at q; exact q.elim
  | err c d s =>
    refine ⟨_, pi_list h, B, σ, g, r, ?_⟩
    rw [e] at q ⊢
    exact q
  | ok d s =>
    rw [e] at q
    obtain ⟨ds, hd, q⟩ := Pst.ofO (show Pst B σ σV H W _ (ofO (seqD d.1) s) from q)
    obtain ⟨d, fr⟩ := d
    cases d with
    | list l =>
      cases hd
      refine ⟨_, pi_list h, tE.mk g r ?_⟩
      rw [e]
      intro v H' r' st hv
      have hv := hv.rp r'
      rw [hb] at hv
      cases hv with
      | lst h1 h2 => exact ⟨_, rfl, ⟨_, h1.sq⟩, q _ _ r' st (by rw [hb]; exact wk_lst r'.nt h1 h2)⟩
    | tuple l =>
      cases hd
      refine ⟨_, pi_tup h, tE.mk g r ?_⟩
      rw [e]
      intro v H' r' st hv
      have hv := hv.rp r'
      rw [hb] at hv
      cases hv with
      | tup h1 h2 => exact ⟨_, rfl, ⟨_, h1⟩, q _ _ r' st (by rw [hb]; exact wk_tup r'.nt h1 h2)⟩
    | _ => cases hd
theorem items_other {e : R} {s : S} (h1 : ∀ es, e ≠ .rng es) (h2 : ∀ a, e ≠ .enm a) (h3 : ∀ a b, e ≠ .zip a b) : items p e s = (p.e e s).bind fun d s => ofO (seqD d.1) s := by
  cases e <;> first | rfl | exact (h1 _ rfl).elim | exact (h2 _ rfl).elim | exact (h3 _ _ rfl).elim
theorem chk_norng {es : List R} {e : Expr} : chkE m Γ Θ (.rng es) e = false := by
  cases m with
  | zero => rfl
  | succ m => cases e <;> rfl
theorem chk_noenm {a : R} {e : Expr} : chkE m Γ Θ (.enm a) e = false := by
  cases m with
  | zero => rfl
  | succ m => cases e <;> rfl
theorem chk_nozip {a b : R} {e : Expr} : chkE m Γ Θ (.zip a b) e = false := by
  cases m with
  | zero => rfl
  | succ m => cases e <;> rfl
theorem chk_noset {r : R} {es : List Expr} {k : Nat} {x : Pos} : chkE m Γ Θ r (.Set es k x) = false := by
  cases m with
  | zero => rfl
  | succ m => cases r <;> first | rfl | (unfold chkE; split <;> first | rfl | (rename_i q; cases q))
theorem folded_ok {r : R} {e : Expr} {env : Env} {x : Value} (h : chkE m Γ Θ r e = true) : foldedSetIterable e env x = pure x := by
  cases e <;> first
    | rfl
    | (rw [chk_noset] at h; cases h)
theorem rngD_inv {ds l : List PyData} (h : rngD ds = some l) : (∃ j, ds = [.int j] ∧ (-(2 ^ 62) ≤ j ∧ j < 2 ^ 62) ∧ l = (List.range j.toNat).map fun (k : Nat) => PyData.int (k : Int)) ∨
    ∃ i j, ds = [.int i, .int j] ∧ (-(2 ^ 62) ≤ i ∧ i < 2 ^ 62 ∧ -(2 ^ 62) ≤ j ∧ j < 2 ^ 62) ∧ l = (List.range (j - i).toNat).map fun (k : Nat) => PyData.int (i + (k : Int)) := by
  unfold rngD at h
  split at h
  · rename_i j
    split at h
    · rename_i hj
      cases h
      exact .inl ⟨j, rfl, hj, rfl⟩
    · cases h
  · rename_i i j
    split at h
    · rename_i hj
      cases h
      exact .inr ⟨i, j, rfl, hj, rfl⟩
    · cases h
  · cases h
theorem rng_pi1 {a : R} {e : Expr} {x : Str} {pos p2 : Pos} (ih : SndN Γ G lv sps p) (c : Ctx Γ G lv sps Θ X) (tk : Takes X W) (hx : x = "range") (h : gl Θ x = true) (ha : chkE m Γ Θ a e = true) :
    PI X tg (.Call (.Name x p2) [e] [] pos) (tI G W (items p (.rng [a]))) := by
  obtain ⟨g1, g2, g3⟩ := gl_ok c h
  subst hx
  refine piI (pi_range1 g1 (c.blt2 _ (by simp)) (pa_cons (opd_pe ih c tk ha) pa_nil (chk_starEach ha)) (chk_starEach ha)) fun σV H R ⟨B, σ, g, r, q⟩ => ?_
  refine opds_ok (es := [a]) g r ((Pst.bind (show Pst B σ σV H W _ ((opds p.e [a] σ).bind fun ds s => ofO (if ds.length = [a].length then rngD ds else none) s) from q)).imp fun ds σ' q vs H' r' st pp => ?_)
  obtain ⟨l, hl, q⟩ := q.ofO
  split at hl
  · rename_i hlen
    rcases rngD_inv hl with ⟨j, rfl, hj, rfl⟩ | ⟨i, j, rfl, _⟩
    · cases pp with
      | cons p1 pp =>
        cases pp
        rw [p1.int]
        exact ⟨j, rfl, hj.1, hj.2, q _ _ r' st (by rw [rng0]; exact wk_rng 0 j.toNat)⟩
    · simp at hlen
  · cases hl
theorem rng_pi2 {a b : R} {e f : Expr} {x : Str} {pos p2 : Pos} (ih : SndN Γ G lv sps p) (c : Ctx Γ G lv sps Θ X) (tk : Takes X W) (hx : x = "range") (h : gl Θ x = true) (ha : chkE m Γ Θ a e = true) (hb : chkE m Γ Θ b f = true) :
    PI X tg (.Call (.Name x p2) [e, f] [] pos) (tI G W (items p (.rng [a, b]))) := by
  obtain ⟨g1, g2, g3⟩ := gl_ok c h
  subst hx
  refine piI (pi_range2 g1 (c.blt2 _ (by simp)) (pa_cons (opd_pe ih c tk ha) (pa_cons (opd_pe ih c tk hb) pa_nil (chk_starEach hb)) (chk_starEach ha)) (by rw [chk_starEach ha, chk_starEach hb]; rfl) (chk_starEach hb)) fun σV H R ⟨B, σ, g, r, q⟩ => ?_
  refine opds_ok (es := [a, b]) g r ((Pst.bind (show Pst B σ σV H W _ ((opds p.e [a, b] σ).bind fun ds s => ofO (if ds.length = [a, b].length then rngD ds else none) s) from q)).imp fun ds σ' q vs H' r' st pp => ?_)
  obtain ⟨l, hl, q⟩ := q.ofO
  split at hl
  · rename_i hlen
    rcases rngD_inv hl with ⟨j, rfl, _⟩ | ⟨i, j, rfl, hj, rfl⟩
    · simp at hlen
    · cases pp with
      | cons p1 pp =>
        cases pp with
        | cons p2 pp =>
          cases pp
          rw [p1.int, p2.int]
          exact ⟨i, j, rfl, hj, q _ _ r' st (wk_rng i (j - i).toNat)⟩
  · cases hl
theorem chk_items {it : R} {e : Expr} (ih : SndN Γ G lv sps p) (c : Ctx Γ G lv sps Θ X) (tk : Takes X W) (h : chkI Θ (chkE m Γ Θ) it e = true) : PI X tg e (tI G W (items p it)) ∧ ∀ env x, foldedSetIterable e env x = pure x := by
  unfold chkI at h
  split at h
  · obtain ⟨h, h3⟩ := and_ h
    obtain ⟨h1, h2⟩ := and_ h
    exact ⟨rng_pi1 ih c tk (eq_of_beq h1) h2 h3, fun _ _ => rfl⟩
  · obtain ⟨h, h4⟩ := and_ h
    obtain ⟨h, h3⟩ := and_ h
    obtain ⟨h1, h2⟩ := and_ h
    exact ⟨rng_pi2 ih c tk (eq_of_beq h1) h2 h3 h4, fun _ _ => rfl⟩
  · refine ⟨piI (pi_seqD c.K (ih m Θ it e X W c tk h).pe) fun σV H R ⟨B, σ, g, r, q⟩ => ⟨B, σ, g, r, ?_⟩, fun _ _ => folded_ok h⟩
    rw [items_other (fun es z => by rw [z, chk_norng] at h; cases h) (fun es z => by rw [z, chk_noenm] at h; cases h) (fun _ es z => by rw [z, chk_nozip] at h; cases h)] at q
    exact q
/-! ### targets -/
def gS : List Nat → TGs
  | [] => gNil
  | i :: is => gCons (gName i) (gS is)
def gT (K : Frag) : T → TG
  | .nm i => gName i
  | .tp is => gTup K is.length (gS is)
theorem pg_nm {i : Nat} {x : Str} {pos : Pos} (c : Ctx Γ G lv sps Θ X) (h : isTgt Θ i x = true) : PG X (.Name x pos) (gName i) := by
  unfold isTgt at h
  obtain ⟨h1, h2⟩ := and_ h
  have h1 : X.N[i]? = some x := by rw [c.N]; exact eq_of_beq h1
  have nd : X.N.Nodup := by rw [c.N]; exact c.nd
  rcases Bool.or_eq_true_iff.mp h2 with h2 | h2
  · have h2 := c.loc x .local (by simp) (eq_of_beq h2)
    rw [← c.sc] at h2
    exact pg_name nd h1 (.inl h2) (.inr h2)
  · have h3 := c.fn x (eq_of_beq h2)
    have h2 := c.loc x .cell (by simp) (eq_of_beq h2)
    rw [← c.sc] at h2
    exact pg_name nd h1 (.inr h2) (.inl h3)
theorem chk_tgs (c : Ctx Γ G lv sps Θ X) : ∀ {is : List Nat} {es : List Expr}, all2 (fun i e => match e with | .Name x _ => isTgt Θ i x | _ => false) is es = true →
    PGs X es (gS is) ∧ (assignEach es X.env).length = is.length ∧ (assignEach es X.env).findIdx? (·.1) = none
  | [], [], _ => ⟨pgs_nil, rfl, rfl⟩
  | i :: is, e :: es, h => by
    obtain ⟨h1, h2⟩ := and_ h
    obtain ⟨a, b, d⟩ := chk_tgs c h2
    cases e with
    | Name x pos =>
      refine ⟨pgs_cons (pg_nm c h1) a, ?_, ?_⟩
      · show (assignEach es X.env).length + 1 = _
        rw [b]; rfl
      · show List.findIdx? (·.1) ((false, assign (.Name x pos) X.env) :: assignEach es X.env) = none
        rw [List.findIdx?_cons, d]; rfl
    | _ => cases h1
  | [], _ :: _, h => by cases h
  | _ :: _, [], h => by cases h
theorem chk_tg {t : T} {e : Expr} (c : Ctx Γ G lv sps Θ X) (h : chkT Θ t e = true) : PG X e (gT G.K t) := by
  unfold chkT at h
  split at h
  · exact pg_nm c h
  · obtain ⟨a, b, d⟩ := chk_tgs c h
    rw [← c.K]
    exact pg_tup c.gx.calm a b d
  · cases h
end
section
variable {B : Vw} {H H' : Hp} {σ σ' : S} {σV : L2.St} {v : V} {d : PyData} {Q : L2.St → Hp → Prop}
theorem ro_set {i : Nat} {x : Option V} (a : Addr) : RO (σ.set i (some (.pl d))) (σV.set i x) a → RO σ σV a := fun ⟨j, ⟨d', hd⟩, hv⟩ => by
  by_cases hj : j = i
  · subst hj
    by_cases hi : j < σ.length
    · rw [List.getElem?_set_self hi] at hd
      rcases hd with hd | hd <;> cases hd
    · rw [List.getElem?_eq_none (by simpa using hi)] at hd
      rcases hd with hd | hd <;> cases hd
  · rw [List.getElem?_set_ne (Ne.symm hj)] at hd hv
    exact ⟨j, ⟨d', hd⟩, hv⟩
theorem setAll_ok : ∀ {is : List Nat} {ds : List PyData} {vs : List V} {σ σ' : S} {σV : L2.St}, Rep B H σ σV → Rps B.K (Av B σ σV) H vs ds → setAll σ is ds = some σ' →
    (∀ σV', Rep B H σ' σV' → Off is σV σV' → (∀ a, RO σ' σV' a → RO σ σV a) → Q σV' H) → gS is vs σV H Q ∧ vs.length = is.length
  | [], [], _, σ, σ', σV, r, h, e, k => by
    cases h
    cases e
    exact ⟨⟨rfl, k _ r .refl fun _ z => z⟩, rfl⟩
  | i :: is, d :: ds, _, σ, σ', σV, r, h, e, k => by
    cases h with
    | @cons v vs _ _ h1 h2 =>
      have q := setAll_ok (is := is) (r.set (i := i) h1) (h2.weak fun b z => z.elim (fun y => .inl (ro_set b y)) .inr) e fun σV' r' o ro => k σV' r' ((Off.set (some v) (by simp)).trans (o.mono fun j hj => by simp [hj])) fun a z => ro_set a (ro a z)
      exact ⟨⟨v, vs, rfl, q.1⟩, by simp [q.2]⟩
  | [], _ :: _, _, _, _, _, _, _, e, _ => by cases e
  | _ :: _, [], _, _, _, _, _, _, e, _ => by cases e
theorem asg_ok {t : T} (r : Rep B H σ σV) (h : Rp B.K (Av B σ σV) H v d) (e : asgT t d σ = some σ') (k : ∀ σV', Rep B H σ' σV' → Off (tgSlots t) σV σV' → (∀ a, RO σ' σV' a → RO σ σV a) → Q σV' H) : gT B.K t v σV H Q := by
  cases t with
  | nm i =>
    cases e
    exact k _ (r.set h) (Off.set _ (by simp [tgSlots])) ro_set
  | tp is =>
    cases d with
    | tuple ds =>
      cases h with
      | tup h1 h2 =>
        have q := setAll_ok (is := is) r h2 e k
        exact ⟨_, _, rfl, h1, q.2, q.1⟩
    | _ => cases e
end
end Pv
/-! Pv9: comprehensions. -/
namespace Pv
open PySem PySem.Spec PyProof.Rows L2
theorem Kp.less {A : ASet} {D : Addr} {H H' : Hp} (h : H D = none) (k : Kp (fun b => A b ∨ b = D) H H') : Kp A H H' :=
  ⟨fun b o e n => k.at_ b o e fun z => z.elim n fun q => (by rw [q, h] at e; cases e), k.tr⟩
theorem ro_wipe {σ : S} {σV : L2.St} {own : List Nat} : ∀ a, RO (wipeS σ own) (L2.wipe σV own) a → RO σ σV a := fun a ⟨i, ⟨d, hd⟩, hv⟩ => by
  rw [wipeS_at] at hd
  rw [wipe_at] at hv
  by_cases hi : i ∈ own
  · rw [if_pos hi] at hv
    cases e : σV[i]? with
    | none => rw [e] at hv; cases hv
    | some x => rw [e] at hv; cases hv
  · rw [if_neg hi] at hd hv
    exact ⟨i, ⟨d, hd⟩, hv⟩
/-- a list that we may not reach is changed by whoever may -/
theorem Rep.putEx {B : Vw} {H : Hp} {σ : S} {σV : L2.St} {D : Addr} {xs ys : List V} (r : Rep (B.ex D) H σ σV) (h : H D = some (.lst xs)) (h0 : B.H0 D = none) : Rep (B.ex D) (upd H D (.lst ys)) σ σV := by
  refine r.heap (fun b o e n => ?_) (fun b e => ?_) (fun b hb zs z => ?_) fun b hb => ?_
  · rw [upd_ne (fun z => n (.inr z))]; exact e
  · by_cases hb : b = D
    · subst hb; rw [upd_same] at e; cases e
    · rw [upd_ne hb] at e; exact e
  · by_cases he : b = D
    · subst he; rcases z with z | ⟨o, z⟩ <;> (rw [upd_same] at z; cases z)
    · refine r.nt b (.inr hb) zs ?_
      rcases z with z | ⟨u, z⟩
      · rw [upd_ne he] at z; exact .inl z
      · rw [upd_ne he] at z; exact .inr ⟨u, z⟩
  · by_cases he : b = D
    · subst he; exact .inl h0
    · exact .inr (upd_ne he).symm
section
variable {Γ : Gs} {G : Gk} {lv : Nat} {sps : Nat → Sp} {Θ : Sx} {X : Cx} {W : WX} {p : Ev} {m : Nat}
theorem Ctx.blk (c : Ctx Γ G lv sps Θ X) (s : Shared) (H : Hp) (sc : Scope) (cl : List (Str × Addr)) (C : Addr) (fp : List Addr) : Ctx Γ G lv sps (inBlk Θ sc) (X.blk s H sc (compEnvC sc cl C X.env) fp) :=
  { gx := ⟨c.gx.hu, c.gx.calm, c.gx.hd, c.gx.gd⟩, K := c.K, N := c.N, sc := by show relS sc X.env.scope = relS sc Θ.sc; rw [c.sc], nd := c.nd,
    fn := fun x h => by show (sc.names.lookup x == some NameKind.cell) = true; rw [show sc.names.lookup x = some .cell from h]; rfl,
    loc := fun x k hk h => lookup_relS_keep hk h, room := c.room, blt := c.blt, blt2 := c.blt2, xs := c.xs, cns := c.cns, fns := c.fns }
abbrev W0 : WX := fun _ _ _ _ => False
theorem noErr_ok {α : Type} {B : Vw} {σ : S} {σV : L2.St} {H : Hp} {q : α → S → Prop} {r : Res α} (h : Pst B σ σV H W q (noErr r)) : ∃ a s, r = .ok a s ∧ q a s := by
  cases r with
  | ok a s => exact ⟨a, s, rfl, h⟩
  | err c d s => exact h.elim
  | bad => exact h.elim
theorem bind_ok {α β : Type} {r : Res α} {f : α → S → Res β} {b : β} {s : S} (h : r.bind f = .ok b s) : ∃ a s', r = .ok a s' ∧ f a s' = .ok b s := by
  cases r with
  | ok a s' => exact ⟨a, s', rfl, h⟩
  | err c d s' => cases h
  | bad => cases h
theorem ofO_ok {α : Type} {o : Option α} {a : α} {s s' : S} (h : ofO o s = .ok a s') : o = some a ∧ s = s' := by
  cases o with
  | none => cases h
  | some x => cases h; exact ⟨rfl, rfl⟩
def lcTurn (p : Ev) (elt : R) (t : T) (ifs : List R) (d : PyData) (s : S) : Res (List PyData) := (asgR t d s).bind fun _ s => (testsL p.t ifs s).bind fun b s =>
  if b then (p.e elt s).bind fun x s => .ok [x.1] s else .ok [] s
theorem asgR_ok {t : T} {d : PyData} {s s' : S} {u : Unit} (h : asgR t d s = .ok u s') : asgT t d s = some s' := by
  unfold asgR at h
  obtain ⟨a, s1, h1, h2⟩ := bind_ok h
  cases h2
  exact (ofO_ok h1).1
theorem lc_tests {Θ : Sx} {X : Cx} (ih : SndN Γ G lv sps p) (c : Ctx Γ G lv sps Θ X) (tk : Takes X W) : ∀ {ifs : List R} {tests : List Expr}, ifs.length ≤ 1 → all2 (chkE m Γ Θ) ifs tests = true → PTs X tests (tT G W (testsL p.t ifs))
  | [], [], _, _ => ⟨fun pins s σV H Q I ⟨B, σ, g, r, q⟩ => pts_nil.run pins s σV H Q I (q H r .refl)⟩
  | [e], [f], _, h => ⟨fun pins s σV H Q I ⟨B, σ, g, r, q⟩ => (pts_one (ih m Θ e f X W c tk (and_ h).1).pt).run pins s σV H Q I (tT.mk g r ((Pst.bind (show Pst B σ σV H W _ ((p.t e σ).bind fun b s => if b then .ok true s else .ok false s) from q)).imp fun b σ' q => by
      cases b with
      | true => exact q
      | false => exact q))⟩
  | _ :: _ :: _, _, h, _ => by simp at h
  | [], _ :: _, _, h => by cases h
  | [e], [], _, h => by cases h
  | [e], _ :: _ :: _, _, h => by have := (and_ h).2; cases this
theorem getElem_drop {α : Type} {l : List α} {i : Nat} {d : α} (h : l[i]? = some d) : l.drop i = d :: l.drop (i + 1) := by
  obtain ⟨hi, e⟩ := List.getElem?_eq_some_iff.mp h
  rw [List.drop_eq_getElem_cons hi, e]
/-- the walk of a comprehension with one clause -/
theorem lc_law {it elt : R} {own : List Nat} {t : T} {ifs : List R} {σV : L2.St} {H : Hp} {Q : VK} {P : Prg} (hown : own = tgSlots t) (h : tE G W (stepE P p (.lc elt own t it ifs)) σV H Q) :
    tLc (tI G W (items p it)) (gT G.K t) (tT G W0 (testsL p.t ifs)) (tE G W0 (p.e elt)) own σV H Q := by
  obtain ⟨B, σ, g, r, q⟩ := h
  refine ⟨B, σ, g, r, (Pst.bind (show Pst B σ σV H W _ ((items p it σ).bind fun ds s₁ => if plainOwn s₁ own then noErr ((lcL own (lcTurn p elt t ifs) ds s₁).bind fun l s => if l.length ≤ line then .ok ((.list l : PyData), true) (backS s₁ s own) else .bad) else .bad) from q)).imp fun ds σ1 q J H1 r1 st wk D hD => ?_⟩
  split at q
  · rename_i po
    obtain ⟨x, sF, e, q⟩ := noErr_ok q
    obtain ⟨L, sE, eL, e⟩ := bind_ok e
    split at e
    · rename_i hL
      cases e
      have gD : (B.ex D).of G := g
      have h0D : B.H0 D = none := r1.ext D hD
      refine ⟨fun i m Hc => m = ds.length - i ∧ i ≤ ds.length ∧ ∃ (σc : S) (acc : List V) (dacc l : List PyData), Rep (B.ex D) Hc (wipeS σc own) (L2.wipe σV own) ∧ Kp (RO σ1 σV) H1 Hc ∧ (∀ a, RO (wipeS σc own) (L2.wipe σV own) a → RO σ1 σV a) ∧
        Hc D = some (.lst acc) ∧ Rps B.K (Av (B.ex D) (wipeS σc own) (L2.wipe σV own)) Hc acc dacc ∧ lcL own (lcTurn p elt t ifs) (ds.drop i) σc = .ok l sE ∧ dacc ++ l = L, ⟨ds.length, rfl, Nat.zero_le _, σ1, [], [], L, ?_⟩, ?_⟩
      · exact ⟨(r1.newEx hD).wipe own, (Kp.new hD).less hD |> fun k => k, ro_wipe, upd_same, .nil, eL, rfl⟩
      · rintro i m Hc ⟨rfl, hi, σc, acc, dacc, l, rc, kc, roc, hDc, hacc, el, hl⟩
        have kA : Kp (Av B σ1 σV) H1 Hc := kc.weak fun _ => .inl
        by_cases hlt : i < ds.length
        · refine .inr ⟨wk.go Hc i kA hlt, fun Hn => i + 1 ≤ ds.length ∧ ∃ (σc : S) (acc : List V) (dacc l : List PyData), Rep (B.ex D) Hn (wipeS σc own) (L2.wipe σV own) ∧ Kp (RO σ1 σV) H1 Hn ∧ (∀ a, RO (wipeS σc own) (L2.wipe σV own) a → RO σ1 σV a) ∧
            Hn D = some (.lst acc) ∧ Rps B.K (Av (B.ex D) (wipeS σc own) (L2.wipe σV own)) Hn acc dacc ∧ lcL own (lcTurn p elt t ifs) (ds.drop (i + 1)) σc = .ok l sE ∧ dacc ++ l = L, fun H' hn => ⟨_, (by omega), rfl, hn⟩, fun x H' y => ?_⟩
          obtain ⟨k1, hx⟩ := wk.yld Hc i x H' kA y
          have hd : ds[i]? = some ds[i] := by simp [hlt]
          have hx := hx _ hd
          rw [getElem_drop hd] at el
          obtain ⟨xs, s3, et, el⟩ := bind_ok (show (lcTurn p elt t ifs ds[i] (wipeS σc own)).bind (fun xs s => (lcL own (lcTurn p elt t ifs) (ds.drop (i + 1)) s).bind fun ys s => .ok (xs ++ ys) s) = .ok l sE from el)
          obtain ⟨ys, s3', el2, e⟩ := bind_ok el
          cases e
          obtain ⟨_, s4, ea, et⟩ := bind_ok et
          obtain ⟨b, s5, eb, et⟩ := bind_ok et
          have ea := asgR_ok ea
          have r' := rc.grow k1
          have k2 : Kp (RO σ1 σV) H1 H' := kc.trans k1 fun _ z => z.elim
          have hx' : Rp (B.ex D).K (Av (B.ex D) (wipeS σc own) (L2.wipe σV own)) H' x ds[i] := hx.weak fun a z => by
            rcases z with z | (z | z)
            · exact .inl (.inl (roc a z))
            · exact .inl (.inr z)
            · exact .inr (by rw [z]; exact hD)
          have hacc' := (hacc.keep (k1.weak fun _ z => z.elim) rc.nt)
          have hD' : H' D = some (.lst acc) := k1.at_ _ _ hDc fun z => z
          rw [show G.K = (B.ex D).K from g.1.symm]
          refine asg_ok r' hx' ea fun σV' r4 off ro4 => ?_
          have hw : L2.wipe σV' own = L2.wipe σV own := by
            have o : Off own σV σV' := Off.wiped.trans (by rw [hown] at off ⊢; exact off)
            exact o.wipe
          refine ⟨hw, tT.mk gD r4 ?_⟩
          rw [eb]
          intro H3 r5 st5
          have hD3 : H3 D = some (.lst acc) := st5.kp.at_ _ _ hD' fun z => r4.exr D z (.inr rfl)
          have k3 : Kp (RO σ1 σV) H1 H3 := k2.trans st5.kp fun a z => .inl (roc a (ro4 a z))
          have hacc3 := Rps.stp r4 st5 (hacc'.weak fun a z => z.elim (fun y => .inl (ro4 a y)) .inr)
          have wp : ∀ {σw : S} {Hw : Hp}, Rep (B.ex D) Hw σw σV' → Rep (B.ex D) Hw (wipeS σw own) (L2.wipe σV own) := fun rw_ => by
            have := rw_.wipe own
            rw [hw] at this
            exact this
          have rw_ : ∀ {σw : S}, ∀ a, RO (wipeS σw own) (L2.wipe σV own) a → RO σw σV' a := fun {σw} a z => ro_wipe (σ := σw) (σV := σV') (own := own) a (by rw [hw]; exact z)
          cases b with
          | false =>
            cases et
            exact ⟨hlt, s3, acc, dacc, ys, wp r5, k3, fun a z => roc a (ro4 a (st5.ro a (rw_ a z))), hD3, hacc3.weak fun a z => z.elim (fun y => .inl (rw_ a y)) .inr, el2, hl⟩
          | true =>
            obtain ⟨xv, s6, ex, et⟩ := bind_ok et
            cases et
            refine tE.mk gD r5 ?_
            rw [ex]
            intro v H4 r6 st6 hv
            have hD4 : H4 D = some (.lst acc) := st6.kp.at_ _ _ hD3 fun z => r5.exr D z (.inr rfl)
            have k4 : Kp (RO σ1 σV) H1 H4 := k3.trans st6.kp fun a z => .inl (roc a (ro4 a (st5.ro a z)))
            have hacc4 := Rps.stp r5 st6 hacc3
            have hlen : acc.length < line := by
              have h1 := hacc.len
              have h2 : (dacc ++ ([xv.1] ++ ys)).length ≤ line := by rw [hl]; exact hL
              simp only [List.length_append, List.length_cons, List.length_nil] at h2
              omega
            refine ⟨acc, hD4, hlen, hlt, s3, acc ++ [v], dacc ++ [xv.1], ys, (wp r6).putEx hD4 h0D, ?_, fun a z => roc a (ro4 a (st5.ro a (st6.ro a (rw_ a z)))), upd_same, ?_, el2, by simpa using hl⟩
            · exact k4.trans (Kp.put (A := fun b => b = D) rfl) fun a z => .inr (by rw [z]; exact hD)
            · have h := hacc4.app (.cons (hv.rp r6) .nil)
              exact (h.keep (Kp.put (.inr (.inr rfl))) r6.nt).weak fun a z => z.elim (fun y => .inl (rw_ a y)) .inr
        · have hie : i = ds.length := by omega
          subst hie
          rw [List.drop_length] at el
          cases el
          have hl : dacc = L := by simpa using hl
          subst hl
          refine .inl ⟨wk.stop Hc _ kA (Nat.le_refl _), ?_⟩
          have kD : Kp (fun b => Av B σ1 σV b ∨ b = D) H1 Hc := kc.weak fun _ z => .inl (.inl z)
          obtain ⟨rb, rob⟩ := Rep.back r1 rc hD kD roc po
          have nD : ¬ Av B (backS σ1 sE own) σV D := fun z => by
            rcases z with z | z
            · exact rb.exr D z (.inr rfl)
            · exact r1.exT D z hD
          refine q _ _ rb.unex (st.trans ⟨kc, fun a z => roc a (rob a z)⟩) ⟨D, rfl, st.kp.tr D hD, nD, rb, acc, hDc, ?_⟩
          exact hacc.weak fun a z => z.elim (fun y => .inl (rob a y)) .inr
    · cases e
  · exact q.elim
theorem snd_lc {P : Prg} {it elt : R} {own : List Nat} {t : T} {ifs : List R} {f tg ite : Expr} {tests : List Expr} {sc : Scope} {pos : Pos} (ih : SndN Γ G lv sps p) (c : Ctx Γ G lv sps Θ X) (tk : Takes X W)
    (hb : blkC Θ.N Θ.sc sc ((tgNames tg).zip own) = true) (hz : (((tgNames tg).zip own).map (·.2) == own) = true) (ho : (own == tgSlots t) = true) (hi : ifs.length ≤ 1) (ht : chkT (inBlk Θ sc) t tg = true)
    (hit : chkI Θ (chkE m Γ Θ) it ite = true) (hifs : all2 (chkE m Γ (inBlk Θ sc)) ifs tests = true) (he : chkE m Γ (inBlk Θ sc) elt f = true) :
    Snd G X W (.ListComp f [⟨tg, ite, tests, 0⟩] sc pos) (stepE P p (.lc elt own t it ifs)) (stepT P p (.lc elt own t it ifs)) := by
  obtain ⟨pi, fo⟩ := chk_items (tg := tg) ih c tk hit
  have bk := blkOk_by hb
  rw [← c.N, ← c.sc] at bk
  have pe := pe_lc (pos := pos) (tt := tT G W0 (testsL p.t ifs)) (te := tE G W0 (p.e elt)) (g := gT G.K t) c.gx.calm (by rw [c.N]; exact c.nd) pi bk (fun s H C cl fp => chk_tg (c.blk s H sc cl C fp) ht) (fun s H C cl fp => lc_tests ih (c.blk s H sc cl C fp) takes0 hi hifs)
    (fun s H C cl fp => (ih m (inBlk Θ sc) elt f _ W0 (c.blk s H sc cl C fp) takes0 he).pe) (fun x => fo _ x)
  rw [eq_of_beq hz] at pe
  exact snd_of c.K (peI pe fun σV H Q h => lc_law (eq_of_beq ho) h) fun _ => rfl
end
end Pv
/-! Pv10: a def's promise; calls. -/
namespace Pv
open PySem PySem.Spec PyProof.Rows L2
/-! ### what a def promises -/
def ioL {α : Type} : List Bool → List α → List α
  | _, [] => []
  | io, v :: vs => if io.head? = some true then v :: ioL io.tail vs else ioL io.tail vs
def IoA (io : List Bool) (vs : List V) : ASet := fun a => V.ref a ∈ ioL io vs
def ArgL (K : Frag) (A : ASet) (H : Hp) : List Bool → List V → List PyData → Prop
  | _, [], [] => True
  | io, v :: vs, d :: ds => (if io.head? = some true then ∃ a, v = .ref a ∧ RootD K A H a d else Rp K A H v d) ∧ ArgL K A H io.tail vs ds
  | _, _, _ => False
def IosAt (K : Frag) (A : ASet) (H : Hp) : List Bool → List V → List PyData → Prop
  | [], _, ios => ios = []
  | true :: io, v :: vs, d :: ios => (∃ a, v = .ref a ∧ RootD K A H a d) ∧ IosAt K A H io vs ios
  | false :: io, _ :: vs, ios => IosAt K A H io vs ios
  | _, _, _ => False
structure ArgsAt (K : Frag) (Ex : ASet) (H : Hp) (io : List Bool) (vs : List V) (ds : List PyData) : Prop where
  at_ : ArgL K (fun b => Ex b ∨ IoA io vs b) H io vs ds
  inj : (ioL io vs).Nodup
  ex : ∀ a, IoA io vs a → ¬ Ex a
  nt : NoTup (fun b => Ex b ∨ IoA io vs b) H
  exT : ∀ a, Ex a → H a ≠ none
def RetAt (K : Frag) (A : ASet) (H H' : Hp) (io : List Bool) (vs : List V) (v : V) (d : PyData) (fr : Bool) (ios : List PyData) : Prop :=
  if fr then ∃ a, v = .ref a ∧ H a = none ∧ RootD K (fun b => A b ∨ b = a) H' a d ∧ IosAt K (fun b => A b ∨ b = a) H' io vs ios
  else Rp K A H' v d ∧ IosAt K A H' io vs ios
def spF (G : Gk) (np : Nat) (io : List Bool) (c : List PyData → CRes) : Sp := fun vs H Q E => ∃ (Ex : ASet) (ds : List PyData), vs.length = np ∧ ArgsAt G.K Ex H io vs ds ∧ match c ds with
  | .ret d fr ios => ∀ v H', Kp (IoA io vs) H H' → RetAt G.K (fun b => Ex b ∨ IoA io vs b) H H' io vs v d fr ios → Q v H'
  | .err c d ios => ∀ (C dx : Addr) (w : V) (H' : Hp), G.cls c = some C → Kp (IoA io vs) H H' → IosAt G.K (fun b => Ex b ∨ IoA io vs b) H' io vs ios → H' dx = some (.xd [("value", w)]) → ¬ (Ex dx ∨ IoA io vs dx) →
      Rp G.K (fun b => Ex b ∨ IoA io vs b) H' w d → E (.ref C) (some dx) H'
  | .bad => False
section
variable {B : Vw} {H H' : Hp} {σ σ' : S} {σV : L2.St}
/-- roots' contents changed in the heap, the slots' cells with them -/
theorem Rep.reroot {Sx Ex' : ASet} (r : Rep B H σ σV) (hlen : σ'.length = σ.length) (k : Kp Sx H H') (hS : ∀ a, Sx a → RO σ σV a) (hE : ∀ b, B.Ex b → Ex' b) (hN : ∀ b, Ex' b → B.Ex b ∨ (H b = none ∧ H' b ≠ none ∧ ∀ ys, ¬ Rd H' b (.tup ys)))
    (h : ∀ i c', σ'[i]? = some (some c') → (σ[i]? = some (some c') ∧ ∀ a, Rt σ σV i a → ¬ Sx a) ∨ (∃ d' d a, ((c' = .ow d' ∧ σ[i]? = some (some (.ow d))) ∨ (c' = .io d' ∧ σ[i]? = some (some (.io d)))) ∧ σV[i]? = some (some (.ref a)) ∧
      RootD B.K (fun b => RO σ σV b ∨ Ex' b) H' a d')) : Rep { B with Ex := Ex' } H' σ' σV ∧ ∀ a, RO σ' σV a → RO σ σV a := by
  have rt : ∀ i a, Rt σ' σV i a → Rt σ σV i a := fun i a ⟨⟨d, hd⟩, hv⟩ => by
    refine ⟨?_, hv⟩
    rcases hd with hd | hd
    · rcases h i _ hd with ⟨z, _⟩ | ⟨d', d0, a', z, _⟩
      · exact ⟨d, .inl z⟩
      · rcases z with ⟨_, z⟩ | ⟨z, _⟩
        · exact ⟨_, .inl z⟩
        · cases z
    · rcases h i _ hd with ⟨z, _⟩ | ⟨d', d0, a', z, _⟩
      · exact ⟨d, .inr z⟩
      · rcases z with ⟨z, _⟩ | ⟨_, z⟩
        · cases z
        · exact ⟨_, .inr z⟩
  have ro : ∀ a, RO σ' σV a → RO σ σV a := fun a ⟨i, z⟩ => ⟨i, rt i a z⟩
  have kA : Kp (Av B σ σV) H H' := k.weak fun a z => .inl (hS a z)
  have av : ∀ a, Av { B with Ex := Ex' } σ' σV a → RO σ σV a ∨ Ex' a := fun a z => z.imp (ro a) id
  have av2 : ∀ a, RO σ σV a ∨ Ex' a → Av B σ σV a ∨ H a = none := fun a z => by
    rcases z with z | z
    · exact .inl (.inl z)
    · rcases hN a z with z | z
      · exact .inl (.inr z)
      · exact .inr z.1
  have av3 : ∀ a, Av { B with Ex := Ex' } σ' σV a → Av B σ σV a ∨ H a = none := fun a z => av2 a (av a z)
  have nS : ∀ a, ¬ Av B σ σV a → ¬ Sx a := fun a n z => n (.inl (hS a z))
  have roT : ∀ i a, Rt σ σV i a → H a ≠ none := fun i a z => by
    obtain ⟨⟨d, hd⟩, hv⟩ := z
    rcases hd with hd | hd
    · obtain ⟨a', e, _, q, _⟩ := r.rt_ow hd
      rw [hv] at e; cases e
      obtain ⟨xs, e⟩ := q.at_
      rw [e]; exact fun z => by cases z
    · obtain ⟨a', e, _, q, _⟩ := r.rt_io hd
      rw [hv] at e; cases e
      obtain ⟨xs, e⟩ := q.at_
      rw [e]; exact fun z => by cases z
  have cell : ∀ i c', σ'[i]? = some (some c') → ∃ v, σV[i]? = some (some v) ∧ CellOk { B with Ex := Ex' } (Av { B with Ex := Ex' } σ' σV) H' i v c' := fun i c' e => by
    have kp : ∀ {v : V} {d : PyData}, Rp B.K (Av B σ σV) H v d → Rp B.K (Av { B with Ex := Ex' } σ' σV) H' v d := fun q => (q.all.keep kA.all r.nt.all).weak av3
    have kr : ∀ {a : Addr} {d : PyData}, RootD B.K (Av B σ σV) H a d → ¬ Sx a → RootD B.K (Av { B with Ex := Ex' } σ' σV) H' a d := fun {a d} q n => by
      cases d with
      | list ds =>
        obtain ⟨xs, e, q⟩ := q
        exact ⟨xs, k.at_ _ _ e n, (q.all.keep kA.all r.nt.all).weak av3⟩
      | _ => exact q.elim
    rcases h i c' e with ⟨z, n⟩ | ⟨d', d, a, z, ev, q⟩
    · obtain ⟨v, ev, hc⟩ := r.cell i c' z
      refine ⟨v, ev, ?_⟩
      cases c' with
      | pl d => exact kp hc
      | ow d => obtain ⟨a, ea, q, q2⟩ := hc; exact ⟨a, ea, kr q (n a ⟨⟨d, .inl z⟩, by rw [ev, ea]⟩), q2⟩
      | io d => obtain ⟨a, ea, q, q2⟩ := hc; exact ⟨a, ea, kr q (n a ⟨⟨d, .inr z⟩, by rw [ev, ea]⟩), q2⟩
      | ex c d =>
        obtain ⟨a, dx, C, w, ea, q, e1, e2, n1, n2, q2⟩ := hc
        have tr : ∀ {b : Addr} {o : HO}, H b = some o → ¬ Av B σ σV b → ¬ Av { B with Ex := Ex' } σ' σV b := fun e n z => (av3 _ z).elim n fun y => by rw [e] at y; cases y
        exact ⟨a, dx, C, w, ea, q, k.at_ _ _ e1 (nS _ n1), k.at_ _ _ e2 (nS _ n2), tr e1 n1, tr e2 n2, kp q2⟩
    · refine ⟨_, ev, ?_⟩
      rcases z with ⟨rfl, z⟩ | ⟨rfl, z⟩
      · obtain ⟨a', e', _, _, q2⟩ := r.rt_ow z
        rw [ev] at e'; cases e'
        exact ⟨a, rfl, q.weak av, q2⟩
      · obtain ⟨a', e', _, _, q2⟩ := r.rt_io z
        rw [ev] at e'; cases e'
        exact ⟨a, rfl, q.weak av, q2⟩
  refine ⟨⟨hlen.trans r.len, cell, fun i j a x y => r.inj i j a (rt i a x) (rt j a y), fun a z y => ?_, fun b e => r.ext b (k.tr b e), fun b o e n => ?_, fun b hb ys z => ?_, fun a ha e => ?_⟩, ro⟩
  · obtain ⟨i, z⟩ := z
    rcases hN a y with y | y
    · exact r.exr a ⟨i, rt i a z⟩ y
    · exact roT i a (rt i a z) y.1
  · refine k.at_ _ _ (r.kp b o e n) fun z => ?_
    obtain ⟨i, ⟨d, hd⟩, hv⟩ := hS b z
    rcases hd with hd | hd
    · obtain ⟨a', e', _, _, q⟩ := r.rt_ow hd
      rw [hv] at e'; cases e'
      rw [q] at e; cases e
    · obtain ⟨a', e', _, _, q⟩ := r.rt_io hd
      rw [hv] at e'; cases e'
      exact n i q
  · rcases hb with ⟨i, hb⟩ | hb
    · obtain ⟨⟨d, hd⟩, hv⟩ := hb
      have lst : ∃ xs, H' b = some (.lst xs) := by
        rcases hd with hd | hd
        · obtain ⟨v, ev, a, ea, q, _⟩ := cell i _ hd
          rw [hv] at ev; cases ev; cases ea; exact q.at_
        · obtain ⟨v, ev, a, ea, q, _⟩ := cell i _ hd
          rw [hv] at ev; cases ev; cases ea; exact q.at_
      obtain ⟨xs, q⟩ := lst
      rcases z with z | ⟨o, z⟩ <;> (rw [q] at z; cases z)
    · rcases hN b hb with hb | hb
      · cases e : H b with
        | none => exact r.exT b hb e
        | some o =>
          have q := k.at_ b o e fun y => r.exr b (hS b y) hb
          refine r.nt b (.inr hb) ys ?_
          rcases z with z | ⟨u, z⟩
          · rw [q] at z; exact .inl (e.trans z)
          · rw [q] at z; exact .inr ⟨u, e.trans z⟩
      · exact hb.2.2 ys z
  · rcases hN a ha with ha | ha
    · exact r.exT a ha (k.tr a e)
    · exact ha.2.1 e
end
/-! ### arguments -/
section
variable {Γ : Gs} {G : Gk} {lv : Nat} {sps : Nat → Sp} {Θ : Sx} {X : Cx} {W : WX} {p : Ev} {m : Nat} {B : Vw} {H H' H1 : Hp} {σ σ' σ1 : S} {σV : L2.St}
def ArgRel (B : Vw) (σ : S) (σV : L2.St) (H : Hp) : List Bool → List V → List (Nat ⊕ PyData) → Prop
  | _, [], [] => True
  | io, v :: vs, .inl i :: xs => (io.head? = some true ∧ σV[i]? = some (some v)) ∧ ArgRel B σ σV H io.tail vs xs
  | io, v :: vs, .inr d :: xs => (io.head? ≠ some true ∧ Rp B.K (Av B σ σV) H v d) ∧ ArgRel B σ σV H io.tail vs xs
  | _, _, _ => False
def tArg (G : Gk) (W : WX) (ev : EvE) (e : R) (io : List Bool) : TE := if io.head? = some true then (match isVar e with | some i => tVar i | none => fun _ _ _ => False) else tE G W (ev e)
def tArgs (G : Gk) (W : WX) (ev : EvE) : List R → List Bool → TA
  | [], _ => tNil
  | e :: es, io => tCons (tArg G W ev e io) (tArgs G W ev es io.tail)
theorem preA_ok (g : B.of G) {ev : EvE} : ∀ {es : List R} {io : List Bool} {σ : S} {H : Hp} {Q : List V → Hp → Prop}, Rep B H σ σV →
    Pst B σ σV H W (fun xs σ' => ∀ vs H', Rep B H' σ' σV → Stp B σ σ' σV H H' → ArgRel B σ' σV H' io vs xs → Q vs H') (preA ev es io σ) → tArgs G W ev es io σV H Q
  | [], io, σ, H, Q, r, h => h [] H r .refl trivial
  | e :: es, io, σ, H, Q, r, h => by
    unfold preA at h
    show tArg G W ev e io σV H fun x H1 => tArgs G W ev es io.tail σV H1 fun xs H2 => Q (x :: xs) H2
    unfold tArg
    by_cases hio : io.head? = some true
    · rw [if_pos hio]
      rw [show (io.head? == some true) = true by rw [hio]; rfl] at h
      cases hv : isVar e with
      | none => rw [hv] at h; exact h.elim
      | some i =>
        rw [hv] at h
        dsimp only at h ⊢
        split at h
        · rename_i hs
          obtain ⟨d, hd⟩ := Option.isSome_iff_exists.mp hs
          obtain ⟨v, ev'⟩ := getP_slot r hd
          refine ⟨v, ev', preA_ok g r (h.bind.imp fun xs σ' q vs H' r' s p => ?_)⟩
          exact q (v :: vs) H' r' s ⟨⟨hio, ev'⟩, p⟩
        · exact h.elim
    · rw [if_neg hio]
      rw [show (io.head? == some true) = false by simpa using hio] at h
      dsimp only at h
      refine tE.mk g r (h.bind.imp fun d σ' q v H' r' s hval => ?_)
      refine preA_ok g r' ((Pst.back s q).bind.imp fun xs σ2 q2 vs H2 r2 s2 p => ?_)
      exact q2 (v :: vs) H2 r2 (s.trans s2) ⟨⟨hio, Rp.stp r' s2 (hval.rp r')⟩, p⟩
theorem args_pa (ih : SndN Γ G lv sps p) (c : Ctx Γ G lv sps Θ X) (tk : Takes X W) : ∀ {rs : List R} {es : List Expr} (io : List Bool), all2 (chkE m Γ Θ) rs es = true → PA X es (tArgs G W p.e rs io)
  | [], [], _, _ => pa_nil
  | r :: rs, e :: es, io, h => by
    obtain ⟨h1, h2⟩ := and_ h
    refine pa_cons ?_ (args_pa ih c tk io.tail h2) (chk_starEach h1)
    unfold tArg
    split
    · split
      · rename_i i hv
        have hr := isVar_eq hv
        subst hr
        cases m with
        | zero => cases h1
        | succ m =>
          cases e with
          | Name x pos => exact isSlot_ok c h1
          | _ => cases h1
      · exact ⟨fun pins s σ H Q I q => q.elim⟩
    · exact (ih m Θ r e X W c tk h1).pe
  | [], _ :: _, _, h => by cases h
  | _ :: _, [], _, h => by cases h
/-- the callee runs, nothing being shown -/
theorem run_fnG {k : Nat} {f : Addr} {fd : FuncData} {ps : List Str} {sp : Sp} {pins : List (Addr × Obj)} {σ : L2.St} {s : Shared} {Q : VK} {us : List Value} {vs : List V} (F : FnG X.prog X.w X.K X.mg X.base k f fd ps sp) (hg : X.A.guards = some []) (hr : Room k X.A) (hb : Binds X.K fd ps [])
    (tk : Takes X W) (I : Inv X pins σ H s) (r : Vals vs us) (h : sp vs H Q (WE W σ)) : wpAny (model X.prog X.w) X.A (call (.ref f) us) (EP X pins σ Q) X.xe s := by
  have len1 : us.length = ps.length := r.length.symm.trans (F.len _ _ _ _ h)
  have bt : BindsTo s fd ⟨us, []⟩ (ps.zip us) := by
    have z := hb s us I.kIn (by simpa using len1)
    simpa using z
  refine wpAny_call (codeAny_mono (F.run X.A X.stack s H ⟨us, []⟩ us vs Q _ hg hr I.env0 bt r h) fun res s2 hq => ?_)
  match res, hq with
  | .error e, hq => exact passAt tk σ pins H s e s2 I hq
  | .ok (.ret u), hq => exact I.after hq
theorem pe_callG {k : Nat} {f : Addr} {fd : FuncData} {ps : List Str} {sp : Sp} {x : Str} {e : Expr} {es : List Expr} {t : TA} {pos p2 : Pos} (F : FnG X.prog X.w X.K X.mg X.base k f fd ps sp) (hg : X.A.guards = some []) (hr : Room k X.A) (hgl : Gl X x) (hm : X.mg x = some (.ref f)) (hk : PySem.W.keepIn X.K (.ref f) = true)
    (hb : Binds X.K fd ps []) (tk : Takes X W) (ha : PA X (e :: es) t) (hdb : (x == ("__debug__" : Str)) = false) (he : starEach (e :: es) X.env = (false, eval e X.env) :: starEach es X.env) (hpl : (backTo pos (starEach es X.env)).any (·.1) = false) :
    PE X (.Call (.Name x p2) (e :: es) [] pos) (fun σ H Q => t σ H fun vs H1 => sp vs H1 Q (WE W σ)) := by
  constructor
  intro pins s σ H Q I h
  refine wpAny_Call_Name_kw (ld_glob I hgl hm (PySem.W.callWith_K (h₀ := X.base) I.ok.mod.kin hk ?_ he hpl) hdb)
  exact thn (ha.run pos pins s σ H _ I h) fun us s1 ⟨vs, H1, J, r, q⟩ => ⟨J.kIn, run_fnG F hg hr hb tk J r q⟩
theorem pe_callG0 {k : Nat} {f : Addr} {fd : FuncData} {ps : List Str} {sp : Sp} {x : Str} {pos p2 : Pos} (F : FnG X.prog X.w X.K X.mg X.base k f fd ps sp) (hg : X.A.guards = some []) (hr : Room k X.A) (hgl : Gl X x) (hm : X.mg x = some (.ref f)) (hk : PySem.W.keepIn X.K (.ref f) = true)
    (hb : Binds X.K fd ps []) (tk : Takes X W) (hdb : (x == ("__debug__" : Str)) = false) : PE X (.Call (.Name x p2) [] [] pos) (fun σ H Q => tNil σ H fun vs H1 => sp vs H1 Q (WE W σ)) := by
  constructor
  intro pins s σ H Q I h
  refine wpAny_Call_Name_kw (ld_glob I hgl hm (PySem.W.callWith_K0 I.kIn hk ?_) hdb)
  exact run_fnG (us := []) F hg hr hb tk I .nil h
/-! ### the caller's side -/
theorem noDup_nd : ∀ {l : List Nat}, noDup l = true → l.Nodup
  | [], _ => .nil
  | i :: l, h => by
    obtain ⟨h1, h2⟩ := and_ h
    exact List.nodup_cons.mpr ⟨by simpa using h1, noDup_nd h2⟩
theorem fillA_root {d : PyData} (r : Rep B H σ σV) {i : Nat} {v : V} (e : σ[i]? = some (some (.ow d)) ∨ σ[i]? = some (some (.io d))) (ev : σV[i]? = some (some v)) : ∃ a, v = .ref a ∧ Rt σ σV i a ∧ RootD B.K (Av B σ σV) H a d := by
  rcases e with e | e
  · obtain ⟨a, e', rt, q, _⟩ := r.rt_ow e
    rw [ev] at e'; cases e'
    exact ⟨a, rfl, rt, q⟩
  · obtain ⟨a, e', rt, q, _⟩ := r.rt_io e
    rw [ev] at e'; cases e'
    exact ⟨a, rfl, rt, q⟩
theorem fillA_ok (r : Rep B H σ σV) : ∀ {xs : List (Nat ⊕ PyData)} {io : List Bool} {vs : List V} {ds : List PyData}, ArgRel B σ σV H io vs xs → fillA σ xs = some ds →
    ArgL B.K (Av B σ σV) H io vs ds ∧ (∀ a, IoA io vs a → ∃ i ∈ slotsOf xs, Rt σ σV i a) ∧ (∀ i ∈ slotsOf xs, ∃ a, Rt σ σV i a ∧ IoA io vs a) ∧ ((slotsOf xs).Nodup → (ioL io vs).Nodup)
  | [], io, [], ds, _, e => by
    cases e
    exact ⟨trivial, fun a h => by simp [IoA, ioL] at h, fun i h => by simp [slotsOf] at h, fun _ => .nil⟩
  | .inl i :: xs, io, v :: vs, ds, h, e => by
    obtain ⟨⟨hio, ev⟩, h⟩ := h
    have key : ∃ d ds', (σ[i]? = some (some (.ow d)) ∨ σ[i]? = some (some (.io d))) ∧ fillA σ xs = some ds' ∧ ds = d :: ds' := by
      unfold fillA at e
      split at e
      · rename_i d q
        obtain ⟨ds', q2, q3⟩ := Option.map_eq_some_iff.mp e
        exact ⟨d, ds', .inl q, q2, q3.symm⟩
      · rename_i d q
        obtain ⟨ds', q2, q3⟩ := Option.map_eq_some_iff.mp e
        exact ⟨d, ds', .inr q, q2, q3.symm⟩
      · cases e
    obtain ⟨d, ds', hc, e2, rfl⟩ := key
    obtain ⟨a, rfl, rt, q⟩ := fillA_root r hc ev
    obtain ⟨i1, i2, i3, i4⟩ := fillA_ok r h e2
    have hL : ioL io (V.ref a :: vs) = V.ref a :: ioL io.tail vs := by
      show (if io.head? = some true then _ else _) = _
      rw [if_pos hio]
    refine ⟨⟨by rw [if_pos hio]; exact ⟨a, rfl, q⟩, i1⟩, fun b hb => ?_, fun j hj => ?_, fun nd => ?_⟩
    · unfold IoA at hb
      rw [hL] at hb
      rcases List.mem_cons.mp hb with hb | hb
      · cases hb; exact ⟨i, by simp [slotsOf], rt⟩
      · obtain ⟨j, hj, q⟩ := i2 b hb
        exact ⟨j, by simp [slotsOf, hj], q⟩
    · rcases List.mem_cons.mp (show j ∈ i :: slotsOf xs from hj) with hj | hj
      · subst hj; exact ⟨a, rt, by unfold IoA; rw [hL]; simp⟩
      · obtain ⟨b, q1, q2⟩ := i3 j hj
        exact ⟨b, q1, by unfold IoA; rw [hL]; exact List.mem_cons_of_mem _ q2⟩
    · obtain ⟨n1, n2⟩ := List.nodup_cons.mp (show (i :: slotsOf xs).Nodup from nd)
      rw [hL]
      refine List.nodup_cons.mpr ⟨fun hm => ?_, i4 n2⟩
      obtain ⟨j, hj, q⟩ := i2 a hm
      exact n1 (by rw [r.inj i j a rt q]; exact hj)
  | .inr d :: xs, io, v :: vs, ds, h, e => by
    obtain ⟨⟨hio, hv⟩, h⟩ := h
    obtain ⟨ds', e2, e3⟩ := Option.map_eq_some_iff.mp (show (fillA σ xs).map (d :: ·) = some ds from e)
    subst e3
    obtain ⟨i1, i2, i3, i4⟩ := fillA_ok r h e2
    have hL : ioL io (v :: vs) = ioL io.tail vs := by
      show (if io.head? = some true then _ else _) = _
      rw [if_neg hio]
    refine ⟨⟨by rw [if_neg hio]; exact hv, i1⟩, fun b hb => ?_, fun j hj => ?_, fun nd => ?_⟩
    · unfold IoA at hb; rw [hL] at hb; exact i2 b hb
    · obtain ⟨b, q1, q2⟩ := i3 j hj
      exact ⟨b, q1, by unfold IoA; rw [hL]; exact q2⟩
    · rw [hL]; exact i4 nd
  | [], _, _ :: _, _, h, _ => h.elim
  | .inl _ :: _, _, [], _, h, _ => h.elim
  | .inr _ :: _, _, [], _, h, _ => h.elim
theorem ioBack_ok {K : Frag} {A : ASet} {s0 : S} : ∀ {xs : List (Nat ⊕ PyData)} {io : List Bool} {vs : List V} {ios : List PyData} {s s' : S}, ArgRel B σ σV H io vs xs → IosAt K A H' io vs ios → ioBack s xs ios = some s' →
    s'.length = s.length ∧ ∀ j c', s'[j]? = some (some c') → (j ∉ slotsOf xs ∧ s[j]? = some (some c')) ∨
      (j ∈ slotsOf xs ∧ ∃ d' d a, ((c' = .ow d' ∧ s[j]? = some (some (.ow d))) ∨ (c' = .io d' ∧ s[j]? = some (some (.io d)))) ∧ σV[j]? = some (some (.ref a)) ∧ RootD K A H' a d')
  | [], io, [], ios, s, s', _, hI, e => by
    cases ios with
    | nil => cases e; exact ⟨rfl, fun j c' h => .inl ⟨by simp [slotsOf], h⟩⟩
    | cons _ _ => cases e
  | .inr d :: xs, io, v :: vs, ios, s, s', h, hI, e => by
    obtain ⟨⟨hio, _⟩, h⟩ := h
    have hI' : IosAt K A H' io.tail vs ios := by
      cases io with
      | nil => exact hI
      | cons b io => cases b with
        | true => exact (hio rfl).elim
        | false => exact hI
    have q := ioBack_ok (s0 := s0) (xs := xs) h hI' (show ioBack s xs ios = some s' by cases ios <;> exact e)
    exact q
  | .inl i :: xs, io, v :: vs, ios, s, s', h, hI, e => by
    obtain ⟨⟨hio, ev⟩, h⟩ := h
    cases io with
    | nil => cases hio
    | cons b io =>
      cases hio
      cases ios with
      | nil => exact hI.elim
      | cons d' ios =>
        obtain ⟨⟨a, rfl, hr⟩, hI⟩ := hI
        obtain ⟨s1, e1, e2⟩ := Option.bind_eq_some_iff.mp (show (setRoot s i fun _ => some d').bind (fun s => ioBack s xs ios) = some s' from e)
        obtain ⟨l1, l2⟩ := ioBack_ok (s0 := s0) h hI e2
        have key : ∃ c d, ((c = .ow d' ∧ s[i]? = some (some (.ow d))) ∨ (c = .io d' ∧ s[i]? = some (some (.io d)))) ∧ s1 = s.set i (some c) := by
          unfold setRoot at e1
          split at e1
          · rename_i d q; cases e1; exact ⟨_, d, .inl ⟨rfl, q⟩, rfl⟩
          · rename_i d q; cases e1; exact ⟨_, d, .inr ⟨rfl, q⟩, rfl⟩
          · cases e1
        obtain ⟨c, d, hc, rfl⟩ := key
        have hi : i < s.length := by rcases hc with ⟨_, q⟩ | ⟨_, q⟩ <;> exact (List.getElem?_eq_some_iff.mp q).1
        refine ⟨by simpa using l1, fun j c' hj => ?_⟩
        rcases l2 j c' hj with ⟨n, q⟩ | ⟨n, d2, d3, a2, q, ev2, q2⟩
        · by_cases hji : j = i
          · subst hji
            rw [List.getElem?_set_self hi] at q
            cases q
            exact .inr ⟨by simp [slotsOf], d', d, a, hc, ev, hr⟩
          · rw [List.getElem?_set_ne (Ne.symm hji)] at q
            exact .inl ⟨by simp only [slotsOf, List.mem_cons, not_or]; exact ⟨hji, n⟩, q⟩
        · refine .inr ⟨by simp [slotsOf, n], ?_⟩
          by_cases hji : j = i
          · subst hji
            rw [List.getElem?_set_self hi] at q
            rcases q with ⟨q, q'⟩ | ⟨q, q'⟩
            · cases q'
              rcases hc with ⟨z, hc⟩ | ⟨z, hc⟩
              · exact ⟨d2, d, a2, .inl ⟨q, hc⟩, ev2, q2⟩
              · cases z
            · cases q'
              rcases hc with ⟨z, hc⟩ | ⟨z, hc⟩
              · cases z
              · exact ⟨d2, d, a2, .inr ⟨q, hc⟩, ev2, q2⟩
          · rw [List.getElem?_set_ne (Ne.symm hji)] at q
            exact ⟨d2, d3, a2, q, ev2, q2⟩
  | [], _, _ :: _, _, _, _, h, _, _ => h.elim
  | .inl _ :: _, _, [], _, _, _, h, _, _ => h.elim
  | .inr _ :: _, _, [], _, _, _, h, _, _ => h.elim
theorem ArgL.imp {K : Frag} {A A' : ASet} (w : ∀ b, A' b → A b) : ∀ {io : List Bool} {vs : List V} {ds : List PyData}, ArgL K A H io vs ds → ArgL K A' H io vs ds
  | _, [], [], h => trivial
  | io, v :: vs, d :: ds, ⟨h1, h2⟩ => ⟨by
      split at h1
      · rename_i q; rw [if_pos q]; obtain ⟨a, e, r⟩ := h1; exact ⟨a, e, r.weak w⟩
      · rename_i q; rw [if_neg q]; exact h1.weak w, ArgL.imp w h2⟩
  | _, [], _ :: _, h => h.elim
  | _, _ :: _, [], h => h.elim
theorem IosAt.imp {K : Frag} {A A' : ASet} (w : ∀ b, A' b → A b) : ∀ {io : List Bool} {vs : List V} {ds : List PyData}, IosAt K A H io vs ds → IosAt K A' H io vs ds
  | [], _, _, h => h
  | true :: io, v :: vs, d :: ds, h => by
    obtain ⟨⟨a, e, r⟩, h2⟩ := h
    exact ⟨⟨a, e, r.weak w⟩, IosAt.imp w h2⟩
  | false :: io, _ :: vs, ds, h => IosAt.imp (io := io) (vs := vs) (ds := ds) w h
  | true :: _, [], _, h => h.elim
  | true :: _, _ :: _, [], h => h.elim
  | false :: _, [], _, h => h.elim
/-- the caller's side of a call -/
theorem call_law {np : Nat} {io : List Bool} {c : List PyData → CRes} {xs : List (Nat ⊕ PyData)} {ds : List PyData} {vs : List V} {Q : VK} (g : B.of G) (r : Rep B H σ σV) (ha : ArgRel B σ σV H io vs xs) (hn : noDup (slotsOf xs) = true) (hf : fillA σ xs = some ds) (hnp : vs.length = np)
    (h : Pst B σ σV H W (fun d σ' => ∀ v H', Rep B H' σ' σV → Stp B σ σ' σV H H' → Val B H σ' σV H' v d → Q v H') (callRes (c ds) xs σ)) : spF G np io c vs H Q (WE W σV) := by
  obtain ⟨a1, a2, a3, a4⟩ := fillA_ok r ha hf
  have ioR : ∀ a, IoA io vs a → RO σ σV a := fun a z => let ⟨i, _, q⟩ := a2 a z; ⟨i, q⟩
  have toA : ∀ b, Av B σ σV b → (Av B σ σV b ∧ ¬ IoA io vs b) ∨ IoA io vs b := fun b z => by
    by_cases q : IoA io vs b
    · exact .inr q
    · exact .inl ⟨z, q⟩
  have ofA : ∀ b, ((Av B σ σV b ∧ ¬ IoA io vs b) ∨ IoA io vs b) → Av B σ σV b := fun b z => z.elim (·.1) fun q => .inl (ioR b q)
  have roT : ∀ a, Av B σ σV a → H a ≠ none := fun a z e => r.notAv e z
  refine ⟨fun b => Av B σ σV b ∧ ¬ IoA io vs b, ds, hnp, ⟨by rw [← g.1]; exact a1.imp ofA, a4 (noDup_nd hn), fun a z q => q.2 z, fun b hb => r.nt b (ofA b hb), fun a z => roT a z.1⟩, ?_⟩
  have back : ∀ {ios : List PyData} {s' : S} {H' : Hp} {Ex' : ASet}, Kp (IoA io vs) H H' → (∀ b, B.Ex b → Ex' b) → (∀ b, Ex' b → B.Ex b ∨ (H b = none ∧ H' b ≠ none ∧ ∀ ys, ¬ Rd H' b (.tup ys))) → IosAt B.K (fun b => RO σ σV b ∨ Ex' b) H' io vs ios → ioBack σ xs ios = some s' →
      Rep { B with Ex := Ex' } H' s' σV ∧ ∀ a, RO s' σV a → RO σ σV a := fun {ios s' H' Ex'} k hE hN hI e => by
    obtain ⟨l1, l2⟩ := ioBack_ok (s0 := σ) ha hI e
    refine r.reroot l1 k ioR hE hN fun i c' hc => ?_
    rcases l2 i c' hc with ⟨n, q⟩ | ⟨n, d', d, a, q, ev, hr⟩
    · refine .inl ⟨q, fun a rt z => ?_⟩
      obtain ⟨j, hj, q2⟩ := a2 a z
      exact n (by rw [r.inj i j a rt q2]; exact hj)
    · exact .inr ⟨d', d, a, q, ev, hr⟩
  cases hc : c ds with
  | bad => rw [hc] at h; exact h.elim
  | ret d fr ios =>
    rw [hc] at h
    obtain ⟨s', e, q⟩ := (Pst.bind (show Pst B σ σV H W _ ((ofO (ioBack σ xs ios) σ).bind fun s' _ => .ok (d, fr) s') from h)).ofO
    intro v H' k hret
    rw [← g.1] at hret
    cases fr with
    | false =>
      obtain ⟨hv, hI⟩ : Rp B.K _ H' v d ∧ IosAt B.K _ H' io vs ios := hret
      obtain ⟨r', ro⟩ := back (Ex' := B.Ex) k (fun _ z => z) (fun _ z => .inl z) (hI.imp toA) e
      exact q v H' r' ⟨k.weak ioR, ro⟩ (hv.weak fun b z => toA b (z.elim (fun y => .inl (ro b y)) .inr))
    | true =>
      obtain ⟨a, rfl, hn, hr, hI⟩ : ∃ a, v = .ref a ∧ H a = none ∧ RootD B.K _ H' a d ∧ IosAt B.K _ H' io vs ios := hret
      obtain ⟨zs, hz⟩ := hr.at_
      obtain ⟨r', ro⟩ := back (Ex' := (B.ex a).Ex) k (fun _ z => .inl z) (fun b z => z.imp id fun q => by subst q; exact ⟨hn, (by rw [hz]; exact fun z => (by cases z)), fun ys z => by rcases z with z | ⟨o, z⟩ <;> (rw [hz] at z; cases z)⟩)
        (hI.imp fun b z => by
          rcases z with z | (z | z)
          · exact .inl (toA b (.inl z))
          · exact .inl (toA b (.inr z))
          · exact .inr z) e
      refine q _ H' (Rep.unex r') ⟨k.weak ioR, ro⟩ ⟨a, rfl, hn, fun z => ?_, r', hr.weak fun b z => ?_⟩
      · exact r.notAv hn (z.elim (fun y => .inl (ro a y)) .inr)
      · rcases z with z | (z | z)
        · exact .inl (toA b (.inl (ro b z)))
        · exact .inl (toA b (.inr z))
        · exact .inr z
  | err cc d ios =>
    rw [hc] at h
    obtain ⟨s', e, q⟩ := (Pst.bind (show Pst B σ σV H W _ ((ofO (ioBack σ xs ios) σ).bind fun s' _ => (.err cc d s' : Res DF)) from h)).ofO
    intro C dx w H' hC k hI hdx ndx hw
    rw [← g.1] at hI hw
    obtain ⟨r', ro⟩ := back (Ex' := B.Ex) k (fun _ z => z) (fun _ z => .inl z) (hI.imp toA) e
    exact q C dx w H' (by rw [g.2]; exact hC) r' ⟨k.weak ioR, ro⟩ hdx (fun z => ndx (toA dx (z.elim (fun y => .inl (ro dx y)) .inr))) (hw.weak fun b z => toA b (z.elim (fun y => .inl (ro b y)) .inr))
end
end Pv
/-! Pv11: calls of own defs. -/
namespace Pv
open PySem PySem.Spec PyProof.Rows L2
section
variable {Γ : Gs} {G : Gk} {lv : Nat} {sps : Nat → Sp} {Θ : Sx} {X : Cx} {W : WX} {p : Ev} {m : Nat} {B : Vw} {H H' H1 : Hp} {σ σ' σ1 : S} {σV : L2.St}
theorem ArgRel.len : ∀ {io : List Bool} {vs : List V} {xs : List (Nat ⊕ PyData)}, ArgRel B σ σV H io vs xs → vs.length = xs.length
  | _, [], [], _ => rfl
  | io, _ :: vs, .inl _ :: xs, h => by have := ArgRel.len h.2; simp [this]
  | io, _ :: vs, .inr _ :: xs, h => by have := ArgRel.len h.2; simp [this]
  | _, [], _ :: _, h => h.elim
  | _, _ :: _, [], h => h.elim
theorem gl_fn (c : Ctx Γ G lv sps Θ X) {f : Nat} {x : Str} (h : (Γ.fns[f]?.map (·.1) == some x) = true) : ∃ ps fa fd, FnAt X.K X.mg x ps (kcsOf Γ f) fa fd ∧ FnG X.prog X.w X.K X.mg X.base lv fa fd ps (sps f) := by
  cases e : Γ.fns[f]? with
  | none => rw [e] at h; cases h
  | some q =>
    rw [e] at h
    obtain ⟨y, ps⟩ := q
    obtain rfl : y = x := Option.some.inj (eq_of_beq h)
    obtain ⟨fa, fd, a, b⟩ := c.fns f y ps e
    exact ⟨ps, fa, fd, a, b⟩
theorem snd_call {P : Prg} {f : Nat} {x : Str} {es : List R} {fs : List Expr} {pos p2 : Pos} (hsp : ∀ f fd, P.fns[f]? = some fd → sps f = spF G fd.np fd.io (p.c f)) (ih : SndN Γ G lv sps p) (c : Ctx Γ G lv sps Θ X) (tk : Takes X W) (hx : (Γ.fns[f]?.map (·.1) == some x) = true) (h : gl Θ x = true)
    (ha : all2 (chkE m Γ Θ) es fs = true) : Snd G X W (.Call (.Name x p2) fs [] pos) (stepE P p (.call f es)) (stepT P p (.call f es)) := by
  obtain ⟨g1, g2, g3⟩ := gl_ok c h
  obtain ⟨ps, fa, fd, q1, q2⟩ := gl_fn c hx
  refine snd_of c.K ?_ fun _ => rfl
  cases hf : P.fns[f]? with
  | none =>
    refine ⟨fun pins s σ H Q I ⟨B, σ', g, r, q⟩ => ?_⟩
    have q : Pst B σ' σ H W _ (match P.fns[f]? with
      | some fd => (preA p.e es fd.io σ').bind fun xs s => if noDup (slotsOf xs) && xs.length == fd.np then (ofO (fillA s xs) s).bind fun ds s => callRes (p.c f ds) xs s else .bad
      | none => .bad) := q
    rw [hf] at q
    exact q.elim
  | some fn =>
    have law : ∀ σV H Q, tE G W (stepE P p (.call f es)) σV H Q → tArgs G W p.e es fn.io σV H fun vs H1 => sps f vs H1 Q (WE W σV) := fun σV H Q ⟨B, σ, g, r, q⟩ => by
      have q : Pst B σ σV H W _ (match P.fns[f]? with
        | some fd => (preA p.e es fd.io σ).bind fun xs s => if noDup (slotsOf xs) && xs.length == fd.np then (ofO (fillA s xs) s).bind fun ds s => callRes (p.c f ds) xs s else .bad
        | none => .bad) := q
      rw [hf] at q
      refine preA_ok g r ((Pst.bind q).imp fun xs σ' q vs H' r' st ar => ?_)
      split at q
      · rename_i hn
        obtain ⟨n1, n2⟩ := and_ hn
        obtain ⟨ds, e, q⟩ := (Pst.bind q).ofO
        rw [hsp f fn hf]
        refine call_law g r' ar n1 e (by rw [ar.len]; exact eq_of_beq n2) ((Pst.back st q).imp fun d s' k v H2 r2 s2 hv => k v H2 r2 (st.trans s2) (hv.since st.kp.tr))
      · exact q.elim
    cases fs with
    | nil =>
      have : es = [] := by
        cases es with
        | nil => rfl
        | cons _ _ => cases ha
      subst this
      exact peI (pe_callG0 q2 c.gx.gd c.room g1 q1.mg_ q1.kp q1.binds tk g2) law
    | cons e' fs =>
      cases es with
      | nil => cases ha
      | cons e es => exact peI (pe_callG q2 c.gx.gd c.room g1 q1.mg_ q1.kp q1.binds tk (args_pa ih c tk fn.io ha) g2 (chk_starEach (and_ ha).1) (all2_star (and_ ha).2)) law
/-! ### with keywords -/
theorem zip_lookup {α β : Type} {F : α → β → Prop} (j : Nat) : ∀ {ks : List Nat} {xs : List α} {ys : List β} {x : α}, Paired F xs ys → (ks.zip xs).lookup j = some x → ∃ y, (ks.zip ys).lookup j = some y ∧ F x y
  | [], _, _, _, _, h => by simp at h
  | k :: ks, _, _, _, .nil, h => by simp at h
  | k :: ks, a :: xs, b :: ys, x, .cons p1 p2, h => by
    rw [List.zip_cons_cons, List.lookup_cons] at h ⊢
    cases e : j == k with
    | true => rw [e] at h; cases h; exact ⟨b, rfl, p1⟩
    | false => rw [e] at h; exact zip_lookup j p2 h
theorem kwOrder_rel {α β : Type} {F : α → β → Prop} {ks : List Nat} {xs : List α} {ys : List β} (p : Paired F xs ys) : ∀ {n j : Nat} {zs : List α}, kwOrder ks xs j n = some zs → ∃ zs', kwOrder ks ys j n = some zs' ∧ Paired F zs zs'
  | 0, j, zs, h => by cases h; exact ⟨[], rfl, .nil⟩
  | n + 1, j, zs, h => by
    unfold kwOrder at h ⊢
    obtain ⟨x, h1, h2⟩ := Option.bind_eq_some_iff.mp h
    obtain ⟨zs0, h3, rfl⟩ := Option.map_eq_some_iff.mp h2
    obtain ⟨y, e1, f1⟩ := zip_lookup j p h1
    obtain ⟨zs', e2, f2⟩ := kwOrder_rel p h3
    exact ⟨y :: zs', by rw [e1, e2]; rfl, .cons f1 f2⟩
theorem paired_flip {α β : Type} {F : α → β → Prop} : ∀ {xs : List α} {ys : List β}, Paired F xs ys → Paired (fun b a => F a b) ys xs
  | _, _, .nil => .nil
  | _, _, .cons a b => .cons a (paired_flip b)
theorem rps_paired {K : Frag} {A : ASet} : ∀ {vs : List V} {ds : List PyData}, Rps K A H vs ds → Paired (Rp K A H) vs ds
  | _, _, .nil => .nil
  | _, _, .cons a b => .cons a (rps_paired b)
theorem paired_rps {K : Frag} {A : ASet} : ∀ {vs : List V} {ds : List PyData}, Paired (Rp K A H) vs ds → Rps K A H vs ds
  | _, _, .nil => .nil
  | _, _, .cons a b => .cons a (paired_rps b)
theorem vals_paired : ∀ {vs : List V} {us : List Value}, Vals vs us → Paired RelV vs us
  | _, _, .nil => .nil
  | _, _, .cons a b => .cons a (vals_paired b)
theorem paired_vals : ∀ {vs : List V} {us : List Value}, Paired RelV vs us → Vals vs us
  | _, _, .nil => .nil
  | _, _, .cons a b => .cons a (paired_vals b)
theorem kw_pk (ih : SndN Γ G lv sps p) (c : Ctx Γ G lv sps Θ X) (tk : Takes X W) : ∀ {rs : List R} {kws : List Keyword}, all2 (fun r (q : Keyword) => chkE m Γ Θ r q.value) rs kws = true → PK X kws (tEs G W p.e rs)
  | [], [], _ => pk_nil
  | r :: rs, ⟨nm, e, kp⟩ :: kws, h => by
    obtain ⟨h1, h2⟩ := and_ h
    exact pk_cons (ih m Θ r e X W c tk h1).pe (kw_pk ih c tk h2)
  | [], _ :: _, h => by cases h
  | _ :: _, [], h => by cases h
theorem kw_names {ps : List Str} {pos : Pos} {env : Env} : ∀ {ks : List Nat} {kws : List Keyword}, all2 (fun k (q : Keyword) => q.arg == ps[k]? && q.arg.isSome) ks kws = true →
    (backToKw pos (keywordEach kws env)).all (·.1.isSome) = true ∧ (backToKw pos (keywordEach kws env)).filterMap (·.1) = (ks.filterMap fun k => ps[k]?) ∧ (backToKw pos (keywordEach kws env)).any (·.1.isNone) = false
  | [], [], _ => ⟨rfl, rfl, rfl⟩
  | k :: ks, ⟨nm, e, kp⟩ :: kws, h => by
    obtain ⟨h1, h2⟩ := and_ h
    obtain ⟨h3, h4⟩ := and_ h1
    obtain ⟨a, b, d⟩ := kw_names (pos := pos) (env := env) h2
    have h3 : nm = ps[k]? := eq_of_beq h3
    cases nm with
    | none => cases h4
    | some y =>
      refine ⟨?_, ?_, ?_⟩
      · show (true && (backToKw pos (keywordEach kws env)).all (·.1.isSome)) = true
        rw [a]; rfl
      · show y :: (backToKw pos (keywordEach kws env)).filterMap (·.1) = _
        rw [b, List.filterMap_cons, ← h3]
      · show (false || (backToKw pos (keywordEach kws env)).any (·.1.isNone)) = false
        rw [d]; rfl
  | [], _ :: _, h => by cases h
  | _ :: _, [], h => by cases h
theorem argRel_all (r : Rep B H σ σV) {io : List Bool} (hio : ∀ b ∈ io, b = false) : ∀ {vs : List V} {ds : List PyData}, Rps B.K (Av B σ σV) H vs ds → ArgRel B σ σV H io vs (ds.map .inr)
  | _, _, .nil => trivial
  | _, _, .cons h hs => by
    have hd : io.head? ≠ some true := fun z => by
      cases io with
      | nil => cases z
      | cons b io => cases z; have := hio true (by simp); cases this
    exact ⟨⟨hd, h⟩, argRel_all r (io := io.tail) (fun b hb => hio b (List.mem_of_mem_tail hb)) hs⟩
theorem fillA_all : ∀ {ds : List PyData}, fillA σ (ds.map .inr) = some ds
  | [] => rfl
  | d :: ds => by
    show (fillA σ (ds.map .inr)).map (d :: ·) = _
    rw [fillA_all]; rfl
theorem slots_all : ∀ {ds : List PyData}, slotsOf (ds.map .inr) = []
  | [] => rfl
  | d :: ds => by
    show slotsOf (ds.map .inr) = []
    exact slots_all
/-- the callee runs, keywords given -/
theorem run_fnGK {k : Nat} {f : Addr} {x : Str} {fd : FuncData} {ps : List Str} {sp : Sp} {pins : List (Addr × Obj)} {σ : L2.St} {s : Shared} {Q : VK} {us ws : List Value} {vs zs zs' : List V} {n : Nat} {ks : List Nat} {kcs : List (Nat × List Nat)} (F : FnG X.prog X.w X.K X.mg X.base k f fd ps sp) (hg : X.A.guards = some []) (hr : Room k X.A)
    (hb : FnAt X.K X.mg x ps kcs f fd) (hq : (n, ks) ∈ kcs) (tk : Takes X W) (I : Inv X pins σ H s) (r : Vals vs us) (rz : Vals zs ws) (hn : vs.length = n) (hz : zs.length = ks.length) (ho : kwOrder ks zs n (ps.length - n) = some zs') (h : sp (vs ++ zs') H Q (WE W σ)) :
    wpAny (model X.prog X.w) X.A (call (.ref f) us ((ks.filterMap fun k => ps[k]?).zip ws)) (EP X pins σ Q) X.xe s := by
  obtain ⟨wz, hwz, pz⟩ := kwOrder_rel (vals_paired rz) ho
  have bt := hb.kb (n, ks) hq s us ws wz I.kIn (by rw [← r.length]; exact hn) (by rw [← rz.length]; exact hz) hwz
  refine wpAny_call (codeAny_mono (F.run X.A X.stack s H _ (us ++ wz) (vs ++ zs') Q _ hg hr I.env0 bt (r.append (paired_vals pz)) h) fun res s2 hq => ?_)
  match res, hq with
  | .error e, hq => exact passAt tk σ pins H s e s2 I hq
  | .ok (.ret u), hq => exact I.after hq
def tCallN (sp : Sp) (W : WX) (ks : List Nat) (n j : Nat) (t tk : TA) : TE := fun σ H Q => t σ H fun vs H1 => tk σ H1 fun zs H2 => vs.length = n ∧ zs.length = ks.length ∧ ∃ zs', kwOrder ks zs n (j - n) = some zs' ∧ sp (vs ++ zs') H2 Q (WE W σ)
theorem pe_callGK {k n : Nat} {f : Addr} {fd : FuncData} {ps : List Str} {sp : Sp} {x : Str} {es : List Expr} {kws : List Keyword} {t t2 : TA} {ks : List Nat} {kcs : List (Nat × List Nat)} {pos p2 : Pos} (F : FnG X.prog X.w X.K X.mg X.base k f fd ps sp) (hg : X.A.guards = some []) (hr : Room k X.A) (hgl : Gl X x)
    (hb : FnAt X.K X.mg x ps kcs f fd) (hq : (n, ks) ∈ kcs) (tk : Takes X W) (ha : PA X es t) (hk : PK X kws t2) (hdb : (x == ("__debug__" : Str)) = false) (hst : (es = [] ∧ t = tNil) ∨ ∃ e es', es = e :: es' ∧ starEach (e :: es') X.env = (false, eval e X.env) :: starEach es' X.env) (hpl : (backTo pos (starEach es X.env)).any (·.1) = false)
    (hall : (backToKw pos (keywordEach kws X.env)).all (·.1.isSome) = true) (hks : (backToKw pos (keywordEach kws X.env)).filterMap (·.1) = (ks.filterMap fun k => ps[k]?)) (hno : (backToKw pos (keywordEach kws X.env)).any (·.1.isNone) = false) :
    PE X (.Call (.Name x p2) es kws pos) (tCallN sp W ks n ps.length t t2) := by
  constructor
  intro pins s σ H Q I h
  have pl : ((backTo pos (starEach es X.env)).any (·.1) || (backToKw pos (keywordEach kws X.env)).any (·.1.isNone)) = false := by rw [hpl, hno]; rfl
  have fin : ∀ {us : List Value} {vs : List V} {H1 : Hp} {s1 : Shared}, Inv X pins σ H1 s1 → Vals vs us → (t2 σ H1 fun zs H2 => vs.length = n ∧ zs.length = ks.length ∧ ∃ zs', kwOrder ks zs n (ps.length - n) = some zs' ∧ sp (vs ++ zs') H2 Q (WE W σ)) →
      wpAny (model X.prog X.w) X.A (evalAll ((backToKw pos (keywordEach kws X.env)).map (·.2))) (fun ws s₂ => X.K.In s₂.heap ∧ wpAny (model X.prog X.w) X.A (call (.ref f) ([] ++ us) (((backToKw pos (keywordEach kws X.env)).filterMap (·.1)).zip ws)) (EP X pins σ Q) X.xe s₂) X.xe s1 := fun {us vs H1 s1} J r q =>
    thn (hk.run pos pins s1 σ H1 _ J q) fun ws s2 ⟨zs, H2, J2, rz, l1, l2, zs', ho, q2⟩ => ⟨J2.kIn, by rw [hks]; exact run_fnGK F hg hr hb hq tk J2 r rz l1 l2 ho q2⟩
  rcases hst with ⟨rfl, rfl⟩ | ⟨e, es', rfl, hst⟩
  · refine wpAny_Call_Name_kw (ld_glob I hgl hb.mg_ (PySem.W.callWith_KW0 (h₀ := X.base) I.ok.mod.kin hb.kp hall ?_ pl) hdb)
    exact fin I .nil h
  · refine wpAny_Call_Name_kw (ld_glob I hgl hb.mg_ (PySem.W.callWith_KW (h₀ := X.base) I.ok.mod.kin hb.kp hall ?_ pl hst) hdb)
    exact thn (ha.run pos pins s σ H _ I h) fun us s1 ⟨vs, H1, J, r, q⟩ => fin J r q
theorem evL_len {ev : EvE} : ∀ {es : List R} {s s' : S} {ds : List PyData}, evL ev es s = .ok ds s' → ds.length = es.length
  | [], s, s', ds, h => by cases h; rfl
  | e :: es, s, s', ds, h => by
    obtain ⟨d, s1, _, h⟩ := bind_ok (show ((ev e s).bind fun d s => (evL ev es s).bind fun ds s => .ok (d.1 :: ds) s) = .ok ds s' from h)
    obtain ⟨l, s2, h2, h⟩ := bind_ok h
    cases h
    simp [evL_len h2]
theorem snd_callk {P : Prg} {f : Nat} {x : Str} {es kws : List R} {ks : List Nat} {fs : List Expr} {kwds : List Keyword} {pos p2 : Pos} (hsp : ∀ f fd, P.fns[f]? = some fd → sps f = spF G fd.np fd.io (p.c f)) (hnp : ∀ (f : Nat) (fd : FnD) (x : Str) (ps : List Str), P.fns[f]? = some fd → Γ.fns[f]? = some (x, ps) → fd.np = ps.length)
    (ih : SndN Γ G lv sps p) (c : Ctx Γ G lv sps Θ X) (tk : Takes X W)
    (hx : (match Γ.fns[f]? with
        | some (y, ps) => y == x && decide (es.length + kws.length = ps.length) && decide (ks.length = kws.length) && all2 (fun k (q : Keyword) => q.arg == ps[k]? && q.arg.isSome) ks kwds
        | none => false) = true) (hk : Γ.kcs.contains (f, es.length, ks) = true) (h : gl Θ x = true) (ha : all2 (chkE m Γ Θ) es fs = true) (hb : all2 (fun r (q : Keyword) => chkE m Γ Θ r q.value) kws kwds = true) :
    Snd G X W (.Call (.Name x p2) fs kwds pos) (stepE P p (.callk f es ks kws)) (stepT P p (.callk f es ks kws)) := by
  obtain ⟨g1, g2, g3⟩ := gl_ok c h
  refine snd_of c.K ?_ fun _ => rfl
  cases hf : P.fns[f]? with
  | none =>
    refine ⟨fun pins s σ H Q I ⟨B, σ', g, r, q⟩ => ?_⟩
    have q : Pst B σ' σ H W _ (match P.fns[f]? with
      | some fd => if fd.io.any id then .bad else (evL p.e es σ').bind fun ds s => (evL p.e kws s).bind fun ws s =>
        (ofO (kwOrder ks ws es.length (fd.np - es.length)) s).bind fun zs s => if (ds ++ zs).length = fd.np then callRes (p.c f (ds ++ zs)) ((ds ++ zs).map .inr) s else .bad
      | none => .bad) := q
    rw [hf] at q
    exact q.elim
  | some fn =>
    cases hΓ : Γ.fns[f]? with
    | none => rw [hΓ] at hx; cases hx
    | some yp =>
      obtain ⟨y, ps⟩ := yp
      rw [hΓ] at hx
      dsimp only at hx
      obtain ⟨hx, x4⟩ := and_ hx
      obtain ⟨hx, x3⟩ := and_ hx
      obtain ⟨x1, x2⟩ := and_ hx
      obtain rfl : y = x := eq_of_beq x1
      have x3 := of_decide_eq_true x3
      obtain ⟨fa, fd, q1, q2⟩ := c.fns f y ps hΓ
      have hnp := hnp f fn y ps hf hΓ
      obtain ⟨n1, n2, n3⟩ := kw_names (pos := pos) (env := X.env) x4
      have hkc : (es.length, ks) ∈ kcsOf Γ f := by
        unfold kcsOf
        refine List.mem_map.mpr ⟨(f, es.length, ks), List.mem_filter.mpr ⟨by simpa using hk, by simp⟩, rfl⟩
      have hst : (fs = [] ∧ tEs G W p.e es = tNil) ∨ ∃ e es', fs = e :: es' ∧ starEach (e :: es') X.env = (false, eval e X.env) :: starEach es' X.env := by
        cases fs with
        | nil =>
          cases es with
          | nil => exact .inl ⟨rfl, rfl⟩
          | cons _ _ => cases ha
        | cons e' fs =>
          cases es with
          | nil => cases ha
          | cons _ _ => exact .inr ⟨_, _, rfl, chk_starEach (and_ ha).1⟩
      refine peI (pe_callGK (pos := pos) (p2 := p2) q2 c.gx.gd c.room g1 q1 hkc tk (es_pa ih c tk ha) (kw_pk ih c tk hb) g2 hst (all2_star ha) n1 n2 n3) fun σV H Q ⟨B, σ, g, r, q⟩ => ?_
      have q : Pst B σ σV H W _ (match P.fns[f]? with
        | some fd => if fd.io.any id then .bad else (evL p.e es σ).bind fun ds s => (evL p.e kws s).bind fun ws s =>
          (ofO (kwOrder ks ws es.length (fd.np - es.length)) s).bind fun zs s => if (ds ++ zs).length = fd.np then callRes (p.c f (ds ++ zs)) ((ds ++ zs).map .inr) s else .bad
        | none => .bad) := q
      rw [hf] at q
      dsimp only at q
      split at q
      · exact q.elim
      · rename_i hio
        have hio : ∀ b ∈ fn.io, b = false := fun b hb => by
          cases b with
          | false => rfl
          | true => exact (hio (List.any_eq_true.mpr ⟨true, hb, rfl⟩)).elim
        cases e1 : evL p.e es σ with
        | bad => rw [e1] at q; exact q.elim
        | err c' d' s' =>
          rw [e1] at q
          exact evL_ok g r (by rw [e1]; exact q)
        | ok ds s1 =>
          refine evL_ok g r (by
            rw [e1] at q ⊢
            intro vs H1 r1 st1 rs
            refine evL_ok g r1 ((Pst.back st1 (Pst.bind (show Pst B σ σV H W _ ((evL p.e kws s1).bind fun ws s =>
              (ofO (kwOrder ks ws es.length (fn.np - es.length)) s).bind fun zs s => if (ds ++ zs).length = fn.np then callRes (p.c f (ds ++ zs)) ((ds ++ zs).map .inr) s else .bad) from q))) |> fun z => ?_)
            cases e2 : evL p.e kws s1 with
            | bad => rw [e2] at z; exact z.elim
            | err c' d' s' => rw [e2] at z; exact z
            | ok ws s2 =>
              rw [e2] at z
              intro ws' H2 r2 st2 rw_
              obtain ⟨zs, ho, z⟩ := (Pst.bind z).ofO
              split at z
              · rename_i hl
                obtain ⟨zs', ho', pz⟩ := kwOrder_rel (paired_flip (rps_paired rw_)) ho
                have hl1 : vs.length = es.length := by rw [rs.len, evL_len e1]
                have hl2 : ws'.length = ks.length := by rw [rw_.len, evL_len e2, x3]
                have rall : Rps B.K (Av B s2 σV) H2 (vs ++ zs') (ds ++ zs) := (Rps.stp r1 st2 rs).app (paired_rps (paired_flip pz))
                refine ⟨hl1, hl2, zs', by rw [← hnp]; exact ho', ?_⟩
                rw [hsp f fn hf]
                exact call_law g r2 (argRel_all r2 hio rall) (by rw [slots_all]; rfl) fillA_all (by rw [rall.len]; exact hl) ((Pst.back (st1.trans st2) z).imp fun d s' k v H3 r3 s3 hv => k v H3 r3 ((st1.trans st2).trans s3) (hv.since (st1.trans st2).kp.tr))
              · exact z.elim)
end
end Pv
/-! Pv12: statements. -/
namespace Pv
open PySem PySem.Spec PyProof.Rows L2
structure StpS (σ σ' : S) (σV σV' : L2.St) (H H' : Hp) : Prop where
  kp : Kp (RO σ σV) H H'
  ro : ∀ a, RO σ' σV' a → RO σ σV a ∨ H a = none
section
variable {B : Vw} {H H' H1 H2 : Hp} {σ σ' σ1 σ2 : S} {σV σV' σV1 σV2 : L2.St} {v : V} {d : PyData} {W : WX} {G : Gk} {D : Ends}
theorem StpS.refl : StpS σ σ σV σV H H := ⟨.refl, fun _ h => .inl h⟩
theorem StpS.trans (x : StpS σ σ1 σV σV1 H H1) (y : StpS σ1 σ2 σV1 σV2 H1 H2) : StpS σ σ2 σV σV2 H H2 :=
  ⟨x.kp.trans y.kp fun a z => x.ro a z, fun a z => (y.ro a z).elim (x.ro a) fun q => .inr (x.kp.tr a q)⟩
theorem Stp.s (x : Stp B σ σ1 σV H H1) : StpS σ σ1 σV σV H H1 := ⟨x.kp, fun a z => .inl (x.ro a z)⟩
theorem StpS.slots (h : ∀ a, RO σ' σV' a → RO σ σV a) : StpS σ σ' σV σV' H H := ⟨.refl, fun a z => .inl (h a z)⟩
def RtV (B : Vw) (H' : Hp) (σ' : S) (σV' : L2.St) (v : V) (d : PyData) (fr : Bool) : Prop :=
  if fr then ∃ a, v = .ref a ∧ B.H0 a = none ∧ ¬ Av B σ' σV' a ∧ Rep (B.ex a) H' σ' σV' ∧ RootD B.K (Av (B.ex a) σ' σV') H' a d else Rp B.K (Av B σ' σV') H' v d
theorem Val.rtv {d : DF} (r : Rep B H σ' σV) (h : Val B H σ σV H' v d) (hs : σ = σ') : RtV B H' σ' σV v d.1 d.2 := by
  subst hs
  obtain ⟨d, fr⟩ := d
  cases fr with
  | false => exact h
  | true => obtain ⟨a, e, n, q⟩ := h; exact ⟨a, e, r.ext a n, q⟩
def EndS (B : Vw) (σ : S) (σV : L2.St) (H : Hp) (D : Ends) (fl : Pv.Flow) (σ' : S) : Prop := ∀ σV' H', Rep B H' σ' σV' → StpS σ σ' σV σV' H H' → match fl with
  | .nx => D.nx σV' H'
  | .bk => D.bk σV' H'
  | .ct => D.ct σV' H'
  | .rt d fr => ∀ v, RtV B H' σ' σV' v d fr → D.rt v H'
def PstS (B : Vw) (σ : S) (σV : L2.St) (H : Hp) (W : WX) (D : Ends) : Res Pv.Flow → Prop
  | .ok fl σ' => EndS B σ σV H D fl σ'
  | .err c d σ' => ∀ (C dx : Addr) (w : V) (σV' : L2.St) (H' : Hp), B.cls c = some C → Rep B H' σ' σV' → StpS σ σ' σV σV' H H' → H' dx = some (.xd [("value", w)]) → ¬ Av B σ' σV' dx → Rp B.K (Av B σ' σV') H' w d → W (.ref C) (some dx) σV' H'
  | .bad => False
def tS (G : Gk) (W : WX) (p : S → Res Pv.Flow) : TS := fun D σV H => ∃ B σ, B.of G ∧ Rep B H σ σV ∧ PstS B σ σV H W D (p σ)
theorem PstS.back {r : Res Pv.Flow} (x : StpS σ σ1 σV σV1 H H1) (h : PstS B σ σV H W D r) : PstS B σ1 σV1 H1 W D r := by
  cases r with
  | ok fl s =>
    intro σV' H' r st
    exact h σV' H' r (x.trans st)
  | err c d s =>
    intro C dx w σV' H' hc r st e n q
    exact h C dx w σV' H' hc r (x.trans st) e n q
  | bad => exact h
theorem PstS.expr {α : Type} {r : Res α} {f : α → S → Res Pv.Flow} (h : PstS B σ σV H W D (r.bind f)) : Pst B σ σV H W (fun a σ' => PstS B σ σV H W D (f a σ')) r := by
  cases r with
  | ok a s => exact h
  | err c d s =>
    intro C dx w H' hc r st e n q
    exact h C dx w σV H' hc r st.s e n q
  | bad => exact h
theorem PstS.ofO {α : Type} {o : Option α} {s : S} {f : α → S → Res Pv.Flow} (h : PstS B σ σV H W D ((ofO o s).bind f)) : ∃ a, o = some a ∧ PstS B σ σV H W D (f a s) := by
  cases o with
  | none => exact h.elim
  | some a => exact ⟨a, rfl, h⟩
theorem ro_own {i : Nat} {a : Addr} {d : PyData} (b : Addr) : RO (σ.set i (some (.ow d))) (σV.set i (some (.ref a))) b → RO σ σV b ∨ b = a := fun ⟨j, ⟨d', hd⟩, hv⟩ => by
  by_cases hj : j = i
  · subst hj
    by_cases hi : j < σV.length
    · rw [List.getElem?_set_self hi] at hv
      cases hv
      exact .inr rfl
    · rw [List.getElem?_eq_none (by simpa using hi)] at hv
      cases hv
  · rw [List.getElem?_set_ne (Ne.symm hj)] at hd hv
    exact .inl ⟨j, ⟨d', hd⟩, hv⟩
/-- a value is stored in a slot -/
theorem store_rep {i : Nat} {d : DF} (r : Rep B H σ σV) (h : Val B H1 σ σV H v d) (t : ∀ a, H1 a = none → B.H0 a = none) :
    Rep B H (σ.set i (some (if d.2 then .ow d.1 else .pl d.1))) (σV.set i (some v)) ∧ ∀ a, RO (σ.set i (some (if d.2 then .ow d.1 else .pl d.1))) (σV.set i (some v)) a → RO σ σV a ∨ H1 a = none := by
  obtain ⟨d, fr⟩ := d
  cases fr with
  | false => exact ⟨r.set h, fun a z => .inl (ro_set a z)⟩
  | true =>
    obtain ⟨a, rfl, n, na, re, hr⟩ := h
    by_cases hi : i < σ.length
    · exact ⟨Rep.own hi re na (t a n) hr, fun b z => (ro_own b z).imp id fun q => by rw [q]; exact n⟩
    · have e1 : ∀ c, σ.set i c = σ := fun c => List.set_eq_of_length_le (Nat.le_of_not_lt hi)
      have e2 : ∀ c, σV.set i c = σV := fun c => List.set_eq_of_length_le (by rw [← r.len]; exact Nat.le_of_not_lt hi)
      rw [e1, e2]
      exact ⟨r, fun b z => .inl z⟩
theorem Rep.release {i : Nat} {a : Addr} {c : Cell} (r : Rep B H σ σV) (e : σ[i]? = some (some (.ow d))) (ev : σV[i]? = some (some (.ref a))) (c0 : c = .ow d) : Rep (B.ex a) H (σ.set i none) σV ∧ ∀ b, Av (B.ex a) (σ.set i none) σV b → Av B σ σV b := by
  have ne : ∀ {j : Nat} {c : Cell}, (σ.set i none)[j]? = some (some c) → j ≠ i ∧ σ[j]? = some (some c) := fun {j c} e => by
    by_cases hj : j = i
    · subst hj
      by_cases hi : j < σ.length
      · rw [List.getElem?_set_self hi] at e; cases e
      · rw [List.getElem?_eq_none (by simpa using hi)] at e; cases e
    · rw [List.getElem?_set_ne (Ne.symm hj)] at e
      exact ⟨hj, e⟩
  have rti : Rt σ σV i a := ⟨⟨d, .inl e⟩, ev⟩
  have old : ∀ j b, Rt (σ.set i none) σV j b → j ≠ i ∧ Rt σ σV j b := fun j b ⟨⟨d', hd⟩, hv⟩ => by
    have hj : j ≠ i := by rcases hd with hd | hd <;> exact (ne hd).1
    exact ⟨hj, ⟨d', hd.imp (fun z => (ne z).2) fun z => (ne z).2⟩, hv⟩
  have av : ∀ b, Av (B.ex a) (σ.set i none) σV b → Av B σ σV b := fun b z => z.elim (fun ⟨j, y⟩ => .inl ⟨j, (old j b y).2⟩) fun z => z.elim .inr fun q => .inl ⟨i, by rw [q]; exact rti⟩
  refine ⟨⟨by simpa using r.len, fun j c ec => ?_, fun j k b x y => r.inj j k b (old j b x).2 (old k b y).2, fun b ⟨j, x⟩ z => ?_, r.ext, r.kp, fun b hb => r.nt b (av b hb), fun b hb => ?_⟩, av⟩
  · obtain ⟨hj, ec⟩ := ne ec
    obtain ⟨u, eu, hc⟩ := r.cell j c ec
    have hc' : CellOk (B.ex a) (Av B σ σV) H j u c := by cases c <;> exact hc
    exact ⟨u, eu, hc'.weak av⟩
  · rcases z with z | z
    · exact r.exr b ⟨j, (old j b x).2⟩ z
    · obtain ⟨hj, y⟩ := old j b x
      rw [z] at y
      exact hj (r.inj j i a y rti)
  · rcases hb with hb | hb
    · exact r.exT b hb
    · rw [hb]; exact fun z => r.notAv z (.inl ⟨i, rti⟩)
end
section
variable {Γ : Gs} {G : Gk} {lv : Nat} {sps : Nat → Sp} {Θ : Sx} {X : Cx} {W : WX} {p : Ev} {m : Nat}
/-- around a statement -/
structure Stx (X : Cx) (W : WX) : Prop where
  tk : Takes X W
  ps : PassesOwn (model X.prog X.w) X.A X.env X.xe
  kind : X.env.scope.kind = .function
  stk : X.stack = X.env :: X.outer
  frm : X.env.frame = some X.env.locals
  ex : X.ex = []
theorem psI {st : Stmt} {t t' : TS} (h : PS X st t) (k : ∀ D σ H, t' D σ H → t D σ H) : PS X st t' := ⟨fun pins s σ H D I q => h.run pins s σ H D I (k _ _ _ q)⟩
theorem pssI {st : List Stmt} {t t' : TS} (h : PSs X st t) (k : ∀ D σ H, t' D σ H → t D σ H) : PSs X st t' := ⟨fun pins s σ H D I q => h.run pins s σ H D I (k _ _ _ q)⟩
theorem ps_cases {st : Stmt} {t' : TS} (h : ∀ D σ H, t' D σ H → ∃ t, PS X st t ∧ t D σ H) : PS X st t' := ⟨fun pins s σ H D I q => by
  obtain ⟨t, hp, q⟩ := h D σ H q
  exact hp.run pins s σ H D I q⟩
theorem pss_nilS {ev : Q → S → Res Pv.Flow} : PSs X [] (tS G W (seqL ev [])) := pssI pss_nil fun D σV H ⟨B, σ, g, r, h⟩ => h σV H r .refl
theorem pss_consS {ev : Q → S → Res Pv.Flow} {q : Q} {qs : List Q} {st : Stmt} {sts : List Stmt} (h1 : PS X st (tS G W (ev q))) (h2 : PSs X sts (tS G W (seqL ev qs))) : PSs X (st :: sts) (tS G W (seqL ev (q :: qs))) :=
  pssI (pss_cons h1 h2) fun D σV H ⟨B, σ, g, r, h⟩ => by
    refine ⟨B, σ, g, r, ?_⟩
    have h : PstS B σ σV H W D ((ev q σ).bind fun fl s => match fl with | .nx => seqL ev qs s | fl => .ok fl s) := h
    cases e : ev q σ with
    | bad => rw [e] at h; exact h
    | err c d s => rw [e] at h; exact h
    | ok fl s =>
      rw [e] at h
      cases fl with
      | nx => exact fun σV' H' r' st => ⟨B, s, g, r', PstS.back st h⟩
      | bk => exact h
      | ct => exact h
      | rt d f => exact h
/-! ### the small ones -/
theorem s_doc {P : Prg} {x : Str} {j : Nat} {p1 p2 : Pos} : PS X (.Expr (.Constant (.str x) j p1) p2) (tS G W (stepS P p .doc)) := psI ps_doc fun D σV H ⟨B, σ, g, r, h⟩ => h σV H r .refl
theorem s_pass {P : Prg} {p1 : Pos} : PS X (.Pass p1) (tS G W (stepS P p .pass)) := psI ps_pass fun D σV H ⟨B, σ, g, r, h⟩ => h σV H r .refl
theorem s_brk {P : Prg} {p1 : Pos} : PS X (.Break p1) (tS G W (stepS P p .brk)) := psI ps_break fun D σV H ⟨B, σ, g, r, h⟩ => h σV H r .refl
theorem s_expr {P : Prg} {e : R} {f : Expr} {p1 : Pos} (h : PE X f (tE G W (p.e e))) (hs : swapsWith f none p1.line X.env = pure false) : PS X (.Expr f p1) (tS G W (stepS P p (.expr e))) :=
  psI (ps_expr h hs) fun D σV H ⟨B, σ, g, r, q⟩ => tE.mk g r ((PstS.expr (show PstS B σ σV H W D ((p.e e σ).bind fun _ s => .ok .nx s) from q)).imp fun d σ' q v H' r' st hv => q σV H' r' st.s)
theorem s_asg {P : Prg} {e : R} {i : Nat} {st : Stmt} (h : PS X st (tAsg (tE G W (p.e e)) (gName i))) : PS X st (tS G W (stepS P p (.asg (.nm i) e))) :=
  psI h fun D σV H ⟨B, σ, g, r, q⟩ => tE.mk g r ((PstS.expr (show PstS B σ σV H W D ((p.e e σ).bind fun d s => .ok .nx (s.set i (some (if d.2 then .ow d.1 else .pl d.1)))) from q)).imp fun d σ' q v H' r' st hv => by
    obtain ⟨r2, ro⟩ := store_rep (i := i) r' hv fun a z => r.ext a z
    exact q _ _ r2 ⟨st.kp, fun a z => (ro a z).imp (st.ro a) id⟩)
theorem s_asgT {P : Prg} {e : R} {is : List Nat} {st : Stmt} (h : PS X st (tAsg (tE G W (p.e e)) (gT G.K (.tp is)))) : PS X st (tS G W (stepS P p (.asg (.tp is) e))) :=
  psI h fun D σV H ⟨B, σ, g, r, q⟩ => tE.mk g r ((PstS.expr (show PstS B σ σV H W D ((p.e e σ).bind fun d s => setR (asgT (.tp is) d.1 s)) from q)).imp fun d σ' q v H' r' st hv => by
    cases ea : asgT (.tp is) d.1 σ' with
    | none => rw [ea] at q; exact q.elim
    | some s2 =>
      rw [ea] at q
      rw [show G.K = B.K from g.1.symm]
      exact asg_ok r' (hv.rp r') ea fun σV' r2 off ro => q σV' H' r2 (st.s.trans (.slots ro)))
theorem s_ret {P : Prg} {e : R} {f : Expr} {p1 : Pos} (hv : ∀ i, isVar e = some i → PE X f (tVar i)) (h : PE X f (tE G W (p.e e))) : PS X (.Return (some f) p1) (tS G W (stepS P p (.ret e))) := by
  cases hi : isVar e with
  | some i =>
    refine psI (ps_ret (hv i hi)) fun D σV H ⟨B, σ, g, r, q⟩ => ?_
    have q : PstS B σ σV H W D (match isVar e with
      | some i => match σ[i]? with
        | some (some (.pl d)) => .ok (.rt d false) σ
        | some (some (.ow d)) => .ok (.rt d true) (σ.set i none)
        | _ => .bad
      | none => (p.e e σ).bind fun d s => .ok (.rt d.1 d.2) s) := q
    rw [hi] at q
    dsimp only at q
    split at q
    · rename_i d hd
      obtain ⟨v, ev, hr⟩ := r.pl hd
      exact ⟨v, ev, q σV H r .refl v hr⟩
    · rename_i d hd
      obtain ⟨a, ev, rt, hr, h0⟩ := r.rt_ow hd
      obtain ⟨r2, av⟩ := r.release hd ev rfl
      have na : ¬ Av B (σ.set i none) σV a := fun z => by
        rcases z with z | z
        · exact r2.exr a z (.inr rfl)
        · exact r.exr a ⟨i, rt⟩ z
      exact ⟨_, ev, q σV H r2.unex (.slots fun b z => (av b (.inl z)).elim id fun y => by
        obtain ⟨j, z⟩ := z
        exact (r2.exr b ⟨j, z⟩ (.inl y)).elim) _ ⟨a, rfl, h0, na, r2, hr.weak av⟩⟩
    · exact q.elim
  | none =>
    refine psI (ps_ret h) fun D σV H ⟨B, σ, g, r, q⟩ => ?_
    have q : PstS B σ σV H W D (match isVar e with
      | some i => match σ[i]? with
        | some (some (.pl d)) => .ok (.rt d false) σ
        | some (some (.ow d)) => .ok (.rt d true) (σ.set i none)
        | _ => .bad
      | none => (p.e e σ).bind fun d s => .ok (.rt d.1 d.2) s) := q
    rw [hi] at q
    refine tE.mk g r (q.expr.imp fun d σ' q v H' r' st hv => ?_)
    refine q σV H' r' st.s v ?_
    obtain ⟨d, fr⟩ := d
    cases fr with
    | false => exact hv
    | true => obtain ⟨a, e, n, z⟩ := hv; exact ⟨a, e, r.ext a n, z⟩
theorem s_ifs {P : Prg} {c : R} {a b : List Q} {f : Expr} {xs ys : List Stmt} {p1 : Pos} (hc : PT X f (tT G W (p.t c))) (ha : PSs X xs (tS G W (seqL p.s a))) (hb : PSs X ys (tS G W (seqL p.s b))) : PS X (.If f xs ys p1) (tS G W (stepS P p (.ifs c a b))) :=
  psI (ps_if hc ha hb) fun D σV H ⟨B, σ, g, r, q⟩ => tT.mk g r ((PstS.expr (show PstS B σ σV H W D ((p.t c σ).bind fun d s => if d then seqL p.s a s else seqL p.s b s) from q)).imp fun d σ' q H' r' st => by
    have q := PstS.back st.s q
    cases d with
    | true => exact ⟨B, σ', g, r', q⟩
    | false => exact ⟨B, σ', g, r', q⟩)
/-! ### for -/
theorem s_for {P : Prg} {t : T} {it : R} {b : List Q} {tg ite : Expr} {body : List Stmt} {p1 : Pos} (c : Ctx Γ G lv sps Θ X) (hx : Stx X W) (hi : PI X tg ite (tI G W (items p it))) (hg : PG X tg (gT G.K t)) (hb : PSs X body (tS G W (seqL p.s b))) (hs : ∀ x, foldedSetIterable ite X.env x = pure x) :
    PS X (.For tg ite body [] p1) (tS G W (stepS P p (.for_ t it b))) := by
  refine psI (ps_for hx.ps c.gx.calm hi hg hb hs) fun D σV H ⟨B, σ, g, r, q⟩ => ⟨B, σ, g, r, ?_⟩
  refine (PstS.expr (show PstS B σ σV H W D ((items p it σ).bind fun ds s => forL (fun d s => (asgR t d s).bind fun _ s => seqL p.s b s) ds s) from q)).imp fun ds σ1 q J H1 r1 st wk => ?_
  have q := PstS.back st.s q
  refine ⟨fun i m σVc Hc => m = ds.length - i ∧ i ≤ ds.length ∧ ∃ σc, Rep B Hc σc σVc ∧ StpS σ1 σc σV σVc H1 Hc ∧ PstS B σ1 σV H1 W D (forL (fun d s => (asgR t d s).bind fun _ s => seqL p.s b s) (ds.drop i) σc),
    ⟨ds.length, rfl, Nat.zero_le _, σ1, r1, .refl, q⟩, ?_⟩
  rintro i m σVc Hc ⟨rfl, hi', σc, rc, sc, qc⟩
  have kA : Kp (Av B σ1 σV) H1 Hc := sc.kp.weak fun _ => .inl
  by_cases hlt : i < ds.length
  · have hd : ds[i]? = some ds[i] := by simp [hlt]
    rw [getElem_drop hd] at qc
    refine .inr ⟨wk.go Hc i kA hlt, fun σV' H' => ∃ m', m' < ds.length - i ∧ m' = ds.length - (i + 1) ∧ i + 1 ≤ ds.length ∧ ∃ σc, Rep B H' σc σV' ∧ StpS σ1 σc σV σV' H1 H' ∧ PstS B σ1 σV H1 W D (forL (fun d s => (asgR t d s).bind fun _ s => seqL p.s b s) (ds.drop (i + 1)) σc),
      fun σ' H' h => h, fun x H' y => ?_⟩
    obtain ⟨k1, hx'⟩ := wk.yld Hc i x H' kA y
    have hx' := hx' _ hd
    have r' := rc.grow k1
    have hv : Rp B.K (Av B σc σVc) H' x ds[i] := hx'.weak fun a z => by
      rcases z with z | z
      · exact (sc.ro a z).imp .inl id
      · exact .inl (.inr z)
    have qc : PstS B σ1 σV H1 W D (((asgR t ds[i] σc).bind fun _ s => seqL p.s b s).bind fun fl s => match fl with
      | .nx => forL (fun d s => (asgR t d s).bind fun _ s => seqL p.s b s) (ds.drop (i + 1)) s
      | .ct => forL (fun d s => (asgR t d s).bind fun _ s => seqL p.s b s) (ds.drop (i + 1)) s
      | .bk => .ok .nx s
      | .rt d f => .ok (.rt d f) s) := qc
    unfold asgR at qc
    cases ea : asgT t ds[i] σc with
    | none => rw [ea] at qc; exact qc.elim
    | some σ4 =>
      rw [ea] at qc
      have qc : PstS B σ1 σV H1 W D ((seqL p.s b σ4).bind fun fl s => match fl with
        | .nx => forL (fun d s => (asgR t d s).bind fun _ s => seqL p.s b s) (ds.drop (i + 1)) s
        | .ct => forL (fun d s => (asgR t d s).bind fun _ s => seqL p.s b s) (ds.drop (i + 1)) s
        | .bk => .ok .nx s
        | .rt d f => .ok (.rt d f) s) := qc
      rw [show G.K = B.K from g.1.symm]
      refine asg_ok r' hv ea fun σV4 r4 off ro4 => ⟨B, σ4, g, r4, ?_⟩
      have s4 : StpS σ1 σ4 σV σV4 H1 H' := sc.trans ⟨k1.weak fun _ z => z.elim, fun a z => .inl (ro4 a z)⟩
      cases eb : seqL p.s b σ4 with
      | bad => rw [eb] at qc; exact qc
      | err k d s => rw [eb] at qc; exact PstS.back s4 qc
      | ok fl s =>
        rw [eb] at qc
        cases fl with
        | nx => exact fun σV' H2 r2 st2 => ⟨_, by omega, rfl, hlt, s, r2, s4.trans st2, qc⟩
        | ct => exact fun σV' H2 r2 st2 => ⟨_, by omega, rfl, hlt, s, r2, s4.trans st2, qc⟩
        | bk => exact fun σV' H2 r2 st2 => qc σV' H2 r2 (s4.trans st2)
        | rt d f => exact fun σV' H2 r2 st2 => qc σV' H2 r2 (s4.trans st2)
  · have hie : i = ds.length := by omega
    subst hie
    rw [List.drop_length] at qc
    exact .inl ⟨wk.stop Hc _ kA (Nat.le_refl _), qc σVc Hc rc sc⟩
/-! ### while -/
theorem s_whl {P : Prg} {c : R} {b : List Q} {f : Expr} {body : List Stmt} {p1 : Pos} (hx : Stx X W) (hc : PT X f (tT G W (p.t c))) (hb : PSs X body (tS G W (seqL p.s b))) : PS X (.While f body [] p1) (tS G W (stepS P p (.whl c b))) := by
  refine psI (ps_while hx.ps hc hb) fun D σV H ⟨B, σ, g, r, q⟩ => ?_
  have q : PstS B σ σV H W D (whileL (p.t c) (seqL p.s b) whileMost σ) := q
  refine ⟨fun m σVc Hc => ∃ σc, Rep B Hc σc σVc ∧ PstS B σc σVc Hc W D (whileL (p.t c) (seqL p.s b) m σc), ⟨whileMost, σ, r, q⟩, ?_⟩
  rintro m σVc Hc ⟨σc, rc, qc⟩
  cases m with
  | zero => exact qc.elim
  | succ m =>
    have qc : PstS B σc σVc Hc W D ((p.t c σc).bind fun d s => if d then (seqL p.s b s).bind fun fl s => match fl with
      | .nx => whileL (p.t c) (seqL p.s b) m s
      | .ct => whileL (p.t c) (seqL p.s b) m s
      | .bk => .ok .nx s
      | .rt d f => .ok (.rt d f) s
      else .ok .nx s) := qc
    refine tT.mk g rc (qc.expr.imp fun d σ2 q2 H2 r2 st2 => ?_)
    have q2 := PstS.back st2.s q2
    cases d with
    | false => exact q2 σVc H2 r2 .refl
    | true =>
      have q2 : PstS B σ2 σVc H2 W D ((seqL p.s b σ2).bind fun fl s => match fl with
        | .nx => whileL (p.t c) (seqL p.s b) m s
        | .ct => whileL (p.t c) (seqL p.s b) m s
        | .bk => .ok .nx s
        | .rt d f => .ok (.rt d f) s) := q2
      refine ⟨fun σ' H' => ∃ m', m' < m + 1 ∧ ∃ σc, Rep B H' σc σ' ∧ PstS B σc σ' H' W D (whileL (p.t c) (seqL p.s b) m' σc), fun _ _ z => z, B, σ2, g, r2, ?_⟩
      cases eb : seqL p.s b σ2 with
      | bad => rw [eb] at q2; exact q2
      | err k d s => rw [eb] at q2; exact q2
      | ok fl s =>
        rw [eb] at q2
        cases fl with
        | nx => exact fun σV' H3 r3 st3 => ⟨m, Nat.lt_succ_self _, s, r3, PstS.back st3 q2⟩
        | ct => exact fun σV' H3 r3 st3 => ⟨m, Nat.lt_succ_self _, s, r3, PstS.back st3 q2⟩
        | bk => exact q2
        | rt d f => exact q2
end
end Pv
/-! Pe1: the package's error class: __init__ runs. -/
namespace Pv
open PySem PySem.Spec PyProof.Rows L2
section
open PySem.W
theorem mcall_pos {o : Expr} {name : Str} {apos pos : Pos} {env : Env} {ov : Value} {args : List (Bool × Sem Value)} {kws : List (Option Str × Sem Value)} {n : Nat} (h : (apos.endLine == pos.line) = true) (hf : methodCallForm n args kws = true) :
    methodCall o name apos pos env ov n args kws = (do
      let (f, first) ← holding [ov] (getMethod ov name (do return (← importBound o env).getD true))
      callWith pos f first args kws) := by
  unfold methodCall methodCallPos calleeOf
  rw [hf]
  simp only [if_true, h, Bool.not_true, Bool.false_or, if_true, pure_bind]
theorem init_run {prog : Program} {w : World} {A : Around} {R : Result → Shared → Prop} {K : Frag} {a C D f cc cda t0 : Addr} {u : Value} {hp : Heap} {g : Array GenState} {d : Drawn} {t : Nat} {os : OsState} {mg mb : Str → Option Value} {fd : FuncData} {sc : Scope} {slf val fld : Str}
    (P : PeDef K prog D f fd sc slf val fld cc cda) (Q : PeCls K C D fld) (X : K.In hp) (hKa : K.lookup a = none) (hg : hp.Ns mainGlobals mg) (hms : mg "super" = none) (hb : hp.Ns builtinsNs mb) (hmb : mb "super" = some (.type "super")) (lim : hp.NoLimit)
    (hop : nsIn K cStatics "thirdparty.any" = some none) (htop : (prog.main.scope.names.lookup ("super" : Str)).isSome = false) (ha : hp.get? a = some (excObj C t0 none .none)) (room : A.depth < recursionLimit)
    (hR : ∀ h' t' dx t1, (∀ b o, b ≠ a → hp.get? b = some o → h'.get? b = some o) → hp.objs.size ≤ dx → h'.get? a = some (excObj C t1 (some dx) .none) → h'.Ns1 dx (fun y => if y = fld then some u else none) → R (.ok (.ret .none)) ⟨h', g, d, t', os⟩) :
    codeAny (model prog w) A (.call (.ref f) ⟨[.ref a, u], []⟩) R ⟨hp, g, d, t, os⟩ := by
  obtain ⟨name, qual, params, body, dV, kV, doc, pm, ct, oc, an, od, osl, msg, j, p0, p1, p2, p3, p4, p5, p6, p7, p8, p9, ar, vs, file, tf, ccl, cl, cdd, cld, ccs, csl, cdD, efd, lk, hbody, hcd, hpar, har, hcode, hvs, hfile, hcell, hD, hpos⟩ := P.ex
  obtain ⟨cd, hcl, hm, hh⟩ := Q.cd
  obtain ⟨bmB, newId, FB, hini⟩ := Q.ini
  subst efd
  refine ks_codeAny_call_defAt (fd := ksFn name qual params body sc dV kV doc pm an (.ref cda) ct cc) (body := body) (binds := [(slf, .ref a), (val, u)]) room (X _ _ lk) rfl lim (codeRec_of X hcd) rfl (.of_eq (P.bind _ _)) P.hcell (fun y hy => ?_) (fun h₁ hns hk₁ => ?_) P.hco P.hgen P.hk
  · rcases List.mem_cons.mp hy with rfl | hy
    · exact P.hka
    · obtain rfl : y = (val, u) := by simpa using hy
      exact P.hkv
  subst hbody
  -- the ground: all but the exception
  have X1 : K.In h₁ := X.keeps hk₁
  have ha1 : h₁.get? a = some (excObj C t0 none .none) := hk₁ _ _ ha
  have aL : a ≠ hp.objs.size := Nat.ne_of_lt (Heap.lt_size ha)
  have XG : K.In (hideAll hp [a]) := fun b o e => hideAll_get [a] (X b o e) fun z => by
    rw [show b = a by simpa using z, hKa] at e; cases e
  have F1 : Fr (hideAll hp [a]) hp.objs.size h₁ (fun y => [(slf, Value.ref a), (val, u)].reverse.lookup y) := ⟨hns, fun b o e => hk₁ b o (of_hideAll _ e), Nat.le_of_eq (hideAll_size _ _)⟩
  have N1 : News (hideAll hp [a]) hp.objs.size h₁ [(a, excObj C t0 none .none)] := fun p hp' => by
    obtain rfl : p = (a, excObj C t0 none .none) := by simpa using hp'
    exact ⟨ha1, aL, hideAll_none _ (by simp)⟩
  have I1 : InstAt h₁ a (excObj C t0 none .none) C none := ⟨ha1, rfl, rfl, trivial⟩
  have mself : (fun y => [(slf, Value.ref a), (val, u)].reverse.lookup y) slf = some (.ref a) := by
    show [(val, u), (slf, Value.ref a)].lookup slf = _
    rw [List.lookup_cons, show (slf == val) = false by simpa using P.ne, List.lookup_cons, beq_self_eq_true]
  have mval : (fun y => [(slf, Value.ref a), (val, u)].reverse.lookup y) val = some u := by
    show [(val, u), (slf, Value.ref a)].lookup val = _
    rw [List.lookup_cons, beq_self_eq_true]
  obtain ⟨oD, hD1, hD2⟩ : ∃ oD, h₁.get? D = some oD ∧ oD.data = .cls cdD := by
    unfold clsIn at hD
    split at hD
    · rename_i c' d' cd' sl ho
      cases hD
      exact ⟨_, X1 _ _ ho, rfl⟩
    · cases hD
  refine ks_wpAt_execs_cons (ks_wpAt_Expr_any (ks_wpAt_MethodCall (pl := _) ?_ (by
    refine congrArg _ (funext fun ov => congrArg _ (funext fun _ => ?_))
    exact mcall_pos hpos rfl)) (by unfold interactive; simp [callEnv, newEnv, P.hk]) rfl)
  refine ks_wpAt_super_base (ar := ar) P.hks P.hkc rfl rfl (X1 _ _ lk) rfl hpar rfl (X1 _ _ hcode) rfl hvs hfile htop ?_
  refine ks_loadName_global P.hk P.hks (Calls.loadGlobal_builtin (hg.keeps hk₁) hms (hb.keeps hk₁) hmb ⟨rfl, ?_⟩)
  refine wpAny_loadName_free P.hk P.hkc rfl ⟨_, X1 _ _ hcell, rfl⟩ ?_
  rw [har]
  refine wpAny_loadName_local P.hk P.hka hns mself ?_
  refine ks_wpAny_isType_cls hD1 hD2 ⟨rfl, ?_⟩
  refine ks_wpAny_call_super hD1 hD2 ha1 rfl (fun c e => by cases e) (looks_mroIn X1 Q.sub) (fun h2 e2 k2 => ?_)
  obtain ⟨F2, N2, l2⟩ := ks_newsPush (s := ⟨h₁, g, d, t + 2, os⟩) (o := ks_superObj D a C) F1 N1 rfl e2 k2
  have ha2 : h2.get? a = some (excObj C t0 none .none) := k2 _ _ ha1
  refine kxs_method (s := ⟨h2, g, d, t + 2, os⟩) kxs_ValueError F2 XG N2 (List.mem_cons_self) (ox := excObj C t0 none .none) (odx := none) ⟨ha2, rfl, rfl, trivial⟩ hop Q.sup Q.ve rfl (fun q h3 F3 N3 l3 => ?_)
  have ns1 : h₁.objs.size ≠ a := (Nat.ne_of_lt (Heap.lt_size ha1)).symm
  have nq : q ≠ a := (Nat.ne_of_lt (l3 (a, excObj C t0 none .none) (by simp))).symm
  refine kxs_callWith1 N3 (List.mem_cons_self) (spliced_more (Calls.Constant_str (spliced_none ⟨kxs_at N3 (List.mem_cons_self), ?_⟩)))
  refine kxs_call F3 XG N3 FB hini (List.mem_cons_self) (.tail nq (.tail ns1 (.head fun p hp' => by cases hp'))) (by show 1 ≤ sizeLine; rw [sizeLine_eq]; omega) (fun t1 h4 F4 N4 l4 => ?_)
  have ha4 : h4.get? a = some (excObj C t1 none .none) := (N4 (a, excObj C t1 none .none) (by simp)).1
  refine wpAt_of_wpAny (wpAny_execs_cons (plainObj_wpAny_Assign_Attribute ?_ rfl))
  refine wpAny_Name (wpAny_loadName_local P.hk P.hkv F4.ns mval ?_) P.dbg.2
  refine wpAny_Name (wpAny_loadName_local P.hk P.hka F4.ns mself ?_) P.dbg.1
  refine set_plain (XG.keeps F4.keep) (ox := excObj C t1 none .none) (od := none) ⟨ha4, rfl, rfl, trivial⟩ Q.sa ?_
  refine PySem.HandSPX.exc_osa (XG.keeps F4.keep) ha4 hcl hm hh Q.no (fun h5 tk5 dx k5 dn dne hx5 hn5 => ?_)
  refine wpAny_execs_nil (hR h5 tk5 dx t1 (fun b o hb e => k5 b o hb (F4.keep b o (hideAll_get [a] e (by simpa using hb)))) (Nat.le_trans (Nat.le_of_lt F4.ns.lt) dn) hx5 hn5)
end
end Pv
/-! Pe2: raise, try. -/
namespace Pv
open PySem PySem.Spec PyProof.Rows L2
section
variable {X : Cx} {pins : List (Addr × Obj)} {σ : L2.St} {H : Hp} {s : Shared}
/-- C(e), C under the package's error class -/
theorem pmk_pe {x : Str} {C D fI cc cda : Addr} {fd : FuncData} {sc : Scope} {slf val fld : Str} {e : Expr} {te : TE} {p pos : Pos} (T : OexC X.K C) (iC : PySem.W.findIn X.K (.ref C) "__init__" = some (some (.ref fI))) (tI : PySem.W.typeIn X.K (.ref fI) = some (.type "function"))
    (P : PeDef X.K X.prog D fI fd sc slf val fld cc cda) (Q' : PeCls X.K C D fld) (hop : PySem.W.nsIn X.K cStatics "thirdparty.any" = some none) (htop : (X.prog.main.scope.names.lookup ("super" : Str)).isSome = false) (hr : Room 1 X.A) (hsup : X.mg "super" = none) (hg : Gl X x) (hm : X.mg x = some (.ref C))
    (he : PE X e te) (hdb : (x == ("__debug__" : Str)) = false) (hst : starEach [e] X.env = (false, eval e X.env) :: starEach [] X.env) :
    PMk X (.Call (.Name x p) [e] [] pos) (fun σ H Q => te σ H fun y H1 => ∀ dx, H1 dx = none → Q (.ref C) (some dx) (upd H1 dx (.xd [(fld, y)]))) := by
  intro pins s σ H Q I h
  obtain ⟨nm, q, N, bs, bm, sn, sub, ab, col, dd, k0, k1, k2, k3, k5, hC, hbm⟩ := T.cls
  refine wpAny_Call_Name_kw (ld_glob I hg hm (PySem.W.callWith_K (h₀ := X.base) I.ok.mod.kin T.kC ?_ hst rfl) hdb)
  rw [hst]
  refine Calls.spliced_cons (thn (he.run pins s σ H _ I h) fun u s1 hh => Calls.spliced_nil ?_)
  obtain ⟨y, H1, I1, ru, q1⟩ := hh
  refine ⟨I1.kIn, ?_⟩
  show wpAny _ _ (call (.ref C) [u]) _ _ _
  obtain ⟨hp, g, dr, tk, os⟩ := s1
  have kk : ∀ b o, hp.get? b = some o → ((hp.push (PySem.W.kdv_tup [u])).push (PySem.HandSPX.excO C hp.objs.size)).get? b = some o := fun b o e => Heap.get?_push_of_some _ (Heap.get?_push_of_some _ e)
  have hget : ((hp.push (PySem.W.kdv_tup [u])).push (PySem.HandSPX.excO C hp.objs.size)).get? (hp.objs.size + 1) = some (PySem.HandSPX.excO C hp.objs.size) := by heap_get
  have hsz : hp.objs.size + 2 ≤ ((hp.push (PySem.W.kdv_tup [u])).push (PySem.HandSPX.excO C hp.objs.size)).objs.size := by rw [Heap.size_push, Heap.size_push]; exact Nat.le_refl _
  obtain ⟨mb, hb1, hb2⟩ := I1.mod.blt
  have bk : ∀ b o, X.base.get? b = some o → ((hp.push (PySem.W.kdv_tup [u])).push (PySem.HandSPX.excO C hp.objs.size)).get? b = some o := fun b o e => kk b o (I1.bk b o e)
  refine wpAny_call (PySem.HandSPX.call_own PySem.F.excBase_ValueError (fun Y => PySem.HandSPX.refsVE_contains Y bm hbm) (I1.kIn _ _ hC) (PySem.W.looks_findIn I1.kIn iC) (fun sf => PySem.W.bind_fn I1.kIn sf tI) (by show 1 ≤ sizeLine; rw [sizeLine_eq]; omega) ?_)
  refine init_run (t0 := hp.objs.size) P Q' (fun b o e => kk b o (I1.kIn b o e)) ?_ (I1.mod.glob.keeps bk) hsup (hb1.keeps bk) ((hb2 "super" (by decide)).trans (by decide +kernel)) (I1.mod.nolimit.keeps bk) hop htop hget (hr.make C [u] []).depth (fun h' t' dx t1 k dn hx hn => ?_)
  · cases e : X.K.lookup (hp.objs.size + 1) with
    | none => rfl
    | some o =>
      have z := Heap.lt_size (I1.kIn _ _ e)
      have z : hp.objs.size + 1 < hp.objs.size := z
      omega
  · have dn2 : hp.objs.size ≤ dx := by omega
    have hfr : H1 dx = none := I1.hok.fresh dn2
    have hfa : H1 (hp.objs.size + 1) = none := I1.hok.fresh (Nat.le_succ _)
    have hda : dx ≠ hp.objs.size + 1 := fun z => by
      obtain ⟨o, es, ep, e1, e2, _⟩ := hn
      rw [z, hx] at e1
      have z2 := Option.some.inj e1
      subst z2
      cases e2
    obtain ⟨G, g1, g2⟩ := restrict h' fun b => decide (b ≠ hp.objs.size + 1)
    have gk : ∀ b, b ≠ hp.objs.size + 1 → G.get? b = h'.get? b := fun b hb => g1 b (decide_eq_true hb)
    have ge : G.get? (hp.objs.size + 1) = none := g2 _ (by simp)
    have nha : ∀ {b : Addr} {o : Obj}, hp.get? b = some o → b ≠ hp.objs.size + 1 := fun {b o} z => Nat.ne_of_lt (Nat.lt_succ_of_lt (Heap.lt_size z))
    have J : Inv X pins σ (upd H1 dx (.xd [(fld, y)])) ⟨G, g, dr, t', os⟩ := I1.laid (fun b o z => (gk b (nha z)).trans (k b o (nha z) (kk b o z))) dn2
      ⟨_, hn.at fun o y => (gk dx hda).trans y, fun f => by
        rw [List.lookup_cons]
        cases z : f == fld with
        | true =>
          rw [if_pos (eq_of_beq z)]
          exact ru
        | false =>
          rw [if_neg (by simpa using z)]
          exact trivial⟩
    exact ⟨rfl, hp.objs.size + 1, _, _, ⟨G, g, dr, t', os⟩, _, .ref C, some dx, rfl, J, fun b o z => by
      by_cases hb : b = hp.objs.size + 1
      · rw [hb, ge] at z; cases z
      · exact (gk b hb).symm.trans z, ge, hx, ⟨rfl, rfl⟩, rfl, rfl, by rw [upd_ne (Ne.symm hda)]; exact hfa, rfl, I1.bare, raises_own T.exC T.tyC, q1 dx hfr⟩
/-- the object of a caught error -/
def ErrO (cls : Value) (d : Option Addr) (a : Addr) : HO := .ext fun h => ∃ (oe : Obj) (vs : Array Value), h.get? a = some oe ∧ Zc cls d oe ∧ oe.data = .fields vs
theorem errO_ok {P : Program} {w : World} {H : Hp} {h : Heap} {a : Addr} {cls : Value} {d : Option Addr} {oe : Obj} {vs : Array Value} (e : h.get? a = some oe) (z : Zc cls d oe) (hd : oe.data = .fields vs) : ObjOk P w H h a (ErrO cls d a) :=
  ⟨⟨oe, vs, e, z, hd⟩, ⟨oe, e⟩, fun _ _ ⟨o, v, q, r⟩ k => ⟨o, v, k o q, r⟩⟩
/-- an object that stands in the heap, new since the entry, is tracked -/
theorem Inv.track {a : Addr} {cls : Value} {d : Option Addr} {oe : Obj} {vs : Array Value} (I : Inv X pins σ H s) (ha : s.heap.get? a = some oe) (hz : Zc cls d oe) (hd : oe.data = .fields vs) (hn : H a = none) (h0 : X.s_0.heap.get? a = none) (hp : ∀ p ∈ X.pn ++ pins, p.1 ≠ a) :
    Inv X pins σ (upd H a (ErrO cls d a)) s := by
  have nL : X.env.locals ≠ a := fun z => by
    obtain ⟨m, ⟨o, es, ep, ho, hdd, _⟩, _⟩ := I.loc
    rw [z, ha] at ho; cases ho; rw [hd] at hdd; cases hdd
  have nC : ∀ x c, X.env.cells.lookup x = some c → c ≠ a := fun x c e z => by
    obtain ⟨v, o, ho, hdd⟩ := I.cell x c e
    rw [z, ha] at ho; cases ho; rw [hd] at hdd; cases hdd
  have n0 : ∀ {b : Addr} {o : Obj}, X.s_0.heap.get? b = some o → b ≠ a := fun {b o} e z => by rw [z, h0] at e; cases e
  refine ⟨I.ok, I.os, I.bare, ⟨I.base.keep, I.base.slot, fun b o e n hx => by rw [upd_ne (n0 e)]; exact I.base.free b o e n hx, I.base.there, fun b xs e => ?_, fun b o u e => ?_, fun b ps e => ?_⟩, I.loc, I.cell, by rw [upd_ne nL]; exact I.free,
    fun x c e => by rw [upd_ne (nC x c e)]; exact I.freeC x c e, fun p h => ?_, fun b o e => ?_, I.len⟩
  · have q := I.base.tups b xs e
    rw [upd_ne (ne_of_none q hn)]; exact q
  · have q := I.base.frzs b o u e
    rw [upd_ne (ne_of_none q hn)]; exact q
  · obtain ⟨m, q⟩ := I.base.tbls b ps e
    exact ⟨m, by rw [upd_ne (ne_of_none q hn)]; exact q⟩
  · obtain ⟨q1, q2, q3⟩ := I.pin p h
    exact ⟨q1, by rw [upd_ne (hp p h)]; exact q2, q3⟩
  · by_cases hb : b = a
    · subst hb
      rw [upd_same] at e
      cases e
      exact errO_ok ha hz hd
    · rw [upd_ne hb] at e
      exact (I.hok b o e).stay (fun _ _ _ q => q) (fun c q => by rw [upd_ne (ne_of_none q hn)]; exact q) fun c xs q => by rw [upd_ne (ne_of_none q hn)]; exact q
/-- what 'except x as n: m = n' wishes of the body's exceptions -/
def wTr (K : Frag) (c : Value) (i j : Nat) (Wout : WX) (D : Ends) : WX := fun cls d σ H =>
  ∃ b, PySem.W.exmOne K cls c = some b ∧ (b = true → ∀ a, H a = none → D.nx (((σ.set i (some (.ref a))).set j (some (.ref a))).set i none) (upd H a (ErrO cls d a))) ∧ (b = false → Wout cls d σ H)
section
variable {x n m : Str} {c : Value} {i j : Nat} {body : List Stmt} {np p1 p2 p3 pos pos' : Pos} {tb : WX → TS} {Wout : WX}
theorem ps_tr (hex : X.ex = []) (hs : X.stack = X.env :: X.outer) (hf : X.env.frame = some X.env.locals) (hN : X.N.Nodup) (hi : X.N[i]? = some n) (hj : X.N[j]? = some m) (hln : X.env.kindOf n = some .local) (hlm : X.env.kindOf m = some .local) (hdn : (n == ("__debug__" : Str)) = false) (hcn : (n == ("__classdict__" : Str)) = false)
    (hc : Names X x c) (tk : Takes X Wout) (hsw : swapsWithSole [.Name m p1] (.Name n p2) p3.line X.env = pure false)
    (hb : ∀ (W : WX) (pn : List (Addr × Obj)) (xe : Value → Shared → Prop), Takes (X.tr pn xe) W → PassesOwn (model X.prog X.w) X.A X.env xe → PSs (X.tr pn xe) body (tb W)) :
    PS X (.Try body [.ExceptHandler (some (.Name x np)) (some n) [.Assign [.Name m p1] (.Name n p2) p3] pos'] [] [] pos) (fun D σ H => tb (wTr X.K c i j Wout D) D σ H) := by
  constructor
  intro pins s σ H D I h
  have ok := I.ok
  have fr : X.A.frames = some (X.env :: X.outer) := ok.frames.trans (by rw [hs])
  refine wpAny_Try_except ?_
  have wish : Takes (X.tr (X.pn ++ pins) (fun e s₁ => wpAny (model X.prog X.w) X.A (noteFrame e X.env) (fun _ s₂ => wpAny (model X.prog X.w) X.A (setFlight e none) (fun _ s₃ => wpAny (model X.prog X.w) X.A (handleBy e X.env [.ExceptHandler (some (.Name x np)) (some n) [.Assign [.Name m p1] (.Name n p2) p3] pos']) (SP X pins D) X.xe s₃) X.xe s₂) X.xe s₁)) (wTr X.K c i j Wout D) := by
    rintro u s2 ⟨a, B, sI, pins2, σ2, H2, cls, d, rfl, J2, nb, up, sky, na, os, ag, b, e1, yes, no⟩
    have J : Inv X pins σ2 H2 sI := J2.ofTry ok
    have sky2 : Sky B (X.env :: X.outer) a (Zc cls d) X.env.locals s2.heap := by rw [← hs]; exact sky
    show wpAny _ X.A (noteFrame (.ref a) X.env) _ _ _
    refine Sky.land Zc.steady fr hf sky2 fun h3 fl up3 => ?_
    obtain ⟨oe, vs, he, hz, hd⟩ := fl.there
    have J3 : Inv X pins σ2 H2 { s2 with heap := h3 } := J.landed nb fl.1 (up.trans up3) os ag
    have notIn : ∀ {l : List Env}, h3.FunFrames B l → a ∉ frs l := fun {l} ff hm => by
      obtain ⟨_, o, q, hnf⟩ := ff.mem hm
      rw [he] at q; cases q
      exact hnf _ hd
    have nfr : a ∉ frs (X.env :: X.outer) := notIn fl.2.2.1
    have nL : a ≠ X.env.locals := fun z => nfr (List.mem_filterMap.mpr ⟨X.env, List.mem_cons_self, by rw [hf, z]⟩)
    have nF : a ∉ X.fs := fun hm => by
      obtain ⟨e, q1, q2⟩ := List.mem_filterMap.mp hm
      exact nfr (List.mem_filterMap.mpr ⟨e, List.mem_cons_of_mem _ q1, q2⟩)
    have nI : sI.heap.get? a = none := by
      cases q : sI.heap.get? a with
      | none => rfl
      | some o =>
        have z := nb a o q (by rw [hs]; exact nfr)
        rw [fl.2.1] at z
        cases z
    have n0 : X.ex = [] → X.s_0.heap.get? a = none := fun hx => by
      cases q : X.s_0.heap.get? a with
      | none => rfl
      | some o =>
        obtain ⟨o2, z⟩ := J.base.there a o q (by rw [hx]; exact fun z => nomatch z)
        rw [nI] at z
        cases z
    have npn : ∀ p ∈ X.pn ++ pins, p.1 ≠ a := fun p hp z => by
      have y := (J.pin p hp).1
      rw [z, nI] at y
      cases y
    have S3 := J3.suite he hd na nL nF
    refine wpAny_handleBy_cons (codeAny_handlers_test ?_) (by intro q; cases q)
    have LT : PySem.W.Looks (model X.prog X.w) h3 (typeOf (.ref a)) cls := fun A Q E s k q => wpAny_typeOf_ref (k _ _ he) (by rw [hz.1]; exact q)
    have LM := PySem.W.exm_one (M := model X.prog X.w) J3.kIn LT e1
    have test : ∀ {Q : Value → Shared → Prop} {E : Value → Shared → Prop}, Q c { s2 with heap := h3 } → wpAny (model X.prog X.w) (X.A.mark (some (.ref a))) (eval (.Name x np) X.env) Q E { s2 with heap := h3 } := fun {Q E} q => by
      obtain ⟨g1, g2, g3⟩ := hc
      rcases g3 with g3 | ⟨g3, g4, g5⟩
      · exact ld_glob (X := X.suite a ((a, oe) :: (X.pn ++ pins))) S3 g1 g3 q g2
      · exact ld_blt (X := X.suite a ((a, oe) :: (X.pn ++ pins))) S3 g1 g3 g4 q g5 g2
    refine test (LM.here ?_)
    cases b with
    | true =>
      refine codeAny_handlers_suite_as (HandSPX.lands_againZ fl fun h4 fl4 up4 => ?_)
      obtain ⟨oe4, vs4, he4, hz4, hd4⟩ := fl4.there
      have J4 : Inv X pins σ2 H2 { s2 with heap := h4 } := J.landed nb fl4.1 ((up.trans up3).trans up4) os ag
      have S4 := J4.suite he4 hd4 na nL nF
      refine store_ok (X := X.suite a ((a, oe4) :: (X.pn ++ pins))) (v := .ref a) S4 hN hi (.inl hln) rfl (fun s5 S5 => ?_) (.inr hln)
      have pe : PE (X.suite a ((a, oe4) :: (X.pn ++ pins))) (.Name n p2) (tVar i) := pe_var (X := X.suite a ((a, oe4) :: (X.pn ++ pins))) hi (.inl hln) hdn hcn
      have pg : PG (X.suite a ((a, oe4) :: (X.pn ++ pins))) (.Name m p1) (gName j) := pg_name (X := X.suite a ((a, oe4) :: (X.pn ++ pins))) hN hj (.inl hlm) (.inr hlm)
      have hil : i < σ2.length := by rw [J.len]; exact (List.getElem?_eq_some_iff.mp hi).1
      refine wpAny_mono ((pss_one (ps_asg pe pg hsw rfl rfl)).run [] s5 _ H2 { nx := fun σ' H' => σ' = (σ2.set i (some (.ref a))).set j (some (.ref a)) ∧ H' = H2, rt := fun _ _ => False } S5 ⟨.ref a, List.getElem?_set_self hil, rfl, rfl⟩) (fun f s6 hsp => ?_) (fun _ _ z => False.elim z)
      cases f with
      | next =>
        obtain ⟨σ6, H6, S6, e6, e7⟩ := hsp
        subst e6 e7
        have at6 := (S6.pin (a, oe4) (List.mem_append_left _ List.mem_cons_self)).1
        have J6 : Inv X pins _ _ s6 := S6.unsuite ok
        exact gone_ok (Inv.track J6 at6 hz4 hd4 na (n0 hex) npn) hN hi hln fun s7 J7 => ⟨_, _, J7, yes rfl a na⟩
      | brk => obtain ⟨_, _, _, z⟩ := hsp; exact z.elim
      | cont => obtain ⟨_, _, _, z⟩ := hsp; exact z.elim
      | ret u => obtain ⟨_, _, _, _, _, z⟩ := hsp; exact z.elim
    | false =>
      show wpAny _ X.A (handleBy (.ref a) X.env []) _ _ _
      refine wpAny_handleBy_nil ?_
      obtain ⟨k1, k2, k3, oe', vs', T, oT, ts, q1, q2, q3, q4, q5⟩ := id fl
      unfold PySem.passOn
      refine wpAny_bind (wpAny_field q1 q3 q4 ?_)
      rw [if_neg (show ¬ ((Value.ref T == Value.none) = true) from by simp)]
      have fin : wpAny (model X.prog X.w) X.A (setFlight (.ref a) X.env.frame) (fun _ s4 => wpAny (model X.prog X.w) X.A (throw (.ref a) : Sem PySem.Flow) (SP X pins D) X.xe s4) X.xe { s2 with heap := h3 } := by
        rw [hf]
        exact HandSPX.setFlight_upZ fl fun h4 hh4 up4 => wpAny_throw (tk _ _ ⟨a, B, sI, pins, σ2, H2, cls, d, rfl, J, nb, (up.trans up3).trans up4, .inr (.inr (by rw [hs]; exact hh4)), na, os, ag, no rfl⟩)
      first
        | exact wpAny_bind (wpAny_pure (wpAny_bind fin))
        | exact wpAny_bind fin
  refine wpAny_mono ((hb _ _ _ wish PassesOwn.looking).run [] s σ H D (I.toTry _) h) (fun f s1 hsp => ?_) (fun e s1 he => he)
  cases f with
  | next => obtain ⟨σ', H', J, q⟩ := hsp; exact wpAny_execs_nil ⟨σ', H', J.ofTry ok, q⟩
  | brk => obtain ⟨σ', H', J, q⟩ := hsp; exact ⟨σ', H', J.ofTry ok, q⟩
  | cont => obtain ⟨σ', H', J, q⟩ := hsp; exact ⟨σ', H', J.ofTry ok, q⟩
  | ret u => obtain ⟨v, σ', H', J, r, q⟩ := hsp; exact ⟨v, σ', H', J.ofTry ok, r, q⟩
end
end
end Pv
/-! Pe3: errors as values; raise and try as readings. -/
namespace PySem.W
open PySem PySem.Spec PySem.Calls PyProof.Rows
section
variable {prog : Program} {w : World} {A : Around} {E : Value → Shared → Prop} {s : Shared} {K : Frag} {x D : Addr} {ox : Obj} {od : Option Obj}
theorem pv_findObj {C : Addr} {name : Str} {a g : Value} (hc : (clsIn K C).isSome = true) (ha : findIn K (.ref C) name = some (some a)) (hg : specialIn K a "__get__" = some (some g)) (ht : takesIn K a = some true) : findObj K C od name = some (.bind g a) := by
  obtain ⟨cd, hc⟩ := Option.isSome_iff_exists.mp hc
  unfold findObj
  rw [hc, Option.bind_some, ha, Option.bind_some]
  simp [hg, ht]
theorem pv_class {Q : Option Value → Shared → Prop} (Y : L2.ExcC K D) (X : K.In s.heap) (I : InstAt s.heap x ox D od) (h : Q (some (.ref D)) { s with toks := s.toks + 1 }) : wpAny (model prog w) A (getAttr? (.ref x) "__class__") Q E s := by
  have found : findObj K D od "__class__" = some (.bind (.builtin "getset_descriptor.__get__") (.builtin "object.__class__")) := pv_findObj (by obtain ⟨cd, hc, _⟩ := any_some Y.hd; rw [hc]; rfl) Y.ha Y.hn Y.ht
  obtain ⟨hp, g, d, t, os⟩ := s
  have l0 := I.type (M := model prog w)
  have l1 := looks_findIn (M := model prog w) X Y.hg
  have l2 := looks_findIn (M := model prog w) X Y.hk
  have l3 := looks_find (M := model prog w) X I found
  have isE : Looks (model prog w) hp (isInstance (.ref x) (.type "BaseException")) true := l0.andThen (looks_subIn X Y.hs)
  have b2 : (Value.builtin "BaseException.__getattribute__" == Value.builtin "object.__getattribute__") = false := by decide +kernel
  have b1 : (onTheHeap (Value.ref D) && Value.builtin "BaseException.__getattribute__" == Value.builtin "object.__getattribute__") = false := by rw [b2]; rfl
  unfold getAttr? getAttrBy? getAttrBy
  refine wpAny_bind (wpAny_mkText (wpAny_bind (wpAny_attempt (wpAny_holding (wpAny_bind (l0.at (wpAny_bind (l1.at ?_))))))))
  show wpAny _ _ (if (onTheHeap (Value.ref D) && Value.builtin "BaseException.__getattribute__" == Value.builtin "object.__getattribute__") = true then _ else _) _ _ _
  rw [b1, if_neg Bool.false_ne_true]
  unfold getAttrByItsOwn hookBefore
  refine wpAny_bind ?_
  rw [if_pos (show onTheHeap (Value.ref D) = true from rfl)]
  refine l2.at (wpAny_bind (wpAny_attempt (wpAny_holding ?_)))
  unfold callGetattribute
  rw [show (false && onTheHeap (Value.builtin "BaseException.__getattribute__")) = false from rfl, if_neg Bool.false_ne_true]
  unfold boundAndCalled
  rw [PySem.F.excAttr_ValueError.ga.bind (.ref x)]
  refine wpAny_bind (wpAny_pure ?_)
  show wpAny _ _ (call (.builtin "BaseException.__getattribute__") [.ref x, .str "__class__" t]) _ _ _
  refine wpAny_call (codeAny_call_builtin PySem.F.excAttr_ValueError.ga.plain PySem.F.entry_bexc_ga ?_)
  refine @check_slot (model prog w) _ _ ⟨hp, g, d, t + 1, os⟩ "BaseException.__getattribute__" "BaseException" "__getattribute__" (.ref x) [.str "__class__" t] [] _ (by decide +kernel) (by decide +kernel) isE (PySem.F.args_bexc_ga (.ref x) (.str "__class__" t)) ?_
  unfold Builtin.«object.__getattribute__»
  refine wpAny_bind (wpAny_of_eq (a := ((Value.ref x : Value), [Value.str "__class__" t])) (by first | rfl | (simp only [slotArgs]; rfl)) (wpAny_bind (wpAny_pure (wpAny_bind (l0.at (wpAny_bind (l3.at ?_)))))))
  show wpAny _ _ (holding [Value.builtin "object.__class__"] (call (.builtin "getset_descriptor.__get__") [.builtin "object.__class__", .ref x, .ref D]) >>= ret) _ _ _
  refine wpAny_bind (wpAny_holding (wpAny_call (class_get (s := ⟨hp, g, d, t + 1, os⟩) (ox := ox) (od := od) X I Y.hm (wpAny_pure ?_))))
  show wpAny _ _ (handedOut (.ref D)) _ _ _
  rw [handedOut_of (v := .ref D) rfl]
  first
    | exact wpAny_pure (wpAny_pure h)
    | exact wpAny_pure h
    | exact wpAny_pure (wpAny_bind (wpAny_pure (wpAny_pure h)))
theorem pv_kitx (Y : L2.ExcC K D) : KitX K (.ref x) (.ref D) (fun h => ∃ ox od, InstAt h x ox D od) where
  ty := fun _ _ _ ⟨_, _, I⟩ => I.type
  it := fun _ _ X _ => by
    obtain ⟨cdD, hcD, _⟩ := any_some Y.hd
    unfold clsIn at hcD
    split at hcD
    · rename_i c' d' cd' sl' ho
      intro A' Q' E' s' k q
      unfold isType loadHead
      exact wpAny_bind (wpAny_loadPart (k _ _ (X _ _ ho)) (wpAny_pure q))
    · cases hcD
  ne := fun h tp dd its n sl X htp => by
    obtain ⟨cdD, hcD, _⟩ := any_some Y.hd
    refine Bool.eq_false_iff.mpr fun q => ?_
    have e : D = tp := Value.ref.inj (beq_iff_eq.mp q)
    subst e
    unfold clsIn at hcD
    split at hcD
    · rename_i c' d' cd' sl' ho
      have z := (X _ _ ho).symm.trans htp
      cases z
    · cases hcD
  ca := fun X ⟨_, _, I⟩ k => pv_class Y X I k
end
end PySem.W
namespace Pv
open PySem PySem.Spec PyProof.Rows L2
section
variable {Γ : Gs} {G : Gk} {lv : Nat} {sps : Nat → Sp} {Θ : Sx} {X : Cx} {W : WX} {p : Ev} {m : Nat} {B : Vw} {H H' H1 : Hp} {σ σ' σ1 : S} {σV : L2.St} {pins : List (Addr × Obj)} {s : Shared}
/-- an error object and its dict, in the heap -/
theorem errv_inst {A : ASet} {v : V} {c : Nat} {d : PyData} (I : Inv X pins σV H s) (h : ErrV B A H v c d) : ∃ (a C dx : Addr) (oe od : Obj) (w : V) (u : Value), v = .ref a ∧ B.cls c = some C ∧ PySem.W.InstAt s.heap a oe C (some od) ∧ PySem.W.lookIn ("value" : Str) od = some (some u) ∧ RelV w u ∧ Rp B.K A H w d := by
  obtain ⟨a, dx, C, w, rfl, hc, e1, e2, n1, n2, r⟩ := h
  obtain ⟨⟨oe, vs, ho, hz, hd⟩, _, _⟩ := I.hok a _ e1
  obtain ⟨mA, hns, hr⟩ := I.hok dx _ e2
  obtain ⟨od, hod, hl⟩ := lookIn_ns hns
  obtain ⟨u, hu, ru⟩ := RelO.some_of (v := w) (o := mA "value") (by
    have z := hr "value"
    rw [List.lookup_cons, beq_self_eq_true] at z
    exact z)
  exact ⟨a, C, dx, oe, od, w, u, rfl, hc, ⟨ho, hz.1, by unfold PySem.W.notCls; rw [hd] <;> rfl, by rw [hz.2]; exact hod⟩, by rw [hl, hu], ru, r⟩
theorem cell_ex {i c : Nat} {d : PyData} (r : Rep B H σ σV) (e : σ[i]? = some (some (.ex c d))) : ∃ v, σV[i]? = some (some v) ∧ ErrV B (Av B σ σV) H v c d := r.cell i _ e
/-- z.value -/
theorem snd_xval {P : Prg} {i : Nat} {z : Str} {p1 pos : Pos} (c : Ctx Γ G lv sps Θ X) (h : isSlot Θ i z = true) : Snd G X W (.Attribute (.Name z p1) "value" pos) (stepE P p (.xval i)) (stepT P p (.xval i)) := by
  have pv := isSlot_ok (pos := p1) c h
  refine snd_of c.K ⟨fun pins s σV H Q I ⟨B, σ, g, r, q⟩ => ?_⟩ fun _ => rfl
  have q : Pst B σ σV H W _ (match σ[i]? with
    | some (some (.ex _ v)) => .ok (v, false) σ
    | _ => .bad) := q
  split at q
  · rename_i k d hd
    obtain ⟨v, ev, he⟩ := cell_ex r hd
    refine attr_of rfl (thn (pv.run pins s σV H (fun y H1 => y = v ∧ H1 = H) I ⟨v, ev, rfl, rfl⟩) fun u s1 hh => ?_)
    obtain ⟨y, H1, I1, ru, rfl, rfl⟩ := hh
    obtain ⟨a, C, dx, oe, od, w, u2, rfl, hc, J, hl, rw_, rd⟩ := errv_inst I1 he
    obtain rfl : u = Value.ref a := ru
    obtain ⟨x1, x2⟩ := c.xs.xc k C (by rw [← g.2]; exact hc)
    obtain ⟨_, fI, D, cc, cda, fd, sc, sl, val, _, _, _, pc⟩ := c.xs.make k C (by rw [← g.2]; exact hc)
    exact HandSPX.exc_get I1.kIn J x2.ga x2.gg x2.exC (PySem.W.findObj_own x2.hdC pc.no rfl hl) (handed_of rw_) ⟨w, H1, I1.tok _, rw_, q w H1 r .refl rd⟩
  · exact q.elim
/-- z is None, z an error or None -/
theorem snd_xnone {P : Prg} {yes : Bool} {i k : Nat} {z : Str} {o : CmpOp} {p1 p2 pos : Pos} (c : Ctx Γ G lv sps Θ X) (ho : isExp o yes = true) (h : isSlot Θ i z = true) :
    Snd G X W (.Compare (.Name z p1) [o] [.Constant .none k p2] pos) (stepE P p (.xnone yes i)) (stepT P p (.xnone yes i)) := by
  have pv := isSlot_ok (pos := p1) c h
  have key : ∀ σV H (Q : VK), tE G W (stepE P p (.xnone yes i)) σV H Q → tUn (rIsN yes) (tVar i) σV H Q := fun σV H Q ⟨B, σ, g, r, q⟩ => by
    have q : Pst B σ σV H W _ (match σ[i]? with
      | some (some (.ex _ _)) => .ok ((.bool !yes : PyData), false) σ
      | some (some (.pl .none)) => .ok ((.bool yes : PyData), false) σ
      | _ => .bad) := q
    split at q
    · rename_i k' d hd
      obtain ⟨v, ev, a, dx, C, w, rfl, _⟩ := cell_ex r hd
      refine ⟨_, ev, ?_⟩
      show Q (.bl (decide (V.ref a = .non) == yes)) H
      have e : (decide (V.ref a = .non) == yes) = !yes := by cases yes <;> rfl
      rw [e]
      exact q _ H r .refl (.bl _)
    · rename_i hd
      obtain ⟨v, ev, he⟩ := r.pl hd
      refine ⟨_, ev, ?_⟩
      cases he
      show Q (.bl (decide (V.non = .non) == yes)) H
      have e : (decide (V.non = .non) == yes) = yes := by cases yes <;> rfl
      rw [e]
      exact q _ H r .refl (.bl _)
    · exact q.elim
  refine ⟨peI (pe_cmp (isN_of (k := k) (pos2 := p2) ho pv) rfl) key, ptI (pt_cmp (isN_of (k := k) (pos2 := p2) ho pv) rfl) fun σV H Q ⟨B, σ, g, r, q⟩ => key σV H _ ⟨B, σ, g, r, ?_⟩⟩
  have q : Pst B σ σV H W (fun b σ' => ∀ H', Rep B H' σ' σV → Stp B σ σ' σV H H' → Q b H') ((match σ[i]? with
    | some (some (.ex _ _)) => (.ok ((.bool !yes : PyData), false) σ : Res DF)
    | some (some (.pl .none)) => .ok ((.bool yes : PyData), false) σ
    | _ => .bad).bind fun d s => .ok (tru d.1) s) := q
  show Pst B σ σV H W _ (match σ[i]? with
    | some (some (.ex _ _)) => (.ok ((.bool !yes : PyData), false) σ : Res DF)
    | some (some (.pl .none)) => .ok ((.bool yes : PyData), false) σ
    | _ => .bad)
  split at q
  · intro v H' r' st hv
    cases (show Rp B.K (Av B σ σV) H' v (.bool !yes) from hv)
    exact ⟨_, rfl, q H' r' st⟩
  · intro v H' r' st hv
    cases (show Rp B.K (Av B σ σV) H' v (.bool yes) from hv)
    exact ⟨_, rfl, q H' r' st⟩
  · exact q.elim
/-- isinstance(z, C) -/
theorem snd_isx {P : Prg} {i k : Nat} {x y z : Str} {p1 p2 p3 pos : Pos} (hu : P.exc = Γ.ups) (c : Ctx Γ G lv sps Θ X) (hx : x = "isinstance") (h1 : gl Θ x = true) (h2 : gl Θ y = true) (h : isSlot Θ i z = true) (hy : (Γ.excs[k]? == some y) = true) :
    Snd G X W (.Call (.Name x p1) [.Name z p2, .Name y p3] [] pos) (stepE P p (.isx i k)) (stepT P p (.isx i k)) := by
  obtain ⟨g1, g2, g3⟩ := gl_ok c h1
  obtain ⟨k1, k2, k3⟩ := gl_ok c h2
  obtain ⟨C', hC', mC⟩ := c.xs.nm k y (eq_of_beq hy)
  have hm : X.mg x = none := by rw [hx]; exact c.blt2 _ (by simp)
  have pv := isSlot_ok (pos := p2) c h
  have pa : PA X [.Name z p2, .Name y p3] (tCons (tVar i) (tCons (tC (.ref C')) tNil)) := pa_cons pv (pa_cons (pe_glob k1 mC rfl k2) pa_nil)
  have cr : CallR X (.builtin "isinstance") (fun xs H Q => ∃ v, xs = [v, .ref C'] ∧ ((∃ (B : Vw) (A : ASet) (c : Nat) (C : Addr) (d : PyData) (b : Bool), ErrV B A H v c d ∧ B.cls c = some C ∧ ExcC X.K C ∧ PySem.W.kitOne X.K (.ref C) (.ref C') = some b ∧ Q (.bl b) H) ∨ (v = .non ∧ Q (.bl false) H))) := by
    intro pins s σ H xs us Q I r h
    obtain ⟨v, rfl, h⟩ := h
    cases r with
    | cons rx rr =>
      cases rr with
      | cons rt rr =>
        cases rr
        rcases h with ⟨B, A, cn, C, d, b, he, hc, Y, hk, q⟩ | ⟨rfl, q⟩
        · obtain ⟨a, C2, dx, oe, od, w, u2, rfl, hc2, J, _⟩ := errv_inst I he
          rw [hc] at hc2; cases hc2
          cases rx
          cases rt
          exact PySem.W.kia_one (PySem.W.pv_kitx Y) I.kIn ⟨_, _, J⟩ hk (fun z => nomatch z) fun tk => ⟨.bl b, H, I.kept (t' := tk) fun _ _ z => z, rfl, q⟩
        · cases rt
          cases rx
          exact PySem.W.kia_one PySem.W.kitx_none I.kIn True.intro (c.xs.non k C' hC') (fun z => nomatch z) fun tk => ⟨.bl false, H, I.kept (t' := tk) fun _ _ z => z, rfl, q⟩
  refine snd_of c.K (peI (pe_callB cr g1 hm (by rw [hx]; decide +kernel) pa g3 g2 rfl rfl) fun σV H Q ⟨B, σ, g, r, q⟩ => ?_) fun _ => rfl
  have q : Pst B σ σV H W _ (match σ[i]? with
    | some (some (.ex j _)) => (match P.exc[j]? with
      | some up => .ok ((.bool (up.contains k) : PyData), false) σ
      | none => .bad)
    | some (some (.pl .none)) => .ok ((.bool false : PyData), false) σ
    | _ => .bad) := q
  split at q
  · rename_i j d hd
    obtain ⟨v, ev, he⟩ := cell_ex r hd
    split at q
    · rename_i up hup
      obtain ⟨a, dx, C, w, e0, hc, rest⟩ := id he
      have hc' : G.cls j = some C := by rw [← g.2]; exact hc
      obtain ⟨_, kit⟩ := c.xs.up j C up k C' hc' (by rw [← hu]; exact hup) hC'
      exact ⟨v, ev, v, rfl, .inl ⟨B, _, j, C, d, _, he, hc, (c.xs.xc j C hc').1, kit, q _ H r .refl (.bl _)⟩⟩
    · exact q.elim
  · rename_i hd
    obtain ⟨v, ev, he⟩ := r.pl hd
    cases he
    exact ⟨_, ev, _, rfl, .inr ⟨rfl, q _ H r .refl (.bl _)⟩⟩
  · exact q.elim
end
section
variable {Γ : Gs} {G : Gk} {lv : Nat} {sps : Nat → Sp} {Θ : Sx} {X : Cx} {W : WX} {p : Ev} {m : Nat}
/-- raise C(e) -/
theorem s_raise {P : Prg} {c k : Nat} {e : R} {f : Expr} {y : Str} {p1 p2 p3 : Pos} (cx : Ctx Γ G lv sps Θ X) (hx : Stx X W) (hlv : p.lv = lv) (h : PE X f (tE G W (p.e e))) (hst : starEach [f] X.env = (false, eval f X.env) :: starEach [] X.env) (hy : (Γ.excs[c]? == some y) = true) (hg : gl Θ y = true) :
    PS X (.Raise (some (.Call (.Name y p1) [f] [] p2)) none p3) (tS G W (stepS P p (.raise c e))) := by
  obtain ⟨g1, g2, g3⟩ := gl_ok cx hg
  obtain ⟨C, hC, mC⟩ := cx.xs.nm c y (eq_of_beq hy)
  obtain ⟨T, fI, D, cc, cda, fd, sc, sl, val, iC, tI, pd, pc⟩ := cx.xs.make c C hC
  by_cases hl : p.lv < 4
  · refine ⟨fun pins s σ H D I ⟨B, σ', g, r, q⟩ => ?_⟩
    have q : PstS B σ' σ H W D (if p.lv < 4 then .bad else (p.e e σ').bind fun d s => .err c d.1 s) := q
    rw [if_pos hl] at q
    exact q.elim
  · refine psI (ps_raise cx.gx.calm hx.tk (pmk_pe T iC tI pd pc cx.xs.hop cx.xs.htop (cx.room.mono (by omega)) cx.xs.sup g1 mC h g2 hst)) fun E σV H ⟨B, σ, g, r, q⟩ => ?_
    have q : PstS B σ σV H W E (if p.lv < 4 then .bad else (p.e e σ).bind fun d s => .err c d.1 s) := q
    rw [if_neg hl] at q
    refine tE.mk g r (q.expr.imp fun d σ' q v H' r' st hv dx hdx => ?_)
    have nd : ¬ Av B σ' σV dx := fun z => r'.notAv hdx z
    exact q C dx v σV (upd H' dx (.xd [("value", v)])) (by rw [g.2]; exact hC) (r'.new hdx) (st.s.trans ⟨.new hdx, fun a z => .inl z⟩) upd_same nd ((hv.rp r').keep (.new hdx) r'.nt)
theorem ro_drop {σ : S} {σV : L2.St} {i : Nat} {x : Option V} (a : Addr) : RO (σ.set i none) (σV.set i x) a → RO σ σV a := fun ⟨j, ⟨d', hd⟩, hv⟩ => by
  by_cases hj : j = i
  · subst hj
    by_cases hi : j < σ.length
    · rw [List.getElem?_set_self hi] at hd
      rcases hd with hd | hd <;> cases hd
    · rw [List.getElem?_eq_none (by simpa using hi)] at hd
      rcases hd with hd | hd <;> cases hd
  · rw [List.getElem?_set_ne (Ne.symm hj)] at hd hv
    exact ⟨j, ⟨d', hd⟩, hv⟩
/-- a slot takes a caught error -/
theorem Rep.setEx {B : Vw} {H : Hp} {σ : S} {σV : L2.St} {i c : Nat} {v : V} {d : PyData} (r : Rep B H σ σV) (h : ErrV B (Av B σ σV) H v c d) : Rep B H (σ.set i (some (.ex c d))) (σV.set i (some v)) ∧ ∀ a, RO (σ.set i (some (.ex c d))) (σV.set i (some v)) a → RO σ σV a := by
  have old : ∀ j b, Rt (σ.set i (some (.ex c d))) (σV.set i (some v)) j b → Rt σ σV j b := fun j b ⟨⟨d', hd⟩, hv⟩ => by
    by_cases hj : j = i
    · subst hj
      by_cases hi : j < σ.length
      · rw [List.getElem?_set_self hi] at hd
        rcases hd with hd | hd <;> cases hd
      · rw [List.getElem?_eq_none (by simpa using hi)] at hd
        rcases hd with hd | hd <;> cases hd
    · rw [List.getElem?_set_ne (Ne.symm hj)] at hd hv
      exact ⟨⟨d', hd⟩, hv⟩
  have av : ∀ b, Av B (σ.set i (some (.ex c d))) (σV.set i (some v)) b → Av B σ σV b := fun b z => z.elim (fun ⟨j, y⟩ => .inl ⟨j, old j b y⟩) .inr
  refine ⟨⟨by simpa using r.len, fun j c' ec => ?_, fun j k a x y => r.inj j k a (old j a x) (old k a y), fun a ⟨j, x⟩ => r.exr a ⟨j, old j a x⟩, r.ext, r.kp, fun b hb => r.nt b (av b hb), r.exT⟩, fun a ⟨j, x⟩ => ⟨j, old j a x⟩⟩
  by_cases hj : j = i
  · subst hj
    have hi : j < σ.length := by
      have := (List.getElem?_eq_some_iff.mp ec).1
      simpa using this
    rw [List.getElem?_set_self hi] at ec
    cases ec
    have hc : CellOk B (Av B σ σV) H j v (.ex c d) := h
    exact ⟨v, by rw [List.getElem?_set_self (by rw [← r.len]; exact hi)], hc.weak av⟩
  · rw [List.getElem?_set_ne (Ne.symm hj)] at ec
    obtain ⟨u, eu, hc⟩ := r.cell j c' ec
    exact ⟨u, by rw [List.getElem?_set_ne (Ne.symm hj)]; exact eu, hc.weak av⟩
/-- try: .. except C as e: x = e -/
theorem s_try {P : Prg} {b : List Q} {c ie io : Nat} {y n xm : Str} {body : List Stmt} {p1 p2 p3 p4 p5 p6 : Pos} (hu : P.exc = Γ.ups) (cx : Ctx Γ G lv sps Θ X) (hx : Stx X W) (hy : (Γ.excs[c]? == some y) = true) (hg : gl Θ y = true) (hne : ie ≠ io)
    (hi : Θ.N[ie]? = some n) (hj : Θ.N[io]? = some xm) (hln : Θ.sc.names.lookup n = some .local) (hlm : Θ.sc.names.lookup xm = some .local) (hdn : (n == ("__debug__" : Str)) = false) (hcn : (n == ("__classdict__" : Str)) = false)
    (hb : ∀ (W : WX) (pn : List (Addr × Obj)) (xe : Value → Shared → Prop), Takes (X.tr pn xe) W → PassesOwn (model X.prog X.w) X.A X.env xe → PSs (X.tr pn xe) body (tS G W (seqL p.s b))) :
    PS X (.Try body [.ExceptHandler (some (.Name y p1)) (some n) [.Assign [.Name xm p2] (.Name n p3) p4] p5] [] [] p6) (tS G W (stepS P p (.try_ b c ie io))) := by
  obtain ⟨g1, g2, g3⟩ := gl_ok cx hg
  obtain ⟨C, hC, mC⟩ := cx.xs.nm c y (eq_of_beq hy)
  have kn : X.env.kindOf n = some .local := by show X.env.scope.names.lookup n = _; rw [cx.sc]; exact hln
  have km : X.env.kindOf xm = some .local := by show X.env.scope.names.lookup xm = _; rw [cx.sc]; exact hlm
  refine psI (ps_tr hx.ex hx.stk hx.frm (by rw [cx.N]; exact cx.nd) (by rw [cx.N]; exact hi) (by rw [cx.N]; exact hj) kn km hdn hcn ⟨g1, g2, .inl mC⟩ hx.tk rfl hb) fun D σV H ⟨B, σ, g, r, q⟩ => ⟨B, σ, g, r, ?_⟩
  have q : PstS B σ σV H W D (match seqL p.s b σ with
    | .err k v s => (match P.exc[k]? with
      | some up => if up.contains c then .ok .nx ((s.set io (some (.ex k v))).set ie none) else .err k v s
      | none => .bad)
    | r => r) := q
  cases e : seqL p.s b σ with
  | bad => rw [e] at q; exact q
  | ok fl s => rw [e] at q; exact q
  | err k d s =>
    rw [e] at q
    dsimp only at q
    split at q
    · rename_i up hup
      intro C2 dx w σV' H' hc r' st edx ndx hw
      have hc' : G.cls k = some C2 := by rw [← g.2]; exact hc
      obtain ⟨exm, _⟩ := cx.xs.up k C2 up c C hc' (by rw [← hu]; exact hup) hC
      refine ⟨up.contains c, exm, fun hyes a na => ?_, fun hno => ?_⟩
      · rw [if_pos hyes] at q
        have hda : dx ≠ a := fun z => by rw [z, na] at edx; cases edx
        have r2 := r'.new (o := ErrO (.ref C2) (some dx) a) na
        have ev : ErrV B (Av B s σV') (upd H' a (ErrO (.ref C2) (some dx) a)) (.ref a) k d := ⟨a, dx, C2, w, rfl, hc, upd_same, by rw [upd_ne hda]; exact edx, fun z => r'.notAv na z, ndx, hw.keep (.new na) r'.nt⟩
        obtain ⟨r3, ro3⟩ := Rep.setEx (i := io) r2 ev
        have r4 := r3.drop (i := ie) none
        have eq : (((σV'.set ie (some (.ref a))).set io (some (.ref a))).set ie none) = (σV'.set io (some (.ref a))).set ie none := by
          rw [List.set_comm _ _ hne, List.set_set]
        rw [eq]
        refine q _ _ r4 ⟨st.kp.trans (.new na) fun b z => .inr z, fun b z => ?_⟩
        exact st.ro b (ro3 b (ro_drop b z))
      · rw [if_neg (by rw [hno]; decide)] at q
        exact q C2 dx w σV' H' hc r' st edx ndx hw
    · exact q.elim
end
end Pv
/-! Pv13: more statements; the checker of statements; soundness of all. -/
namespace Pv
open PySem PySem.Spec PyProof.Rows L2
section
variable {B : Vw} {H H' H1 : Hp} {σ σ' σ1 : S} {σV : L2.St} {D : Ends} {W : WX}
/-- a root's content set: in the heap and in the slots -/
theorem setRoot_ok {i : Nat} {f : PyData → Option PyData} (r : Rep B H σ σV) (e : setRoot σ i f = some σ') : ∃ (a : Addr) (d d' : PyData), f d = some d' ∧ σV[i]? = some (some (.ref a)) ∧ Rt σ σV i a ∧ RootD B.K (Av B σ σV) H a d ∧
    ∀ ys, RootD B.K (Av B σ σV) (upd H a (.lst ys)) a d' → Rep B (upd H a (.lst ys)) σ' σV ∧ StpS σ σ' σV σV H (upd H a (.lst ys)) := by
  have key : ∃ d d' c, f d = some d' ∧ ((c = .ow d' ∧ σ[i]? = some (some (.ow d))) ∨ (c = .io d' ∧ σ[i]? = some (some (.io d)))) ∧ σ' = σ.set i (some c) := by
    unfold setRoot at e
    split at e
    · rename_i d q
      obtain ⟨d', h1, h2⟩ := Option.map_eq_some_iff.mp e
      exact ⟨d, d', _, h1, .inl ⟨rfl, q⟩, h2.symm⟩
    · rename_i d q
      obtain ⟨d', h1, h2⟩ := Option.map_eq_some_iff.mp e
      exact ⟨d, d', _, h1, .inr ⟨rfl, q⟩, h2.symm⟩
    · cases e
  obtain ⟨d, d', c, hf, hc, rfl⟩ := key
  have hR : ∃ a, σV[i]? = some (some (.ref a)) ∧ Rt σ σV i a ∧ RootD B.K (Av B σ σV) H a d := by
    rcases hc with ⟨_, q⟩ | ⟨_, q⟩
    · obtain ⟨a, h1, h2, h3, _⟩ := r.rt_ow q; exact ⟨a, h1, h2, h3⟩
    · obtain ⟨a, h1, h2, h3, _⟩ := r.rt_io q; exact ⟨a, h1, h2, h3⟩
  obtain ⟨a, ev, rt, hr⟩ := hR
  have hi : i < σ.length := by rcases hc with ⟨_, q⟩ | ⟨_, q⟩ <;> exact (List.getElem?_eq_some_iff.mp q).1
  refine ⟨a, d, d', hf, ev, rt, hr, fun ys hy => ?_⟩
  have k : Kp (fun b => b = a) H (upd H a (.lst ys)) := Kp.put rfl
  obtain ⟨r2, ro⟩ := r.reroot (Ex' := B.Ex) (σ' := σ.set i (some c)) (by simp) k (fun b z => ⟨i, by rw [z]; exact rt⟩) (fun _ z => z) (fun _ z => .inl z) fun j c' hj => by
    by_cases hji : j = i
    · subst hji
      rw [List.getElem?_set_self hi] at hj
      cases hj
      exact .inr ⟨d', d, a, hc, ev, hy⟩
    · rw [List.getElem?_set_ne (Ne.symm hji)] at hj
      exact .inl ⟨hj, fun b z y => hji (r.inj j i a (by rw [← y]; exact z) rt)⟩
  exact ⟨r2, k.weak fun b z => ⟨i, by rw [z]; exact rt⟩, fun b z => .inl (ro b z)⟩
/-- a list root: its new content -/
theorem root_new {K : Frag} {A : ASet} {a : Addr} {ds : List PyData} {xs ys : List V} (nt : NoTup A H) (hA : A a) (h : Rps K A H ys ds) : RootD K A (upd H a (.lst ys)) a (.list ds) := ⟨ys, upd_same, h.keep (Kp.put hA) nt⟩
end
section
variable {Γ : Gs} {G : Gk} {lv : Nat} {sps : Nat → Sp} {Θ : Sx} {X : Cx} {W : WX} {p : Ev} {m : Nat}
theorem s_setix {P : Prg} {i : Nat} {j e : R} {fo fj f : Expr} {pos p1 : Pos} (h : PE X f (tE G W (p.e e))) (ho : PE X fo (tVar i)) (hj : PE X fj (tE G W (p.e j))) (hix : ∀ v, assign (.Subscript fo fj p1) X.env v = (do
      let ov ← holding [v] (eval fo X.env)
      let iv ← holding [v, ov] (eval fj X.env)
      standAt p1
      holding [v, ov, iv] (setItem ov iv v)
      release [v, ov, iv] [])) (hs : swapsWithSole [.Subscript fo fj p1] f pos.line X.env = pure false) (hw : swappedStores [.Subscript fo fj p1] f X.env = pure none) :
    PS X (.Assign [.Subscript fo fj p1] f pos) (tS G W (stepS P p (.setix i j e))) := by
  refine psI (ps_asg h (pg_sub ho hj set_list hix) hs hw rfl) fun D σV H ⟨B, σ, g, r, q⟩ => ?_
  refine tE.mk g r ((PstS.expr (show PstS B σ σV H W D ((p.e e σ).bind fun d s => if (getP s i).isSome then (p.e j s).bind fun j s => setR (setRoot s i (setD j.1 d.1)) else .bad) from q)).imp fun d σ1 q v H1 r1 st1 hv => ?_)
  split at q
  · rename_i hs
    obtain ⟨d0, hd0⟩ := Option.isSome_iff_exists.mp hs
    obtain ⟨o, eo⟩ := getP_slot r1 hd0
    refine ⟨o, eo, tE.mk g r1 ((PstS.back st1.s q).expr.imp fun k σ2 q v2 H2 r2 st2 hk => ?_)⟩
    cases er : setRoot σ2 i (setD k.1 d.1) with
    | none => rw [er] at q; exact q.elim
    | some σ3 =>
      rw [er] at q
      obtain ⟨a, dd, d', hf, ev, rt, hr, fin⟩ := setRoot_ok r2 er
      rw [eo] at ev
      cases ev
      unfold setD at hf
      split at hf
      · rename_i l
        split at hf
        · rename_i n hkn
          obtain ⟨t, hix2, hf⟩ := Option.map_eq_some_iff.mp hf
          subst hf
          obtain ⟨xs, hx, rs⟩ := hr
          have hk := hk.rp r2
          rw [hkn] at hk
          cases hk
          have hv2 := Rp.stp r1 st2 (hv.rp r1)
          refine ⟨a, xs, n, t, rfl, rfl, hx, ?_, ?_⟩
          · rw [rs.len]; exact hix2
          · obtain ⟨r3, st3⟩ := fin (xs.set t v) (root_new (xs := xs) r2.nt (.inl ⟨i, rt⟩) (rs.set t hv2))
            exact q _ _ r3 (st2.s.trans st3)
        · cases hf
      · cases hf
  · exact q.elim
/-! ### a, b = x, y -/
theorem s_par0 {P : Prg} {is : List Nat} {es : List R} {st : Stmt} {te : TE} (ht : ∀ σV H Q, tE G W (fun s => (evL p.e es s).bind fun ds s => if ds.length ≤ line then .ok ((.tuple ds : PyData), false) s else .bad) σV H Q → te σV H Q) (hl : es.length ≤ line) (h : PS X st (tAsg te (gT G.K (.tp is)))) :
    PS X st (tS G W (stepS P p (.par is es))) :=
  psI h fun D σV H ⟨B, σ, g, r, q⟩ => ht _ _ _ (tE.mk g r (by
    have q : PstS B σ σV H W D ((evL p.e es σ).bind fun ds s => setR (setAll s is ds)) := q
    cases e : evL p.e es σ with
    | bad => rw [e] at q; exact q.elim
    | err c d s =>
      rw [e] at q
      intro C dx w H' hc r st e n q'
      exact q C dx w σV H' hc r st.s e n q'
    | ok ds s =>
      rw [e] at q
      have q : PstS B σ σV H W D (setR (setAll s is ds)) := q
      have hd : ds.length ≤ line := by rw [evL_len e]; exact hl
      show Pst B σ σV H W _ (if ds.length ≤ line then .ok ((.tuple ds : PyData), false) s else .bad)
      rw [if_pos hd]
      intro v H' r' st hv
      cases ea : setAll s is ds with
      | none => rw [ea] at q; exact q.elim
      | some s2 =>
        rw [ea] at q
        rw [show G.K = B.K from g.1.symm]
        exact asg_ok (t := .tp is) r' hv ea fun σV' r2 off ro => q σV' H' r2 (st.s.trans (.slots ro))))
theorem s_par2 {P : Prg} {i j : Nat} {a b : R} {fa fb : Expr} {x y : Str} {px py pt pt2 pos : Pos} {kt k2 : Nat} (cx : Ctx Γ G lv sps Θ X) (ha : PA X [fa, fb] (tEs G W p.e [a, b])) (hi : Θ.N[i]? = some x) (hj : Θ.N[j]? = some y) (hij : i ≠ j) (lx : Θ.sc.names.lookup x = some .local) (ly : Θ.sc.names.lookup y = some .local)
    (hw : swappedStores [.Tuple [.Name x px, .Name y py] kt pt] (.Tuple [fa, fb] k2 pt2) X.env = pure (some [x, y])) : PS X (.Assign [.Tuple [.Name x px, .Name y py] kt pt] (.Tuple [fa, fb] k2 pt2) pos) (tS G W (stepS P p (.par [i, j] [a, b]))) := by
  refine psI (ps_par cx.gx.calm (by rw [cx.N]; exact cx.nd) (by rw [cx.N]; exact hi) (by rw [cx.N]; exact hj) hij (by rw [cx.sc]; exact lx) (by rw [cx.sc]; exact ly) ha hw rfl) fun D σV H ⟨B, σ, g, r, q⟩ => ?_
  refine evL_ok g r ((PstS.expr (show PstS B σ σV H W D ((evL p.e [a, b] σ).bind fun ds s => setR (setAll s [i, j] ds)) from q)).imp fun ds σ1 q vs H1 r1 st rs => ?_)
  match ds, vs, rs, q with
  | [d, e], [v, u], .cons h1 (.cons h2 .nil), q =>
    obtain ⟨r2, _⟩ : Rep B H1 (σ1.set i (some (.pl d))) (σV.set i (some v)) ∧ True := ⟨r1.set h1, trivial⟩
    have r3 := r2.set (i := j) (h2.weak fun b z => z.elim (fun y => .inl (ro_set b y)) .inr)
    exact ⟨v, u, rfl, q _ _ r3 (st.s.trans (.slots fun b z => ro_set b (ro_set b z)))⟩
  | [], [], .nil, q => exact q.elim
  | [d], [v], .cons h1 .nil, q => exact q.elim
  | _ :: _ :: _ :: _, _ :: _ :: _ :: _, .cons _ (.cons _ (.cons _ _)), q => exact q.elim
theorem s_par3 {P : Prg} {i j l : Nat} {a b c : R} {fa fb fc : Expr} {x y z : Str} {px py pz pt pt2 pos : Pos} {kt k2 : Nat} (cx : Ctx Γ G lv sps Θ X) (ha : PA X [fa, fb, fc] (tEs G W p.e [a, b, c])) (hi : Θ.N[i]? = some x) (hj : Θ.N[j]? = some y) (hl : Θ.N[l]? = some z) (hij : i ≠ j) (hil : i ≠ l) (hjl : j ≠ l)
    (lx : Θ.sc.names.lookup x = some .local) (ly : Θ.sc.names.lookup y = some .local) (lz : Θ.sc.names.lookup z = some .local)
    (hw : swappedStores [.Tuple [.Name x px, .Name y py, .Name z pz] kt pt] (.Tuple [fa, fb, fc] k2 pt2) X.env = pure (some [x, y, z])) : PS X (.Assign [.Tuple [.Name x px, .Name y py, .Name z pz] kt pt] (.Tuple [fa, fb, fc] k2 pt2) pos) (tS G W (stepS P p (.par [i, j, l] [a, b, c]))) := by
  refine psI (ps_par3 cx.gx.calm (by rw [cx.N]; exact cx.nd) (by rw [cx.N]; exact hi) (by rw [cx.N]; exact hj) (by rw [cx.N]; exact hl) hij hil hjl (by rw [cx.sc]; exact lx) (by rw [cx.sc]; exact ly) (by rw [cx.sc]; exact lz) ha hw rfl) fun D σV H ⟨B, σ, g, r, q⟩ => ?_
  refine evL_ok g r ((PstS.expr (show PstS B σ σV H W D ((evL p.e [a, b, c] σ).bind fun ds s => setR (setAll s [i, j, l] ds)) from q)).imp fun ds σ1 q vs H1 r1 st rs => ?_)
  match ds, vs, rs, q with
  | [d, e, f], [v, u, w], .cons h1 (.cons h2 (.cons h3 .nil)), q =>
    have r2 := r1.set (i := i) h1
    have r3 := r2.set (i := j) (h2.weak fun b z => z.elim (fun y => .inl (ro_set b y)) .inr)
    have r4 := r3.set (i := l) (h3.weak fun b z => z.elim (fun y => .inl (ro_set b (ro_set b y))) .inr)
    exact ⟨v, u, w, rfl, q _ _ r4 (st.s.trans (.slots fun b z => ro_set b (ro_set b (ro_set b z))))⟩
  | [], [], .nil, q => exact q.elim
  | [d], [v], .cons h1 .nil, q => exact q.elim
  | [_, _], [_, _], .cons _ (.cons _ .nil), q => exact q.elim
  | _ :: _ :: _ :: _ :: _, _ :: _ :: _ :: _ :: _, .cons _ (.cons _ (.cons _ (.cons _ _))), q => exact q.elim
end
end Pv
/-! Pv14: the checker of statements; all of them. -/
namespace Pv
open PySem PySem.Spec PyProof.Rows L2
def isLoc (S : Sx) (x : Str) : Bool := S.sc.names.lookup x == some NameKind.local
def starred : Expr → Bool
  | .Starred _ _ => true
  | _ => false
def parNames (sc : Scope) (line : Nat) (ts : List Expr) : List Str := ts.filterMap fun
    | .Name id pos => if (sc.names.lookup id == some NameKind.local) && pos.line == line then some id else none
    | _ => none
def swLine (ts : List Expr) : Nat := (ts.head?.map (·.pos.line)).getD 0
def swY (sc : Scope) (ts vs : List Expr) : Bool := !(vs.any starred) && !(vs.all (foldedForSure 8)) && !(vs.all (constantsAlone 8)) && vs.length == ts.length && (ts.length == 2 || ts.length == 3) &&
  (parNames sc (swLine ts) ts).length == ts.length && (parNames sc (swLine ts) ts).eraseDups.length == (parNames sc (swLine ts) ts).length
def swN (sc : Scope) (ts vs : List Expr) : Bool := !(vs.any starred) && (!(ts.length == 2 || ts.length == 3) || vs.length != ts.length || (parNames sc (swLine ts) ts).length != ts.length)
section
variable {X : Cx} {ts vs : List Expr} {k1 k2 : Nat} {p1 p2 : Pos}
theorem sw_eq (hk : X.env.scope.kind = .function) : swappedStores [.Tuple ts k1 p1] (.Tuple vs k2 p2) X.env = (if (!(ts.length == 2 || ts.length == 3) || vs.length != ts.length) = true then pure none else if (vs.any starred) = true then pure none else
    if ((parNames X.env.scope (swLine ts) ts).length != ts.length || (parNames X.env.scope (swLine ts) ts).eraseDups.length != (parNames X.env.scope (swLine ts) ts).length) = true then pure none else
    if (vs.all (foldedForSure 8)) = true then pure none else (do
      if vs.all (constantsAlone 8) then unsupported "assign.tuple-of-constant-expressions:order-of-the-stores"
      pure (some (parNames X.env.scope (swLine ts) ts)))) := by
  have hb : X.env.blockKind = .function := by unfold Env.blockKind; rw [hk]; rfl
  unfold swappedStores
  simp only [hb, bne_self_eq_false, Bool.or_false]
  rfl
theorem swY_ok (hk : X.env.scope.kind = .function) (h : swY X.env.scope ts vs = true) : swappedStores [.Tuple ts k1 p1] (.Tuple vs k2 p2) X.env = pure (some (parNames X.env.scope (swLine ts) ts)) := by
  unfold swY at h
  simp only [Bool.and_eq_true, Bool.not_eq_true', beq_iff_eq] at h
  obtain ⟨⟨⟨⟨⟨⟨h1, h2⟩, h3⟩, h4⟩, h5⟩, h6⟩, h7⟩ := h
  rw [sw_eq hk, h1, h2, h3, h4, h5, h7]
  simp [h6]
theorem swN_ok (hk : X.env.scope.kind = .function) (h : swN X.env.scope ts vs = true) : swappedStores [.Tuple ts k1 p1] (.Tuple vs k2 p2) X.env = pure none := by
  unfold swN at h
  simp only [Bool.and_eq_true, Bool.not_eq_true', Bool.or_eq_true] at h
  obtain ⟨h1, h2⟩ := h
  rw [sw_eq hk, h1]
  rcases h2 with (h2 | h2) | h2
  · rw [h2]; rfl
  · rw [h2, Bool.or_true, if_pos rfl]
  · rw [h2, Bool.true_or]
    split <;> rfl
end
end Pv
/-! Pv15: all expressions, all statements. -/
namespace Pv
open PySem PySem.Spec PyProof.Rows L2
/-- what of the program the checker's tables stand for -/
structure Ok (Γ : Gs) (G : Gk) (P : Prg) (sps : Nat → Sp) (c : Nat → List PyData → CRes) : Prop where
  sp : ∀ f fd, P.fns[f]? = some fd → sps f = spF G fd.np fd.io (c f)
  np : ∀ (f : Nat) (fd : FnD) (x : Str) (ps : List Str), P.fns[f]? = some fd → Γ.fns[f]? = some (x, ps) → fd.np = ps.length
  exc : P.exc = Γ.ups
section
variable {Γ : Gs} {G : Gk} {lv : Nat} {sps : Nat → Sp} {Θ : Sx} {X : Cx} {W : WX} {p : Ev} {P : Prg}
theorem opt_and {a b : Bool} (h : (a && b) = true) : a = true ∧ b = true := and_ h
theorem snd_step (ih : SndN Γ G lv sps p) (ok : Ok Γ G P sps p.c) : ∀ (m : Nat) (Θ : Sx) (r : R) (e : Expr) (X : Cx) (W : WX), Ctx Γ G lv sps Θ X → Takes X W → chkE m Γ Θ r e = true → Snd G X W e (stepE P p r) (stepT P p r) := by
  intro m Θ r e X W c tk h
  cases m with
  | zero => cases h
  | succ m =>
    unfold chkE at h
    split at h
    · exact snd_var ih c tk h
    · exact snd_non ih c tk
    · rw [eq_of_beq h]; exact snd_bl ih c tk
    · rw [eq_of_beq h]; exact snd_int ih c tk
    · obtain ⟨h1, h2⟩ := and_ h; exact snd_cns ih c tk h1 (eq_of_beq h2)
    · rw [eq_of_beq h]; exact snd_str ih c tk
    · exact snd_tup ih c tk h
    · exact snd_lst ih c tk h
    · obtain ⟨h, h3⟩ := and_ h; obtain ⟨h1, h2⟩ := and_ h; rw [eq_of_beq h1]; exact snd_bin ih c tk h2 h3
    · exact snd_neg ih c tk h
    · obtain ⟨h, h3⟩ := and_ h; obtain ⟨h1, h2⟩ := and_ h; rw [eq_of_beq h1]; exact snd_cmp ih c tk h2 h3
    · obtain ⟨h, h5⟩ := and_ h; obtain ⟨h, h4⟩ := and_ h; obtain ⟨h, h3⟩ := and_ h; obtain ⟨h1, h2⟩ := and_ h; rw [eq_of_beq h1, eq_of_beq h2]; exact snd_chain ih c tk h3 h4 h5
    · obtain ⟨h1, h2⟩ := and_ h; exact snd_isn ih c tk h1 h2
    · obtain ⟨h, h3⟩ := and_ h; obtain ⟨h1, h2⟩ := and_ h; rw [eq_of_beq h2]; exact snd_isb ih c tk h1 h3
    · exact snd_and ih c tk h
    · exact snd_or ih c tk h
    · exact snd_not ih c tk h
    · obtain ⟨h, h3⟩ := and_ h; obtain ⟨h1, h2⟩ := and_ h; exact snd_ife ih c tk h1 h2 h3
    · obtain ⟨h, h3⟩ := and_ h; obtain ⟨h1, h2⟩ := and_ h; exact snd_call ok.sp ih c tk h1 h2 h3
    · obtain ⟨h, h6⟩ := and_ h; obtain ⟨h, h5⟩ := and_ h; obtain ⟨h, h4⟩ := and_ h; obtain ⟨h, h3⟩ := and_ h; obtain ⟨h1, h2⟩ := and_ h; exact snd_callk ok.sp ok.np ih c tk h1 h2 h4 h5 h6
    · obtain ⟨h, h5⟩ := and_ h; obtain ⟨h, h4⟩ := and_ h; obtain ⟨h, h3⟩ := and_ h; obtain ⟨h1, h2⟩ := and_ h; exact snd_bi ih c tk h1 (eq_of_beq h2) h3 (by simpa using h4) h5
    · obtain ⟨h, h3⟩ := and_ h; obtain ⟨h1, h2⟩ := and_ h; exact snd_idx ih c tk h1 h2 h3
    · obtain ⟨h, h3⟩ := and_ h; obtain ⟨h1, h2⟩ := and_ h; exact snd_slc ih c tk h1 h2 h3
    · obtain ⟨h, h8⟩ := and_ h; obtain ⟨h, h7⟩ := and_ h; obtain ⟨h, h6⟩ := and_ h; obtain ⟨h, h5⟩ := and_ h; obtain ⟨h, h4⟩ := and_ h; obtain ⟨h, h3⟩ := and_ h; obtain ⟨h1, h2⟩ := and_ h
      exact snd_lc ih c tk h1 h2 h3 (of_decide_eq_true h4) h5 h6 h7 h8
    · obtain ⟨h, h5⟩ := and_ h; obtain ⟨h, h4⟩ := and_ h; obtain ⟨h, h3⟩ := and_ h; obtain ⟨h1, h2⟩ := and_ h; exact snd_isi ih c tk (eq_of_beq h1) (eq_of_beq h2) h3 h4 h5
    · obtain ⟨h, h5⟩ := and_ h; obtain ⟨h, h4⟩ := and_ h; obtain ⟨h, h3⟩ := and_ h; obtain ⟨h1, h2⟩ := and_ h; exact snd_isx ok.exc c (eq_of_beq h1) h2 h3 h4 h5
    · obtain ⟨h1, h2⟩ := and_ h; rw [eq_of_beq h1]; exact snd_xval c h2
    · obtain ⟨h1, h2⟩ := and_ h; exact snd_xnone c h1 h2
    · cases h
/-! ### name = value -/
def AsgN (Γ : Gs) (G : Gk) (lv : Nat) (sps : Nat → Sp) (p : Ev) : Prop :=
  ∀ (m : Nat) (Θ : Sx) (r : R) (f : Expr) (X : Cx) (W : WX) (i : Nat) (y : Str) (px pos : Pos), Ctx Γ G lv sps Θ X → Takes X W → X.env.scope.kind = .function → chkE m Γ Θ r f = true → isTgt Θ i y = true → PS X (.Assign [.Name y px] f pos) (tAsg (tE G W (p.e r)) (gName i))
theorem sw_none {f : Expr} {y : Str} {px : Pos} {l : Nat} {env : Env} (h : ∀ a b c d, f ≠ .ListComp a b c d) (h2 : ∀ a b c d, f ≠ .SetComp a b c d) (h3 : ∀ a b c d e, f ≠ .DictComp a b c d e) : swapsWith f (some (.Name y px)) l env = pure false := by
  cases f <;> first | rfl | exact (h _ _ _ _ rfl).elim | exact (h2 _ _ _ _ rfl).elim | exact (h3 _ _ _ _ _ rfl).elim
theorem chk_nosc {m : Nat} {r : R} {a : Expr} {b : List Comprehension} {s : Scope} {q : Pos} : chkE m Γ Θ r (.SetComp a b s q) = false := by
  cases m with
  | zero => rfl
  | succ m => cases r <;> first | rfl | (unfold chkE; split <;> first | rfl | (rename_i q; cases q))
theorem chk_nodc {m : Nat} {r : R} {a a2 : Expr} {b : List Comprehension} {s : Scope} {q : Pos} : chkE m Γ Θ r (.DictComp a a2 b s q) = false := by
  cases m with
  | zero => rfl
  | succ m => cases r <;> first | rfl | (unfold chkE; split <;> first | rfl | (rename_i q; cases q))
theorem sw_nonTuple {f : Expr} {ts : List Expr} {k : Nat} {p1 : Pos} {env : Env} (h : ∀ a b c, f ≠ .Tuple a b c) : swappedStores [.Tuple ts k p1] f env = pure none := by
  cases f <;> first | rfl | exact (h _ _ _ rfl).elim
theorem asg_step (ih : SndN Γ G lv sps p) (ok : Ok Γ G P sps p.c) : AsgN Γ G lv sps ⟨stepE P p, stepT P p, stepS P p, p.c, p.lv⟩ := by
  intro m Θ r f X W i y px pos c tk hk h ht
  have pe := (snd_step ih ok m Θ r f X W c tk h).pe
  have pg : PG X (.Name y px) (gName i) := pg_nm c ht
  by_cases hl : ∃ a b s q, f = .ListComp a b s q
  · obtain ⟨a, b, s, q, rfl⟩ := hl
    cases hb : (X.env.blockKind == .function && X.env.kindOf y == some .local && px.line == q.line && !(s.names.any fun (n, k) => n == y && (k == .local || k == .cell))) with
    | false => exact ps_asg pe pg (by show (pure _ : Sem Bool) = _; exact congrArg pure hb) rfl rfl
    | true =>
      obtain ⟨hb1, hb4⟩ := and_ hb
      obtain ⟨hb1, hb3⟩ := and_ hb1
      obtain ⟨hb1, hb2⟩ := and_ hb1
      have hsw : ∀ l, swapsWith (.ListComp a b s q) (some (.Name y px)) l X.env = pure true := fun l => by show (pure _ : Sem Bool) = _; exact congrArg pure hb
      cases m with
      | zero => cases h
      | succ m =>
        unfold chkE at h
        split at h
        all_goals first
          | (cases h; done)
          | (rename_i e; cases e; done)
          | skip
        rename_i elt own t it ifs f' tg ite tests sc pos' heq
        cases heq
        obtain ⟨h, h8⟩ := and_ h; obtain ⟨h, h7⟩ := and_ h; obtain ⟨h, h6⟩ := and_ h; obtain ⟨h, h5⟩ := and_ h; obtain ⟨h, h4⟩ := and_ h; obtain ⟨h, h3⟩ := and_ h; obtain ⟨h1, h2⟩ := and_ h
        obtain ⟨pi, fo⟩ := chk_items (tg := tg) ih c tk h6
        have bk := blkOk_by h1
        rw [← c.N, ← c.sc] at bk
        have hiN : X.N[i]? = some y := by
          unfold isTgt at ht
          rw [c.N]; exact eq_of_beq (and_ ht).1
        have ps := ps_setLc (i := i) (spos := pos) (tt := tT G W0 (testsL p.t ifs)) (te := tE G W0 (p.e elt)) (g := gT G.K t) c.gx.calm (by rw [c.N]; exact c.nd) hiN (eq_of_beq hb2) (hsw _) pi bk (fun s H C cl fp => chk_tg (c.blk s H _ cl C fp) h5)
          (fun s H C cl fp => lc_tests ih (c.blk s H _ cl C fp) takes0 (of_decide_eq_true h4) h7) (fun s H C cl fp => (ih m (inBlk Θ _) elt _ _ W0 (c.blk s H _ cl C fp) takes0 h8).pe) (fun x => fo _ x)
        rw [eq_of_beq h2] at ps
        exact psI ps fun D σV H q => lc_law (P := P) (eq_of_beq h3) q
  · exact ps_asg pe pg (sw_none (l := pos.line) (fun a b s q e => hl ⟨a, b, s, q, e⟩) (fun a b s q e => by rw [e, chk_nosc] at h; cases h) (fun a a2 b s q e => by rw [e, chk_nodc] at h; cases h)) rfl rfl
end
end Pv
/-! Pv16: the checker of statements; soundness of all statements. -/
namespace Pv
open PySem PySem.Spec PyProof.Rows L2
def notComp : Expr → Bool
  | .ListComp _ _ _ _ => false
  | .SetComp _ _ _ _ => false
  | .DictComp _ _ _ _ _ => false
  | _ => true
def notTup : Expr → Bool
  | .Tuple _ _ _ => false
  | _ => true
def isNmT (S : Sx) (i : Nat) (e : Expr) : Bool := match e with | .Name x _ => isTgt S i x | _ => false
def parC (S : Sx) (is : List Nat) (ts vs : List Expr) : Bool := swN S.sc ts vs || (swY S.sc ts vs && (match is, ts with
  | [i, j], [.Name x _, .Name y _] => i != j && isLoc S x && isLoc S y && parNames S.sc (swLine ts) ts == [x, y]
  | [i, j, l], [.Name x _, .Name y _, .Name z _] => i != j && i != l && j != l && isLoc S x && isLoc S y && isLoc S z && parNames S.sc (swLine ts) ts == [x, y, z]
  | _, _ => false))
def chkS : Nat → Gs → Sx → Q → Stmt → Bool
  | 0, _, _, _, _ => false
  | n + 1, Γ, S, q, st => match q, st with
    | .doc, .Expr (.Constant (.str _) _ _) _ => true
    | .pass, .Pass _ => true
    | .brk, .Break _ => true
    | .expr e, .Expr f _ => notComp f && chkE n Γ S e f
    | .asg (.nm i) e, .Assign [.Name x _] f _ => isTgt S i x && chkE n Γ S e f
    | .asg (.tp is) e, .Assign [.Tuple ts k p] f _ => chkT S (.tp is) (.Tuple ts k p) && notTup f && chkE n Γ S e f
    | .par is es, .Assign [.Tuple ts k p] (.Tuple vs _ _) _ => chkT S (.tp is) (.Tuple ts k p) && decide (es.length ≤ 1000) && parC S is ts vs && all2 (chkE n Γ S) es vs
    | .setix i j e, .Assign [.Subscript (.Name x _) fj _] f _ => plainIx fj && isSlot S i x && chkE n Γ S j fj && chkE n Γ S e f
    | .ifs c a b, .If f xs ys _ => chkE n Γ S c f && all2 (chkS n Γ S) a xs && all2 (chkS n Γ S) b ys
    | .for_ t it b, .For tg ite body [] _ => chkT S t tg && chkI S (chkE n Γ S) it ite && all2 (chkS n Γ S) b body
    | .whl c b, .While f body [] _ => chkE n Γ S c f && all2 (chkS n Γ S) b body
    | .ret e, .Return (some f) _ => chkE n Γ S e f
    | .raise c e, .Raise (some (.Call (.Name y _) [f] [] _)) none _ => (Γ.excs[c]? == some y) && gl S y && chkE n Γ S e f
    | .try_ b c ie io, .Try body [.ExceptHandler (some (.Name y _)) (some n') [.Assign [.Name xm _] (.Name n2 _) _] _] [] [] _ => n' == n2 && (Γ.excs[c]? == some y) && gl S y && ie != io && (S.N[ie]? == some n') && (S.N[io]? == some xm) && isLoc S n' && isLoc S xm &&
        !(n' == ("__debug__" : Str)) && !(n' == ("__classdict__" : Str)) && all2 (chkS n Γ S) b body
    | _, _ => false
section
variable {Γ : Gs} {G : Gk} {lv : Nat} {sps : Nat → Sp} {Θ : Sx} {X : Cx} {W : WX} {p : Ev} {P : Prg}
def SndS (Γ : Gs) (G : Gk) (lv : Nat) (sps : Nat → Sp) (p : Ev) : Prop :=
  ∀ (m : Nat) (Θ : Sx) (q : Q) (st : Stmt) (X : Cx) (W : WX), Ctx Γ G lv sps Θ X → Stx X W → chkS m Γ Θ q st = true → PS X st (tS G W (p.s q))
theorem sts_ok {m : Nat} (ih : SndS Γ G lv sps p) (c : Ctx Γ G lv sps Θ X) (hx : Stx X W) : ∀ {qs : List Q} {sts : List Stmt}, all2 (chkS m Γ Θ) qs sts = true → PSs X sts (tS G W (seqL p.s qs))
  | [], [], _ => pss_nilS
  | q :: qs, st :: sts, h => pss_consS (ih m Θ q st X W c hx (and_ h).1) (sts_ok ih c hx (and_ h).2)
  | [], _ :: _, h => by cases h
  | _ :: _, [], h => by cases h
theorem Ctx.tr (c : Ctx Γ G lv sps Θ X) (pn : List (Addr × Obj)) (xe : Value → Shared → Prop) : Ctx Γ G lv sps Θ (X.tr pn xe) :=
  { gx := ⟨c.gx.hu, c.gx.calm, c.gx.hd, c.gx.gd⟩, K := c.K, N := c.N, sc := c.sc, nd := c.nd, fn := c.fn, loc := c.loc, room := c.room, blt := c.blt, blt2 := c.blt2, xs := c.xs, cns := c.cns, fns := c.fns }
theorem loc_eq (c : Ctx Γ G lv sps Θ X) {x : Str} (h : isLoc Θ x = true) : Θ.sc.names.lookup x = some .local := eq_of_beq h
theorem tgt_N {i : Nat} {x : Str} (h : isTgt Θ i x = true) : Θ.N[i]? = some x := by
  unfold isTgt at h
  exact eq_of_beq (and_ h).1
theorem stm_step (ihE : SndN Γ G lv sps p) (ihA : AsgN Γ G lv sps p) (ihS : SndS Γ G lv sps p) (hlv : p.lv = lv) (ok : Ok Γ G P sps p.c) : ∀ (m : Nat) (Θ : Sx) (q : Q) (st : Stmt) (X : Cx) (W : WX), Ctx Γ G lv sps Θ X → Stx X W → chkS m Γ Θ q st = true → PS X st (tS G W (stepS P p q)) := by
  intro m Θ q st X W c hx h
  have tk := hx.tk
  cases m with
  | zero => cases h
  | succ m =>
    unfold chkS at h
    split at h
    · exact s_doc
    · exact s_pass
    · exact s_brk
    · rename_i e f pos
      obtain ⟨h1, h2⟩ := and_ h
      exact s_expr (ihE m Θ e f X W c tk h2).pe (by cases f <;> first | rfl | cases h1)
    · rename_i i e x px f pos
      obtain ⟨h1, h2⟩ := and_ h
      exact s_asg (ihA m Θ e f X W i x px pos c tk hx.kind h2 h1)
    · rename_i is e ts k p' f pos
      obtain ⟨h, h3⟩ := and_ h
      obtain ⟨h1, h2⟩ := and_ h
      exact s_asgT (ps_asg (ihE m Θ e f X W c tk h3).pe (chk_tg c h1) (by cases f <;> rfl) (sw_nonTuple fun a b d z => by rw [z] at h2; cases h2) rfl)
    · rename_i is es ts k p' vs k2 p2 pos
      obtain ⟨h, h4⟩ := and_ h
      obtain ⟨h, h3⟩ := and_ h
      obtain ⟨h1, h2⟩ := and_ h
      have hl : es.length ≤ line := Nat.le_trans (of_decide_eq_true h2) (by decide)
      unfold parC at h3
      rcases Bool.or_eq_true_iff.mp h3 with h3 | h3
      · exact s_par0 (fun _ _ _ q => q) hl (ps_asg (snd_tup (P := P) ihE c tk h4).pe (chk_tg c h1) rfl (swN_ok hx.kind (by rw [c.sc]; exact h3)) rfl)
      · obtain ⟨h5, h6⟩ := and_ h3
        have sw := swY_ok (k1 := k) (p1 := p') (k2 := k2) (p2 := p2) (vs := vs) (ts := ts) hx.kind (by rw [c.sc]; exact h5)
        have hlen : vs.length = ts.length := by
          unfold swY at h5
          simp only [Bool.and_eq_true, beq_iff_eq] at h5
          exact h5.1.1.1.2
        rw [c.sc] at sw
        split at h6
        · rename_i i j x px y py _ _ _
          obtain ⟨h6, h10⟩ := and_ h6
          obtain ⟨h6, h9⟩ := and_ h6
          obtain ⟨h7, h8⟩ := and_ h6
          rw [eq_of_beq h10] at sw
          have ht : isTgt Θ i x = true ∧ isTgt Θ j y = true := by
            obtain ⟨a, b⟩ := and_ h1
            exact ⟨a, (and_ b).1⟩
          match vs, hlen, es, h4 with
          | [fa, fb], _, [a, b], h4 => exact s_par2 c (es_pa ihE c tk h4) (tgt_N ht.1) (tgt_N ht.2) (by simpa using h7) (eq_of_beq h8) (eq_of_beq h9) sw
          | [fa, fb], _, [], h4 => cases h4
          | [fa, fb], _, [a], h4 => have := (and_ h4).2; cases this
          | [fa, fb], _, a :: b :: d :: r, h4 => have := (and_ (and_ h4).2).2; cases this
        · rename_i i j l x px y py z pz _ _ _
          obtain ⟨h6, h13⟩ := and_ h6
          obtain ⟨h6, h12⟩ := and_ h6
          obtain ⟨h6, h11⟩ := and_ h6
          obtain ⟨h6, h10⟩ := and_ h6
          obtain ⟨h6, h9⟩ := and_ h6
          obtain ⟨h7, h8⟩ := and_ h6
          rw [eq_of_beq h13] at sw
          have ht : isTgt Θ i x = true ∧ isTgt Θ j y = true ∧ isTgt Θ l z = true := by
            obtain ⟨a, b⟩ := and_ h1
            obtain ⟨b, d⟩ := and_ b
            exact ⟨a, b, (and_ d).1⟩
          match vs, hlen, es, h4 with
          | [fa, fb, fc], _, [a, b, d], h4 => exact s_par3 c (es_pa ihE c tk h4) (tgt_N ht.1) (tgt_N ht.2.1) (tgt_N ht.2.2) (by simpa using h7) (by simpa using h8) (by simpa using h9) (eq_of_beq h10) (eq_of_beq h11) (eq_of_beq h12) sw
          | [fa, fb, fc], _, [], h4 => cases h4
          | [fa, fb, fc], _, [a], h4 => have := (and_ h4).2; cases this
          | [fa, fb, fc], _, [a, b], h4 => have := (and_ (and_ h4).2).2; cases this
          | [fa, fb, fc], _, a :: b :: d :: e :: r, h4 => have := (and_ (and_ (and_ h4).2).2).2; cases this
        · cases h6
    · rename_i i j e x p1 fj p2 f pos
      obtain ⟨h, h4⟩ := and_ h
      obtain ⟨h, h3⟩ := and_ h
      obtain ⟨h1, h2⟩ := and_ h
      exact s_setix (ihE m Θ e f X W c tk h4).pe (isSlot_ok c h2) (ihE m Θ j fj X W c tk h3).pe (fun v => by cases fj <;> first | rfl | cases h1) (by cases f <;> rfl) (by cases f <;> rfl)
    · rename_i cc a b f xs ys pos
      obtain ⟨h, h3⟩ := and_ h
      obtain ⟨h1, h2⟩ := and_ h
      exact s_ifs (ihE m Θ cc f X W c tk h1).pt (sts_ok ihS c hx h2) (sts_ok ihS c hx h3)
    · rename_i t it b tg ite body pos
      obtain ⟨h, h3⟩ := and_ h
      obtain ⟨h1, h2⟩ := and_ h
      obtain ⟨pi, fo⟩ := chk_items (tg := tg) ihE c tk h2
      exact s_for c hx pi (chk_tg c h1) (sts_ok ihS c hx h3) fun x => fo _ x
    · rename_i cc b f body pos
      obtain ⟨h1, h2⟩ := and_ h
      exact s_whl hx (ihE m Θ cc f X W c tk h1).pt (sts_ok ihS c hx h2)
    · rename_i e f pos
      refine s_ret (fun i hv => ?_) (ihE m Θ e f X W c tk h).pe
      have hr := isVar_eq hv
      subst hr
      cases m with
      | zero => cases h
      | succ m =>
        cases f with
        | Name x pos => exact isSlot_ok c h
        | _ => cases h
    · rename_i k e y p1 f p2 p3
      obtain ⟨h, h3⟩ := and_ h
      obtain ⟨h1, h2⟩ := and_ h
      exact s_raise (k := 0) c hx hlv (ihE m Θ e f X W c tk h3).pe (chk_starEach h3) h1 h2
    · rename_i b k ie io body y p1 n' xm p2 n2 p3 p4 p5 p6
      obtain ⟨h, h11⟩ := and_ h; obtain ⟨h, h10⟩ := and_ h; obtain ⟨h, h9⟩ := and_ h; obtain ⟨h, h8⟩ := and_ h; obtain ⟨h, h7⟩ := and_ h; obtain ⟨h, h6⟩ := and_ h; obtain ⟨h, h5⟩ := and_ h; obtain ⟨h, h4⟩ := and_ h; obtain ⟨h, h3⟩ := and_ h; obtain ⟨h1, h2⟩ := and_ h
      rw [← eq_of_beq h1]
      exact s_try ok.exc c hx h2 h3 (by simpa using h4) (eq_of_beq h5) (eq_of_beq h6) (eq_of_beq h7) (eq_of_beq h8) (by simpa using h9) (by simpa using h10) fun W' pn xe tk' ps' => sts_ok ihS (c.tr pn xe) ⟨tk', ps', hx.kind, hx.stk, hx.frm, hx.ex⟩ h11
    · cases h
/-- evaluation within a def is sound -/
theorem evN_ok (hc : ∀ n, Ok Γ G P sps (evN P lv c n).c) : ∀ n : Nat, SndN Γ G lv sps (evN P lv c n) ∧ AsgN Γ G lv sps (evN P lv c n) ∧ SndS Γ G lv sps (evN P lv c n)
  | 0 => ⟨fun m Θ r e X W _ _ _ => ⟨⟨fun pins s σ H Q I ⟨B, σ', g, r, q⟩ => q.elim⟩, ⟨fun pins s σ H Q I ⟨B, σ', g, r, q⟩ => q.elim⟩⟩, fun m Θ r f X W i y px pos _ _ _ _ _ => ⟨fun pins s σ H D I ⟨B, σ', g, r, q⟩ => q.elim⟩,
      fun m Θ q st X W _ _ _ => ⟨fun pins s σ H D I ⟨B, σ', g, r, q⟩ => q.elim⟩⟩
  | n + 1 => by
    obtain ⟨h1, h2, h3⟩ := evN_ok hc n
    have e : (evN P lv c n).lv = lv := by cases n <;> rfl
    exact ⟨snd_step h1 (hc n), asg_step h1 (hc n), stm_step h1 h2 h3 e (hc n)⟩
end
end Pv
/-! Pv17: a def's body keeps its promise; all defs. -/
namespace Pv
open PySem PySem.Spec PyProof.Rows L2
section
variable {K : Frag} {A : ASet} {H H' : Hp}
theorem start_at (i : Nat) : ∀ (io : List Bool) (ds : List PyData), (Pv.start io ds)[i]? = (ds[i]?).map fun d => some (if io[i]? = some true then .io d else .pl d) := by
  induction i with
  | zero =>
    intro io ds
    cases ds with
    | nil => cases io <;> rfl
    | cons d ds =>
      cases io with
      | nil => rfl
      | cons b io => cases b <;> rfl
  | succ i ih =>
    intro io ds
    cases ds with
    | nil => cases io <;> rfl
    | cons d ds =>
      cases io with
      | nil => exact ih [] ds
      | cons b io => cases b <;> exact ih io ds
theorem start_len : ∀ (io : List Bool) (ds : List PyData), (Pv.start io ds).length = ds.length
  | _, [] => by cases ‹List Bool› <;> rfl
  | true :: io, d :: ds => by show (Pv.start io ds).length + 1 = _; rw [start_len io ds]; rfl
  | false :: io, d :: ds => by show (Pv.start io ds).length + 1 = _; rw [start_len io ds]; rfl
  | [], d :: ds => by show (Pv.start [] ds).length + 1 = _; rw [start_len [] ds]; rfl
theorem ArgL.get : ∀ {io : List Bool} {vs : List V} {ds : List PyData} {i : Nat} {d : PyData}, ArgL K A H io vs ds → ds[i]? = some d → ∃ v, vs[i]? = some v ∧ (io[i]? = some true → ∃ a, v = .ref a ∧ RootD K A H a d) ∧ (io[i]? ≠ some true → Rp K A H v d)
  | _, [], [], _, _, _, e => by simp at e
  | io, v :: vs, d0 :: ds, 0, d, h, e => by
    simp at e
    subst e
    refine ⟨v, rfl, fun q => ?_, fun q => ?_⟩
    · have h1 := h.1
      rw [if_pos (by rw [List.head?_eq_getElem?]; exact q)] at h1
      exact h1
    · have h1 := h.1
      rw [if_neg (by rw [List.head?_eq_getElem?]; exact q)] at h1
      exact h1
  | io, v :: vs, d0 :: ds, i + 1, d, h, e => by
    obtain ⟨u, h1, h2, h3⟩ := ArgL.get (i := i) h.2 (by simpa using e)
    rw [List.getElem?_tail] at h2 h3
    exact ⟨u, by simpa using h1, h2, h3⟩
  | _, [], _ :: _, _, _, h, _ => h.elim
  | _, _ :: _, [], _, _, h, _ => h.elim
theorem ArgL.len : ∀ {io : List Bool} {vs : List V} {ds : List PyData}, ArgL K A H io vs ds → vs.length = ds.length
  | _, [], [], _ => rfl
  | _, _ :: _, _ :: _, h => by simp [ArgL.len h.2]
  | _, [], _ :: _, h => h.elim
  | _, _ :: _, [], h => h.elim
theorem ioL_mem {α : Type} : ∀ {io : List Bool} {vs : List α} {i : Nat} {v : α}, io[i]? = some true → vs[i]? = some v → v ∈ ioL io vs
  | _, [], _, _, _, h => by simp at h
  | io, u :: vs, 0, v, h1, h2 => by
    simp at h2
    subst h2
    show _ ∈ (if io.head? = some true then u :: ioL io.tail vs else ioL io.tail vs)
    rw [if_pos (by rw [List.head?_eq_getElem?]; exact h1)]
    exact List.mem_cons_self
  | io, u :: vs, i + 1, v, h1, h2 => by
    have q := ioL_mem (io := io.tail) (vs := vs) (i := i) (v := v) (by rw [List.getElem?_tail]; exact h1) (by simpa using h2)
    show _ ∈ (if io.head? = some true then u :: ioL io.tail vs else ioL io.tail vs)
    split
    · exact List.mem_cons_of_mem _ q
    · exact q
theorem ioL_inj {α : Type} : ∀ {io : List Bool} {vs : List α} {i j : Nat} {v : α}, (ioL io vs).Nodup → io[i]? = some true → io[j]? = some true → vs[i]? = some v → vs[j]? = some v → i = j
  | _, [], _, _, _, _, _, _, h, _ => by simp at h
  | io, u :: vs, 0, 0, v, _, _, _, _, _ => rfl
  | io, u :: vs, 0, j + 1, v, nd, h1, h2, h3, h4 => by
    simp at h3
    subst h3
    have e : ioL io (u :: vs) = u :: ioL io.tail vs := if_pos (by rw [List.head?_eq_getElem?]; exact h1)
    rw [e] at nd
    exact ((List.nodup_cons.mp nd).1 (ioL_mem (i := j) (by rw [List.getElem?_tail]; exact h2) (by simpa using h4))).elim
  | io, u :: vs, i + 1, 0, v, nd, h1, h2, h3, h4 => by
    simp at h4
    subst h4
    have e : ioL io (u :: vs) = u :: ioL io.tail vs := if_pos (by rw [List.head?_eq_getElem?]; exact h2)
    rw [e] at nd
    exact ((List.nodup_cons.mp nd).1 (ioL_mem (i := i) (by rw [List.getElem?_tail]; exact h1) (by simpa using h3))).elim
  | io, u :: vs, i + 1, j + 1, v, nd, h1, h2, h3, h4 => by
    have nd' : (ioL io.tail vs).Nodup := by
      have z : (if io.head? = some true then u :: ioL io.tail vs else ioL io.tail vs).Nodup := nd
      split at z
      · exact (List.nodup_cons.mp z).2
      · exact z
    rw [ioL_inj (i := i) (j := j) nd' (by rw [List.getElem?_tail]; exact h1) (by rw [List.getElem?_tail]; exact h2) (by simpa using h3) (by simpa using h4)]
theorem ios_all : ∀ {io : List Bool} {s : S} {ios : List PyData}, iosOf io s = some ios → ∀ i : Nat, io[i]? = some true → ∃ d, s[i]? = some (some (Cell.io d))
  | [], s, ios, _, i, h => by simp at h
  | true :: io, some (.io d) :: s, ios, e, 0, h => ⟨d, rfl⟩
  | true :: io, some (.io d) :: s, ios, e, i + 1, h => by
    obtain ⟨r, e1, e2⟩ := Option.map_eq_some_iff.mp (show (iosOf io s).map (d :: ·) = some ios from e)
    obtain ⟨d', q⟩ := ios_all e1 i (by simpa using h)
    exact ⟨d', by simpa using q⟩
  | false :: io, x :: s, ios, e, 0, h => by simp at h
  | false :: io, x :: s, ios, e, i + 1, h => by
    have e1 : iosOf io s = some ios := by
      cases x with
      | none => exact e
      | some c => cases c <;> exact e
    obtain ⟨d', q⟩ := ios_all e1 i (by simpa using h)
    exact ⟨d', by simpa using q⟩
  | true :: io, [], ios, e, _, _ => by cases e
  | false :: io, [], ios, e, _, _ => by cases e
  | true :: io, none :: s, ios, e, _, _ => by cases e
  | true :: io, some (.pl _) :: s, ios, e, _, _ => by cases e
  | true :: io, some (.ow _) :: s, ios, e, _, _ => by cases e
  | true :: io, some (.ex _ _) :: s, ios, e, _, _ => by cases e
theorem ios_at : ∀ {io : List Bool} {s : S} {vs : List V} {ios : List PyData}, iosOf io s = some ios → io.length ≤ vs.length → (∀ (i : Nat) (d : PyData), io[i]? = some true → s[i]? = some (some (Cell.io d)) → ∃ a, vs[i]? = some (V.ref a) ∧ RootD K A H' a d) → IosAt K A H' io vs ios
  | [], s, vs, ios, e, _, _ => by cases e; rfl
  | true :: io, some (.io d) :: s, [], ios, e, h, _ => by simp at h
  | false :: io, _ :: s, [], ios, e, h, _ => by simp at h
  | true :: io, some (.io d) :: s, v :: vs, ios, e, h, k => by
    obtain ⟨r, e1, e2⟩ := Option.map_eq_some_iff.mp (show (iosOf io s).map (d :: ·) = some ios from e)
    subst e2
    obtain ⟨a, q1, q2⟩ := k 0 d rfl rfl
    exact ⟨⟨a, by simpa using q1, q2⟩, ios_at e1 (by simpa using h) fun i d' h1 h2 => by
      obtain ⟨a, z1, z2⟩ := k (i + 1) d' (by simpa using h1) (by simpa using h2)
      exact ⟨a, by simpa using z1, z2⟩⟩
  | false :: io, x :: s, v :: vs, ios, e, h, k => by
    have e1 : iosOf io s = some ios := by
      cases x with
      | none => exact e
      | some c => cases c <;> exact e
    exact ios_at (io := io) (s := s) e1 (by simpa using h) fun i d' h1 h2 => by
      obtain ⟨a, z1, z2⟩ := k (i + 1) d' (by simpa using h1) (by simpa using h2)
      exact ⟨a, by simpa using z1, z2⟩
  | true :: io, [], vs, ios, e, _, _ => by cases e
  | false :: io, [], vs, ios, e, _, _ => by cases e
  | true :: io, none :: s, vs, ios, e, _, _ => by cases e
  | true :: io, some (.pl _) :: s, vs, ios, e, _, _ => by cases e
  | true :: io, some (.ow _) :: s, vs, ios, e, _, _ => by cases e
  | true :: io, some (.ex _ _) :: s, vs, ios, e, _, _ => by cases e
end
/-- what the def's run stands upon -/
def vw0 (G : Gk) (Ex : ASet) (H : Hp) (io : List Bool) (vs : List V) : Vw := { K := G.K, H0 := H, io := fun i => if io[i]? = some true then (match vs[i]? with | some (.ref a) => some a | _ => none) else none, Ex := Ex, cls := G.cls }
section
variable {G : Gk} {Ex : ASet} {H : Hp} {io : List Bool} {vs : List V} {ds : List PyData} {n : Nat}
theorem vw0_io {i : Nat} {a : Addr} : (vw0 G Ex H io vs).io i = some a ↔ io[i]? = some true ∧ vs[i]? = some (.ref a) := by
  show (if io[i]? = some true then (match vs[i]? with | some (.ref a) => some a | _ => none) else none) = some a ↔ _
  constructor
  · intro h
    split at h
    · rename_i q
      split at h
      · rename_i b e
        cases h
        exact ⟨q, e⟩
      · cases h
    · cases h
  · rintro ⟨h1, h2⟩
    rw [if_pos h1, h2]
theorem rep0 (h : ArgsAt G.K Ex H io vs ds) : Rep (vw0 G Ex H io vs) H (Pv.start io ds ++ List.replicate n none) (vs.map some ++ List.replicate n none) := by
  have hl := h.at_.len
  have cellAt : ∀ (i : Nat) (c : Cell), (Pv.start io ds ++ List.replicate n none)[i]? = some (some c) → ∃ d, ds[i]? = some d ∧ c = if io[i]? = some true then Cell.io d else Cell.pl d := fun i c e => by
    by_cases hi : i < ds.length
    · rw [List.getElem?_append_left (by rw [start_len]; exact hi), start_at] at e
      obtain ⟨d, hd, q⟩ := Option.map_eq_some_iff.mp e
      exact ⟨d, hd, (Option.some.inj q).symm⟩
    · rw [List.getElem?_append_right (by rw [start_len]; omega)] at e
      rw [List.getElem?_replicate] at e
      split at e <;> cases e
  have slotAt : ∀ (i : Nat) (v : V), vs[i]? = some v → (vs.map some ++ List.replicate n none)[i]? = some (some v) := fun i v e => by
    have hi : i < vs.length := (List.getElem?_eq_some_iff.mp e).1
    rw [List.getElem?_append_left (by simpa using hi), List.getElem?_map, e]; rfl
  have rtAt : ∀ (i : Nat) (a : Addr), Rt (Pv.start io ds ++ List.replicate n none) (vs.map some ++ List.replicate n none) i a → io[i]? = some true ∧ vs[i]? = some (.ref a) := fun i a ⟨⟨d, hd⟩, hv⟩ => by
    have key : ∃ c d', ds[i]? = some d' ∧ c = (if io[i]? = some true then Cell.io d' else .pl d') ∧ (c = .ow d ∨ c = .io d) := by
      rcases hd with hd | hd
      · obtain ⟨d', q1, q2⟩ := cellAt i _ hd; exact ⟨_, d', q1, q2, .inl rfl⟩
      · obtain ⟨d', q1, q2⟩ := cellAt i _ hd; exact ⟨_, d', q1, q2, .inr rfl⟩
    obtain ⟨c, d', q1, q2, q3⟩ := key
    have hio : io[i]? = some true := by
      by_cases z : io[i]? = some true
      · exact z
      · rw [if_neg z] at q2
        subst q2
        rcases q3 with q3 | q3 <;> cases q3
    obtain ⟨v, e1, _⟩ := h.at_.get q1
    rw [slotAt i v e1] at hv
    cases hv
    exact ⟨hio, e1⟩
  have av : ∀ b, Av (vw0 G Ex H io vs) (Pv.start io ds ++ List.replicate n none) (vs.map some ++ List.replicate n none) b → Ex b ∨ IoA io vs b := fun b z => by
    rcases z with ⟨i, z⟩ | z
    · obtain ⟨q1, q2⟩ := rtAt i b z
      exact .inr (ioL_mem q1 q2)
    · exact .inl z
  refine ⟨by rw [List.length_append, List.length_append, start_len, List.length_map, hl, List.length_replicate, List.length_replicate], fun i c e => ?_, fun i j a x y => ?_, fun a ⟨i, z⟩ => ?_, fun _ e => e, fun _ _ e _ => e, fun b hb => h.nt b (av b hb), h.exT⟩
  · obtain ⟨d, hd, rfl⟩ := cellAt i c e
    obtain ⟨v, e1, e2, e3⟩ := h.at_.get hd
    refine ⟨v, slotAt i v e1, ?_⟩
    by_cases z : io[i]? = some true
    · rw [if_pos z]
      obtain ⟨a, rfl, r⟩ := e2 z
      exact ⟨a, rfl, r.weak av, vw0_io.mpr ⟨z, e1⟩⟩
    · rw [if_neg z]
      exact (e3 z).weak av
  · obtain ⟨p1, p2⟩ := rtAt i a x
    obtain ⟨p3, p4⟩ := rtAt j a y
    exact ioL_inj h.inj p1 p3 p2 p4
  · obtain ⟨p1, p2⟩ := rtAt i a z
    exact h.ex a (ioL_mem p1 p2)
theorem ex_ret {σ' : S} {σV' : L2.St} {H' : Hp} {ios : List PyData} (hv : io.length ≤ vs.length) (r : Rep (vw0 G Ex H io vs) H' σ' σV') (e : iosOf io σ' = some ios) :
    Kp (IoA io vs) H H' ∧ (∀ b, Ex b ∨ IoA io vs b → Av (vw0 G Ex H io vs) σ' σV' b) ∧ IosAt G.K (fun b => Ex b ∨ IoA io vs b) H' io vs ios := by
  have up : ∀ b, Ex b ∨ IoA io vs b → Av (vw0 G Ex H io vs) σ' σV' b := fun b z => by
    rcases z with z | z
    · exact .inr z
    · obtain ⟨i, h1, h2⟩ : ∃ i : Nat, io[i]? = some true ∧ vs[i]? = some (V.ref b) := by
        clear r e hv
        revert z
        unfold IoA
        induction vs generalizing io with
        | nil => intro z; cases io <;> simp [ioL] at z
        | cons v vs ihv =>
          intro z
          have z : V.ref b ∈ (if io.head? = some true then v :: ioL io.tail vs else ioL io.tail vs) := z
          split at z
          · rename_i q
            rcases List.mem_cons.mp z with z | z
            · exact ⟨0, by rw [← List.head?_eq_getElem?]; exact q, by rw [z]; rfl⟩
            · obtain ⟨i, h1, h2⟩ := ihv z
              exact ⟨i + 1, by rw [List.getElem?_tail] at h1; exact h1, by simpa using h2⟩
          · obtain ⟨i, h1, h2⟩ := ihv z
            exact ⟨i + 1, by rw [List.getElem?_tail] at h1; exact h1, by simpa using h2⟩
      obtain ⟨d, hd⟩ := ios_all e i h1
      obtain ⟨a, ev, rt, _, ha⟩ := r.rt_io hd
      obtain ⟨_, z2⟩ := vw0_io.mp ha
      rw [h2] at z2
      cases z2
      exact .inl ⟨i, rt⟩
  refine ⟨⟨fun b o q n => r.kp b o q fun i z => ?_, r.ext⟩, up, ios_at e hv fun i d h1 h2 => ?_⟩
  · obtain ⟨z1, z2⟩ := vw0_io.mp z
    exact n (ioL_mem z1 z2)
  · obtain ⟨a, ev, rt, hr, ha⟩ := r.rt_io h2
    exact ⟨a, (vw0_io.mp ha).2, hr.weak up⟩
theorem ex_ret2 {σ' : S} {σV' : L2.St} {H' : Hp} {ios : List PyData} {a0 : Addr} (hv : io.length ≤ vs.length) (r : Rep (vw0 G Ex H io vs) H' σ' σV') (r2 : Rep ((vw0 G Ex H io vs).ex a0) H' σ' σV') (e : iosOf io σ' = some ios) :
    IosAt G.K (fun b => (Ex b ∨ IoA io vs b) ∨ b = a0) H' io vs ios := by
  obtain ⟨_, up, _⟩ := ex_ret hv r e
  refine ios_at e hv fun i d h1 h2 => ?_
  obtain ⟨a, ev, rt, hr, ha⟩ := r2.rt_io h2
  exact ⟨a, (vw0_io.mp ha).2, hr.weak fun b z => z.elim (fun y => (up b y).elim .inl fun x => .inr (.inl x)) fun y => .inr (.inr y)⟩
/-- a def's body: from the evaluator's answer to the promise -/
theorem body_law {P : Prg} {p : Ev} {fd : FnD} {Q : VK} {E : XK} {W : WX} (hW : W = fun cls d _ H => E cls d H) (hns : fd.ns = n + fd.np) (h : spF G fd.np fd.io (runF p fd) vs H Q E) :
    tS G W (seqL p.s fd.body) { nx := fun _ H' => Q .non H', rt := Q } (vs.map some ++ List.replicate n none) H := by
  obtain ⟨Ex, ds, hnp, ha, q⟩ := h
  subst hW
  unfold runF at q
  have en : fd.ns - fd.np = n := by omega
  rw [en] at q
  by_cases h0 : ds.length ≠ fd.np ∨ fd.io.length ≠ fd.np
  · rw [if_pos h0] at q
    exact q.elim
  · rw [if_neg h0] at q
    have hlen : ds.length = fd.np ∧ fd.io.length = fd.np := by
      constructor
      · exact Classical.byContradiction fun z => h0 (.inl z)
      · exact Classical.byContradiction fun z => h0 (.inr z)
    have hv : fd.io.length ≤ vs.length := by rw [hlen.2, hnp]; exact Nat.le_refl _
    refine ⟨vw0 G Ex H fd.io vs, _, ⟨rfl, rfl⟩, rep0 (n := n) ha, ?_⟩
    cases e : seqL p.s fd.body (Pv.start fd.io ds ++ List.replicate n none) with
    | bad => rw [e] at q; exact q
    | err c v s =>
      rw [e] at q
      dsimp only at q
      cases ei : iosOf fd.io s with
      | none => rw [ei] at q; exact q.elim
      | some ios =>
        rw [ei] at q
        intro C dx w σV' H' hc r st edx ndx hw
        obtain ⟨k, up, hi⟩ := ex_ret hv r ei
        exact q C dx w H' hc k hi edx (fun z => ndx (up dx z)) (hw.weak up)
    | ok fl s =>
      rw [e] at q
      dsimp only at q
      cases ei : iosOf fd.io s with
      | none => rw [ei] at q; exact q.elim
      | some ios =>
        rw [ei] at q
        intro σV' H' r st
        obtain ⟨k, up, hi⟩ := ex_ret hv r ei
        cases fl with
        | nx => exact q .non H' k ⟨.non, hi⟩
        | bk => exact q.elim
        | ct => exact q.elim
        | rt d f =>
          intro v hr
          refine q v H' k ?_
          cases f with
          | false => exact ⟨hr.weak up, hi⟩
          | true =>
            obtain ⟨a, rfl, h0, na, r2, hd⟩ := hr
            exact ⟨a, rfl, h0, hd.weak fun b z => z.elim (fun y => (up b y).elim .inl fun x => .inr (.inl x)) fun y => .inr (.inr y), ex_ret2 hv r r2 ei⟩
end
end Pv
/-! Pv18: all defs of the module. -/
namespace Pv
open PySem PySem.Spec PyProof.Rows L2
section
variable {Pr : Program} {w : World} {K : Frag} {mg : Str → Option Value} {base : Heap}
/-- a def of the text, by its body, nothing being shown -/
theorem fnG_of {k : Nat} {f : Addr} {name qual : Str} {params : Arguments} {body : List Stmt} {scope : Scope} {dV kV doc pm cdv ct oc : Value} {an od : Option Addr} {osl : Array (Option Value)} {N ps : List Str} {sp : Sp}
    (lk : K.lookup f = some ⟨oc, od, .func (PySem.W.fnOf name qual params body scope dV kV doc pm an cdv ct), osl⟩) (hcd : PySem.W.codeIn K cdv qual = true) (Sc : FnScope N ps scope) (len : ∀ vs H Q E, sp vs H Q E → vs.length = ps.length)
    (hb : ∀ (A : Around) (outer : List Env) (s : Shared) (H : Hp) (vs : List V) (Q : VK) (E : XK), A.guards = some [] → Room k (A.deeper (envOfC qual scope s.heap.objs.size f cdv)) → sp vs H Q E →
      ∃ t, PSs (cxOf (L2.CX Pr w) Pr w K mg base N qual scope f cdv A outer s H E) body t ∧ t { nx := fun _ H' => Q .non H', rt := Q } (L2.start N vs) H) :
    FnG Pr w K mg base (k + 1) f (PySem.W.fnOf name qual params body scope dV kV doc pm an cdv ct) ps sp := by
  refine ⟨len, fun A outer s H args us vs Q E hg hr e0 bt r hsp => ?_⟩
  have hl := len vs H Q E hsp
  have kin : K.In s.heap := e0.mod.kin.keeps fun b o e => (e0.bs b o e).1
  have lim : s.heap.NoLimit := e0.mod.nolimit.keeps fun b o e => (e0.bs b o e).1
  have hk : ∀ y ∈ ps.zip us, scope.names.lookup y.1 = some .local ∨ (scope.names.lookup y.1 = some .cell ∧ ((cellsFrom (s.heap.objs.size + 1) scope.names []).lookup y.1).isSome = true) := by
    rintro ⟨x, v⟩ hy
    exact (Sc.par x (List.of_mem_zip hy).1).imp id fun q => ⟨q, PySem.W.cellsFrom_some _ _ _ (.inl q)⟩
  refine codeAny_call_function hr.depth (kin _ _ lk) rfl Sc.co Sc.gen rfl (PySem.W.codeRec_of kin hcd) (bt _ _ _ _ (wpAny_newFunctionEnv_cells Sc.kind hk fun env he s1 x => ?_))
  subst he
  obtain ⟨t, pt, ht⟩ := hb A outer s H vs Q E hg (hr.deeper _) hsp
  have I := inv_start (CX := L2.CX Pr w) (P := Pr) (w := w) (E := E) Sc hr.hd e0 hl r x
  refine ⟨lim.keeps x.toInCall.keep, codeAny_func (wpAny_mono (pt.run [] s1 (L2.start N vs) H _ I ht) (fun fl s2 hs => ?_) fun e s2 hs => hs)⟩
  match fl, hs with
  | .ret u, hs =>
    obtain ⟨v, σ2, H2, J, rv, q⟩ := hs
    exact ⟨v, H2, J.os, J.bare, J.base, J.hok, rv, q⟩
  | .next, hs =>
    obtain ⟨σ2, H2, J, q⟩ := hs
    exact ⟨.non, H2, J.os, J.bare, J.base, J.hok, rfl, q⟩
  | .brk, hs => obtain ⟨_, _, _, q⟩ := hs; exact q.elim
  | .cont, hs => obtain ⟨_, _, _, q⟩ := hs; exact q.elim
theorem fnG_false {f : Addr} {fd : FuncData} {ps : List Str} {sp : Sp} {k : Nat} (h : ∀ vs H Q E, ¬ sp vs H Q E) : FnG Pr w K mg base k f fd ps sp := ⟨fun vs H Q E q => (h vs H Q E q).elim, fun A outer s H args us vs Q E _ _ _ _ _ q => (h vs H Q E q).elim⟩
/-- what the module says of the def number f -/
structure DefAt (Γ : Gs) (K : Frag) (mg : Str → Option Value) (f : Nat) (fn : FnD) (x : Str) (ps : List Str) : Prop where
  ex : ∃ (fa : Addr) (name qual : Str) (params : Arguments) (body : List Stmt) (scope : Scope) (dV kV doc pm cdv ct oc : Value) (an od : Option Addr) (osl : Array (Option Value)) (N : List Str) (m : Nat),
    FnAt K mg x ps (kcsOf Γ f) fa (PySem.W.fnOf name qual params body scope dV kV doc pm an cdv ct) ∧ K.lookup fa = some ⟨oc, od, .func (PySem.W.fnOf name qual params body scope dV kV doc pm an cdv ct), osl⟩ ∧ PySem.W.codeIn K cdv qual = true ∧ FnScope N ps scope ∧
    all2 (chkS m Γ ⟨N, scope, scope⟩) fn.body body = true ∧ fn.np = ps.length ∧ fn.ns = N.length
structure ModG (Γ : Gs) (G : Gk) (P : Prg) (Pr : Program) (K : Frag) (mg : Str → Option Value) : Prop where
  KG : K = G.K
  blt : ∀ b, mg (biName b) = none
  blt2 : ∀ x ∈ (["range", "isinstance", "int", "bool", "str", "tuple", "list"] : List Str), mg x = none
  xs : Xs Γ G K Pr mg
  cns : ∀ x i, Γ.cns.lookup x = some i → ∃ t, mg x = some (.int i t)
  df : ∀ f x ps, Γ.fns[f]? = some (x, ps) → ∃ fn, P.fns[f]? = some fn ∧ DefAt Γ K mg f fn x ps
  exc : P.exc = Γ.ups
def spK (G : Gk) (P : Prg) (k f : Nat) : Sp := match P.fns[f]? with
  | some fd => spF G fd.np fd.io (runK P k f)
  | none => fun _ _ _ _ => False
theorem fnG_all {Γ : Gs} {G : Gk} {P : Prg} (M : ModG Γ G P Pr K mg) : ∀ (k f : Nat) (x : Str) (ps : List Str), Γ.fns[f]? = some (x, ps) → ∃ fa fd, (FnAt K mg x ps (kcsOf Γ f) fa fd ∧ ∃ o, K.lookup fa = some o ∧ o.data = .func fd) ∧ FnG Pr w K mg base k fa fd ps (spK G P k f)
  | 0, f, x, ps, h => by
    obtain ⟨fn, hP, fa, name, qual, params, body, scope, dV, kV, doc, pm, cdv, ct, oc, an, od, osl, N, m, at_, lk, _⟩ := M.df f x ps h
    refine ⟨fa, _, ⟨at_, _, lk, rfl⟩, fnG_false fun vs H Q E q => ?_⟩
    unfold spK at q
    rw [hP] at q
    obtain ⟨_, _, _, _, q⟩ := q
    exact q
  | k + 1, f, x, ps, h => by
    obtain ⟨fn, hP, fa, name, qual, params, body, scope, dV, kV, doc, pm, cdv, ct, oc, an, od, osl, N, m, at_, lk, hcd, Sc, chk, hnp, hns⟩ := M.df f x ps h
    have hsp : spK G P (k + 1) f = spF G fn.np fn.io (runF (evN P k (runK P k) deep) fn) := by
      unfold spK
      rw [hP]
      have e : (runK P (k + 1) f) = runF (evN P k (runK P k) deep) fn := by
        funext ds
        show (match P.fns[f]? with | none => CRes.bad | some fd => runF (evN P k (runK P k) deep) fd ds) = _
        rw [hP]
      dsimp only
      rw [e]
    rw [hsp]
    refine ⟨fa, _, ⟨at_, _, lk, rfl⟩, fnG_of lk hcd Sc (fun vs H Q E q => ?_) fun A outer s H vs Q E hg hr q => ?_⟩
    · obtain ⟨_, _, q, _⟩ := q
      rw [q, hnp]
    · have hlen : vs.length = ps.length := by
        obtain ⟨_, _, q, _⟩ := q
        rw [q, hnp]
      have hpl : ps.length ≤ N.length := by
        have e := congrArg List.length Sc.pre
        rw [List.length_take] at e
        omega
      have ok : ∀ n, Ok Γ G P (spK G P k) (evN P k (runK P k) n).c := fun n => by
        have e : (evN P k (runK P k) n).c = runK P k := by cases n <;> rfl
        rw [e]
        refine ⟨fun f fd hf => by unfold spK; rw [hf], fun f fd x ps h1 h2 => ?_, M.exc⟩
        obtain ⟨fn', hP', _, _, _, _, _, _, _, _, _, _, _, _, _, _, _, _, _, _, _, _, _, _, _, hnp', _⟩ := M.df f x ps h2
        rw [h1] at hP'
        cases hP'
        exact hnp'
      have cx : Ctx Γ G k (spK G P k) ⟨N, scope, scope⟩ (cxOf (L2.CX Pr w) Pr w K mg base N qual scope fa cdv A outer s H E) :=
        { gx := ⟨by have := hr.un; show (A.deeper _).units + 150 < cLine; omega, rfl, hr.hd, hg⟩, K := M.KG, N := rfl, sc := rfl, nd := Sc.nd, fn := fun _ _ => rfl, loc := fun _ _ _ q => q, room := hr, blt := M.blt, blt2 := M.blt2, xs := M.xs, cns := M.cns,
          fns := fun f x ps h => let ⟨fa, fd, a, b⟩ := fnG_all M k f x ps h; ⟨fa, fd, a.1, b⟩ }
      have sx : Stx (cxOf (L2.CX Pr w) Pr w K mg base N qual scope fa cdv A outer s H E) (fun cls d _ H => E cls d H) := ⟨takes_of rfl rfl rfl rfl, passes_of rfl, Sc.kind, rfl, rfl, rfl⟩
      have st := sts_ok (evN_ok ok deep).2.2 cx sx chk
      refine ⟨_, st, ?_⟩
      have e : L2.start N vs = vs.map some ++ List.replicate (N.length - vs.length) none := rfl
      rw [e]
      exact body_law (P := P) rfl (by rw [hns, hnp]; omega) q
end
end Pv
/-! Pv19: the end: the law's def called. -/
namespace Pv
open PySem PySem.Spec PyProof.Rows L2
section
variable {Pr : Program} {w : World} {K : Frag} {mg mb : Str → Option Value}
def intsP (ns : List Int) : PyData := .list (ns.map PyData.int)
theorem rps_ints {A : ASet} {H : Hp} : ∀ ns : List Int, Rps K A H (ns.map V.int) (ns.map PyData.int)
  | [] => .nil
  | n :: ns => .cons (.int n) (rps_ints ns)
/-- the promise, at the script -/
theorem sp_at {G : Gk} {P : Prg} {k f : Nat} {fd : FnD} {H : Hp} {a : Addr} {ns : List Int} {fr : Bool} {ios : List PyData} (hf : P.fns[f]? = some fd) (hnp : fd.np = 1) (hio : fd.io = [false]) (hl : ∀ A, ¬ A a → LsAt G.K A H a (ns.map V.int)) (ha : runK P k f [intsP ns] = .ret (.bool true) fr ios) :
    spK G P k f [.ref a] H (fun v _ => v = .bl true) fun _ _ _ => False := by
  unfold spK
  rw [hf]
  dsimp only
  rw [hnp, hio]
  have no : ∀ b, ¬ IoA [false] [V.ref a] b := fun b z => by simp [IoA, ioL] at z
  refine ⟨fun _ => False, [intsP ns], rfl, ⟨⟨?_, trivial⟩, by simp [ioL], fun b z => (no b z).elim, fun b z => (z.elim id (no b)).elim, fun b z => z.elim⟩, ?_⟩
  · rw [if_neg (by simp)]
    exact .lst (hl _ fun z => z.elim id (no a)) (rps_ints ns)
  · rw [ha]
    intro v H' _ hr
    cases fr with
    | false =>
      have h := (show Rp G.K _ H' v (.bool true) ∧ _ from hr).1
      cases h
      rfl
    | true =>
      obtain ⟨b, _, _, h, _⟩ := (show ∃ b, v = .ref b ∧ H b = none ∧ RootD G.K _ H' b (.bool true) ∧ _ from hr)
      exact h.elim
theorem pv_call {k : Nat} {fa a : Addr} {fd : FuncData} {x : Str} {sp : Sp} {s1 : Shared} {vs : List Value} {ns : List Int} (KX : K.In s1.heap) (hns : s1.heap.Ns mainGlobals mg) (hb : s1.heap.Ns builtinsNs mb) (hbb : ∀ x : Str, x ≠ "__name__" → mb x = bootBuiltins x) (hlim : s1.heap.NoLimit) (hg : s1.gens = #[])
    (ha : s1.heap.get? a = some { cls := .type "list", data := .seq vs.toArray }) (hi : IntsAre vs ns) (hl : ns.length ≤ sizeLine) (hr : Room k callerA) (F : ∀ base : Heap, FnG Pr w K mg base k fa fd [x] sp) (hbind : BindsTo s1 fd ⟨[.ref a], []⟩ [(x, .ref a)])
    (hsp : ∀ H : Hp, (∀ A, ¬ A a → LsAt K A H a (ns.map V.int)) → sp [.ref a] H (fun v _ => v = .bl true) fun _ _ _ => False) :
    codeAny (model Pr w) callerA (.call (.ref fa) ⟨[.ref a], []⟩) (fun r s' => r = .ok (.ret (.bool true)) ∧ OldK s1.heap s'.heap ∧ s'.os = s1.os ∧ AllBare s'.gens) s1 := by
  have rv := vals_ints hi
  have lenV := hi.length
  have main : ∀ H : Hp, Only H → (∀ A, ¬ A a → LsAt K A H a (ns.map V.int)) → HOk Pr w H s1.heap → (∀ b, H b ≠ none → b = a) → (H a ≠ none → K.lookup a = none) →
      codeAny (model Pr w) callerA (.call (.ref fa) ⟨[.ref a], []⟩) (fun r s' => r = .ok (.ret (.bool true)) ∧ OldK s1.heap s'.heap ∧ s'.os = s1.os ∧ AllBare s'.gens) s1 := by
    intro H only hL hok one hK
    have isA : ∀ {b : Addr} {u : HO}, H b = some u → b = a := fun {b u} q => one b (by rw [q]; exact fun z => by cases z)
    have dictFree : ∀ {b : Addr} {o : Obj} {es : Array DictEntry} {ep : Nat}, s1.heap.get? b = some o → o.data = .dict es ep → H b = none := fun {b o es ep} e d => by
      cases q : H b with
      | none => rfl
      | some u =>
        have e2 := isA q
        subst e2
        rw [ha] at e; cases e
        cases (show Data.seq vs.toArray _ = Data.dict es ep from d)
    have nsH : ∀ {b : Addr} {m : Str → Option Value}, s1.heap.Ns b m → (hidT s1.heap H).Ns b m := fun {b m} ⟨o, es, ep, e, d, r⟩ => ⟨o, es, ep, hidT_get e (dictFree e d), d, r⟩
    have inH : K.In (hidT s1.heap H) := fun b o e => hidT_get (KX b o e) (by
      cases q : H b with
      | none => rfl
      | some u =>
        have e2 := isA q
        subst e2
        rw [hK (by rw [q]; exact fun z => by cases z)] at e
        cases e)
    obtain ⟨mc, c1, c2⟩ := hlim
    have e0 : Env0 Pr w K mg (hidT s1.heap H) callerA [] s1 H := ⟨rfl, ⟨inH, nsH hns, ⟨mb, nsH hb, hbb⟩, ⟨mc, nsH c1, c2⟩⟩, fun b o e => of_hidT e, Nat.le_of_eq (hidT_size _ _), trivial, fun b hb => (by cases hb), hok, .of_eq hg⟩
    refine codeAny_mono ((F _).run callerA [] s1 H ⟨[.ref a], []⟩ [.ref a] [.ref a] _ _ rfl hr e0 hbind (.cons rfl .nil) (hsp H hL)) fun res s2 h => ?_
    match res, h with
    | .error e, h =>
      obtain ⟨_, _, _, _, _, _, _, _, _, _, _, _, z⟩ := (show L2.CX Pr w [] H s1 (fun _ _ _ => False) e s2 from h)
      exact z.elim
    | .ok (.ret u), h =>
      obtain ⟨v, H2, os, bare, un, hok2, rr, q⟩ := (show CE [] Pr w H s1 (fun v _ => v = .bl true) u s2 from h)
      subst q
      obtain rfl : u = Value.bool true := rr
      refine ⟨rfl, OldK.of_keep fun b o e => ?_, os, bare⟩
      cases q : H b with
      | none => exact un.keep b o e q (fun z => by cases z) (fun z => by cases z)
      | some u =>
        rcases only b with z | ⟨ob, xs, z⟩
        · rw [q] at z; cases z
        · obtain ⟨e1, _⟩ := hok b _ z
          obtain ⟨e2, _⟩ := hok2 b _ (un.frzs b ob _ z)
          rw [e] at e1; cases e1
          exact e2
  cases hk : K.lookup a with
  | some o =>
    have e := KX a o hk
    rw [ha] at e
    cases e
    refine main (fun _ => none) (fun _ => .inl rfl) (fun A _ => .inr ⟨vs.toArray, 0, hk, by rw [List.size_toArray, lenV]; exact hl, by simpa using rv⟩) (fun b u z => by cases z) (fun b z => (z rfl).elim) fun z => (z rfl).elim
  | none =>
    have at_ : ∀ b, b = a → (if b = a then some (HO.frz { cls := .type "list", data := .seq vs.toArray } (.lst (ns.map V.int))) else none) = some (HO.frz { cls := .type "list", data := .seq vs.toArray } (.lst (ns.map V.int))) := fun b e => if_pos e
    refine main (fun b => if b = a then some (HO.frz { cls := .type "list", data := .seq vs.toArray } (.lst (ns.map V.int))) else none) (fun b => ?_) (fun A n => .inl ⟨.inr ⟨_, at_ a rfl⟩, n⟩) (fun b u z => ?_) (fun b z => ?_) fun _ => hk
    · by_cases hb : b = a
      · exact .inr ⟨_, _, at_ b hb⟩
      · exact .inl (if_neg hb)
    · by_cases hb : b = a
      · have z2 := (at_ b hb).symm.trans z
        cases z2
        subst hb
        exact ⟨ha, by rw [List.length_map]; exact hl, vs, _, rv, ha⟩
      · cases (if_neg hb).symm.trans z
    · exact Classical.byContradiction fun hb => z (if_neg hb)
/-- the goal behind the head, from the evaluator's answer -/
theorem pv_walk {l : PySem.W.OpenLaw} {n k f : Nat} {q : Program} {loose : List Str} {XP : (Str → Option Value) → Heap → Prop} {YP : World → Heap → Prop} {d : DefRec} {K : Params → Frag} {x : Str} {Γ : Gs} {P : Prg} {fn : FnD}
    (hn : l.most = some n) (hn2 : n ≤ sizeLine) (hdf : d.params.defaults = []) (hr : Room k callerA) (hY : ∀ (w : World) (h : Heap), YP w h → (K w.params).In h) (hΓ : Γ.fns[f]? = some (d.name, [x])) (hP : P.fns[f]? = some fn) (hnp : fn.np = 1) (hio : fn.io = [false])
    (F : ∀ (w : World) (mg : Str → Option Value) (h : Heap), (K w.params).In h → h.Ns mainGlobals mg → ∃ G : Gk, ModG Γ G P l.prog (K w.params) mg)
    (ans : ∀ ns : List Int, ns.length ≤ n → ∃ fr ios, runK P k f [intsP ns] = .ret (.bool true) fr ios) :
    PySem.W.WalkO q loose XP YP l.row.toRowW d [] (fun f vs => PySem.call f vs) := by
  refine Att.attach_call hn hdf fun w s0 s1 mg mb fa o pm cd doc a vs ns Gr Y ho hd hcd hmg hobj hints hlen hg => ?_
  have KX := hY w _ Y
  obtain ⟨G, M⟩ := F w mg _ KX Gr.T.g
  obtain ⟨fr, ios, ha⟩ := ans ns hlen
  have all : ∀ base : Heap, ∃ fa fd, (FnAt (K w.params) mg d.name [x] (kcsOf Γ f) fa fd ∧ ∃ o, (K w.params).lookup fa = some o ∧ o.data = .func fd) ∧ FnG l.prog w (K w.params) mg base k fa fd [x] (spK G P k f) := fun base => fnG_all M k f d.name [x] hΓ
  obtain ⟨fa0, fd0, ⟨at0, o0, lk0, e0⟩, _⟩ := all s1.heap
  have e1 : fa0 = fa := by
    have z := at0.mg_.symm.trans hmg
    cases z
    rfl
  subst e1
  have same : ∀ base : Heap, FnG l.prog w (K w.params) mg base k fa0 fd0 [x] (spK G P k f) := fun base => by
    obtain ⟨fa2, fd2, ⟨at2, o2, lk2, e2⟩, g2⟩ := all base
    have z := at2.mg_.symm.trans hmg
    cases z
    rw [lk0] at lk2
    cases lk2
    rw [e0] at e2
    cases e2
    exact g2
  have bt := at0.binds s1 [.ref a] KX rfl
  exact pv_call KX Gr.T.g Gr.T.b Gr.T.builtins Gr.T.nolimit hg hobj hints (Nat.le_trans hlen hn2) hr same bt fun H hL => sp_at hP hnp hio (fun A n => by rw [← M.KG]; exact hL A n) ha
end
end Pv
/-! Pv20: the module's facts from checks. -/
namespace Pv
open PySem PySem.Spec PyProof.Rows L2
structure DefS where
  name : Str
  ps : List Str
  N : List Str
  top : Nat
deriving Inhabited
def scB (N ps : List Str) (sc : Scope) : Bool := (match sc.kind with | .function => true | _ => false) && !sc.isCoroutine && !sc.isGenerator && decide N.Nodup && decide (N.take ps.length = ps) &&
  (ps.all fun x => sc.names.lookup x == some NameKind.local || sc.names.lookup x == some NameKind.cell) && (sc.names.all fun y => y.2 != NameKind.free)
theorem scB_ok {N ps : List Str} {sc : Scope} (h : scB N ps sc = true) : FnScope N ps sc := by
  unfold scB at h
  obtain ⟨h, h7⟩ := and_ h
  obtain ⟨h, h6⟩ := and_ h
  obtain ⟨h, h5⟩ := and_ h
  obtain ⟨h, h4⟩ := and_ h
  obtain ⟨h, h3⟩ := and_ h
  obtain ⟨h1, h2⟩ := and_ h
  refine ⟨?_, by simpa using h2, by simpa using h3, of_decide_eq_true h4, of_decide_eq_true h5, fun x hx => ?_, fun y hy => ?_⟩
  · split at h1
    · assumption
    · cases h1
  · have z := List.all_eq_true.mp h6 x hx
    rcases Bool.or_eq_true_iff.mp z with z | z
    · exact .inl (eq_of_beq z)
    · exact .inr (eq_of_beq z)
  · have z := List.all_eq_true.mp h7 y hy
    simpa using z
def stAt (body : List Stmt) (i : Nat) : Stmt := body.getD i (.Pass default)
def defB (Γ : Gs) (body : List Stmt) (fn : FnD) (D : DefS) : Bool := scB D.N D.ps (defScope (stAt body D.top)) && all2 (chkS 60 Γ ⟨D.N, defScope (stAt body D.top), defScope (stAt body D.top)⟩) fn.body (defBody (stAt body D.top)) &&
  decide (fn.np = D.ps.length) && decide (fn.ns = D.N.length)
def AllD {α : Type} (F : Nat → α → Prop) : Nat → List α → Prop
  | _, [] => True
  | n, d :: ds => F n d ∧ AllD F (n + 1) ds
theorem AllD.get {α : Type} {F : Nat → α → Prop} : ∀ {ds : List α} {n i : Nat} {d : α}, AllD F n ds → ds[i]? = some d → F (n + i) d
  | [], _, _, _, _, e => by simp at e
  | x :: ds, n, 0, d, h, e => by simp at e; subst e; exact h.1
  | x :: ds, n, i + 1, d, h, e => by
    have z := AllD.get (i := i) h.2 (by simpa using e)
    rw [show n + (i + 1) = n + 1 + i by omega]
    exact z
theorem all2_get {α β : Type} {f : α → β → Bool} : ∀ {as : List α} {bs : List β} {i : Nat} {b : β}, all2 f as bs = true → bs[i]? = some b → ∃ a, as[i]? = some a ∧ f a b = true
  | [], [], _, _, _, e => by simp at e
  | a :: as, c :: bs, 0, b, h, e => by simp at e; subst e; exact ⟨a, rfl, (and_ h).1⟩
  | a :: as, c :: bs, i + 1, b, h, e => by
    obtain ⟨x, h1, h2⟩ := all2_get (i := i) (and_ h).2 (by simpa using e)
    exact ⟨x, by simpa using h1, h2⟩
  | [], _ :: _, _, _, h, _ => by cases h
  | _ :: _, [], _, _, h, _ => by cases h
/-- keyword calls -/
def KB (fd : FuncData) (ps : List Str) (q : Nat × List Nat) : Prop := ∀ us ws zs : List Value, us.length = q.1 → ws.length = q.2.length → kwOrder q.2 ws q.1 (ps.length - q.1) = some zs → bindArgs fd ⟨us, (q.2.filterMap fun k => ps[k]?).zip ws⟩ = pure (ps.zip (us ++ zs))
def KBs (fd : FuncData) (ps : List Str) : List (Nat × List Nat) → Prop
  | [] => True
  | q :: r => KB fd ps q ∧ KBs fd ps r
theorem KBs.mem {fd : FuncData} {ps : List Str} {q : Nat × List Nat} : ∀ {l : List (Nat × List Nat)}, KBs fd ps l → q ∈ l → KB fd ps q
  | _ :: _, ⟨h, _⟩, .head _ => h
  | _ :: _, ⟨_, h⟩, .tail _ m => KBs.mem h m
/-- how the def binds -/
def BD (Γ : Gs) (body : List Stmt) (f : Nat) (D : DefS) : Prop := ∀ (kV doc pm cdv ct : Value) (an : Option Addr),
  (∀ us : List Value, us.length = D.ps.length → bindArgs (PySem.W.fnOf D.name D.name (defArgs (stAt body D.top)) (defBody (stAt body D.top)) (defScope (stAt body D.top)) .none kV doc pm an cdv ct) ⟨us, []⟩ = pure (D.ps.zip us)) ∧
  KBs (PySem.W.fnOf D.name D.name (defArgs (stAt body D.top)) (defBody (stAt body D.top)) (defScope (stAt body D.top)) .none kV doc pm an cdv ct) D.ps (kcsOf Γ f)
/-- where the def stands -/
def KD (K : Frag) (body : List Stmt) (D : DefS) : Prop := ∃ (fa : Addr) (kV doc pm cdv ct oc : Value) (an od : Option Addr) (osl : Array (Option Value)), PySem.W.nsIn K mainGlobals D.name = some (some (.ref fa)) ∧
  K.lookup fa = some ⟨oc, od, .func (PySem.W.fnOf D.name D.name (defArgs (stAt body D.top)) (defBody (stAt body D.top)) (defScope (stAt body D.top)) .none kV doc pm an cdv ct), osl⟩ ∧ PySem.W.codeIn K cdv D.name = true ∧ PySem.W.keepIn K (.ref fa) = true
theorem df_of {Γ : Gs} {K : Frag} {mg : Str → Option Value} {P : Prg} {h : Heap} {body : List Stmt} {ds : List DefS} (X : K.In h) (Gn : h.Ns mainGlobals mg) (hΓ : Γ.fns = ds.map fun D => (D.name, D.ps)) (hB : all2 (defB Γ body) P.fns ds = true) (hK : AllD (fun _ D => KD K body D) 0 ds) (hb : AllD (fun f D => BD Γ body f D) 0 ds) :
    ∀ f x ps, Γ.fns[f]? = some (x, ps) → ∃ fn, P.fns[f]? = some fn ∧ DefAt Γ K mg f fn x ps := by
  intro f x ps hf
  rw [hΓ, List.getElem?_map] at hf
  obtain ⟨D, hD, e⟩ := Option.map_eq_some_iff.mp hf
  cases e
  obtain ⟨fn, hfn, hd⟩ := all2_get hB hD
  unfold defB at hd
  obtain ⟨hd, h4⟩ := and_ hd
  obtain ⟨hd, h3⟩ := and_ hd
  obtain ⟨h1, h2⟩ := and_ hd
  obtain ⟨fa, kV, doc, pm, cdv, ct, oc, an, od, osl, k1, k2, k3, k4⟩ := hK.get hD
  obtain ⟨b1, b2⟩ := hb.get hD kV doc pm cdv ct an
  rw [Nat.zero_add] at b2
  refine ⟨fn, hfn, fa, D.name, D.name, _, _, _, .none, kV, doc, pm, cdv, ct, oc, an, od, osl, D.N, 60, ⟨PySem.W.mg_of X Gn k1, k4, Binds.all b1, fun q hq s us ws zs _ l1 l2 l3 => .of_eq (b2.mem hq us ws zs l1 l2 l3)⟩, k2, k3, scB_ok h1, h2, of_decide_eq_true h3, of_decide_eq_true h4⟩
end Pv
/-! Pv21: the classes of errors from checks; the module's facts. -/
namespace Pv
open PySem PySem.Spec PyProof.Rows L2
def nsI (K : Frag) (x : Str) (i : Int) : Bool := match PySem.W.nsIn K mainGlobals x with
  | some (some (.int j _)) => j == i
  | _ => false
def nsO (K : Frag) (x : Str) : Bool := match PySem.W.nsIn K mainGlobals x with
  | some none => true
  | _ => false
def clsAt (K : Frag) (Γ : Gs) (c : Nat) : Option Addr := match Γ.excs[c]? with
  | some y => (match PySem.W.nsIn K mainGlobals y with
    | some (some (.ref C)) => some C
    | _ => none)
  | none => none
def oexB (K : Frag) (C : Addr) : Bool := (match K.lookup C with
  | some ⟨.type "type", _, .cls cd, sl⟩ => (match cd.mro, sl.toList with
    | .ref C' :: bm, [_, _, _, _, some (.builtin n), _] => C' == C && n == "ValueError.__new__" && !cd.hasDel && cd.hasDict && PySem.HandSPX.refsVE bm
    | _, _ => false)
  | _ => false) && decide (PySem.W.findIn K (.ref C) "__setattr__" = some (some (.builtin "object.__setattr__"))) && decide (PySem.W.subIn K (.ref C) (.type "BaseException") = some true) && decide (PySem.W.typeIn K (.ref C) = some (.type "type")) && PySem.W.keepIn K (.ref C)
theorem oexB_ok {K : Frag} {C : Addr} (h : oexB K C = true) : OexC K C := by
  unfold oexB at h
  obtain ⟨h, h5⟩ := and_ h
  obtain ⟨h, h4⟩ := and_ h
  obtain ⟨h, h3⟩ := and_ h
  obtain ⟨h1, h2⟩ := and_ h
  refine ⟨?_, of_decide_eq_true h2, of_decide_eq_true h3, of_decide_eq_true h4, h5⟩
  split at h1
  · rename_i dd cd sl ho
    split at h1
    · rename_i C' bm k0 k1 k2 k3 n k5 hm hs
      obtain ⟨h1, q5⟩ := and_ h1
      obtain ⟨h1, q4⟩ := and_ h1
      obtain ⟨h1, q3⟩ := and_ h1
      obtain ⟨q1, q2⟩ := and_ h1
      obtain rfl := eq_of_beq q1
      obtain rfl := eq_of_beq q2
      obtain ⟨nm, bs, mro, ns, qn, hd, sn, sub, ab, col, del⟩ := cd
      dsimp only at hm q3 q4
      subst hm q4
      have q3 : del = false := by simpa using q3
      subst q3
      have e : sl = #[k0, k1, k2, k3, some (.builtin "ValueError.__new__"), k5] := by
        obtain ⟨l⟩ := sl
        simp only at hs
        rw [hs]
      subst e
      exact ⟨nm, qn, ns, bs, bm, sn, sub, ab, col, dd, k0, k1, k2, k3, k5, ho, q5⟩
    · cases h1
  · cases h1
abbrev veMro : List Value := [.type "ValueError", .type "Exception", .type "BaseException", .type "object"]
def peClsB (K : Frag) (C D : Addr) : Bool := (match PySem.W.clsIn K C with
  | some cd => PySem.HandSPX.refsVE cd.mro && cd.hasDict
  | none => false) && decide (PySem.W.mroIn K C (.ref D) = some true) && decide (PySem.W.ks_superIn K C D "__init__" = some (some (.builtin "ValueError.__init__"))) && decide (PySem.W.subIn K (.ref C) (.type "ValueError") = some true) &&
  PySem.W.excInitIn K C veMro "ValueError.__new__" && decide (PySem.W.findIn K (.ref C) "__setattr__" = some (some (.builtin "object.__setattr__"))) && decide (PySem.W.findIn K (.ref C) "value" = some none)
theorem peClsB_ok {K : Frag} {C D : Addr} (h : peClsB K C D = true) : PeCls K C D "value" := by
  unfold peClsB at h
  obtain ⟨h, h7⟩ := and_ h
  obtain ⟨h, h6⟩ := and_ h
  obtain ⟨h, h5⟩ := and_ h
  obtain ⟨h, h4⟩ := and_ h
  obtain ⟨h, h3⟩ := and_ h
  obtain ⟨h1, h2⟩ := and_ h
  refine ⟨?_, of_decide_eq_true h2, of_decide_eq_true h3, of_decide_eq_true h4, ⟨_, _, PySem.F.excBase_ValueError, h5⟩, of_decide_eq_true h6, of_decide_eq_true h7⟩
  split at h1
  · rename_i cd hc
    obtain ⟨q1, q2⟩ := and_ h1
    exact ⟨cd, hc, q1, q2⟩
  · cases h1
def exccB (K : Frag) (D : Addr) : Bool := decide (PySem.W.findIn K (.ref D) "__getattribute__" = some (some (.builtin "BaseException.__getattribute__"))) && decide (PySem.W.findIn K (.ref D) "__getattr__" = some none) && decide (PySem.W.subIn K (.ref D) (.type "BaseException") = some true) && PySem.W.hasDictIn K D &&
  decide (PySem.W.findIn K (.ref D) "__class__" = some (some (.builtin "object.__class__"))) && decide (PySem.W.specialIn K (.builtin "object.__class__") "__get__" = some (some (.builtin "getset_descriptor.__get__"))) && decide (PySem.W.takesIn K (.builtin "object.__class__") = some true) && decide (PySem.W.mroIn K D (.type "object") = some true)
theorem exccB_ok {K : Frag} {D : Addr} (h : exccB K D = true) : ExcC K D ∧ XfC K D := by
  unfold exccB at h
  obtain ⟨h, h8⟩ := and_ h
  obtain ⟨h, h7⟩ := and_ h
  obtain ⟨h, h6⟩ := and_ h
  obtain ⟨h, h5⟩ := and_ h
  obtain ⟨h, h4⟩ := and_ h
  obtain ⟨h, h3⟩ := and_ h
  obtain ⟨h1, h2⟩ := and_ h
  exact ⟨⟨of_decide_eq_true h1, of_decide_eq_true h2, of_decide_eq_true h3, h4, of_decide_eq_true h5, of_decide_eq_true h6, of_decide_eq_true h7, of_decide_eq_true h8⟩, ⟨of_decide_eq_true h1, of_decide_eq_true h2, of_decide_eq_true h3, h4⟩⟩
/-- all of one class -/
def excB (K : Frag) (Γ : Gs) (D fI : Addr) (c : Nat) : Bool := match clsAt K Γ c, Γ.ups[c]? with
  | some C, some up => oexB K C && decide (PySem.W.findIn K (.ref C) "__init__" = some (some (.ref fI))) && peClsB K C D && exccB K C && decide (PySem.W.kitOne K (.type "NoneType") (.ref C) = some false) &&
      ((List.range Γ.excs.length).all fun c' => match clsAt K Γ c' with
        | some C' => decide (PySem.W.exmOne K (.ref C) (.ref C') = some (up.contains c')) && decide (PySem.W.kitOne K (.ref C) (.ref C') = some (up.contains c'))
        | none => false)
  | _, _ => false
/-- the error class's __init__ in the module -/
def PeFact (K : Frag) (prog : Program) (ini : Stmt) (D fI : Addr) : Prop := ∃ (cc cda : Addr) (kV doc pm ct oc : Value) (an od : Option Addr) (osl : Array (Option Value)) (vs : Array Value) (file : Str) (tf : Tok) (ccl cl : Value) (cdd cld : Option Addr) (ccs csl : Array (Option Value)),
  PySem.W.findIn K (.ref D) "__init__" = some (some (.ref fI)) ∧ PySem.W.typeIn K (.ref fI) = some (.type "function") ∧
  K.lookup fI = some ⟨oc, od, .func (PySem.W.ksFn "__init__" "PicturesError.__init__" (defArgs ini) (defBody ini) (defScope ini) .none kV doc pm an (.ref cda) ct cc), osl⟩ ∧ PySem.W.codeIn K (.ref cda) "PicturesError.__init__" = true ∧
  K.lookup cda = some ⟨ccl, cdd, .fields vs, ccs⟩ ∧ vs[2]? = some (.str file tf) ∧ ((prog.main.file : Str) == file) = true ∧ K.lookup cc = some ⟨cl, cld, .cell (some (.ref D)), csl⟩ ∧ (PySem.W.clsIn K D).isSome = true
/-- the text of __init__ -/
structure IniOk (ini : Stmt) : Prop where
  body : ∃ (msg : Str) (j : Nat) (p0 p1 p2 p3 p4 p5 p6 p7 p8 p9 : Pos), defBody ini = [.Expr (.Call (.Attribute (.Call (.Name "super" p0) [] [] p1) "__init__" p2) [.Constant (.str msg) j p3] [] p4) p5, .Assign [.Attribute (.Name "self" p6) "value" p7] (.Name "value" p8) p9] ∧ (p2.endLine == p4.line) = true
  par : ∃ ar, ((defArgs ini).posonlyargs ++ (defArgs ini).args).head? = some ar ∧ ar.arg = "self"
  bind : ∀ (kV doc pm cdv ct : Value) (an : Option Addr) (cc : Addr) (a u : Value), bindArgs (PySem.W.ksFn "__init__" "PicturesError.__init__" (defArgs ini) (defBody ini) (defScope ini) .none kV doc pm an cdv ct cc) ⟨[a, u], []⟩ = pure [(("self" : Str), a), (("value" : Str), u)]
  hks : (defScope ini).names.lookup ("super" : Str) = some .globalImplicit
  hkc : (defScope ini).names.lookup ("__class__" : Str) = some .free
  hka : (defScope ini).names.lookup ("self" : Str) = some .local
  hkv : (defScope ini).names.lookup ("value" : Str) = some .local
  hcell : ∀ x ∈ (defScope ini).names, x.2 ≠ .cell
  hco : (defScope ini).isCoroutine = false
  hgen : (defScope ini).isGenerator = false
  hk : (defScope ini).kind = .function
theorem modG_of {Γ : Gs} {K : Frag} {mg : Str → Option Value} {P : Prg} {Pr : Program} {h : Heap} {body : List Stmt} {ds : List DefS} {ini : Stmt} {D fI : Addr} (X : K.In h) (Gn : h.Ns mainGlobals mg) (hΓ : Γ.fns = ds.map fun D => (D.name, D.ps)) (hB : all2 (defB Γ body) P.fns ds = true) (hK : AllD (fun _ D => KD K body D) 0 ds) (hb : AllD (fun f D => BD Γ body f D) 0 ds)
    (hexc : P.exc = Γ.ups) (hlen : Γ.ups.length = Γ.excs.length) (h1 : (([.len, .tuple, .list, .listr, .sum, .sumL, .all, .any, .sorted, .min, .max, .min2, .max2, .abs, .int, .repr, .sortedSet, .lenSet, .index, .count] : List Bi).all fun b => nsO K (biName b)) = true)
    (h2 : ((["range", "isinstance", "int", "bool", "str", "tuple", "list", "super"] : List Str).all fun x => nsO K x) = true) (h3 : (Γ.cns.all fun q => nsI K q.1 q.2) = true) (hI : IniOk ini) (hP : PeFact K Pr ini D fI) (h4 : ((List.range Γ.excs.length).all fun c => excB K Γ D fI c) = true)
    (hop : PySem.W.nsIn K cStatics "thirdparty.any" = some none) (htop : (Pr.main.scope.names.lookup ("super" : Str)).isSome = false) : ∃ G : Gk, ModG Γ G P Pr K mg := by
  have none_ : ∀ {x : Str}, nsO K x = true → mg x = none := fun {x} q => by
    unfold nsO at q
    split at q
    · rename_i e; exact PySem.W.mg_none_of X Gn e
    · cases q
  have hcl : ∀ c C, clsAt K Γ c = some C → excB K Γ D fI c = true := fun c C e => by
    have hc : c < Γ.excs.length := by
      unfold clsAt at e
      split at e
      · rename_i y hy; exact (List.getElem?_eq_some_iff.mp hy).1
      · cases e
    exact List.all_eq_true.mp h4 c (List.mem_range.mpr hc)
  have hup : ∀ c C, clsAt K Γ c = some C → ∃ up, Γ.ups[c]? = some up ∧ OexC K C ∧ PySem.W.findIn K (.ref C) "__init__" = some (some (.ref fI)) ∧ PeCls K C D "value" ∧ (ExcC K C ∧ XfC K C) ∧ PySem.W.kitOne K (.type "NoneType") (.ref C) = some false ∧
      ∀ c' C', clsAt K Γ c' = some C' → PySem.W.exmOne K (.ref C) (.ref C') = some (up.contains c') ∧ PySem.W.kitOne K (.ref C) (.ref C') = some (up.contains c') := fun c C e => by
    have q := hcl c C e
    unfold excB at q
    rw [e] at q
    cases hu : Γ.ups[c]? with
    | none => rw [hu] at q; cases q
    | some up =>
      rw [hu] at q
      dsimp only at q
      obtain ⟨q, q6⟩ := and_ q
      obtain ⟨q, q5⟩ := and_ q
      obtain ⟨q, q4⟩ := and_ q
      obtain ⟨q, q3⟩ := and_ q
      obtain ⟨q1, q2⟩ := and_ q
      refine ⟨up, rfl, oexB_ok q1, of_decide_eq_true q2, peClsB_ok q3, exccB_ok q4, of_decide_eq_true q5, fun c' C' e' => ?_⟩
      have hc : c' < Γ.excs.length := by
        unfold clsAt at e'
        split at e'
        · rename_i y hy; exact (List.getElem?_eq_some_iff.mp hy).1
        · cases e'
      have z := List.all_eq_true.mp q6 c' (List.mem_range.mpr hc)
      rw [e'] at z
      obtain ⟨z1, z2⟩ := and_ z
      exact ⟨of_decide_eq_true z1, of_decide_eq_true z2⟩
  obtain ⟨cc, cda, kV, doc, pm, ct, oc, an, od, osl, vs, file, tf, ccl, cl, cdd, cld, ccs, csl, f1, f2, f3, f4, f5, f6, f7, f8, f9⟩ := hP
  obtain ⟨cdD, hD⟩ := Option.isSome_iff_exists.mp f9
  obtain ⟨msg, j, p0, p1, p2, p3, p4, p5, p6, p7, p8, p9, eb, epos⟩ := hI.body
  obtain ⟨ar, ea, eself⟩ := hI.par
  have pd : PeDef K Pr D fI (PySem.W.ksFn "__init__" "PicturesError.__init__" (defArgs ini) (defBody ini) (defScope ini) .none kV doc pm an (.ref cda) ct cc) (defScope ini) "self" "value" "value" cc cda :=
    { ex := ⟨_, _, _, _, _, _, _, _, _, _, _, _, _, msg, j, p0, p1, p2, p3, p4, p5, p6, p7, p8, p9, ar, vs, file, tf, ccl, cl, cdd, cld, ccs, csl, cdD, rfl, f3, eb, f4, ea, eself, f5, f6, f7, f8, hD, epos⟩, bind := fun a u => hI.bind _ _ _ _ _ _ _ a u, ne := by decide, hks := hI.hks, hkc := hI.hkc, hka := hI.hka, hkv := hI.hkv, hcell := hI.hcell, hco := hI.hco,
      hgen := hI.hgen, hk := hI.hk, dbg := ⟨by decide, by decide⟩ }
  refine ⟨⟨K, clsAt K Γ⟩, ⟨rfl, fun b => ?_, fun x hx => ?_, ⟨fun c y hy => ?_, fun c C e => ?_, fun c C e => ?_, fun c C up c' C' e hu e' => ?_, fun c' C' e' => ?_, hop, htop, none_ (List.all_eq_true.mp h2 _ (by simp))⟩, fun x i hx => ?_, df_of X Gn hΓ hB hK hb, hexc⟩⟩
  · exact none_ (List.all_eq_true.mp h1 b (by cases b <;> simp))
  · exact none_ (List.all_eq_true.mp h2 x (by
      simp only [List.mem_cons, List.not_mem_nil, or_false] at hx ⊢
      rcases hx with h | h | h | h | h | h | h <;> simp [h]))
  · have hc : c < Γ.excs.length := (List.getElem?_eq_some_iff.mp hy).1
    have q := List.all_eq_true.mp h4 c (List.mem_range.mpr hc)
    unfold excB at q
    cases e : clsAt K Γ c with
    | none => rw [e] at q; cases q
    | some C =>
      refine ⟨C, e, ?_⟩
      unfold clsAt at e
      rw [hy] at e
      dsimp only at e
      split at e
      · rename_i C2 e2
        cases e
        exact PySem.W.mg_of X Gn e2
      · cases e
  · obtain ⟨up, _, o1, o2, o3, _⟩ := hup c C e
    exact ⟨o1, fI, D, cc, cda, _, _, _, _, o2, f2, pd, o3⟩
  · obtain ⟨up, _, _, _, _, o4, _⟩ := hup c C e
    exact o4
  · obtain ⟨up2, u1, _, _, _, _, _, o6⟩ := hup c C e
    rw [hu] at u1
    cases u1
    exact o6 c' C' e'
  · obtain ⟨up, _, _, _, _, _, o5, _⟩ := hup c' C' e'
    exact o5
  · have hx' : ∃ q ∈ Γ.cns, q.1 = x ∧ q.2 = i := by
      clear h1 h2 h4 hcl hup
      generalize Γ.cns = l at hx
      induction l with
      | nil => cases hx
      | cons q l ih =>
        rw [List.lookup_cons] at hx
        cases e : x == q.1 with
        | true => rw [e] at hx; cases hx; exact ⟨q, List.mem_cons_self, (eq_of_beq e).symm, rfl⟩
        | false => rw [e] at hx; obtain ⟨r, h, z⟩ := ih hx; exact ⟨r, List.mem_cons_of_mem _ h, z⟩
    obtain ⟨q, hq, rfl, rfl⟩ := hx'
    have z := List.all_eq_true.mp h3 q hq
    unfold nsI at z
    split at z
    · rename_i j t e
      exact ⟨t, by rw [PySem.W.mg_of X Gn e, eq_of_beq z]⟩
    · cases z
theorem pe_mk {K : Frag} {prog : Program} {ini : Stmt} {D fI cc cda : Addr} {kV doc pm ct oc : Value} {an od : Option Addr} {osl : Array (Option Value)} {vs : Array Value} {file : Str} {tf : Tok} {ccl cl : Value} {cdd cld : Option Addr} {ccs csl : Array (Option Value)}
    (_ : PySem.W.nsIn K mainGlobals "PicturesError" = some (some (.ref D))) (h1 : PySem.W.findIn K (.ref D) "__init__" = some (some (.ref fI))) (h2 : PySem.W.typeIn K (.ref fI) = some (.type "function"))
    (h3 : K.lookup fI = some ⟨oc, od, .func (PySem.W.ksFn "__init__" "PicturesError.__init__" (defArgs ini) (defBody ini) (defScope ini) .none kV doc pm an (.ref cda) ct cc), osl⟩) (h4 : PySem.W.codeIn K (.ref cda) "PicturesError.__init__" = true)
    (h5 : K.lookup cda = some ⟨ccl, cdd, .fields vs, ccs⟩) (h6 : vs[2]? = some (.str file tf)) (h7 : ((prog.main.file : Str) == file) = true) (h8 : K.lookup cc = some ⟨cl, cld, .cell (some (.ref D)), csl⟩) (h9 : (PySem.W.clsIn K D).isSome = true) : PeFact K prog ini D fI :=
  ⟨cc, cda, kV, doc, pm, ct, oc, an, od, osl, vs, file, tf, ccl, cl, cdd, cld, ccs, csl, h1, h2, h3, h4, h5, h6, h7, h8, h9⟩
theorem kd_mk {K : Frag} {body : List Stmt} {D : DefS} {ds : List DefS} {n : Nat} {fa : Addr} {kV doc pm cdv ct oc : Value} {an od : Option Addr} {osl : Array (Option Value)} (h1 : PySem.W.nsIn K mainGlobals D.name = some (some (.ref fa)))
    (h2 : K.lookup fa = some ⟨oc, od, .func (PySem.W.fnOf D.name D.name (defArgs (stAt body D.top)) (defBody (stAt body D.top)) (defScope (stAt body D.top)) .none kV doc pm an cdv ct), osl⟩) (h3 : PySem.W.codeIn K cdv D.name = true) (h4 : PySem.W.keepIn K (.ref fa) = true) (r : AllD (fun _ D => KD K body D) (n + 1) ds) :
    AllD (fun _ D => KD K body D) n (D :: ds) := ⟨⟨fa, kV, doc, pm, cdv, ct, oc, an, od, osl, h1, h2, h3, h4⟩, r⟩
theorem kd_nil {K : Frag} {body : List Stmt} {n : Nat} : AllD (fun _ D => KD K body D) n [] := trivial
end Pv
namespace K01
open PySem Pv
/-- is_integer: 0 value -/
def f0 : FnD := { np := 1, io := [false], ns := 1, body := [
  .ret (.and [.isi (.var 0) [.int], .not (.isi (.var 0) [.bool])])] }
/-- is_between: 0 value, 1 low, 2 high -/
def f1 : FnD := { np := 3, io := [false, false, false], ns := 3, body := [
  .ret (.and [.call 0 [.var 0], .chain .le .le (.var 1) (.var 0) (.var 2)])] }
/-- is_tuple: 0 value, 1 low, 2 high -/
def f2 : FnD := { np := 3, io := [false, false, false], ns := 3, body := [
  .ret (.and [.isi (.var 0) [.tuple], .cmp .ge (.bi .len [.var 0]) (.var 1), .or [.isn true (.var 2), .cmp .le (.bi .len [.var 0]) (.var 2)]])] }
/-- anew: 0 value, 1 part -/
def f3 : FnD := { np := 1, io := [false], ns := 2, body := [
  .ifs (.isi (.var 0) [.list]) [.ret (.lc (.call 3 [.var 1]) [1] (.nm 1) (.var 0) [])] [],
  .ifs (.isi (.var 0) [.tuple]) [.ret (.bi .tuple [.lc (.call 3 [.var 1]) [1] (.nm 1) (.var 0) []])] [],
  .ret (.var 0)] }
/-- is_sort: 0 value, 1 most, 2 item, 3 at -/
def f4 : FnD := { np := 1, io := [false], ns := 4, body := [
  .ifs (.or [.not (.call 2 [.var 0, .int 3, .int 3]), .not (.call 1 [.idx (.var 0) (.int 0), .int 1, .int 2])]) [.ret (.bl false)] [],
  .asg (.nm 1) (.ife (.cmp .eq (.idx (.var 0) (.int 0)) (.int 1)) (.int 4) (.int 3)),
  .ifs (.or [.not (.call 1 [.idx (.var 0) (.int 1), .int 1, .var 1]), .not (.call 2 [.idx (.var 0) (.int 2), .idx (.var 0) (.int 1), .idx (.var 0) (.int 1)])]) [.ret (.bl false)] [],
  .ifs (.not (.bi .all [.lc (.call 1 [.var 2, .int 0, .bin .sub (.idx (.var 0) (.int 1)) (.int 1)]) [2] (.nm 2) (.idx (.var 0) (.int 2)) []])) [.ret (.bl false)] [],
  .ret (.bi .all [.lc (.cmp .eq (.idx (.idx (.var 0) (.int 2)) (.idx (.idx (.var 0) (.int 2)) (.var 3))) (.var 3)) [3] (.nm 3) (.rng [.idx (.var 0) (.int 1)]) []])] }
/-- need_sort: 0 sort -/
def f5 : FnD := { np := 1, io := [false], ns := 1, body := [
  .ifs (.not (.call 4 [.var 0])) [.raise 1 (.call 3 [.var 0])] []] }
/-- is_kind_in: 0 sort, 1 value -/
def f6 : FnD := { np := 2, io := [false, false], ns := 2, body := [
  .ret (.call 1 [.var 1, .int 0, .bin .sub (.idx (.var 0) (.int 0)) (.int 1)])] }
/-- is_sign_in: 0 sort, 1 value -/
def f7 : FnD := { np := 2, io := [false, false], ns := 2, body := [
  .ret (.call 1 [.var 1, .int 0, .bin .sub (.idx (.var 0) (.int 1)) (.int 1)])] }
/-- need_sign: 0 sort, 1 sign -/
def f8 : FnD := { np := 2, io := [false, false], ns := 2, body := [
  .ifs (.not (.call 7 [.var 0, .var 1])) [.raise 2 (.call 3 [.var 1])] []] }
/-- is_kind: 0 sort, 1 value -/
def f9 : FnD := { np := 2, io := [false, false], ns := 2, body := [
  .expr (.call 5 [.var 0]),
  .ret (.call 6 [.var 0, .var 1])] }
/-- is_sign: 0 sort, 1 value -/
def f10 : FnD := { np := 2, io := [false, false], ns := 2, body := [
  .expr (.call 5 [.var 0]),
  .ret (.call 7 [.var 0, .var 1])] }
/-- turned: 0 sort, 1 sign -/
def f11 : FnD := { np := 2, io := [false, false], ns := 2, body := [
  .expr (.call 5 [.var 0]),
  .expr (.call 8 [.var 0, .var 1]),
  .ret (.idx (.idx (.var 0) (.int 2)) (.var 1))] }
/-- lesser_signs: 0 sort, 1 sign -/
def f12 : FnD := { np := 1, io := [false], ns := 2, body := [
  .expr (.call 5 [.var 0]),
  .ret (.bi .tuple [.lc (.var 1) [1] (.nm 1) (.rng [.idx (.var 0) (.int 1)]) [.cmp .le (.var 1) (.idx (.idx (.var 0) (.int 2)) (.var 1))]])] }
/-- _law_well: 0 script, 1 k, 2 cell, 3 whole, 4 item, 5 mixed -/
def f13 : FnD := { np := 2, io := [false, false], ns := 6, body := [
  .asg (.nm 2) (.ife (.cmp .lt (.var 1) (.bi .len [.var 0])) (.bi .int [.idx (.var 0) (.var 1)]) (.bin .add (.bin .mul (.int 317) (.var 1)) (.int 277))),
  .asg (.nm 3) (.bin .add (.int 293) (.bi .len [.var 0])),
  .for_ (.nm 4) (.var 0) [.asg (.nm 3) (.bin .mod (.bi .int [.bin .add (.bin .mul (.var 3) (.int 5323)) (.bin .mod (.bi .int [.var 4]) (.bin .add (.bin .pow (.int 10) (.int 19)) (.int 51)))]) (.bin .add (.bin .pow (.int 10) (.int 25)) (.int 13)))],
  .asg (.nm 5) (.bin .mod (.bi .int [.bin .add (.bin .add (.bin .add (.bin .mul (.bi .abs [.var 2]) (.int 103)) (.bin .mul (.var 3) (.int 125))) (.bin .mul (.int 3) (.bi .int [.cmp .lt (.var 2) (.int 0)]))) (.bin .mul (.int 61) (.var 1))]) (.bin .add (.bin .pow (.int 10) (.int 28)) (.int 331))),
  .ret (.lst [.bi .max2 [.int 0, .bin .sub (.bi .abs [.var 2]) (.bin .pow (.int 10) (.int 18))], .var 5, .int 0])] }
/-- _law_draw: 0 well, 1 many, 2 found, 3 step, 4 mixed -/
def f14 : FnD := { np := 2, io := [true, false], ns := 5, body := [
  .ifs (.cmp .gt (.idx (.var 0) (.int 0)) (.int 0)) [.asg (.nm 2) (.bin .mod (.bi .int [.idx (.var 0) (.int 0)]) (.var 1)), .setix 0 (.int 0) (.bin .fdiv (.idx (.var 0) (.int 0)) (.var 1)), .ret (.var 2)] [],
  .setix 0 (.int 2) (.bin .add (.idx (.var 0) (.int 2)) (.int 1)),
  .asg (.nm 3) (.idx (.var 0) (.int 2)),
  .asg (.nm 4) (.bin .mod (.bi .int [.bin .add (.bin .add (.bin .mul (.bin .mul (.bin .add (.idx (.var 0) (.int 1)) (.int 31)) (.bin .add (.var 3) (.int 5))) (.int 998244353)) (.bin .mul (.bin .mul (.bin .mul (.var 3) (.var 3)) (.var 3)) (.int 424242427))) (.int 77)]) (.bin .add (.bin .pow (.int 10) (.int 29)) (.int 319))),
  .asg (.nm 4) (.bin .mod (.bi .int [.bin .add (.bin .add (.bin .mul (.var 4) (.var 4)) (.bin .mul (.idx (.var 0) (.int 1)) (.int 7))) (.var 3)]) (.bin .add (.bin .pow (.int 10) (.int 31)) (.int 33))),
  .asg (.nm 4) (.bin .mod (.bi .int [.bin .add (.bin .mul (.bin .mul (.var 4) (.var 4)) (.int 3)) (.bin .mul (.var 4) (.int 11))]) (.bin .add (.bin .pow (.int 10) (.int 33)) (.int 603))),
  .ret (.bin .mod (.bi .int [.bin .fdiv (.var 4) (.int 50021)]) (.var 1))] }
/-- _law_sort: 0 well, 1 some -/
def f15 : FnD := { np := 1, io := [true], ns := 2, body := [
  .asg (.nm 1) (.lst [.tup [.int 1, .int 2, .tup [.int 0, .int 1]], .tup [.int 1, .int 2, .tup [.int 1, .int 0]], .tup [.int 1, .int 1, .tup [.int 0]], .tup [.int 1, .int 3, .tup [.int 1, .int 0, .int 2]], .tup [.int 1, .int 3, .tup [.int 0, .int 1, .int 2]], .tup [.int 2, .int 1, .tup [.int 0]], .tup [.int 2, .int 2, .tup [.int 0, .int 1]], .tup [.int 2, .int 2, .tup [.int 1, .int 0]]]),
  .ret (.idx (.var 1) (.call 14 [.var 0, .int 8]))] }
/-- _law_is_count: 0 value, 1 low, 2 high -/
def f16 : FnD := { np := 3, io := [false, false, false], ns := 3, body := [
  .ret (.and [.isi (.var 0) [.int], .not (.isi (.var 0) [.bool]), .chain .le .le (.var 1) (.var 0) (.var 2)])] }
/-- _law_is_sort: 0 value, 1 own, 2 at -/
def f17 : FnD := { np := 1, io := [false], ns := 3, body := [
  .ifs (.or [.not (.isi (.var 0) [.tuple]), .cmp .ne (.bi .len [.var 0]) (.int 3), .not (.call 16 [.idx (.var 0) (.int 0), .int 1, .int 2])]) [.ret (.bl false)] [],
  .ifs (.or [.not (.call 16 [.idx (.var 0) (.int 1), .int 1, .ife (.cmp .eq (.idx (.var 0) (.int 0)) (.int 1)) (.int 4) (.int 3)]), .not (.isi (.idx (.var 0) (.int 2)) [.tuple]), .cmp .ne (.bi .len [.idx (.var 0) (.int 2)]) (.idx (.var 0) (.int 1))]) [.ret (.bl false)] [],
  .ifs (.not (.bi .all [.lc (.call 16 [.var 1, .int 0, .bin .sub (.idx (.var 0) (.int 1)) (.int 1)]) [1] (.nm 1) (.idx (.var 0) (.int 2)) []])) [.ret (.bl false)] [],
  .ret (.bi .all [.lc (.cmp .eq (.idx (.idx (.var 0) (.int 2)) (.idx (.idx (.var 0) (.int 2)) (.var 2))) (.var 2)) [2] (.nm 2) (.rng [.idx (.var 0) (.int 1)]) []])] }
/-- _law_near: 0 well, 1 sort, 2 kinds, 3 signs, 4 turns, 5 some -/
def f18 : FnD := { np := 2, io := [true, false], ns := 6, body := [
  .asg (.tp [2, 3, 4]) (.var 1),
  .asg (.nm 5) (.lst [.var 1, .non, .bi .list [.var 1], .tup [.var 2, .var 3, .bi .list [.var 4]], .tup [.bin .add (.var 2) (.int 1), .var 3, .var 4], .tup [.bin .sub (.var 2) (.int 1), .var 3, .var 4], .tup [.var 2, .bin .add (.var 3) (.int 1), .var 4]]),
  .asg (.nm 5) (.bin .add (.var 5) (.lst [.tup [.var 2, .var 3, .bin .add (.var 4) (.tup [.var 3])], .tup [.var 2, .bin .add (.var 3) (.int 1), .bin .add (.var 4) (.tup [.var 3])], .tup [.var 2, .var 3, .slc (.var 4) (some (.int 1)) none], .tup [.bl true, .var 3, .var 4]])),
  .asg (.nm 5) (.bin .add (.var 5) (.lst [.tup [.int 1, .int 3, .tup [.int 1, .int 2, .int 0]], .tup [.int 1, .int 2, .tup [.int 1, .int 1]], .tup [.int 1, .int 4, .tup [.int 1, .int 0, .int 3, .int 2]], .tup [.int 2, .int 4, .tup [.int 0, .int 1, .int 2, .int 3]], .tup [.int 1, .int 2, .tup [.int 0, .bl true]], .tup [.int 1, .int 5, .tup [.int 0, .int 1, .int 2, .int 3, .int 4]], .tup [.var 2, .var 3], .tup [.int 1, .int 2, .tup [.int 0, .int 2]]])),
  .ret (.idx (.var 5) (.call 14 [.var 0, .int 19]))] }
/-- _law_told: 0 way, 1 sort, 2 value, 3 caught, 4 e -/
def f19 : FnD := { np := 3, io := [false, false, false], ns := 5, body := [
  .asg (.nm 3) (.non),
  .try_ [.ifs (.cmp .eq (.var 0) (.int 0)) [.expr (.call 11 [.var 1, .var 2])] [.ifs (.cmp .eq (.var 0) (.int 1)) [.expr (.call 9 [.var 1, .var 2])] [.ifs (.cmp .eq (.var 0) (.int 2)) [.expr (.callk 10 [] [1, 0] [.var 2, .var 1])] [.expr (.call 12 [.var 1])]]]] 0 4 3,
  .ret (.ife (.xnone true 3) (.non) (.tup [.isx 3 1, .isx 3 2, .bi .repr [.xval 3]]))] }
/-- _law_right: 0 well, 1 sort, 2 turn, 3 value, 4 due, 5 way, 6 kind, 7 sign -/
def f20 : FnD := { np := 1, io := [true], ns := 8, body := [
  .asg (.nm 1) (.call 15 [.var 0]),
  .for_ (.nm 2) (.rng [.int 6]) [.asg (.nm 3) (.call 18 [.var 0, .var 1]), .asg (.nm 4) (.call 17 [.var 3]), .ifs (.cmp .ne (.bi .repr [.lst [.call 4 [.var 3], .callk 4 [] [0] [.var 3]]]) (.bi .repr [.lst [.var 4, .var 4]])) [.ret (.bl false)] [], .ifs (.and [.not (.var 4), .cmp .ne (.lc (.call 19 [.var 5, .var 3, .non]) [5] (.nm 5) (.rng [.int 4]) []) (.bin .mul (.lst [.tup [.bl true, .bl false, .bi .repr [.var 3]]]) (.int 4))]) [.ret (.bl false)] []],
  .for_ (.nm 3) (.tup [.int 0, .int 1, .int 2, .int 3, .int 4, .neg (.int 1), .bl true, .bl false, .non, .str "0", .tup [.int 0]]) [.par [6, 7] [.call 16 [.var 3, .int 0, .bin .sub (.idx (.var 1) (.int 0)) (.int 1)], .call 16 [.var 3, .int 0, .bin .sub (.idx (.var 1) (.int 1)) (.int 1)]], .ifs (.cmp .ne (.bi .repr [.lst [.call 9 [.var 1, .var 3], .callk 9 [] [1, 0] [.var 3, .var 1], .call 10 [.var 1, .var 3]]]) (.bi .repr [.lst [.var 6, .var 6, .var 7]])) [.ret (.bl false)] [], .ifs (.and [.not (.var 7), .cmp .ne (.call 19 [.int 0, .var 1, .var 3]) (.tup [.bl false, .bl true, .bi .repr [.var 3]])]) [.ret (.bl false)] [], .ifs (.and [.var 7, .or [.cmp .ne (.bi .repr [.lst [.call 11 [.var 1, .var 3], .callk 11 [] [1, 0] [.var 3, .var 1]]]) (.bi .repr [.bin .mul (.lst [.idx (.idx (.var 1) (.int 2)) (.var 3)]) (.int 2)]), .cmp .ne (.call 11 [.var 1, .call 11 [.var 1, .var 3]]) (.var 3)]]) [.ret (.bl false)] []],
  .asg (.nm 4) (.bi .tuple [.lc (.var 7) [7] (.nm 7) (.rng [.idx (.var 1) (.int 1)]) [.cmp .le (.var 7) (.idx (.idx (.var 1) (.int 2)) (.var 7))]]),
  .ret (.cmp .eq (.bi .repr [.lst [.call 12 [.var 1], .callk 12 [] [0] [.var 1]]]) (.bi .repr [.lst [.var 4, .var 4]]))] }
/-- law: 0 script, 1 k, 2 well, 3 turn -/
def f21 : FnD := { np := 1, io := [false], ns := 4, body := [
  .for_ (.nm 1) (.rng [.bi .max2 [.int 1, .bi .min2 [.int 3, .bi .len [.var 0]]]]) [.asg (.nm 2) (.call 13 [.var 0, .var 1]), .for_ (.nm 3) (.rng [.int 4]) [.ifs (.not (.call 20 [.var 2])) [.ret (.bl false)] []]],
  .ret (.bl true)] }
def prg : Prg := { fns := [f0, f1, f2, f3, f4, f5, f6, f7, f8, f9, f10, f11, f12, f13, f14, f15, f16, f17, f18, f19, f20, f21], exc := [[0], [1, 0], [2, 0]] }
end K01
namespace K01
open PySem PySem.Spec PyProof.Rows L2 Pv
def body : List Stmt := PySem.Challenge.pw_picturesheld_k01_sorts.main.body
def ds : List DefS := [
  { name := "is_integer", ps := ["value"], N := ["value"], top := 5 },
  { name := "is_between", ps := ["value", "low", "high"], N := ["value", "low", "high"], top := 6 },
  { name := "is_tuple", ps := ["value", "low", "high"], N := ["value", "low", "high"], top := 7 },
  { name := "anew", ps := ["value"], N := ["value", "part"], top := 8 },
  { name := "is_sort", ps := ["value"], N := ["value", "most", "item", "at"], top := 13 },
  { name := "need_sort", ps := ["sort"], N := ["sort"], top := 14 },
  { name := "is_kind_in", ps := ["sort", "value"], N := ["sort", "value"], top := 15 },
  { name := "is_sign_in", ps := ["sort", "value"], N := ["sort", "value"], top := 16 },
  { name := "need_sign", ps := ["sort", "sign"], N := ["sort", "sign"], top := 17 },
  { name := "is_kind", ps := ["sort", "value"], N := ["sort", "value"], top := 18 },
  { name := "is_sign", ps := ["sort", "value"], N := ["sort", "value"], top := 19 },
  { name := "turned", ps := ["sort", "sign"], N := ["sort", "sign"], top := 20 },
  { name := "lesser_signs", ps := ["sort"], N := ["sort", "sign"], top := 21 },
  { name := "_law_well", ps := ["script", "k"], N := ["script", "k", "cell", "whole", "item", "mixed"], top := 23 },
  { name := "_law_draw", ps := ["well", "many"], N := ["well", "many", "found", "step", "mixed"], top := 24 },
  { name := "_law_sort", ps := ["well"], N := ["well", "some"], top := 25 },
  { name := "_law_is_count", ps := ["value", "low", "high"], N := ["value", "low", "high"], top := 26 },
  { name := "_law_is_sort", ps := ["value"], N := ["value", "own", "at"], top := 27 },
  { name := "_law_near", ps := ["well", "sort"], N := ["well", "sort", "kinds", "signs", "turns", "some"], top := 28 },
  { name := "_law_told", ps := ["way", "sort", "value"], N := ["way", "sort", "value", "caught", "e"], top := 29 },
  { name := "_law_right", ps := ["well"], N := ["well", "sort", "turn", "value", "due", "way", "kind", "sign"], top := 30 },
  { name := "law", ps := ["script"], N := ["script", "k", "well", "turn"], top := 31 }]
def gs : Gs := { fns := (ds.map fun D => (D.name, D.ps)), cns := [("KINDS", 2), ("SIGNS", 3), ("SIGNS_OF_ONE", 4)], excs := ["PicturesError", "InvalidSort", "InvalidSign"], ups := [[0], [1, 0], [2, 0]], kcs := [(10, 0, [1, 0]), (12, 0, [0]), (4, 0, [0]), (9, 0, [1, 0]), (11, 0, [1, 0])] }
theorem chk : all2 (defB gs body) prg.fns ds = true := by decide +kernel
theorem bd0 : BD gs body 0 (ds.getD 0 default) := fun kV doc pm cdv ct an => ⟨fun us h => (match us, h with | [a0], _ => rfl),  trivial⟩
theorem bd1 : BD gs body 1 (ds.getD 1 default) := fun kV doc pm cdv ct an => ⟨fun us h => (match us, h with | [a0, a1, a2], _ => rfl),  trivial⟩
theorem bd2 : BD gs body 2 (ds.getD 2 default) := fun kV doc pm cdv ct an => ⟨fun us h => (match us, h with | [a0, a1, a2], _ => rfl),  trivial⟩
theorem bd3 : BD gs body 3 (ds.getD 3 default) := fun kV doc pm cdv ct an => ⟨fun us h => (match us, h with | [a0], _ => rfl),  trivial⟩
theorem bd4 : BD gs body 4 (ds.getD 4 default) := fun kV doc pm cdv ct an => ⟨fun us h => (match us, h with | [a0], _ => rfl), ⟨fun us ws zs h1 h2 h3 => (match us, ws, h1, h2, h3 with | [], [b0], _, _, h3 => by (have e : some [b0] = some zs := h3); cases e; rfl),  trivial⟩⟩
theorem bd5 : BD gs body 5 (ds.getD 5 default) := fun kV doc pm cdv ct an => ⟨fun us h => (match us, h with | [a0], _ => rfl),  trivial⟩
theorem bd6 : BD gs body 6 (ds.getD 6 default) := fun kV doc pm cdv ct an => ⟨fun us h => (match us, h with | [a0, a1], _ => rfl),  trivial⟩
theorem bd7 : BD gs body 7 (ds.getD 7 default) := fun kV doc pm cdv ct an => ⟨fun us h => (match us, h with | [a0, a1], _ => rfl),  trivial⟩
theorem bd8 : BD gs body 8 (ds.getD 8 default) := fun kV doc pm cdv ct an => ⟨fun us h => (match us, h with | [a0, a1], _ => rfl),  trivial⟩
theorem bd9 : BD gs body 9 (ds.getD 9 default) := fun kV doc pm cdv ct an => ⟨fun us h => (match us, h with | [a0, a1], _ => rfl), ⟨fun us ws zs h1 h2 h3 => (match us, ws, h1, h2, h3 with | [], [b0, b1], _, _, h3 => by (have e : some [b1, b0] = some zs := h3); cases e; rfl),  trivial⟩⟩
theorem bd10 : BD gs body 10 (ds.getD 10 default) := fun kV doc pm cdv ct an => ⟨fun us h => (match us, h with | [a0, a1], _ => rfl), ⟨fun us ws zs h1 h2 h3 => (match us, ws, h1, h2, h3 with | [], [b0, b1], _, _, h3 => by (have e : some [b1, b0] = some zs := h3); cases e; rfl),  trivial⟩⟩
theorem bd11 : BD gs body 11 (ds.getD 11 default) := fun kV doc pm cdv ct an => ⟨fun us h => (match us, h with | [a0, a1], _ => rfl), ⟨fun us ws zs h1 h2 h3 => (match us, ws, h1, h2, h3 with | [], [b0, b1], _, _, h3 => by (have e : some [b1, b0] = some zs := h3); cases e; rfl),  trivial⟩⟩
theorem bd12 : BD gs body 12 (ds.getD 12 default) := fun kV doc pm cdv ct an => ⟨fun us h => (match us, h with | [a0], _ => rfl), ⟨fun us ws zs h1 h2 h3 => (match us, ws, h1, h2, h3 with | [], [b0], _, _, h3 => by (have e : some [b0] = some zs := h3); cases e; rfl),  trivial⟩⟩
theorem bd13 : BD gs body 13 (ds.getD 13 default) := fun kV doc pm cdv ct an => ⟨fun us h => (match us, h with | [a0, a1], _ => rfl),  trivial⟩
theorem bd14 : BD gs body 14 (ds.getD 14 default) := fun kV doc pm cdv ct an => ⟨fun us h => (match us, h with | [a0, a1], _ => rfl),  trivial⟩
theorem bd15 : BD gs body 15 (ds.getD 15 default) := fun kV doc pm cdv ct an => ⟨fun us h => (match us, h with | [a0], _ => rfl),  trivial⟩
theorem bd16 : BD gs body 16 (ds.getD 16 default) := fun kV doc pm cdv ct an => ⟨fun us h => (match us, h with | [a0, a1, a2], _ => rfl),  trivial⟩
theorem bd17 : BD gs body 17 (ds.getD 17 default) := fun kV doc pm cdv ct an => ⟨fun us h => (match us, h with | [a0], _ => rfl),  trivial⟩
theorem bd18 : BD gs body 18 (ds.getD 18 default) := fun kV doc pm cdv ct an => ⟨fun us h => (match us, h with | [a0, a1], _ => rfl),  trivial⟩
theorem bd19 : BD gs body 19 (ds.getD 19 default) := fun kV doc pm cdv ct an => ⟨fun us h => (match us, h with | [a0, a1, a2], _ => rfl),  trivial⟩
theorem bd20 : BD gs body 20 (ds.getD 20 default) := fun kV doc pm cdv ct an => ⟨fun us h => (match us, h with | [a0], _ => rfl),  trivial⟩
theorem bd21 : BD gs body 21 (ds.getD 21 default) := fun kV doc pm cdv ct an => ⟨fun us h => (match us, h with | [a0], _ => rfl),  trivial⟩
theorem bds : AllD (fun f D => BD gs body f D) 0 ds := ⟨bd0, ⟨bd1, ⟨bd2, ⟨bd3, ⟨bd4, ⟨bd5, ⟨bd6, ⟨bd7, ⟨bd8, ⟨bd9, ⟨bd10, ⟨bd11, ⟨bd12, ⟨bd13, ⟨bd14, ⟨bd15, ⟨bd16, ⟨bd17, ⟨bd18, ⟨bd19, ⟨bd20, ⟨bd21, trivial⟩⟩⟩⟩⟩⟩⟩⟩⟩⟩⟩⟩⟩⟩⟩⟩⟩⟩⟩⟩⟩⟩
end K01
namespace K01
open PySem Pv
theorem mulOk_r {i j : Int} (h : j.natAbs < 18446744073709551616) : mulOk i j = true := by
  unfold mulOk
  simp [show (2 : Nat) ^ 64 = 18446744073709551616 from rfl, h]
theorem draw1 (lv : Nat) (cc : Nat → List PyData → CRes) (a m c n : Int) (h : 0 < a) (hn : 0 < n) (h2 : n.natAbs < 1073741824) :
    runF (evN prg lv cc deep) f14 [.list [.int a, .int m, .int c], .int n] = .ret (.int (a.fmod n)) false [.list [.int (a.fdiv n), .int m, .int c]] := by
  have hn0 : n ≠ 0 := by omega
  simp [deep, runF, f14, Pv.start, seqL, evN, stepS, stepT, stepE, opd2, opds, pre, isVar, getP, fill, ofO, Res.bind, bop, cop, bD, ixop, atD, ixD, tru, bop2, setRoot, setD, setR, iosOf, h, hn0, divOk, h2, List.set]

theorem log2_lt {x k : Nat} (h : x < 2 ^ k) : x.log2 ≤ k := by
  by_cases h0 : x = 0
  · subst h0; simp [Nat.log2_zero]
  · exact Nat.le_of_lt ((Nat.log2_lt h0).mpr h)
theorem mulOk_b {i j : Int} (hi : i.natAbs < 2 ^ 400) (hj : j.natAbs < 2 ^ 400) : mulOk i j = true := by
  unfold mulOk
  have a := log2_lt hi
  have b := log2_lt hj
  simp only [Bool.or_eq_true, decide_eq_true_eq]
  right
  omega
theorem fmod_b {x M : Int} (h : 0 < M) : 0 ≤ x.fmod M ∧ x.fmod M < M := ⟨Int.fmod_nonneg_of_pos x h, Int.fmod_lt_of_pos x h⟩
theorem draw2 (lv : Nat) (cc : Nat → List PyData → CRes) (a m c n : Int) (h : ¬ 0 < a) (hn : 0 < n) (h2 : n.natAbs < 1073741824) (hm : m.natAbs < 2 ^ 200) (hc : c.natAbs < 1000000) :
    ∃ r : Int, 0 ≤ r ∧ r < n ∧ runF (evN prg lv cc deep) f14 [.list [.int a, .int m, .int c], .int n] = .ret (.int r) false [.list [.int a, .int m, .int (c + 1)]] := by
  have hn0 : n ≠ 0 := by omega
  obtain ⟨x1, e1⟩ : ∃ x, x = ((m + 31) * (c + 1 + 5) * 998244353 + (c + 1) * (c + 1) * (c + 1) * 424242427 + 77).fmod 100000000000000000000000000319 := ⟨_, rfl⟩
  obtain ⟨x2, e2⟩ : ∃ x, x = (x1 * x1 + m * 7 + (c + 1)).fmod 10000000000000000000000000000033 := ⟨_, rfl⟩
  obtain ⟨x3, e3⟩ : ∃ x, x = (x2 * x2 * 3 + x2 * 11).fmod 1000000000000000000000000000000603 := ⟨_, rfl⟩
  have b1 := fmod_b (x := (m + 31) * (c + 1 + 5) * 998244353 + (c + 1) * (c + 1) * (c + 1) * 424242427 + 77) (M := 100000000000000000000000000319) (by decide)
  have b2 := fmod_b (x := x1 * x1 + m * 7 + (c + 1)) (M := 10000000000000000000000000000033) (by decide)
  have b3 := fmod_b (x := x2 * x2 * 3 + x2 * 11) (M := 1000000000000000000000000000000603) (by decide)
  rw [← e1] at b1
  rw [← e2] at b2
  rw [← e3] at b3
  have m1 : mulOk (m + 31) (c + 1 + 5) = true := mulOk_r (by omega)
  have m2 : mulOk (c + 1) (c + 1) = true := mulOk_r (by omega)
  have m3 : mulOk ((c + 1) * (c + 1)) (c + 1) = true := mulOk_r (by omega)
  have m4 : ∀ x, mulOk x 998244353 = true := fun x => mulOk_r (by decide)
  have m5 : ∀ x, mulOk x 424242427 = true := fun x => mulOk_r (by decide)
  have m6 : ∀ x, mulOk x 7 = true := fun x => mulOk_r (by decide)
  have m7 : ∀ x, mulOk x 3 = true := fun x => mulOk_r (by decide)
  have m8 : ∀ x, mulOk x 11 = true := fun x => mulOk_r (by decide)
  have m9 : mulOk x1 x1 = true := mulOk_b (by have : (100000000000000000000000000319 : Int) < 2 ^ 400 := by decide +kernel
                                              omega) (by have : (100000000000000000000000000319 : Int) < 2 ^ 400 := by decide +kernel
                                                         omega)
  have m10 : mulOk x2 x2 = true := mulOk_b (by have : (10000000000000000000000000000033 : Int) < 2 ^ 400 := by decide +kernel
                                               omega) (by have : (10000000000000000000000000000033 : Int) < 2 ^ 400 := by decide +kernel
                                                          omega)
  refine ⟨(x3.fdiv 50021).fmod n, (fmod_b hn).1, (fmod_b hn).2, ?_⟩
  simp [deep, runF, f14, Pv.start, seqL, evN, stepS, stepT, stepE, opd2, opds, pre, isVar, getP, fill, ofO, Res.bind, bop, cop, bD, ixop, atD, ixD, tru, bop2, setRoot, setD, setR, iosOf, h, hn0, divOk, h2, List.set, m1, m2, m3, m4, m5, m6, m7, m8, ← e1, m9, ← e2, m10, ← e3]

theorem p14 : prg.fns[14]? = some f14 := rfl
theorem np14 : f14.np = 2 := rfl
theorem io14 : f14.io = [true, false] := rfl
theorem evN_e {P : Prg} {lv : Nat} {c : Nat → List PyData → CRes} {n : Nat} : (evN P lv c (n + 1)).e = stepE P (evN P lv c n) := rfl
theorem evN_t {P : Prg} {lv : Nat} {c : Nat → List PyData → CRes} {n : Nat} : (evN P lv c (n + 1)).t = stepT P (evN P lv c n) := rfl
theorem evN_s {P : Prg} {lv : Nat} {c : Nat → List PyData → CRes} {n : Nat} : (evN P lv c (n + 1)).s = stepS P (evN P lv c n) := rfl
theorem evN_c {P : Prg} {lv : Nat} {c : Nat → List PyData → CRes} {n : Nat} : (evN P lv c n).c = c := by cases n <;> rfl
theorem seqL_app (f : Q → S → Res Pv.Flow) : ∀ (a b : List Q) (s : S), seqL f (a ++ b) s = (seqL f a s).bind fun fl s => match fl with | .nx => seqL f b s | fl => .ok fl s
  | [], b, s => rfl
  | q :: a, b, s => by
    show (f q s).bind (fun fl s => match fl with | .nx => seqL f (a ++ b) s | fl => .ok fl s) = ((f q s).bind fun fl s => match fl with | .nx => seqL f a s | fl => .ok fl s).bind _
    cases f q s with
    | bad => rfl
    | err c v s => rfl
    | ok fl s => cases fl <;> first | rfl | exact seqL_app f a b s
def Wl (n : Int) (W : PyData) : Prop := ∃ a m c : Int, W = .list [.int a, .int m, .int c] ∧ m.natAbs < 2 ^ 200 ∧ 0 ≤ c ∧ c ≤ n
theorem Wl.mono {n m : Int} {W : PyData} (h : Wl n W) (k : n ≤ m) : Wl m W := by
  obtain ⟨a, b, c, e, h1, h2, h3⟩ := h
  exact ⟨a, b, c, e, h1, h2, by omega⟩
theorem draw {n : Int} {W : PyData} (h : Wl n W) (hn : n < 900000) (k : Nat) (many : Int) (h1 : 0 < many) (h2 : many.natAbs < 1073741824) : ∃ (r : Int) (W' : PyData), 0 ≤ r ∧ r < many ∧ Wl (n + 1) W' ∧ runK prg (k + 1) 14 [W, .int many] = .ret (.int r) false [W'] := by
  obtain ⟨a, m, c, rfl, hm, hc, hc2⟩ := h
  by_cases ha : 0 < a
  · exact ⟨_, _, (fmod_b h1).1, (fmod_b h1).2, ⟨_, m, c, rfl, hm, hc, by omega⟩, draw1 k (runK prg k) a m c many ha h1 h2⟩
  · obtain ⟨r, r1, r2, e⟩ := draw2 k (runK prg k) a m c many ha h1 h2 hm (by omega)
    exact ⟨r, _, r1, r2, ⟨a, m, c + 1, rfl, hm, by omega, by omega⟩, e⟩
/-! ### the finite menus -/
def sorts : List PyData := [.tuple [.int 1, .int 2, .tuple [.int 0, .int 1]], .tuple [.int 1, .int 2, .tuple [.int 1, .int 0]], .tuple [.int 1, .int 1, .tuple [.int 0]], .tuple [.int 1, .int 3, .tuple [.int 1, .int 0, .int 2]], .tuple [.int 1, .int 3, .tuple [.int 0, .int 1, .int 2]], .tuple [.int 2, .int 1, .tuple [.int 0]], .tuple [.int 2, .int 2, .tuple [.int 0, .int 1]], .tuple [.int 2, .int 2, .tuple [.int 1, .int 0]]]
theorem sort_ok {n : Int} {W : PyData} (h : Wl n W) (hn : n < 900000) : ∃ S W', S ∈ sorts ∧ Wl (n + 1) W' ∧ runK prg 28 15 [W] = .ret S false [W'] := by
  obtain ⟨r, W', r1, r2, hW, e⟩ := draw h hn 26 8 (by decide) (by decide)
  have hr : r.toNat < sorts.length := by
    have : sorts.length = 8 := by decide +kernel
    omega
  refine ⟨sorts[r.toNat], W', List.getElem_mem _, hW, ?_⟩
  have e' : runK prg 27 14 [W, .int 8] = .ret (.int r) false [W'] := e
  obtain ⟨j, rfl⟩ : ∃ j : Nat, r = (j : Int) := ⟨r.toNat, by omega⟩
  have e2 : runK prg 28 15 [W] = runF (evN prg 27 (runK prg 27) deep) f15 [W] := rfl
  have s1 : (evN prg 27 (runK prg 27) deep).s (f15.body.getD 0 .pass) [some (.io W), none] = .ok .nx [some (.io W), some (.ow (.list sorts))] := by kernel_rfl
  have gt : ixop (.list sorts) (.int (j : Int)) = some sorts[j] := by
    have hj : j < sorts.length := by simpa using hr
    show (ixD sorts.length (j : Int)).bind (fun i => sorts[i]?) = _
    unfold ixD
    rw [if_pos (by omega), if_pos (by omega)]
    simp [hj]
  have s2 : (evN prg 27 (runK prg 27) deep).s (f15.body.getD 1 .pass) [some (.io W), some (.ow (.list sorts))] = .ok (.rt sorts[j] false) [some (.io W'), some (.ow (.list sorts))] := by
    show stepS prg (evN prg 27 (runK prg 27) 59) (.ret (.idx (.var 1) (.call 14 [.var 0, .int 8]))) _ = _
    simp [stepS, evN_e, evN_c, stepE, opd2, opds, pre, preA, isVar, getP, Res.bind, noDup, slotsOf, fill, fillA, callRes, ioBack, setRoot, ofO, p14, np14, io14, e', gt]
  have s0 : runF (evN prg 27 (runK prg 27) deep) f15 [W] = match seqL (evN prg 27 (runK prg 27) deep).s [f15.body.getD 0 .pass, f15.body.getD 1 .pass] [some (.io W), none] with
    | .ok fl s => (match iosOf [true] s with
      | none => .bad
      | some ios => (match fl with
        | .nx => .ret .none false ios
        | .rt d f => .ret d f ios
        | _ => .bad))
    | .err c v s => (match iosOf [true] s with
      | none => .bad
      | some ios => .err c v ios)
    | .bad => .bad := rfl
  rw [e2, s0]
  simp only [seqL, s1, s2, Res.bind, iosOf, Option.map]
  simp

def pre18 (S : PyData) : List (Option Cell) := match seqL (evN prg 27 (runK prg 27) deep).s (f18.body.take 4) [some (.io .none), some (.pl S), none, none, none, none] with
  | .ok _ s => s.drop 1
  | _ => []
def nears (S : PyData) : List PyData := match (pre18 S).getD 4 none with
  | some (.ow (.list l)) => l
  | _ => []
theorem pre18_ok (W : PyData) {S : PyData} (hS : S ∈ sorts) : seqL (evN prg 27 (runK prg 27) deep).s (f18.body.take 4) [some (.io W), some (.pl S), none, none, none, none] = .ok .nx (some (.io W) :: pre18 S) := by
  simp only [sorts, List.mem_cons, List.not_mem_nil, or_false] at hS
  rcases hS with rfl | rfl | rfl | rfl | rfl | rfl | rfl | rfl <;> kernel_rfl
theorem pre18_at {S : PyData} (hS : S ∈ sorts) : pre18 S = [(pre18 S).getD 0 none, (pre18 S).getD 1 none, (pre18 S).getD 2 none, (pre18 S).getD 3 none, some (.ow (.list (nears S)))] ∧ (nears S).length = 19 := by
  simp only [sorts, List.mem_cons, List.not_mem_nil, or_false] at hS
  rcases hS with rfl | rfl | rfl | rfl | rfl | rfl | rfl | rfl <;> exact ⟨by kernel_rfl, by decide +kernel⟩
def dueOf (V : PyData) : PyData := match runK prg 28 17 [V] with
  | .ret d _ _ => d
  | _ => .none
def loopB : List Q := match f20.body.getD 1 .pass with
  | .for_ _ _ b => b
  | _ => []
theorem gt_at {l : List PyData} {j : Nat} (hj : j < l.length) : ixop (.list l) (.int (j : Int)) = some l[j] := by
  show (ixD l.length (j : Int)).bind (fun i => l[i]?) = _
  unfold ixD
  rw [if_pos (by omega), if_pos (by omega)]
  simp [hj]
theorem near_ok {n : Int} {W S : PyData} (h : Wl n W) (hn : n < 900000) (hS : S ∈ sorts) : ∃ (r : Nat) (W' : PyData), r < 19 ∧ Wl (n + 1) W' ∧ runK prg 28 18 [W, S] = .ret ((nears S).getD r .none) false [W'] := by
  obtain ⟨r, W', r1, r2, hW, e⟩ := draw h hn 26 19 (by decide) (by decide)
  obtain ⟨j, rfl⟩ : ∃ j : Nat, r = (j : Int) := ⟨r.toNat, by omega⟩
  have e' : runK prg 27 14 [W, .int 19] = .ret (.int (j : Int)) false [W'] := e
  obtain ⟨ep, hl⟩ := pre18_at hS
  generalize (pre18 S).getD 0 none = a at ep
  generalize (pre18 S).getD 1 none = b at ep
  generalize (pre18 S).getD 2 none = c at ep
  generalize (pre18 S).getD 3 none = d at ep
  have hj : j < (nears S).length := by omega
  refine ⟨j, W', by omega, hW, ?_⟩
  have gt := gt_at hj
  have gd : (nears S).getD j .none = (nears S)[j] := by simp [hj]
  have s1 := pre18_ok W hS
  rw [ep] at s1
  have s2 : (evN prg 27 (runK prg 27) deep).s (f18.body.getD 4 .pass) [some (.io W), a, b, c, d, some (.ow (.list (nears S)))] = .ok (.rt (nears S)[j] false) [some (.io W'), a, b, c, d, some (.ow (.list (nears S)))] := by
    show stepS prg (evN prg 27 (runK prg 27) 59) (.ret (.idx (.var 5) (.call 14 [.var 0, .int 19]))) _ = _
    simp [stepS, evN_e, evN_c, stepE, opd2, opds, pre, preA, isVar, getP, Res.bind, noDup, slotsOf, fill, fillA, callRes, ioBack, setRoot, ofO, p14, np14, io14, e', gt]
  have s0 : runK prg 28 18 [W, S] = match seqL (evN prg 27 (runK prg 27) deep).s (f18.body.take 4 ++ [f18.body.getD 4 .pass]) [some (.io W), some (.pl S), none, none, none, none] with
    | .ok fl s => (match iosOf [true, false] s with
      | none => .bad
      | some ios => (match fl with
        | .nx => .ret .none false ios
        | .rt d f => .ret d f ios
        | _ => .bad))
    | .err c v s => (match iosOf [true, false] s with
      | none => .bad
      | some ios => .err c v ios)
    | .bad => .bad := rfl
  rw [s0, seqL_app, s1, gd]
  simp only [seqL, s2, Res.bind, iosOf, Option.map]
def finT (S : PyData) : List (Option Cell) := match seqL (evN prg 28 (runK prg 28) deep).s (f20.body.drop 2) [some (.io .none), some (.pl S), none, none, none, none, none, none] with
  | .ok _ s => s.drop 3
  | _ => []
theorem tail_ok (W : PyData) (x2 x3 x4 : Option Cell) {S : PyData} (hS : S ∈ sorts) : seqL (evN prg 28 (runK prg 28) deep).s (f20.body.drop 2) [some (.io W), some (.pl S), x2, x3, x4, none, none, none] = .ok (.rt (.bool true) false) (some (.io W) :: some (.pl S) :: x2 :: finT S) := by
  simp only [sorts, List.mem_cons, List.not_mem_nil, or_false] at hS
  rcases hS with rfl | rfl | rfl | rfl | rfl | rfl | rfl | rfl <;> kernel_rfl
end K01
namespace K01
open PySem Pv
theorem rest_ok (W T : PyData) (x4 : Option Cell) {S : PyData} (hS : S ∈ sorts) {r : Nat} (hr : r < 19) : seqL (evN prg 28 (runK prg 28) 59).s (loopB.drop 1) [some (.io W), some (.pl S), some (.pl T), some (.pl ((nears S).getD r .none)), x4, none, none, none] =
    .ok .nx [some (.io W), some (.pl S), some (.pl T), some (.pl ((nears S).getD r .none)), some (.pl (dueOf ((nears S).getD r .none))), none, none, none] := by
  simp only [sorts, List.mem_cons, List.not_mem_nil, or_false] at hS
  rcases hS with rfl | rfl | rfl | rfl | rfl | rfl | rfl | rfl <;>
    (iterate 19 (rcases r with _ | r; · kernel_rfl)) <;> omega
end K01
namespace K01
open PySem Pv
theorem p18 : prg.fns[18]? = some f18 := rfl
theorem np18 : f18.np = 2 := rfl
theorem io18 : f18.io = [true, false] := rfl
theorem p15 : prg.fns[15]? = some f15 := rfl
theorem np15 : f15.np = 1 := rfl
theorem io15 : f15.io = [true] := rfl
theorem p20 : prg.fns[20]? = some f20 := rfl
theorem np20 : f20.np = 1 := rfl
theorem io20 : f20.io = [true] := rfl
theorem p13 : prg.fns[13]? = some f13 := rfl
theorem np13 : f13.np = 2 := rfl
theorem io13 : f13.io = [false, false] := rfl
theorem step_ok {n : Int} {W S T : PyData} (h : Wl n W) (hn : n < 900000) (hS : S ∈ sorts) (x3 x4 : Option Cell) : ∃ (W' : PyData) (y3 y4 : Option Cell), Wl (n + 1) W' ∧
    seqL (evN prg 28 (runK prg 28) 59).s loopB [some (.io W), some (.pl S), some (.pl T), x3, x4, none, none, none] = .ok .nx [some (.io W'), some (.pl S), some (.pl T), y3, y4, none, none, none] := by
  obtain ⟨r, W', hr, hW, e⟩ := near_ok h hn hS
  refine ⟨W', some (.pl ((nears S).getD r .none)), some (.pl (dueOf ((nears S).getD r .none))), hW, ?_⟩
  have s1 : (evN prg 28 (runK prg 28) 59).s (loopB.getD 0 .pass) [some (.io W), some (.pl S), some (.pl T), x3, x4, none, none, none] = .ok .nx [some (.io W'), some (.pl S), some (.pl T), some (.pl ((nears S).getD r .none)), x4, none, none, none] := by
    show stepS prg (evN prg 28 (runK prg 28) 58) (.asg (.nm 3) (.call 18 [.var 0, .var 1])) _ = _
    simp [stepS, evN_e, evN_c, stepE, preA, isVar, getP, Res.bind, noDup, slotsOf, fillA, callRes, ioBack, setRoot, ofO, p18, np18, io18, e]
  have e2 : loopB = [loopB.getD 0 .pass] ++ loopB.drop 1 := rfl
  rw [e2, seqL_app]
  simp only [seqL, s1, Res.bind]
  exact rest_ok W' T x4 hS hr
theorem loop_ok {S : PyData} (hS : S ∈ sorts) : ∀ (ds : List PyData) (n : Int) (W : PyData) (x2 x3 x4 : Option Cell), Wl n W → n + ds.length < 900000 → ∃ (W' : PyData) (y2 y3 y4 : Option Cell), Wl (n + ds.length) W' ∧
    forL (fun d s => (asgR (.nm 2) d s).bind fun _ s => seqL (evN prg 28 (runK prg 28) 59).s loopB s) ds [some (.io W), some (.pl S), x2, x3, x4, none, none, none] = .ok .nx [some (.io W'), some (.pl S), y2, y3, y4, none, none, none]
  | [], n, W, x2, x3, x4, h, _ => ⟨W, x2, x3, x4, by simpa using h, rfl⟩
  | d :: ds, n, W, x2, x3, x4, h, hn => by
    have hl : ((d :: ds).length : Int) = (ds.length : Int) + 1 := by simp
    rw [hl] at hn
    obtain ⟨W1, y3, y4, h1, e1⟩ := step_ok (T := d) h (by omega) hS x3 x4
    obtain ⟨W2, z2, z3, z4, h2, e2⟩ := loop_ok hS ds (n + 1) W1 (some (.pl d)) y3 y4 h1 (by omega)
    refine ⟨W2, z2, z3, z4, by rw [hl]; rw [show n + ((ds.length : Int) + 1) = n + 1 + ds.length by omega]; exact h2, ?_⟩
    show ((asgR (.nm 2) d _).bind fun _ s => seqL (evN prg 28 (runK prg 28) 59).s loopB s).bind _ = _
    rw [show (asgR (.nm 2) d [some (.io W), some (.pl S), x2, x3, x4, none, none, none]) = .ok () [some (.io W), some (.pl S), some (.pl d), x3, x4, none, none, none] from rfl]
    simp only [Res.bind, e1]
    exact e2
theorem right_ok {n : Int} {W : PyData} (h : Wl n W) (hn : n < 800000) : ∃ W', Wl (n + 7) W' ∧ runK prg 29 20 [W] = .ret (.bool true) false [W'] := by
  obtain ⟨S, W1, hS, h1, e1⟩ := sort_ok h (by omega)
  obtain ⟨W2, y2, y3, y4, h2, e2⟩ := loop_ok hS [.int 0, .int 1, .int 2, .int 3, .int 4, .int 5] (n + 1) W1 none none none h1 (by simp; omega)
  refine ⟨W2, by simpa [show n + 1 + 6 = n + 7 by omega] using h2, ?_⟩
  have s1 : (evN prg 28 (runK prg 28) deep).s (f20.body.getD 0 .pass) [some (.io W), none, none, none, none, none, none, none] = .ok .nx [some (.io W1), some (.pl S), none, none, none, none, none, none] := by
    show stepS prg (evN prg 28 (runK prg 28) 59) (.asg (.nm 1) (.call 15 [.var 0])) _ = _
    simp [stepS, evN_e, evN_c, stepE, preA, isVar, getP, Res.bind, noDup, slotsOf, fillA, callRes, ioBack, setRoot, ofO, p15, np15, io15, e1]
  have s2 : (evN prg 28 (runK prg 28) deep).s (f20.body.getD 1 .pass) [some (.io W1), some (.pl S), none, none, none, none, none, none] = .ok .nx [some (.io W2), some (.pl S), y2, y3, y4, none, none, none] := by
    rw [← e2]
    kernel_rfl
  have s3 := tail_ok W2 y2 y3 y4 hS
  have s0 : runK prg 29 20 [W] = match seqL (evN prg 28 (runK prg 28) deep).s ([f20.body.getD 0 .pass, f20.body.getD 1 .pass] ++ f20.body.drop 2) [some (.io W), none, none, none, none, none, none, none] with
    | .ok fl s => (match iosOf [true] s with
      | none => .bad
      | some ios => (match fl with
        | .nx => .ret .none false ios
        | .rt d f => .ret d f ios
        | _ => .bad))
    | .err c v s => (match iosOf [true] s with
      | none => .bad
      | some ios => .err c v ios)
    | .bad => .bad := rfl
  rw [s0, seqL_app]
  simp only [seqL, s1, s2, s3, Res.bind, iosOf, Option.map]
end K01
namespace K01
open PySem Pv
theorem mulOk_l {i j : Int} (h : i.natAbs < 18446744073709551616) : mulOk i j = true := by
  unfold mulOk
  simp [show (2 : Nat) ^ 64 = 18446744073709551616 from rfl, h]
/-! ### _law_well -/
theorem well_loop (scr kk cc : PyData) : ∀ (ns : List Int) (w : Int) (x4 x5 : Option Cell), ∃ (w' : Int) (y4 : Option Cell),
    forL (fun d s => (asgR (.nm 4) d s).bind fun _ s => seqL (evN prg 28 (runK prg 28) 59).s (match f13.body.getD 2 .pass with | .for_ _ _ b => b | _ => []) s) (ns.map PyData.int) [some (.pl scr), some (.pl kk), some (.pl cc), some (.pl (.int w)), x4, x5] =
      .ok .nx [some (.pl scr), some (.pl kk), some (.pl cc), some (.pl (.int w')), y4, x5]
  | [], w, x4, x5 => ⟨w, x4, rfl⟩
  | n :: ns, w, x4, x5 => by
    have m1 : ∀ x, mulOk x 5323 = true := fun x => mulOk_r (by decide)
    obtain ⟨w', y4, e⟩ := well_loop scr kk cc ns ((w * 5323 + n.fmod 10000000000000000051).fmod 10000000000000000000000013) (some (.pl (.int n))) x5
    refine ⟨w', y4, ?_⟩
    show ((asgR (.nm 4) (.int n) _).bind fun _ s => seqL (evN prg 28 (runK prg 28) 59).s _ s).bind _ = _
    have s1 : seqL (evN prg 28 (runK prg 28) 59).s (match f13.body.getD 2 .pass with | .for_ _ _ b => b | _ => []) [some (.pl scr), some (.pl kk), some (.pl cc), some (.pl (.int w)), some (.pl (.int n)), x5] =
        .ok .nx [some (.pl scr), some (.pl kk), some (.pl cc), some (.pl (.int ((w * 5323 + n.fmod 10000000000000000051).fmod 10000000000000000000000013))), some (.pl (.int n)), x5] := by
      simp [f13, seqL, evN_s, evN_e, evN_t, evN_c, stepS, stepT, stepE, opd2, opds, pre, isVar, getP, fill, ofO, Res.bind, bop, bop2, List.set, m1, setR]
    rw [show (asgR (.nm 4) (.int n) [some (.pl scr), some (.pl kk), some (.pl cc), some (.pl (.int w)), x4, x5]) = .ok () [some (.pl scr), some (.pl kk), some (.pl cc), some (.pl (.int w)), some (.pl (.int n)), x5] from rfl]
    simp only [Res.bind, s1]
    exact e
theorem well_ok (ns : List Int) (k : Nat) : ∃ W, Wl 0 W ∧ runK prg 29 13 [intsP ns, .int (k : Int)] = .ret W true [] := by
  obtain ⟨cell, hcell⟩ : ∃ cell : Int, (evN prg 28 (runK prg 28) deep).s (f13.body.getD 0 .pass) [some (.pl (intsP ns)), some (.pl (.int (k : Int))), none, none, none, none] = .ok .nx [some (.pl (intsP ns)), some (.pl (.int (k : Int))), some (.pl (.int cell)), none, none, none] := by
    have m1 : mulOk 317 (k : Int) = true := mulOk_l (by decide)
    by_cases hk : k < ns.length
    · refine ⟨ns[k], ?_⟩
      have g := gt_at (l := ns.map PyData.int) (j := k) (by simpa using hk)
      have hk' : (k : Int) < ns.length := by omega
      rw [show (evN prg 28 (runK prg 28) deep).s (f13.body.getD 0 .pass) = stepS prg (evN prg 28 (runK prg 28) 59) (f13.body.getD 0 .pass) from rfl]
      simp [f13, intsP, evN_s, evN_e, evN_t, evN_c, stepS, stepT, stepE, opd2, opd1, opds, pre, isVar, getP, fill, ofO, Res.bind, bop, bop2, cop, bD, tru, List.set, hk', g]
    · refine ⟨317 * k + 277, ?_⟩
      have hk' : ¬ (k : Int) < ns.length := by omega
      rw [show (evN prg 28 (runK prg 28) deep).s (f13.body.getD 0 .pass) = stepS prg (evN prg 28 (runK prg 28) 59) (f13.body.getD 0 .pass) from rfl]
      simp [f13, intsP, evN_s, evN_e, evN_t, evN_c, stepS, stepT, stepE, opd2, opd1, opds, pre, isVar, getP, fill, ofO, Res.bind, bop, bop2, cop, bD, tru, List.set, hk', m1]
  have s1 : (evN prg 28 (runK prg 28) deep).s (f13.body.getD 1 .pass) [some (.pl (intsP ns)), some (.pl (.int (k : Int))), some (.pl (.int cell)), none, none, none] = .ok .nx [some (.pl (intsP ns)), some (.pl (.int (k : Int))), some (.pl (.int cell)), some (.pl (.int (293 + ns.length))), none, none] := by
    rw [show (evN prg 28 (runK prg 28) deep).s (f13.body.getD 1 .pass) = stepS prg (evN prg 28 (runK prg 28) 59) (f13.body.getD 1 .pass) from rfl]
    simp [f13, intsP, evN_s, evN_e, evN_t, evN_c, stepS, stepT, stepE, opd2, opd1, opds, pre, isVar, getP, fill, ofO, Res.bind, bop, bop2, List.set]
  obtain ⟨w', y4, e2⟩ := well_loop (intsP ns) (.int (k : Int)) (.int cell) ns (293 + ns.length) none none
  have s2 : (evN prg 28 (runK prg 28) deep).s (f13.body.getD 2 .pass) [some (.pl (intsP ns)), some (.pl (.int (k : Int))), some (.pl (.int cell)), some (.pl (.int (293 + ns.length))), none, none] = .ok .nx [some (.pl (intsP ns)), some (.pl (.int (k : Int))), some (.pl (.int cell)), some (.pl (.int w')), y4, none] := by
    rw [← e2]
    kernel_rfl
  obtain ⟨ab, hab⟩ : ∃ ab : Int, ab = if cell < 0 then -cell else cell := ⟨_, rfl⟩
  obtain ⟨x, hx⟩ : ∃ x : Int, x = (ab * 103 + w' * 125 + 3 * (if cell < 0 then 1 else 0) + 61 * (k : Int)).fmod 10000000000000000000000000331 := ⟨_, rfl⟩
  have bx := fmod_b (x := ab * 103 + w' * 125 + 3 * (if cell < 0 then 1 else 0) + 61 * (k : Int)) (M := 10000000000000000000000000331) (by decide)
  rw [← hx] at bx
  have m1 : ∀ x, mulOk x 103 = true := fun x => mulOk_r (by decide)
  have m2 : ∀ x, mulOk x 125 = true := fun x => mulOk_r (by decide)
  have m3 : ∀ x, mulOk 3 x = true := fun x => mulOk_l (by decide)
  have m4 : ∀ x, mulOk 61 x = true := fun x => mulOk_l (by decide)
  have s3 : (evN prg 28 (runK prg 28) deep).s (f13.body.getD 3 .pass) [some (.pl (intsP ns)), some (.pl (.int (k : Int))), some (.pl (.int cell)), some (.pl (.int w')), y4, none] = .ok .nx [some (.pl (intsP ns)), some (.pl (.int (k : Int))), some (.pl (.int cell)), some (.pl (.int w')), y4, some (.pl (.int x))] := by
    rw [show (evN prg 28 (runK prg 28) deep).s (f13.body.getD 3 .pass) = stepS prg (evN prg 28 (runK prg 28) 59) (f13.body.getD 3 .pass) from rfl]
    simp [f13, evN_s, evN_e, evN_t, evN_c, stepS, stepT, stepE, opd2, opd1, opds, pre, isVar, getP, fill, ofO, Res.bind, bop, bop2, cop, bD, List.set, m1, m2, m3, m4, ← hab, ← hx]
  have s4 : (evN prg 28 (runK prg 28) deep).s (f13.body.getD 4 .pass) [some (.pl (intsP ns)), some (.pl (.int (k : Int))), some (.pl (.int cell)), some (.pl (.int w')), y4, some (.pl (.int x))] = .ok (.rt (.list [.int (if ab - 1000000000000000000 > 0 then ab - 1000000000000000000 else 0), .int x, .int 0]) true) [some (.pl (intsP ns)), some (.pl (.int (k : Int))), some (.pl (.int cell)), some (.pl (.int w')), y4, some (.pl (.int x))] := by
    rw [show (evN prg 28 (runK prg 28) deep).s (f13.body.getD 4 .pass) = stepS prg (evN prg 28 (runK prg 28) 59) (f13.body.getD 4 .pass) from rfl]
    simp [f13, evN_s, evN_e, evN_t, evN_c, stepS, stepT, stepE, evL, opd2, opd1, opds, pre, isVar, getP, fill, ofO, Res.bind, bop, bop2, cop, bD, line, List.set, ← hab]
  refine ⟨.list [.int (if ab - 1000000000000000000 > 0 then ab - 1000000000000000000 else 0), .int x, .int 0], ⟨_, x, 0, rfl, ?_, by omega, by omega⟩, ?_⟩
  · have : (10000000000000000000000000331 : Int) < 2 ^ 200 := by decide +kernel
    omega
  · have s0 : runK prg 29 13 [intsP ns, .int (k : Int)] = match seqL (evN prg 28 (runK prg 28) deep).s [f13.body.getD 0 .pass, f13.body.getD 1 .pass, f13.body.getD 2 .pass, f13.body.getD 3 .pass, f13.body.getD 4 .pass] [some (.pl (intsP ns)), some (.pl (.int (k : Int))), none, none, none, none] with
      | .ok fl s => (match iosOf [false, false] s with
        | none => .bad
        | some ios => (match fl with
          | .nx => .ret .none false ios
          | .rt d f => .ret d f ios
          | _ => .bad))
      | .err c v s => (match iosOf [false, false] s with
        | none => .bad
        | some ios => .err c v ios)
      | .bad => .bad := rfl
    rw [s0]
    simp only [seqL, hcell, s1, s2, s3, s4, Res.bind, iosOf]
end K01
namespace K01
open PySem Pv
/-! ### law -/
def lawB : List Q := match f21.body.getD 0 .pass with
  | .for_ _ _ b => b
  | _ => []
def lawB2 : List Q := match lawB.getD 1 .pass with
  | .for_ _ _ b => b
  | _ => []
theorem law_in (scr kk : PyData) : ∀ (ds : List PyData) (n : Int) (W : PyData) (x3 : Option Cell), Wl n W → n + 7 * ds.length < 800000 → ∃ (W' : PyData) (y3 : Option Cell),
    forL (fun d s => (asgR (.nm 3) d s).bind fun _ s => seqL (evN prg 29 (runK prg 29) 58).s lawB2 s) ds [some (.pl scr), some (.pl kk), some (.ow W), x3] = .ok .nx [some (.pl scr), some (.pl kk), some (.ow W'), y3]
  | [], n, W, x3, h, _ => ⟨W, x3, rfl⟩
  | d :: ds, n, W, x3, h, hn => by
    have hl : ((d :: ds).length : Int) = (ds.length : Int) + 1 := by simp
    rw [hl] at hn
    obtain ⟨W1, h1, e1⟩ := right_ok h (by omega)
    obtain ⟨W2, y3, e2⟩ := law_in scr kk ds (n + 7) W1 (some (.pl d)) h1 (by omega)
    refine ⟨W2, y3, ?_⟩
    show ((asgR (.nm 3) d _).bind fun _ s => seqL (evN prg 29 (runK prg 29) 58).s lawB2 s).bind _ = _
    have s1 : seqL (evN prg 29 (runK prg 29) 58).s lawB2 [some (.pl scr), some (.pl kk), some (.ow W), some (.pl d)] = .ok .nx [some (.pl scr), some (.pl kk), some (.ow W1), some (.pl d)] := by
      simp [lawB2, lawB, f21, seqL, evN_s, evN_e, evN_t, evN_c, stepS, stepT, stepE, preA, isVar, getP, Res.bind, noDup, slotsOf, fillA, callRes, ioBack, setRoot, ofO, p20, np20, io20, e1, tru]
    rw [show (asgR (.nm 3) d [some (.pl scr), some (.pl kk), some (.ow W), x3]) = .ok () [some (.pl scr), some (.pl kk), some (.ow W), some (.pl d)] from rfl]
    simp only [Res.bind, s1]
    exact e2
theorem law_out (ns : List Int) : ∀ (ks : List Nat) (x1 x2 x3 : Option Cell), ∃ (y1 y2 y3 : Option Cell),
    forL (fun d s => (asgR (.nm 1) d s).bind fun _ s => seqL (evN prg 29 (runK prg 29) 59).s lawB s) (ks.map fun (k : Nat) => PyData.int (k : Int)) [some (.pl (intsP ns)), x1, x2, x3] = .ok .nx [some (.pl (intsP ns)), y1, y2, y3]
  | [], x1, x2, x3 => ⟨x1, x2, x3, rfl⟩
  | k :: ks, x1, x2, x3 => by
    obtain ⟨W, h, e⟩ := well_ok ns k
    obtain ⟨W', y3, e1⟩ := law_in (intsP ns) (.int (k : Int)) [.int 0, .int 1, .int 2, .int 3] 0 W x3 h (by simp)
    obtain ⟨z1, z2, z3, e2⟩ := law_out ns ks (some (.pl (.int (k : Int)))) (some (.ow W')) y3
    refine ⟨z1, z2, z3, ?_⟩
    show ((asgR (.nm 1) (.int (k : Int)) _).bind fun _ s => seqL (evN prg 29 (runK prg 29) 59).s lawB s).bind _ = _
    have s1 : (evN prg 29 (runK prg 29) 59).s (lawB.getD 0 .pass) [some (.pl (intsP ns)), some (.pl (.int (k : Int))), x2, x3] = .ok .nx [some (.pl (intsP ns)), some (.pl (.int (k : Int))), some (.ow W), x3] := by
      rw [show (evN prg 29 (runK prg 29) 59).s (lawB.getD 0 .pass) = stepS prg (evN prg 29 (runK prg 29) 58) (lawB.getD 0 .pass) from rfl]
      simp [lawB, f21, evN_s, evN_e, evN_t, evN_c, stepS, stepT, stepE, preA, isVar, getP, Res.bind, noDup, slotsOf, fillA, callRes, ioBack, setRoot, ofO, p13, np13, io13, e]
    have s2 : (evN prg 29 (runK prg 29) 59).s (lawB.getD 1 .pass) [some (.pl (intsP ns)), some (.pl (.int (k : Int))), some (.ow W), x3] = .ok .nx [some (.pl (intsP ns)), some (.pl (.int (k : Int))), some (.ow W'), y3] := by
      rw [← e1]
      kernel_rfl
    have s3 : seqL (evN prg 29 (runK prg 29) 59).s lawB [some (.pl (intsP ns)), some (.pl (.int (k : Int))), x2, x3] = .ok .nx [some (.pl (intsP ns)), some (.pl (.int (k : Int))), some (.ow W'), y3] := by
      rw [show lawB = [lawB.getD 0 .pass, lawB.getD 1 .pass] from rfl]
      simp only [seqL, s1, s2, Res.bind]
    rw [show (asgR (.nm 1) (.int (k : Int)) [some (.pl (intsP ns)), x1, x2, x3]) = .ok () [some (.pl (intsP ns)), some (.pl (.int (k : Int))), x2, x3] from rfl]
    simp only [Res.bind, s3]
    exact e2
theorem law_ok (ns : List Int) (h : ns.length ≤ 63) : ∃ fr ios, runK prg 30 21 [intsP ns] = .ret (.bool true) fr ios := by
  obtain ⟨j, hj, hj2⟩ : ∃ j : Int, j = (if (if (ns.length : Int) < 3 then (ns.length : Int) else 3) > 1 then (if (ns.length : Int) < 3 then (ns.length : Int) else 3) else 1) ∧ (1 ≤ j ∧ j ≤ 3) := ⟨_, rfl, by split <;> split <;> omega⟩
  obtain ⟨y1, y2, y3, e⟩ := law_out ns (List.range j.toNat) none none none
  have s1 : (evN prg 29 (runK prg 29) deep).s (f21.body.getD 0 .pass) [some (.pl (intsP ns)), none, none, none] = .ok .nx [some (.pl (intsP ns)), y1, y2, y3] := by
    rw [← e]
    have hi : items (evN prg 29 (runK prg 29) 59) (.rng [.bi .max2 [.int 1, .bi .min2 [.int 3, .bi .len [.var 0]]]]) [some (.pl (intsP ns)), none, none, none] = .ok ((List.range j.toNat).map fun (k : Nat) => PyData.int (k : Int)) [some (.pl (intsP ns)), none, none, none] := by
      have hr : rngD [.int j] = some ((List.range j.toNat).map fun (k : Nat) => PyData.int (k : Int)) := by
        show (if -(2 ^ 62) ≤ j ∧ j < 2 ^ 62 then some ((List.range j.toNat).map fun (k : Nat) => PyData.int (k : Int)) else none) = _
        rw [if_pos (by omega)]
      simp [items, intsP, evN_s, evN_e, evN_t, evN_c, stepE, opds, pre, isVar, getP, fill, ofO, Res.bind, bop2, ← hj, hr]
    show (items (evN prg 29 (runK prg 29) 59) (.rng [.bi .max2 [.int 1, .bi .min2 [.int 3, .bi .len [.var 0]]]]) [some (.pl (intsP ns)), none, none, none]).bind _ = _
    rw [hi]
    kernel_rfl
  refine ⟨false, [], ?_⟩
  have s0 : runK prg 30 21 [intsP ns] = match seqL (evN prg 29 (runK prg 29) deep).s [f21.body.getD 0 .pass, f21.body.getD 1 .pass] [some (.pl (intsP ns)), none, none, none] with
    | .ok fl s => (match iosOf [false] s with
      | none => .bad
      | some ios => (match fl with
        | .nx => .ret .none false ios
        | .rt d f => .ret d f ios
        | _ => .bad))
    | .err c v s => (match iosOf [false] s with
      | none => .bad
      | some ios => .err c v ios)
    | .bad => .bad := rfl
  rw [s0]
  have s2 : (evN prg 29 (runK prg 29) deep).s (f21.body.getD 1 .pass) [some (.pl (intsP ns)), y1, y2, y3] = .ok (.rt (.bool true) false) [some (.pl (intsP ns)), y1, y2, y3] := by kernel_rfl
  simp only [seqL, s1, s2, Res.bind, iosOf]
end K01
namespace K01
open PySem PySem.Spec PyProof.Rows L2 Pv
def ini : Stmt := match stAt body 1 with
  | .ClassDef (body := b :: _) .. => b
  | _ => .Pass default
theorem iniOk : IniOk ini := ⟨⟨_, _, _, _, _, _, _, _, _, _, _, _, rfl, by decide⟩, ⟨_, rfl, rfl⟩, fun _ _ _ _ _ _ _ _ _ => rfl, rfl, rfl, rfl, rfl, by decide +kernel, rfl, rfl, rfl⟩
end K01
open PySem PySem.W PyProof.Rows
set_option maxRecDepth 100000 in
set_option maxHeartbeats 0 in
theorem PySem.Challenge.cw_picturesheld_k01_sorts_holds : PySem.Challenge.rw_picturesheld_k01_sorts.Holds := by
  w_on; o_law; k_head; (case hw => w_witness2)
  k_fill
  refine Pv.pv_walk (l := PySem.Challenge.rw_picturesheld_k01_sorts) (n := 63) (k := 30) (f := 21) (Γ := K01.gs) (P := K01.prg) rfl (by decide) rfl ⟨rfl, by decide, by decide⟩ (fun w h Y => PySem.W.kIn_of Y) rfl rfl rfl rfl ?F ?ans
  case F =>
    intro w mg h KX G
    refine' Pv.modG_of (D := ?D) (fI := ?fI) KX G rfl K01.chk ?hK K01.bds rfl rfl ?h1 ?h2 ?h3 K01.iniOk ?hP ?h4 ?hop (by decide +kernel)
    case hP =>
      refine' Pv.pe_mk ?p0 ?p1 ?p2 ?p3 ?p4 ?p5 ?p6 ?p7 ?p8 ?p9
      (case p0 => k_is); (case p1 => k_is); (case p2 => k_is); (case p3 => k_is); (case p4 => k_is); (case p5 => k_is); (case p6 => rfl); (case p7 => rfl); (case p8 => k_is); (case p9 => kernel_rfl)
    case hop => k_is
    case h1 => kernel_rfl
    case h2 => kernel_rfl
    case h3 => kernel_rfl
    case h4 => kernel_rfl
    case hK =>
      repeat (refine' Pv.kd_mk ?a ?b ?c ?d ?_; (case a => k_is); (case b => k_is); (case c => k_is); (case d => k_is))
      exact Pv.kd_nil
  case ans => exact fun ns h => K01.law_ok ns h
