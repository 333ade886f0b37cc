import PyProof.Rows.All
import Wide.All
import OpenK.AllK
import Wide.FinOn
import HandS.ForMost
import KE.SortData
import HandS.ForExc
import HandS.Flow
import HandS.Wide
import HandS.TupAny
import HandS.Deep
import KE.DataCmp
import HandS.Style
import HandS.Star
import HandS.Text
import HandS.IsInst
import HandS.More
import PyProof.Draws
import HandS.Defaults
import HandS.ExcInit
import HandS.SortKw
import PyProof.MinMaxWalk
import PyProof.WalkInts
import HandS.IterVal
import KE.KOwnIter
import OpenK.KOps
import OpenK.KMeth
import HandS.OwnIter
import HandS.CallRecv
import HandS.TupSets
import KE.KeyNested
import HandS.Ends
import HandS.Head0
import HandS.Head1
import HandS.Head2
import HandS.HeadEnd
import HandS.HeadHook1
import HandS.HeadHook2
import KE.KStateDown
import PyProof.StrLawsRepr
import PySem.Challenge.RW_narrowkeys_k32_implied_questions
set_option Elab.async false
set_option linter.all false
/-! Ev, part A: a small evaluator over trees. A def's body is a closure over a state: slots (a tree, a cell's number, or a tree that
the slot alone owns) and cells. -/
namespace Ev
open PySem

/-- data, as trees -/
inductive D where
  | non | bl (b : Bool) | int (i : Int) | str (s : Str)
  | tup (xs : List D) | lst (xs : List D)
  | dct (ks vs : List D)
  | set (xs : List D)
  | ins (c : Nat) (ns : List Str) (vs : List D)
  | err (c : Nat) (vs : List D)
  | lz (xs : List D)

/-! the library's data of it -/
mutual
def D.py : D → PyData
  | .non => .none
  | .bl b => .bool b
  | .int i => .int i
  | .str s => .str s
  | .tup xs => .tuple (D.pys xs)
  | .lst xs => .list (D.pys xs)
  | .dct _ _ | .set _ | .ins _ _ _ | .err _ _ | .lz _ => .none
def D.pys : List D → List PyData
  | [] => []
  | x :: xs => x.py :: D.pys xs
end
/-! it is data of the library's kinds, at most n deep -/
mutual
def D.flat : Nat → D → Bool
  | _, .non | _, .bl _ | _, .int _ | _, .str _ => true
  | 0, .tup _ | 0, .lst _ => false
  | n + 1, .tup xs | n + 1, .lst xs => D.flats n xs
  | _, .dct _ _ | _, .set _ | _, .ins _ _ _ | _, .err _ _ | _, .lz _ => false
def D.flats : Nat → List D → Bool
  | _, [] => true
  | n, x :: xs => x.flat n && D.flats n xs
end

/-- a slot of a def's frame -/
inductive Slot where
  | d (x : D) | ref (k : Nat) | own (x : D)
/-- a cell: a mutable thing that has a number -/
inductive Cell where
  | live (x : D) | fro (x : D)
abbrev Slots := List (Option Slot)
abbrev Mem := List Cell
structure S where
  env : Slots
  mem : Mem
structure Exc where
  c : Nat
  vs : List D
inductive Res (α : Type) where
  | ok (a : α) (s : S) | exc (x : Exc) (s : S) | bad
/-- what an expression gives: a tree, a cell, a new thing that nobody else holds, or what the slot i owns -/
inductive Out where
  | d (x : D) | ref (k : Nat) | new (x : D) | own (i : Nat)
abbrev EM (α : Type) := S → Res α
def EM.pure {α : Type} (a : α) : EM α := fun s => .ok a s
def EM.bind {α β : Type} (x : EM α) (f : α → EM β) : EM β := fun s => match x s with
  | .ok a s' => f a s'
  | .exc e s' => .exc e s'
  | .bad => .bad
/-- a wish that may fail -/
def opt {α : Type} : Option α → EM α
  | some a => .pure a
  | none => fun _ => .bad

def Cell.tree : Cell → D
  | .live x | .fro x => x
def Out.look (s : S) : Out → Option D
  | .d x | .new x => some x
  | .ref k => s.mem[k]?.map Cell.tree
  | .own i => match s.env[i]? with
    | some (some (.d x)) | some (some (.own x)) => some x
    | _ => none
/-- the tree that it is now, looked at at once -/
def get (o : Out) : EM D := fun s => match o.look s with
  | some x => .ok x s
  | none => .bad
/-- the tree that it is from now on -/
def keep : Out → EM D
  | .d x | .new x => .pure x
  | .ref k => fun s => match s.mem[k]? with
    | some c => .ok c.tree { s with mem := s.mem.set k (.fro c.tree) }
    | none => .bad
  | .own i => fun s => match s.env[i]? with
    | some (some (.d x)) => .ok x s
    | some (some (.own x)) => .ok x { s with env := s.env.set i (some (.d x)) }
    | _ => .bad

/-! ### the sizes that are asked -/
abbrev LIM : Nat := 1000000
def szI (i : Int) : Nat := i.natAbs.log2

/-! ### operators on trees -/
abbrev eqD (a b : D) : Bool := PyData.eqv a.py b.py
def okEq (a b : D) : Bool := a.flat 60 && b.flat 60
inductive BOp where
  | add | sub | mul | fdiv | mod | pow
def mulOk (i j : Int) : Bool := decide (i.natAbs.log2 + j.natAbs.log2 < 100000)
def powOk (i j : Int) : Bool := decide (0 ≤ j) && decide (j ≤ 1000) && decide (i.natAbs < 2 ^ 64)
def addD : D → D → Option Out
  | .int i, .int j => some (.d (.int (i + j)))
  | .str x, .str y => if x.length + y.length ≤ LIM then some (.d (.str (x ++ y))) else none
  | .tup xs, .tup ys => if xs.length + ys.length ≤ LIM then some (.d (.tup (xs ++ ys))) else none
  | .lst xs, .lst ys => if xs.length + ys.length ≤ LIM then some (.new (.lst (xs ++ ys))) else none
  | _, _ => none
def mulD : D → D → Option Out
  | .int i, .int j => if mulOk i j = true then some (.d (.int (i * j))) else none
  | .lst xs, .int j => if xs.length * j.toNat ≤ LIM ∧ -LIM ≤ j ∧ j ≤ LIM then some (.new (.lst (List.replicate j.toNat xs).flatten)) else none
  | _, _ => none
/-- two ints, under a wish -/
def intsD (ok : Int → Int → Bool) (f : Int → Int → Int) : D → D → Option Out
  | .int i, .int j => if ok i j = true then some (.d (.int (f i j))) else none
  | _, _ => none
def BOp.go : BOp → D → D → Option Out
  | .add => addD
  | .sub => intsD (fun _ _ => true) fun i j => i - j
  | .mul => mulD
  | .fdiv => intsD (fun _ j => decide (0 < j ∧ j < 1073741824)) fun i j => i / j
  | .mod => intsD (fun _ j => decide (0 < j)) fun i j => i % j
  | .pow => intsD powOk fun i j => i ^ j.toNat
inductive COp where
  | eq | ne | lt | le | gt | ge | is | isnt | isin | notin
def D.isNon : D → Bool
  | .non => true
  | _ => false
/-- x < y -/
def ltD (a b : D) : Option Bool := match a, b with
  | .int i, .int j => some (decide (i < j))
  | a, b => if okEq a b && PySem.W.alike a.py b.py && !a.isNon then some (PySem.W.dataLt a.py b.py) else none
def leD (a b : D) : Option Bool := match a, b with
  | .int i, .int j => some (decide (i ≤ j))
  | a, b => if okEq a b && PySem.W.alike a.py b.py && !a.isNon then some (!PySem.W.dataLt b.py a.py) else none
def isD : D → D → Option Bool
  | a, .non => some a.isNon
  | .bl a, .bl b => some (a == b)
  | _, _ => none
def inD : D → D → Option Bool
  | x, .tup ys | x, .lst ys => if x.flat 60 && D.flats 60 ys then some (ys.any fun y => eqD y x) else none
  | .str x, .str y => some (!(Builtin.Str.occurrences y x 0 y.length 1).isEmpty)
  | _, _ => none
def COp.go : COp → D → D → Option Bool
  | .eq, a, b => if okEq a b then some (eqD a b) else none
  | .ne, a, b => if okEq a b then some (!eqD a b) else none
  | .lt, a, b => ltD a b
  | .le, a, b => leD a b
  | .gt, a, b => ltD b a
  | .ge, a, b => leD b a
  | .is, a, b => isD a b
  | .isnt, a, b => (isD a b).map (!·)
  | .isin, a, b => inD a b
  | .notin, a, b => (inD a b).map (!·)
def truth : D → Option Bool
  | .non => some false
  | .bl b => some b
  | .int i => some (i != 0)
  | .str s => if s.length ≤ LIM then some ((s.length : Int) != 0) else none
  | .tup xs | .lst xs => some (!xs.isEmpty)
  | _ => none

/-! ### expressions -/
def lit (x : D) : EM Out := .pure (.d x)
def var (i : Nat) : EM Out := fun s => match s.env[i]? with
  | some (some (.d x)) => .ok (.d x) s
  | some (some (.ref k)) => .ok (.ref k) s
  | some (some (.own _)) => .ok (.own i) s
  | _ => .bad
def bin (op : BOp) (a b : EM Out) : EM Out := a.bind fun x => b.bind fun y => (get x).bind fun u => (get y).bind fun v => opt (op.go u v)
def neg (a : EM Out) : EM Out := a.bind fun x => (get x).bind fun u => opt (match u with | .int i => some (.d (.int (-i))) | _ => none)
def cmp (op : COp) (a b : EM Out) : EM Out := a.bind fun x => b.bind fun y => (get x).bind fun u => (get y).bind fun v => opt ((op.go u v).map fun r => .d (.bl r))
def tst (a : EM Out) : EM Bool := a.bind fun x => (get x).bind fun u => opt (truth u)
/-- a op1 b op2 c -/
def chn (op1 op2 : COp) (a b c : EM Out) : EM Out := a.bind fun x => b.bind fun y => (get x).bind fun u => (get y).bind fun v =>
  (opt (op1.go u v)).bind fun r => if r = true then c.bind fun z => (get y).bind fun v => (get z).bind fun w => opt ((op2.go v w).map fun r => .d (.bl r)) else .pure (.d (.bl false))
def nt (a : EM Bool) : EM Out := a.bind fun b => .pure (.d (.bl (!b)))
def ntB (a : EM Bool) : EM Bool := a.bind fun b => .pure (!b)
def andB (a b : EM Bool) : EM Bool := a.bind fun t => if t = true then b else .pure false
def orB (a b : EM Bool) : EM Bool := a.bind fun t => if t = true then .pure true else b
def iteB (c a b : EM Bool) : EM Bool := c.bind fun t => if t = true then a else b
def cmpB (op : COp) (a b : EM Out) : EM Bool := a.bind fun x => b.bind fun y => (get x).bind fun u => (get y).bind fun v => opt (op.go u v)
def andE (a b : EM Out) : EM Out := a.bind fun x => (get x).bind fun u => (opt (truth u)).bind fun t => if t = true then b else .pure x
def orE (a b : EM Out) : EM Out := a.bind fun x => (get x).bind fun u => (opt (truth u)).bind fun t => if t = true then .pure x else b
def iteE (c : EM Bool) (a b : EM Out) : EM Out := c.bind fun t => if t = true then a else b
def items : D → Option (List D)
  | .tup xs | .lst xs => some xs
  | _ => none
/-- the items of a display: a tree, or a row of them behind a star -/
def els : List (Bool × EM Out) → EM (List D)
  | [] => .pure []
  | (false, e) :: r => e.bind fun x => (keep x).bind fun u => (els r).bind fun us => .pure (u :: us)
  | (true, e) :: r => e.bind fun x => (get x).bind fun u => (opt (items u)).bind fun xs => (els r).bind fun us => .pure (xs ++ us)
def few (n : Nat) (o : Out) : Option Out := if n ≤ LIM then some o else none
def tupE (es : List (Bool × EM Out)) : EM Out := (els es).bind fun us => opt (few us.length (.d (.tup us)))
def lstE (es : List (Bool × EM Out)) : EM Out := (els es).bind fun us => opt (few us.length (.new (.lst us)))
def idxD : D → D → Option D
  | .tup xs, .int i | .lst xs, .int i => L2.atI xs i
  | .str s, .int i => if s.length ≤ LIM then (L2.atI s.cps.toList i).map fun c => .str ⟨#[c]⟩ else none
  | _, _ => none
def idx (a b : EM Out) : EM Out := a.bind fun x => b.bind fun y => (get x).bind fun u => (get y).bind fun v => opt ((idxD u v).map .d)
def cutL {α : Type} (xs : List α) (lo hi : Option Int) : List α := (xs.drop (HT.sIx xs.length 0 lo)).take (HT.sIx xs.length xs.length hi - HT.sIx xs.length 0 lo)
def cutD (lo hi : Option Int) : D → Option Out
  | .tup xs => some (.d (.tup (cutL xs lo hi)))
  | .lst xs | .lz xs => some (.new (.lst (cutL xs lo hi)))
  | .str s => if s.length ≤ LIM then some (.d (.str ⟨(cutL s.cps.toList lo hi).toArray⟩)) else none
  | _ => none
def asI : D → Option Int
  | .int i => some i
  | _ => none
def ends : Option (EM Out) → EM (Option Int)
  | none => .pure none
  | some e => e.bind fun x => (get x).bind fun u => (opt (asI u)).bind fun i => .pure (some i)
def cut (a : EM Out) (lo hi : Option (EM Out)) : EM Out := a.bind fun x => (ends lo).bind fun i => (ends hi).bind fun j => (get x).bind fun u => opt (cutD i j u)

/-! ### calls of what Python has -/
def args : List (EM Out) → EM (List Out)
  | [] => .pure []
  | e :: r => e.bind fun x => (args r).bind fun xs => .pure (x :: xs)
def gets : List Out → EM (List D)
  | [] => .pure []
  | x :: r => (get x).bind fun u => (gets r).bind fun us => .pure (u :: us)
def allInts : List D → Option (List Int)
  | [] => some []
  | .int i :: r => (allInts r).map (i :: ·)
  | _ => none
def allBls : List D → Option (List Bool)
  | [] => some []
  | .bl i :: r => (allBls r).map (i :: ·)
  | _ => none
/-- they can be compared with one another, place by place -/
def sortable (xs : List D) : Bool := D.flats 60 xs && (xs.all fun x => xs.all fun y => PySem.W.alike x.py y.py) &&
  ((xs.all fun x => match x with | .tup (_ :: _) => true | _ => false) || xs.all fun x => match x with | .non | .tup _ => false | _ => true)
def sortD (xs : List D) : List D := xs.mergeSort fun a b => !PySem.W.dataLt b.py a.py
def best (f : Int → Int → Bool) : List Int → Option Int
  | [] => none
  | i :: r => some (r.foldl (fun m x => if f x m then x else m) i)
def showOk (x : D) : Bool := x.flat 60 && x.py.showable && PyData.strOk x.py.shown && decide (x.py.shown.length ≤ LIM)
inductive Bi where
  | len | abs | int | list | tuple | sorted | all | any | sum | max | min | repr | max2 | min2
def Bi.go : Bi → List D → Option Out
  | .len, [.tup xs] | .len, [.lst xs] => some (.d (.int xs.length))
  | .len, [.str s] => if s.length ≤ LIM then some (.d (.int s.length)) else none
  | .abs, [.int i] => some (.d (.int (if i < 0 then -i else i)))
  | .int, [.int i] => some (.d (.int i))
  | .int, [.bl b] => some (.d (.int (if b then 1 else 0)))
  | .list, [.tup xs] | .list, [.lst xs] => some (.new (.lst xs))
  | .tuple, [.tup xs] | .tuple, [.lst xs] => some (.d (.tup xs))
  | .sorted, [.tup xs] | .sorted, [.lst xs] => if sortable xs then some (.new (.lst (sortD xs))) else none
  | .all, [.lst xs] => (allBls xs).map fun bs => .d (.bl (bs.all id))
  | .any, [.lst xs] => (allBls xs).map fun bs => .d (.bl (bs.any id))
  | .sum, [.lst xs] => (allInts xs).map fun is => .d (.int is.sum)
  | .max, [.lst xs] => (allInts xs).bind fun is => (best (fun x m => decide (m < x)) is).map fun m => .d (.int m)
  | .min, [.lst xs] => (allInts xs).bind fun is => (best (fun x m => decide (x < m)) is).map fun m => .d (.int m)
  | .repr, [x] => if showOk x then some (.d (.str x.py.shown)) else none
  | .max2, [.int i, .int j] => some (.d (.int (if j > i then j else i)))
  | .min2, [.int i, .int j] => some (.d (.int (if j < i then j else i)))
  | _, _ => none
def bi (f : Bi) (es : List (EM Out)) : EM Out := (args es).bind fun xs => (gets xs).bind fun us => opt (f.go us)
inductive Ty where
  | int | str | bool | tuple | list | dict
def Ty.has : Ty → D → Bool
  | .int, .int _ | .int, .bl _ | .str, .str _ | .bool, .bl _ | .tuple, .tup _ | .list, .lst _ | .dict, .dct _ _ => true
  | _, _ => false
def D.kinded : D → Bool
  | .non | .bl _ | .int _ | .str _ | .tup _ | .lst _ => true
  | _ => false
def isa (e : EM Out) (ts : List Ty) : EM Out := e.bind fun x => (get x).bind fun u => opt (if u.kinded = true then some (.d (.bl (ts.any fun t => t.has u))) else none)

/-! ### methods of lists -/
def putIn (o : Out) (f : D → Option D) : EM Unit := fun s => match o with
  | .ref k => match s.mem[k]? with
    | some (.live x) => match f x with
      | some y => .ok () { s with mem := s.mem.set k (.live y) }
      | none => .bad
    | _ => .bad
  | .own i => match s.env[i]? with
    | some (some (.own x)) => match f x with
      | some y => .ok () { s with env := s.env.set i (some (.own y)) }
      | none => .bad
    | _ => .bad
  | _ => .bad
def keeps : List (EM Out) → EM (List D)
  | [] => .pure []
  | e :: r => e.bind fun x => (keep x).bind fun u => (keeps r).bind fun us => .pure (u :: us)
inductive Mt where
  | append | insert | pop | popAt | clear
/-- what the list is behind it, what it gives -/
def Mt.go : Mt → List D → List D → Option (List D × D)
  | .append, xs, [y] => if xs.length < LIM then some (xs ++ [y], .non) else none
  | .insert, xs, [.int i, y] => if xs.length < LIM ∧ 0 ≤ i ∧ i ≤ LIM then some (xs.take i.toNat ++ y :: xs.drop i.toNat, .non) else none
  | .pop, xs, [] => (xs[xs.length - 1]?).map fun y => (xs.dropLast, y)
  | .popAt, xs, [.int i] => if 0 ≤ i ∧ i ≤ LIM then (xs[i.toNat]?).map fun y => (xs.eraseIdx i.toNat, y) else none
  | .clear, _, [] => some ([], .non)
  | _, _, _ => none
def asL : D → Option (List D)
  | .lst xs => some xs
  | _ => none
def mt (f : Mt) (o : EM Out) (es : List (EM Out)) : EM Out := o.bind fun x => (get x).bind fun v0 => (opt (asL v0)).bind fun _ => (keeps es).bind fun us => (get x).bind fun v => (opt (asL v)).bind fun xs =>
  (opt (f.go xs us)).bind fun r => (putIn x fun _ => some (.lst r.1)).bind fun _ => .pure (.d r.2)
/-- o.extend(e) -/
def ext (o e : EM Out) : EM Out := o.bind fun x => (get x).bind fun v0 => (opt (asL v0)).bind fun _ => e.bind fun y => (get x).bind fun v => (opt (asL v)).bind fun xs => (get y).bind fun u => (opt (asL u)).bind fun ys =>
  (opt (if xs.length + ys.length < LIM then some (xs ++ ys) else none)).bind fun r => (putIn x fun _ => some (.lst r)).bind fun _ => .pure (.d .non)

/-! ### calls of defs -/
inductive Vl where
  | d (x : D) | ref (k : Nat)
def Vl.slot : Vl → Slot
  | .d x => .d x
  | .ref k => .ref k
def pass : Out → EM Vl
  | .ref k => .pure (.ref k)
  | o => (keep o).bind fun x => .pure (.d x)
/-- a call of a def: by its number, with values, over the cells -/
abbrev Fn := Nat → List Vl → Mem → Option (Res Out)
abbrev Call := Nat → List Vl → EM Out
def passes : List (EM Out) → EM (List Vl)
  | [] => .pure []
  | e :: r => e.bind fun x => (pass x).bind fun u => (passes r).bind fun us => .pure (u :: us)
def call (F : Call) (f : Nat) (es : List (EM Out)) (ds : List D) : EM Out := (passes es).bind fun us => F f (us ++ ds.map .d)

/-- it holds nothing else -/
def D.atom : D → Bool
  | .non | .bl _ | .int _ | .str _ => true
  | _ => false
/-- a call that only looks at what it is given, and gives back a plain thing -/
def callB (F : Call) (f : Nat) (es : List (EM Out)) : EM Out := (args es).bind fun xs => (gets xs).bind fun us => fun s => match F f (us.map .d) ⟨[], []⟩ with
  | .ok (.d x) _ => if x.atom = true then .ok (.d x) s else .bad
  | _ => .bad

/-! ### what is walked -/
def walkD : D → Option (List D)
  | .tup xs | .lst xs => some xs
  | .str s => some (s.cps.toList.map fun c => .str ⟨#[c]⟩)
  | _ => none
def seqE (e : EM Out) : EM (List D) := e.bind fun x => (keep x).bind fun u => opt (walkD u)
def upto (lo : Int) (n : Nat) : List D := (List.range n).map fun (i : Nat) => .int (lo + i)
def rngD1 : List D → Option (List D)
  | [.int i] => if -LIM ≤ i ∧ i ≤ LIM then some (upto 0 i.toNat) else none
  | _ => none
def rngD2 : List D → Option (List D)
  | [.int i, .int j] => if (-LIM ≤ i ∧ i ≤ LIM) ∧ -LIM ≤ j ∧ j ≤ LIM then some (upto i (j - i).toNat) else none
  | _ => none
def rng1 (e : EM Out) : EM (List D) := (keeps [e]).bind fun us => opt (rngD1 us)
def rng2 (a b : EM Out) : EM (List D) := (keeps [a, b]).bind fun us => opt (rngD2 us)
def enumD : List D → Option (List D)
  | [.lst xs] | [.tup xs] => some (xs.zipIdx.map fun p => .tup [.int p.2, p.1])
  | _ => none
def enumE (e : EM Out) : EM (List D) := (keeps [e]).bind fun us => opt (enumD us)
def zipD : List D → Option (List D)
  | [.lst xs, .lst ys] => some ((xs.zip ys).map fun p => .tup [p.1, p.2])
  | _ => none
def zipE (a b : EM Out) : EM (List D) := (keeps [a, b]).bind fun us => opt (zipD us)

/-! ### targets -/
/-- a name's slot, or a tuple of them -/
inductive Tg where
  | one (i : Nat) | many (is : List Nat)
def setAll : List Nat → List D → Slots → Option Slots
  | [], [], e => some e
  | i :: is, x :: xs, e => setAll is xs (e.set i (some (.d x)))
  | _, _, _ => none
def Tg.put : Tg → D → Slots → Option Slots
  | .one i, x, e => some (e.set i (some (.d x)))
  | .many is, .tup xs, e => setAll is xs e
  | .many _, _, _ => none

/-! ### comprehensions -/
def wipeE (e : Slots) : List Nat → Slots
  | [] => e
  | v :: vs => (wipeE e vs).set v none
/-- what of the block's slots is not its own is handed on -/
def unwipe (e e' : Slots) : List Nat → Slots
  | [] => e'
  | v :: vs => (unwipe e e' vs).set v (e[v]?.getD none)
def lcLoop (vs : List Nat) (tg : Tg) (c : EM Bool) (el : EM Out) : List D → List D → EM (List D)
  | [], acc => .pure acc
  | x :: xs, acc => fun s => match tg.put x (wipeE s.env vs) with
    | none => .bad
    | some e => (c.bind fun b => if b = true then el.bind fun o => (keep o).bind fun y => lcLoop vs tg c el xs (acc ++ [y]) else lcLoop vs tg c el xs acc) { s with env := e }
def yes : EM Bool := .pure true
/-- [el for tg in it if c], vs the block's own slots -/
def lc (vs : List Nat) (tg : Tg) (it : EM (List D)) (c : EM Bool) (el : EM Out) : EM Out := it.bind fun xs => (opt (if xs.length < LIM then some xs else none)).bind fun xs => fun s =>
  match lcLoop vs tg c el xs [] s with
  | .ok ys s' => .ok (.new (.lst ys)) { s' with env := unwipe s.env s'.env vs }
  | _ => .bad

/-! ### statements -/
inductive SR where
  | next (s : S) | ret (o : Out) (s : S) | brk (s : S) | cont (s : S) | exc (x : Exc) (s : S) | bad
abbrev SM := S → SR
def lift {α : Type} (e : EM α) (f : α → SM) : SM := fun s => match e s with
  | .ok a s' => f a s'
  | .exc x s' => .exc x s'
  | .bad => .bad
def skip : SM := .next
def seq (a b : SM) : SM := fun s => match a s with
  | .next s' => b s'
  | r => r
def sExpr (e : EM Out) : SM := lift e fun _ => .next
def sRet (e : EM Out) : SM := lift e fun o => .ret o
def sRetN : SM := .ret (.d .non)
def sIf (c : EM Bool) (a b : SM) : SM := lift c fun t => if t = true then a else b
def sBrk : SM := .brk
def sCont : SM := .cont
/-- x = e; a new thing is the slot's own -/
def store (i : Nat) : Out → SM
  | .d x => fun s => .next { s with env := s.env.set i (some (.d x)) }
  | .ref k => fun s => .next { s with env := s.env.set i (some (.ref k)) }
  | .new x => fun s => .next { s with env := s.env.set i (some (.own x)) }
  | .own j => lift (keep (.own j)) fun x s => .next { s with env := s.env.set i (some (.d x)) }
def sSet (i : Nat) (e : EM Out) : SM := lift e (store i)
/-- x = e; a new thing becomes a cell -/
def sCel (i : Nat) (e : EM Out) : SM := lift e fun o => match o with
  | .new x => fun s => .next { env := s.env.set i (some (.ref s.mem.length)), mem := s.mem ++ [.live x] }
  | o => store i o
/-- x, y = e -/
def sUnp (tg : Tg) (e : EM Out) : SM := lift e fun o => lift (keep o) fun x s => match tg.put x s.env with
  | some e => .next { s with env := e }
  | none => .bad
/-- what a slot owns becomes a tree -/
def fixO : Out → EM Out
  | .own i => (keep (.own i)).bind fun u => .pure (.d u)
  | o => .pure o
/-- x, y = a, b: no tuple is made -/
def sPar (i j : Nat) (a b : EM Out) : SM := lift a fun x => lift b fun y => lift (fixO x) fun x => lift (fixO y) fun y => seq (store i x) (store j y)
def setD : D → D → D → Option D
  | .lst xs, .int i, v => (L2.ixN xs.length i).map fun j => .lst (xs.set j v)
  | _, _, _ => none
/-- o[i] = e -/
def sPut (o i e : EM Out) : SM := lift e fun y => lift (keep y) fun v => lift o fun x => lift i fun k => lift (get k) fun kd => lift (putIn x fun u => setD u kd v) fun _ => .next
/-- op= of numbers and texts -/
def BOp.inp : BOp → D → D → Option D
  | .add, .int i, .int j => some (.int (i + j))
  | .sub, .int i, .int j => some (.int (i - j))
  | .add, .str x, .str y => if x.length + y.length ≤ LIM then some (.str (x ++ y)) else none
  | _, _, _ => none
/-- o[i] op= e -/
def idxL : D → D → Option D
  | .lst xs, .int i => L2.atI xs i
  | _, _ => none
def sAugI (op : BOp) (o i e : EM Out) : SM := lift o fun x => lift i fun k => lift (get x) fun u => lift (get k) fun kd => lift (opt (idxL u kd)) fun w => lift e fun y => lift (get y) fun v =>
  lift (opt (op.inp w v)) fun z => lift (putIn x fun u => setD u kd z) fun _ => .next
/-- x op= e -/
def sAug (op : BOp) (i : Nat) (e : EM Out) : SM := lift (var i) fun x => lift (get x) fun u => lift e fun y => lift (get y) fun v => lift (opt (op.inp u v)) fun z s => .next { s with env := s.env.set i (some (.d z)) }
def loop (tg : Tg) (b : SM) : List D → SM
  | [] => .next
  | x :: xs => fun s => match tg.put x s.env with
    | none => .bad
    | some e => match b { s with env := e } with
      | .next s' | .cont s' => loop tg b xs s'
      | .brk s' => .next s'
      | r => r
def sFor (tg : Tg) (it : EM (List D)) (b : SM) : SM := lift it fun xs => loop tg b xs
def whil (c : EM Bool) (b : SM) : Nat → SM
  | 0 => fun _ => .bad
  | n + 1 => lift c fun t => if t = true then fun s => match b s with
      | .next s' | .cont s' => whil c b n s'
      | .brk s' => .next s'
      | r => r
    else .next
abbrev TURNS : Nat := 100000
def sWhile (c : EM Bool) (b : SM) : SM := whil c b TURNS

/-! ### defs -/
/-- behind a def: its own cells go, what it hands back is nobody else's -/
def leave (s : S) : SR → Res Out
  | .next s' => .ok (.d .non) { s with mem := s'.mem.take s.mem.length }
  | .ret o s' => match o with
    | .d x => .ok (.d x) { s with mem := s'.mem.take s.mem.length }
    | .new x => .ok (.new x) { s with mem := s'.mem.take s.mem.length }
    | .ref k => if k < s.mem.length then .ok (.ref k) { s with mem := s'.mem.take s.mem.length } else match s'.mem[k]? with
      | some (.live x) => .ok (.new x) { s with mem := s'.mem.take s.mem.length }
      | some (.fro x) => .ok (.d x) { s with mem := s'.mem.take s.mem.length }
      | none => .bad
    | .own i => match s'.env[i]? with
      | some (some (.own x)) => .ok (.new x) { s with mem := s'.mem.take s.mem.length }
      | some (some (.d x)) => .ok (.d x) { s with mem := s'.mem.take s.mem.length }
      | _ => .bad
  | .exc x s' => .exc x { s with mem := s'.mem.take s.mem.length }
  | _ => .bad
/-- a def: how many names it has, its body over the calls -/
structure Def where
  many : Nat
  ps : Nat
  body : Call → SM
def run (P : Nat → Option Def) : Nat → Call
  | 0, _, _ => fun _ => .bad
  | k + 1, f, us => fun s => match P f with
    | some d => if us.length = d.ps ∧ d.ps ≤ d.many then leave s (d.body (run P k) { s with env := us.map (fun u => some u.slot) ++ List.replicate (d.many - us.length) none }) else .bad
    | none => .bad
end Ev

set_option Elab.async false
set_option linter.all false
set_option autoImplicit false
/-! Ev, part B: what a state stands for in the hand layer's heap. F is the part that never changes any more. -/
namespace Ev
open PySem PySem.Spec PyProof.Rows L2
/-- the classes' addresses, by their numbers -/
class ClsTab where
  at_ : Nat → Option Addr
variable [ClsTab]

mutual
/-- the value v is the tree d, over what is frozen -/
inductive RD (K : PySem.W.Frag) (F : Hp) : D → V → Prop
  | non : RD K F .non .non
  | bl (b : Bool) : RD K F (.bl b) (.bl b)
  | int (i : Int) : RD K F (.int i) (.int i)
  | str (x : Str) (h : PyData.strOk x = true) : RD K F (.str x) (.str x)
  | tup {a : Addr} {vs : List V} {xs : List D} : SqT K F a vs → RDs K F xs vs → RD K F (.tup xs) (.ref a)
  | lst {a : Addr} {vs : List V} {xs : List D} : F a = some (.lst vs) → RDs K F xs vs → RD K F (.lst xs) (.ref a)
  | lz {a : Addr} {vs : List V} {xs : List D} : SqL K F a vs → RDs K F xs vs → RD K F (.lz xs) (.ref a)
  | ins {a C dx : Addr} {vs : List V} {c : Nat} {ns : List Str} {xs : List D} : ClsTab.at_ c = some C → F a = some (.ins C dx (ns.zip vs)) → ns.length = vs.length → RDs K F xs vs → RD K F (.ins c ns xs) (.ref a)
inductive RDs (K : PySem.W.Frag) (F : Hp) : List D → List V → Prop
  | nil : RDs K F [] []
  | cons {d : D} {v : V} {ds : List D} {vs : List V} : RD K F d v → RDs K F ds vs → RDs K F (d :: ds) (v :: vs)
end
/-- what stands at an address has this tree -/
def RObj (K : PySem.W.Frag) (F : Hp) : D → HO → Prop
  | .lst xs, o => ∃ vs, o = .lst vs ∧ RDs K F xs vs
  | .ins c ns xs, o => ∃ C dx vs, ClsTab.at_ c = some C ∧ o = .ins C dx (ns.zip vs) ∧ ns.length = vs.length ∧ RDs K F xs vs
  | _, _ => False

section
variable {K : PySem.W.Frag} {F F' H H' : Hp}
omit [ClsTab] in
theorem Same.seqT {a : Addr} {xs : List V} (e : Same F F') (h : SqT K F a xs) : SqT K F' a xs := by
  rcases h with (h | ⟨o, h⟩) | h
  · exact .inl (.inl (e _ _ h))
  · exact .inl (.inr ⟨o, e _ _ h⟩)
  · exact .inr h
mutual
theorem RD.mono (e : Same F F') : ∀ {d : D} {v : V}, RD K F d v → RD K F' d v
  | _, _, .non => .non
  | _, _, .bl b => .bl b
  | _, _, .int i => .int i
  | _, _, .str x h => .str x h
  | _, _, .tup h r => .tup (Same.seqT e h) (RDs.mono e r)
  | _, _, .lst h r => .lst (e _ _ h) (RDs.mono e r)
  | _, _, .lz h r => .lz (e.seq h) (RDs.mono e r)
  | _, _, .ins h0 h h1 r => .ins h0 (e _ _ h) h1 (RDs.mono e r)
theorem RDs.mono (e : Same F F') : ∀ {ds : List D} {vs : List V}, RDs K F ds vs → RDs K F' ds vs
  | _, _, .nil => .nil
  | _, _, .cons h r => .cons (RD.mono e h) (RDs.mono e r)
end
theorem RObj.mono (e : Same F F') {d : D} {o : HO} (h : RObj K F d o) : RObj K F' d o := by
  cases d with
  | lst xs => obtain ⟨vs, r, q⟩ := h; exact ⟨vs, r, q.mono e⟩
  | ins c ns xs => obtain ⟨C, dx, vs, h0, r, h1, q⟩ := h; exact ⟨C, dx, vs, h0, r, h1, q.mono e⟩
  | _ => exact h
theorem RDs.length : ∀ {ds : List D} {vs : List V}, RDs K F ds vs → ds.length = vs.length
  | _, _, .nil => rfl
  | _, _, .cons _ r => congrArg Nat.succ (RDs.length r)
theorem RDs.append : ∀ {ds es : List D} {vs us : List V}, RDs K F ds vs → RDs K F es us → RDs K F (ds ++ es) (vs ++ us)
  | _, _, _, _, .nil, q => q
  | _, _, _, _, .cons h r, q => .cons h (RDs.append r q)
theorem RDs.get : ∀ {ds : List D} {vs : List V} {i : Nat} {d : D}, RDs K F ds vs → ds[i]? = some d → ∃ v, vs[i]? = some v ∧ RD K F d v
  | _, _, _, _, .nil, e => by simp at e
  | _, _, 0, _, .cons h _, e => by simp at e; subst e; exact ⟨_, rfl, h⟩
  | _, _, i + 1, d, .cons _ r, e => by
    obtain ⟨v, h1, h2⟩ := RDs.get (i := i) (d := d) r (by simpa using e)
    exact ⟨v, by simpa using h1, h2⟩
theorem RDs.getV : ∀ {ds : List D} {vs : List V} {i : Nat} {v : V}, RDs K F ds vs → vs[i]? = some v → ∃ d, ds[i]? = some d ∧ RD K F d v
  | _, _, _, _, .nil, e => by simp at e
  | _, _, 0, _, .cons h _, e => by simp at e; subst e; exact ⟨_, rfl, h⟩
  | _, _, i + 1, d, .cons _ r, e => by
    obtain ⟨v, h1, h2⟩ := RDs.getV (i := i) (v := d) r (by simpa using e)
    exact ⟨v, by simpa using h1, h2⟩
theorem RDs.take : ∀ {ds : List D} {vs : List V} (n : Nat), RDs K F ds vs → RDs K F (ds.take n) (vs.take n)
  | _, _, 0, _ => .nil
  | _, _, _ + 1, .nil => .nil
  | _, _, n + 1, .cons h r => .cons h (RDs.take n r)
theorem RDs.drop : ∀ {ds : List D} {vs : List V} (n : Nat), RDs K F ds vs → RDs K F (ds.drop n) (vs.drop n)
  | _, _, 0, r => r
  | _, _, _ + 1, .nil => .nil
  | _, _, n + 1, .cons _ r => RDs.drop n r
theorem RDs.set {d : D} {v : V} (q : RD K F d v) : ∀ {ds : List D} {vs : List V} (n : Nat), RDs K F ds vs → RDs K F (ds.set n d) (vs.set n v)
  | _, _, _, .nil => .nil
  | _, _, 0, .cons _ r => .cons q r
  | _, _, n + 1, .cons h r => .cons h (RDs.set q n r)
theorem RDs.eraseIdx : ∀ {ds : List D} {vs : List V} (n : Nat), RDs K F ds vs → RDs K F (ds.eraseIdx n) (vs.eraseIdx n)
  | _, _, _, .nil => .nil
  | _, _, 0, .cons _ r => r
  | _, _, n + 1, .cons h r => .cons h (RDs.eraseIdx n r)
theorem RDs.dropLast {ds : List D} {vs : List V} (r : RDs K F ds vs) : RDs K F ds.dropLast vs.dropLast := by
  rw [List.dropLast_eq_take, List.dropLast_eq_take, r.length]
  exact r.take _
theorem RDs.map {α : Type} {f : α → D} {g : α → V} (h : ∀ a, RD K F (f a) (g a)) : ∀ l : List α, RDs K F (l.map f) (l.map g)
  | [] => .nil
  | a :: l => .cons (h a) (RDs.map h l)

/-! ### an address that a slot or a cell owns -/
def OwnAt (s : S) (σ : L2.St) (i : Nat) (a : Addr) : Prop := (∃ x, s.env[i]? = some (some (.own x))) ∧ σ[i]? = some (some (.ref a))
def LiveAt (s : S) (ι : List Addr) (k : Nat) (a : Addr) : Prop := (∃ x, s.mem[k]? = some (.live x)) ∧ ι[k]? = some a
def Owned (s : S) (σ : L2.St) (ι : List Addr) (a : Addr) : Prop := (∃ i, OwnAt s σ i a) ∨ ∃ k, LiveAt s ι k a

/-- it is owned, or not there yet -/
def Fresh (s : S) (σ : L2.St) (ι : List Addr) (H : Hp) (a : Addr) : Prop := Owned s σ ι a ∨ H a = none
def RSlot (K : PySem.W.Frag) (F : Hp) (ι : List Addr) (H : Hp) : Slot → V → Prop
  | .d x, v => RD K F x v
  | .ref k, v => ∃ a, ι[k]? = some a ∧ v = .ref a
  | .own x, v => ∃ a o, v = .ref a ∧ H a = some o ∧ RObj K F x o ∧ F a = none
def RCell (K : PySem.W.Frag) (F : Hp) (H : Hp) : Cell → Addr → Prop
  | .live x, a => ∃ o, H a = some o ∧ RObj K F x o ∧ F a = none
  | .fro x, a => RD K F x (.ref a)
/-- the state s stands for the slots σ and the heap H -/
structure Rel (K : PySem.W.Frag) (F : Hp) (ι : List Addr) (s : S) (σ : L2.St) (H : Hp) : Prop where
  sub : Same F H
  env : ∀ (i : Nat) (x : Slot), s.env[i]? = some (some x) → ∃ v, σ[i]? = some (some v) ∧ RSlot K F ι H x v
  mem : ∀ (k : Nat) (c : Cell), s.mem[k]? = some c → ∃ a, ι[k]? = some a ∧ RCell K F H c a
  len : ι.length = s.mem.length
  elen : s.env.length = σ.length
  oo : ∀ i j a, OwnAt s σ i a → OwnAt s σ j a → i = j
  ol : ∀ i k a, OwnAt s σ i a → LiveAt s ι k a → False
  ll : ∀ k l a, LiveAt s ι k a → LiveAt s ι l a → k = l
/-- from one state to a later one -/
structure Step (F : Hp) (ι : List Addr) (s : S) (σ : L2.St) (H : Hp) (F' : Hp) (ι' : List Addr) (s' : S) (σ' : L2.St) (H' : Hp) : Prop where
  ff : Same F F'
  ii : ι <+: ι'
  keep : ∀ a o, H a = some o → ¬ Owned s σ ι a → H' a = some o
  own : ∀ a, Owned s' σ' ι' a → Fresh s σ ι H a
  fro : ∀ a o, F' a = some o → F a = some o ∨ Fresh s σ ι H a
omit [ClsTab] in
theorem Step.refl (F : Hp) (ι : List Addr) (s : S) (σ : L2.St) (H : Hp) : Step F ι s σ H F ι s σ H :=
  ⟨Same.refl F, List.prefix_refl ι, fun _ _ h _ => h, fun _ h => .inl h, fun _ _ h => .inl h⟩
omit [ClsTab] in
theorem Step.back {F1 F2 : Hp} {i1 i2 : List Addr} {s1 s2 : S} {g1 g2 : L2.St} {H1 H2 : Hp} (a : Step F1 i1 s1 g1 H1 F2 i2 s2 g2 H2) {x : Addr} (h : Fresh s2 g2 i2 H2 x) : Fresh s1 g1 i1 H1 x := by
  rcases h with h | h
  · exact a.own x h
  · cases e : H1 x with
    | none => exact .inr e
    | some o =>
      by_cases q : Owned s1 g1 i1 x
      · exact .inl q
      · rw [a.keep x o e q] at h; cases h
omit [ClsTab] in
theorem Step.trans {F1 F2 F3 : Hp} {i1 i2 i3 : List Addr} {s1 s2 s3 : S} {g1 g2 g3 : L2.St} {H1 H2 H3 : Hp} (a : Step F1 i1 s1 g1 H1 F2 i2 s2 g2 H2) (b : Step F2 i2 s2 g2 H2 F3 i3 s3 g3 H3) : Step F1 i1 s1 g1 H1 F3 i3 s3 g3 H3 := by
  refine ⟨a.ff.trans b.ff, a.ii.trans b.ii, fun x o h n => b.keep x o (a.keep x o h n) fun q => ?_, fun x h => a.back (b.own x h), fun x o h => ?_⟩
  · rcases a.own x q with q | q
    · exact n q
    · rw [h] at q; cases q
  · rcases b.fro x o h with h | h
    · exact a.fro x o h
    · exact .inr (a.back h)
/-- an expression's step: slots that hold trees go on holding trees -/
def OD (e : Slots) (i : Nat) : Prop := (∃ x, e[i]? = some (some (.d x))) ∨ ∃ x, e[i]? = some (some (.own x))
structure EStep (F : Hp) (ι : List Addr) (s : S) (σ : L2.St) (H : Hp) (F' : Hp) (ι' : List Addr) (s' : S) (H' : Hp) : Prop extends Step F ι s σ H F' ι' s' σ H' where
  od : ∀ i, OD s.env i → OD s'.env i
omit [ClsTab] in
theorem EStep.refl (F : Hp) (ι : List Addr) (s : S) (σ : L2.St) (H : Hp) : EStep F ι s σ H F ι s H := ⟨Step.refl .., fun _ h => h⟩
omit [ClsTab] in
theorem EStep.trans {F1 F2 F3 : Hp} {i1 i2 i3 : List Addr} {s1 s2 s3 : S} {σ : L2.St} {H1 H2 H3 : Hp} (a : EStep F1 i1 s1 σ H1 F2 i2 s2 H2) (b : EStep F2 i2 s2 σ H2 F3 i3 s3 H3) : EStep F1 i1 s1 σ H1 F3 i3 s3 H3 :=
  ⟨a.toStep.trans b.toStep, fun i h => b.od i (a.od i h)⟩

/-- what an expression's outcome is for a value -/
def ROut (K : PySem.W.Frag) (Fr : Addr → Prop) (F : Hp) (ι : List Addr) (s : S) (σ : L2.St) (H : Hp) : Out → V → Prop
  | .d x, v => RD K F x v
  | .ref k, v => ∃ a, ι[k]? = some a ∧ v = .ref a
  | .new x, v => ∃ a o, v = .ref a ∧ H a = some o ∧ RObj K F x o ∧ F a = none ∧ ¬ Owned s σ ι a ∧ Fr a
  | .own i, v => σ[i]? = some (some v) ∧ OD s.env i
omit [ClsTab] in
theorem pre_get {ι ι' : List Addr} (h : ι <+: ι') {k : Nat} {a : Addr} (e : ι[k]? = some a) : ι'[k]? = some a := by
  obtain ⟨t, rfl⟩ := h
  rw [List.getElem?_append_left (List.getElem?_eq_some_iff.mp e).1]
  exact e
theorem ROut.step {Fr : Addr → Prop} {ι ι' : List Addr} {s s' : S} {σ : L2.St} {o : Out} {v : V} (r : ROut K Fr F ι s σ H o v) (t : EStep F ι s σ H F' ι' s' H') : ROut K Fr F' ι' s' σ H' o v := by
  cases o with
  | d x => exact RD.mono t.ff r
  | ref k => obtain ⟨a, e, q⟩ := r; exact ⟨a, pre_get t.ii e, q⟩
  | new x =>
    obtain ⟨a, u, e, h, r, f, n, fr⟩ := r
    refine ⟨a, u, e, t.keep a u h n, r.mono t.ff, ?_, fun z => ?_, fr⟩
    · cases q : F' a with
      | none => rfl
      | some w =>
        rcases t.fro a w q with z | z | z
        · rw [f] at z; cases z
        · exact absurd z n
        · rw [h] at z; cases z
    · rcases t.own a z with z | z
      · exact n z
      · rw [h] at z; cases z
  | own i => exact ⟨r.1, t.od i r.2⟩

/-- the value has this tree now -/
def View (K : PySem.W.Frag) (F H : Hp) (d : D) (v : V) : Prop := RD K F d v ∨ ∃ a o, v = .ref a ∧ H a = some o ∧ RObj K F d o
theorem ROut.fresh {Fr Fr' : Addr → Prop} {ι : List Addr} {s : S} {σ : L2.St} {o : Out} {v : V} (r : ROut K Fr F ι s σ H o v) (h : ∀ a, Fr a → Fr' a) : ROut K Fr' F ι s σ H o v := by
  cases o with
  | new x => obtain ⟨a, u, e, q, r, f, n, fr⟩ := r; exact ⟨a, u, e, q, r, f, n, h a fr⟩
  | _ => exact r
theorem ROut.view {Fr : Addr → Prop} {ι : List Addr} {s : S} {σ : L2.St} {o : Out} {v : V} {d : D} (R : Rel K F ι s σ H) (r : ROut K Fr F ι s σ H o v) (e : o.look s = some d) : View K F H d v := by
  cases o with
  | d x =>
    cases e
    exact .inl r
  | ref k =>
    obtain ⟨a, ea, rfl⟩ := r
    obtain ⟨c, ec, rfl⟩ := Option.map_eq_some_iff.mp (show s.mem[k]?.map Cell.tree = some d from e)
    obtain ⟨a', ea', q⟩ := R.mem k c ec
    rw [ea] at ea'
    cases ea'
    cases c with
    | live x => obtain ⟨o, h, r, _⟩ := q; exact .inr ⟨a, o, rfl, h, r⟩
    | fro x => exact .inl q
  | new x =>
    cases e
    obtain ⟨a, u, e, h, r, _⟩ := r
    exact .inr ⟨a, u, e, h, r⟩
  | own i =>
    obtain ⟨e1, _⟩ := r
    simp only [Out.look] at e
    split at e
    · rename_i x es
      cases e
      obtain ⟨v', e2, r⟩ := R.env i _ es
      rw [e1] at e2
      cases e2
      exact .inl r
    · rename_i x es
      cases e
      obtain ⟨v', e2, a, o, e3, h, r, _⟩ := R.env i _ es
      rw [e1] at e2
      cases e2
      exact .inr ⟨a, o, e3, h, r⟩
    · cases e
theorem View.lst {v : V} {xs : List D} (sb : Same F H) (h : View K F H (.lst xs) v) : ∃ a vs, v = .ref a ∧ H a = some (.lst vs) ∧ RDs K F xs vs := by
  rcases h with h | ⟨a, o, rfl, h, vs, rfl, r⟩
  · cases h with
    | lst h r => exact ⟨_, _, rfl, sb _ _ h, r⟩
  · exact ⟨a, vs, rfl, h, r⟩
theorem View.lz {v : V} {xs : List D} (sb : Same F H) (h : View K F H (.lz xs) v) : ∃ a vs, v = .ref a ∧ SqL K H a vs ∧ RDs K F xs vs := by
  rcases h with h | ⟨a, o, rfl, h, z⟩
  · cases h with
    | lz h r => exact ⟨_, _, rfl, sb.seq h, r⟩
  · exact z.elim
theorem View.tup {v : V} {xs : List D} (sb : Same F H) (h : View K F H (.tup xs) v) : ∃ a vs, v = .ref a ∧ SqT K H a vs ∧ RDs K F xs vs := by
  rcases h with h | ⟨a, o, rfl, h, z⟩
  · cases h with
    | tup h r => exact ⟨_, _, rfl, Same.seqT sb h, r⟩
  · exact z.elim
theorem View.ins {v : V} {c : Nat} {ns : List Str} {xs : List D} (sb : Same F H) (h : View K F H (.ins c ns xs) v) : ∃ a C dx vs, v = .ref a ∧ ClsTab.at_ c = some C ∧ H a = some (.ins C dx (ns.zip vs)) ∧ ns.length = vs.length ∧ RDs K F xs vs := by
  rcases h with h | ⟨a, o, rfl, h, C, dx, vs, h0, rfl, h1, r⟩
  · cases h with
    | ins h0 h h1 r => exact ⟨_, _, _, _, rfl, h0, sb _ _ h, h1, r⟩
  · exact ⟨a, C, dx, vs, rfl, h0, h, h1, r⟩
theorem View.int {v : V} {i : Int} (h : View K F H (.int i) v) : v = .int i := by
  rcases h with h | ⟨a, o, rfl, h, z⟩
  · cases h; rfl
  · exact z.elim
theorem View.str {v : V} {x : Str} (h : View K F H (.str x) v) : v = .str x ∧ PyData.strOk x = true := by
  rcases h with h | ⟨a, o, rfl, h, z⟩
  · cases h with
    | str _ q => exact ⟨rfl, q⟩
  · exact z.elim
theorem View.bl {v : V} {b : Bool} (h : View K F H (.bl b) v) : v = .bl b := by
  rcases h with h | ⟨a, o, rfl, h, z⟩
  · cases h; rfl
  · exact z.elim
theorem View.non {v : V} (h : View K F H .non v) : v = .non := by
  rcases h with h | ⟨a, o, rfl, h, z⟩
  · cases h; rfl
  · exact z.elim

/-! ### what an operation gives: a tree over more that is frozen, or a new thing -/
structure More (F H F' H' : Hp) : Prop where
  ff : Same F F'
  hh : Same H H'
  sub : Same F' H'
  fro : ∀ a o, F' a = some o → F a = some o ∨ H a = none
omit [ClsTab] in
theorem More.refl (sb : Same F H) : More F H F H := ⟨Same.refl _, Same.refl _, sb, fun _ _ h => .inl h⟩
def Gives (K : PySem.W.Frag) (F H : Hp) (o : Out) (Q : VK) : Prop := match o with
  | .d z => ∀ F' H' v, More F H F' H' → RD K F' z v → Q v H'
  | .new z => ∀ F' H' a u, More F H F' H' → H a = none → H' a = some u → F' a = none → RObj K F' z u → Q (.ref a) H'
  | _ => False
end
end Ev

set_option Elab.async false
set_option linter.all false
set_option autoImplicit false
set_option maxHeartbeats 1000000
/-! Ev, part C: readings by closures; expressions. -/
namespace Ev
variable [ClsTab]
open PySem PySem.Spec PyProof.Rows L2

abbrev CT := Nat → Option (Addr × List Str)
/-- an exception: its class, its own dict -/
def RExc (K : PySem.W.Frag) (T : CT) (F H : Hp) (x : Exc) (c : Value) (d : Option Addr) : Prop :=
  ∃ C ns, T x.c = some (C, ns) ∧ c = .ref C ∧ ((ns = [] ∧ x.vs = [] ∧ d = none) ∨ ∃ a vs, d = some a ∧ H a = some (.xd (ns.zip vs)) ∧ RDs K F x.vs vs ∧ ns.length = vs.length)
/-- relations of an outcome and a value -/
abbrev RT (α β : Type) := (Addr → Prop) → Hp → List Addr → S → L2.St → Hp → α → β → Prop
class Mono {α β : Type} (R : RT α β) : Prop where
  up : ∀ {Fr Fr' : Addr → Prop} {F : Hp} {ι : List Addr} {s : S} {σ : L2.St} {H : Hp} {a : α} {b : β}, (∀ a, Fr a → Fr' a) → R Fr F ι s σ H a b → R Fr' F ι s σ H a b
instance (K : PySem.W.Frag) : Mono (ROut K) := ⟨fun h r => r.fresh h⟩
abbrev RB : RT Bool Bool := fun _ _ _ _ _ _ a b => a = b
instance : Mono RB := ⟨fun _ r => r⟩
/-- what a run's outcome asks of what follows -/
def Aft {α β : Type} (K : PySem.W.Frag) (T : CT) (W : WX) (R : RT α β) (F : Hp) (ι : List Addr) (s : S) (σ : L2.St) (H : Hp) (r : Res α) (Q : β → Hp → Prop) : Prop := match r with
  | .ok o s' => ∀ F' ι' H' v, EStep F ι s σ H F' ι' s' H' → Rel K F' ι' s' σ H' → R (Fresh s σ ι H) F' ι' s' σ H' o v → Q v H'
  | .exc x s' => ∀ F' ι' H' c d, EStep F ι s σ H F' ι' s' H' → Rel K F' ι' s' σ H' → RExc K T F' H' x c d → W c d σ H'
  | .bad => False
def tM {α β : Type} (K : PySem.W.Frag) (T : CT) (W : WX) (R : RT α β) (m : EM α) : L2.St → Hp → (β → Hp → Prop) → Prop := fun σ H Q =>
  ∃ F ι s, Rel K F ι s σ H ∧ Aft K T W R F ι s σ H (m s) Q
abbrev tE (K : PySem.W.Frag) (T : CT) (W : WX) (m : EM Out) : TE := tM K T W (ROut K) m
abbrev tB (K : PySem.W.Frag) (T : CT) (W : WX) (m : EM Bool) : TT := tM K T W RB m
section
variable {K : PySem.W.Frag} {T : CT} {W : WX} {F H : Hp} {ι : List Addr} {s : S} {σ : L2.St}
/-- from a later state -/
theorem Aft.from {α β : Type} {R : RT α β} [Mono R] {F1 H1 : Hp} {i1 : List Addr} {s1 : S} {r : Res α} {Q : β → Hp → Prop} (h : Aft K T W R F ι s σ H r Q) (t : EStep F ι s σ H F1 i1 s1 H1) : Aft K T W R F1 i1 s1 σ H1 r Q := by
  cases r with
  | ok o s' => exact fun F' ι' H' v a b c => h F' ι' H' v (t.trans a) b (Mono.up (fun _ => t.back) c)
  | exc x s' => exact fun F' ι' H' c d a b e => h F' ι' H' c d (t.trans a) b e
  | bad => exact h
/-- the origin stays -/
theorem Aft.bind0 {α β γ δ : Type} {R1 : RT α γ} {R2 : RT β δ} {m : EM α} {f : α → EM β} {Q : δ → Hp → Prop} {Q1 : γ → Hp → Prop} {s0 : S}
    (h : Aft K T W R2 F ι s0 σ H (m.bind f s) Q)
    (g : ∀ o s1 F1 i1 H1 v, m s = .ok o s1 → EStep F ι s0 σ H F1 i1 s1 H1 → Rel K F1 i1 s1 σ H1 → R1 (Fresh s0 σ ι H) F1 i1 s1 σ H1 o v → Aft K T W R2 F ι s0 σ H (f o s1) Q → Q1 v H1) : Aft K T W R1 F ι s0 σ H (m s) Q1 := by
  unfold EM.bind at h
  cases e : m s with
  | ok o s1 =>
    rw [e] at h
    exact fun F1 i1 H1 v a b c => g o s1 F1 i1 H1 v e a b c h
  | exc x s1 =>
    rw [e] at h
    exact h
  | bad =>
    rw [e] at h
    exact h
theorem Aft.bind {α β γ δ : Type} {R1 : RT α γ} {R2 : RT β δ} [Mono R2] {m : EM α} {f : α → EM β} {Q : δ → Hp → Prop} {Q1 : γ → Hp → Prop}
    (h : Aft K T W R2 F ι s σ H (m.bind f s) Q)
    (g : ∀ o s1 F1 i1 H1 v, m s = .ok o s1 → EStep F ι s σ H F1 i1 s1 H1 → Rel K F1 i1 s1 σ H1 → R1 (Fresh s σ ι H) F1 i1 s1 σ H1 o v → Aft K T W R2 F1 i1 s1 σ H1 (f o s1) Q → Q1 v H1) : Aft K T W R1 F ι s σ H (m s) Q1 :=
  h.bind0 fun o s1 F1 i1 H1 v e a b c d => g o s1 F1 i1 H1 v e a b c (d.from a)
/-- a step that no exception leaves and that the heap does not see -/
theorem Aft.pass {α β δ : Type} {R2 : RT β δ} {o : Option α} {f : α → EM β} {Q : δ → Hp → Prop} {s1 : S} (h : Aft K T W R2 F ι s σ H ((opt o).bind f s1) Q) : ∃ a, o = some a ∧ Aft K T W R2 F ι s σ H (f a s1) Q := by
  cases o with
  | none => exact h.elim
  | some a => exact ⟨a, rfl, h⟩
theorem Aft.get {β δ : Type} {R2 : RT β δ} {o : Out} {f : D → EM β} {Q : δ → Hp → Prop} {s1 : S} (h : Aft K T W R2 F ι s σ H ((Ev.get o).bind f s1) Q) : ∃ d, o.look s1 = some d ∧ Aft K T W R2 F ι s σ H (f d s1) Q := by
  unfold Ev.get EM.bind at h
  cases e : o.look s1 with
  | none =>
    simp only [e] at h
    exact h.elim
  | some d =>
    simp only [e] at h
    exact ⟨d, rfl, h⟩
theorem Aft.opt {α β : Type} {R : RT α β} {o : Option α} {Q : β → Hp → Prop} {s1 : S} (h : Aft K T W R F ι s σ H (Ev.opt o s1) Q) : ∃ a, o = some a ∧ Aft K T W R F ι s σ H (.ok a s1) Q := by
  cases o with
  | none => exact h.elim
  | some a => exact ⟨a, rfl, h⟩
/-- the heap has grown, or is as it was -/
theorem Rel.more {F' H' : Hp} (R : Rel K F ι s σ H) (m : More F H F' H') : Rel K F' ι s σ H' := by
  have nf : ∀ a o, H a = some o → F a = none → F' a = none := fun a o h f => by
    cases q : F' a with
    | none => rfl
    | some w =>
      rcases m.fro a w q with z | z
      · rw [f] at z; cases z
      · rw [h] at z; cases z
  refine ⟨m.sub, fun i x e => ?_, fun k c e => ?_, R.len, R.elen, R.oo, R.ol, R.ll⟩
  · obtain ⟨v, e2, r⟩ := R.env i x e
    refine ⟨v, e2, ?_⟩
    cases x with
    | d x => exact RD.mono m.ff r
    | ref k => exact r
    | own x =>
      obtain ⟨a, o, e3, h, q, f⟩ := r
      exact ⟨a, o, e3, m.hh a o h, q.mono m.ff, nf a o h f⟩
  · obtain ⟨a, e2, r⟩ := R.mem k c e
    refine ⟨a, e2, ?_⟩
    cases c with
    | live x =>
      obtain ⟨o, h, q, f⟩ := r
      exact ⟨o, m.hh a o h, q.mono m.ff, nf a o h f⟩
    | fro x => exact RD.mono m.ff r
omit [ClsTab] in
theorem EStep.more {F' H' : Hp} (m : More F H F' H') : EStep F ι s σ H F' ι s H' :=
  ⟨⟨m.ff, List.prefix_refl ι, fun a o h _ => m.hh a o h, fun _ h => .inl h, fun a o h => (m.fro a o h).imp id .inr⟩, fun _ h => h⟩
theorem Owned.there (R : Rel K F ι s σ H) {a : Addr} (h : Owned s σ ι a) : ∃ o, H a = some o := by
  rcases h with ⟨i, ⟨x, e⟩, q⟩ | ⟨k, ⟨x, e⟩, q⟩
  · obtain ⟨v, e2, a', o, e3, h, _⟩ := R.env i _ e
    rw [q] at e2
    cases e2
    cases e3
    exact ⟨o, h⟩
  · obtain ⟨a', e2, o, h, _⟩ := R.mem k _ e
    rw [q] at e2
    cases e2
    exact ⟨o, h⟩
def plainOut (o : Out) : Prop := match o with | .d _ => True | .new _ => True | _ => False
/-- an operation on trees has its outcome -/
theorem Gives.of {o : Out} {Q : VK} (R : Rel K F ι s σ H) (h : Aft K T W (ROut K) F ι s σ H (.ok o s) Q) (k : plainOut o) : Gives K F H o Q := by
  cases o with
  | d z => exact fun F' H' v m r => h F' ι H' v (.more m) (R.more m) r
  | new z => exact fun F' H' a u m n e f r => h F' ι H' (.ref a) (.more m) (R.more m) ⟨a, u, rfl, e, r, f, (fun z => by
      obtain ⟨o, q⟩ := Owned.there R z
      rw [n] at q
      cases q), .inr n⟩
  | ref _ => exact k.elim
  | own _ => exact k.elim
end

end Ev
namespace L2
open PySem PySem.Spec PyProof.Rows
theorem PE.imp {X : Cx} {e : Expr} {t t' : TE} (h : PE X e t) (i : ∀ σ H Q, t' σ H Q → t σ H Q) : PE X e t' := ⟨fun pins s σ H Q I q => h.run pins s σ H Q I (i σ H Q q)⟩
theorem PT.imp {X : Cx} {e : Expr} {t t' : TT} (h : PT X e t) (i : ∀ σ H Q, t' σ H Q → t σ H Q) : PT X e t' := ⟨fun pins s σ H Q I q => h.run pins s σ H Q I (i σ H Q q)⟩
theorem PA.imp {X : Cx} {es : List Expr} {t t' : TA} (h : PA X es t) (i : ∀ σ H Q, t' σ H Q → t σ H Q) : PA X es t' := ⟨fun pos pins s σ H Q I q => h.run pos pins s σ H Q I (i σ H Q q)⟩
theorem PS.imp {X : Cx} {st : Stmt} {t t' : TS} (h : PS X st t) (i : ∀ D σ H, t' D σ H → t D σ H) : PS X st t' := ⟨fun pins s σ H D I q => h.run pins s σ H D I (i D σ H q)⟩
theorem PSs.imp {X : Cx} {st : List Stmt} {t t' : TS} (h : PSs X st t) (i : ∀ D σ H, t' D σ H → t D σ H) : PSs X st t' := ⟨fun pins s σ H D I q => h.run pins s σ H D I (i D σ H q)⟩
end L2
namespace Ev
variable [ClsTab]
open PySem PySem.Spec PyProof.Rows L2
section
variable {X : Cx} {T : CT} {W : WX}
/-! ### constants, names -/
theorem e_lit {e : Expr} {d : D} {v : V} (h : PE X e (tC v)) (r : ∀ F, RD X.K F d v) : PE X e (tE X.K T W (lit d)) :=
  h.imp fun σ H Q ⟨F, ι, s, R, A⟩ => A F ι H v (.refl ..) R (r F)
theorem e_var {i : Nat} {x : Str} {pos : Pos} (hN : X.N[i]? = some x) (hv : Vis X.env.scope x) (hd : (x == ("__debug__" : Str)) = false) (hcd : (x == ("__classdict__" : Str)) = false) : PE X (.Name x pos) (tE X.K T W (var i)) :=
  (pe_var hN hv hd hcd).imp fun σ H Q ⟨F, ι, s, R, A⟩ => by
    unfold var at A
    split at A
    · rename_i x e
      obtain ⟨v, e2, r⟩ := R.env i _ e
      exact ⟨v, e2, A F ι H v (.refl ..) R r⟩
    · rename_i k e
      obtain ⟨v, e2, r⟩ := R.env i _ e
      exact ⟨v, e2, A F ι H v (.refl ..) R r⟩
    · rename_i x e
      obtain ⟨v, e2, r⟩ := R.env i _ e
      exact ⟨v, e2, A F ι H v (.refl ..) R ⟨e2, .inr ⟨x, e⟩⟩⟩
    · exact A.elim

/-! ### two operands -/
def rGo (K : PySem.W.Frag) (g : D → D → Option Out) : R2 := fun x y H Q => ∃ F d e o, Same F H ∧ View K F H d x ∧ View K F H e y ∧ g d e = some o ∧ Gives K F H o Q
theorem go2 {a b : EM Out} {f : D → D → EM Out} {g : D → D → Option Out} {σ : L2.St} {H : Hp} {Q : VK} (pl : ∀ d e o, g d e = some o → plainOut o) (hf : ∀ d e, f d e = Ev.opt (g d e))
    (h : tE X.K T W (a.bind fun x => b.bind fun y => (Ev.get x).bind fun u => (Ev.get y).bind fun v => f u v) σ H Q) : tOp (rGo X.K g) (tE X.K T W a) (tE X.K T W b) σ H Q := by
  obtain ⟨F, ι, s, R, A⟩ := h
  refine ⟨F, ι, s, R, A.bind fun o s1 F1 i1 H1 v _ _ R1 r1 A1 => ⟨F1, i1, s1, R1, A1.bind fun p s2 F2 i2 H2 w _ t2 R2 r2 A2 => ?_⟩⟩
  obtain ⟨d, e1, A3⟩ := A2.get
  obtain ⟨e, e2, A4⟩ := A3.get
  rw [hf] at A4
  obtain ⟨q, e3, A5⟩ := A4.opt
  exact ⟨F2, d, e, q, R2.sub, (r1.step t2).view R2 e1, r2.view R2 e2, e3, Gives.of R2 A5 (pl d e q e3)⟩
omit [ClsTab] in
theorem addD.plain {d e : D} {o : Out} (h : addD d e = some o) : plainOut o := by
  unfold addD at h
  split at h <;> first | (cases h; done) | (cases h; trivial) | (split at h <;> first | (cases h; done) | (cases h; trivial))
omit [ClsTab] in
theorem mulD.plain {d e : D} {o : Out} (h : mulD d e = some o) : plainOut o := by
  unfold mulD at h
  split at h <;> first | (cases h; done) | (cases h; trivial) | (split at h <;> first | (cases h; done) | (cases h; trivial))
omit [ClsTab] in
theorem intsD.plain {ok : Int → Int → Bool} {f : Int → Int → Int} {d e : D} {o : Out} (h : intsD ok f d e = some o) : plainOut o := by
  unfold intsD at h
  split at h <;> first | (cases h; done) | (split at h <;> first | (cases h; done) | (cases h; trivial))
omit [ClsTab] in
theorem BOp.plain {op : BOp} {d e : D} {o : Out} (h : op.go d e = some o) : plainOut o := by
  cases op with
  | add => exact addD.plain h
  | mul => exact mulD.plain h
  | _ => exact intsD.plain h
theorem e_bin {op : Operator} {bop : BOp} {a b : Expr} {pos : Pos} {ma mb : EM Out} (ho : OpR X (binaryOp op) (rGo X.K bop.go)) (ha : PE X a (tE X.K T W ma)) (hb : PE X b (tE X.K T W mb)) : PE X (.BinOp a op b pos) (tE X.K T W (bin bop ma mb)) :=
  (pe_op ho ha hb).imp fun _ _ _ h => go2 (fun _ _ _ => BOp.plain) (fun _ _ => rfl) h
end
end Ev

set_option Elab.async false
set_option linter.all false
set_option autoImplicit false
set_option maxHeartbeats 1000000
/-! Ev, part D: the operators on trees are Python's. -/
namespace Ev
variable [ClsTab]
open PySem PySem.Spec PyProof.Rows L2
section
variable {K : PySem.W.Frag} {F H : Hp}
omit [ClsTab] in
theorem lim_line {n : Nat} (h : n ≤ LIM) : n ≤ sizeLine := Nat.le_trans h (by decide)
omit [ClsTab] in
theorem lim_lt {n : Nat} (h : n ≤ LIM) : n < sizeLine := Nat.lt_of_le_of_lt h (by decide)
omit [ClsTab] in
theorem upd_same_of (sb : Same F H) {p : Addr} {o : HO} (n : H p = none) : Same F (upd H p o) := fun b x e => by
  rw [upd_ne (ne_of_none (sb b x e) n)]
  exact sb b x e
omit [ClsTab] in
theorem same_upd {p : Addr} {o : HO} (n : H p = none) : Same H (upd H p o) := fun b x e => by
  rw [upd_ne (ne_of_none e n)]
  exact e
omit [ClsTab] in
theorem F_none (sb : Same F H) {p : Addr} (n : H p = none) : F p = none := sb.free n
omit [ClsTab] in
/-- a new object, frozen at once -/
theorem More.both (sb : Same F H) {p : Addr} {o : HO} (n : H p = none) : More F H (upd F p o) (upd H p o) := by
  refine ⟨same_upd (F_none sb n), same_upd n, fun b x e => ?_, fun a x e => ?_⟩
  · by_cases h : b = p
    · subst h
      rw [upd_same] at e ⊢
      exact e
    · rw [upd_ne h] at e ⊢
      exact sb b x e
  · by_cases h : a = p
    · subst h
      exact .inr n
    · rw [upd_ne h] at e
      exact .inl e
omit [ClsTab] in
/-- a new object, free -/
theorem More.one (sb : Same F H) {p : Addr} {o : HO} (n : H p = none) : More F H F (upd H p o) := ⟨Same.refl F, same_upd n, upd_same_of sb n, fun _ _ h => .inl h⟩
theorem give_tup (sb : Same F H) {xs : List D} {vs : List V} {Q : VK} (g : Gives K F H (.d (.tup xs)) Q) (r : RDs K F xs vs) {p : Addr} (n : H p = none) : Q (.ref p) (upd H p (.tup vs)) :=
  g _ _ _ (More.both sb n) (.tup (.of upd_same) (r.mono (same_upd (F_none sb n))))
theorem give_lst (sb : Same F H) {xs : List D} {vs : List V} {Q : VK} (g : Gives K F H (.new (.lst xs)) Q) (r : RDs K F xs vs) {p : Addr} (n : H p = none) : Q (.ref p) (upd H p (.lst vs)) :=
  g _ _ _ _ (More.one sb n) n upd_same (F_none sb n) ⟨vs, rfl, r⟩
theorem give_d (sb : Same F H) {x : D} {v : V} {Q : VK} (g : Gives K F H (.d x) Q) (r : RD K F x v) : Q v H := g _ _ _ (.refl sb) r
theorem RDs.rep {xs : List D} {vs : List V} (r : RDs K F xs vs) : ∀ n : Nat, RDs K F (List.replicate n xs).flatten (List.replicate n vs).flatten
  | 0 => .nil
  | n + 1 => by
    rw [List.replicate_succ, List.replicate_succ, List.flatten_cons, List.flatten_cons]
    exact r.append (RDs.rep r n)
omit [ClsTab] in
theorem strOk_append {x y : Str} (hx : PyData.strOk x = true) (hy : PyData.strOk y = true) : PyData.strOk (x ++ y) = true := by
  unfold PyData.strOk at *
  show ((x.cps ++ y.cps).all _) = true
  rw [Array.all_append, hx, hy]
  rfl
end
section
variable {X : Cx}
theorem o_add : OpR X (binaryOp .Add) (rGo X.K BOp.add.go) := by
  intro pins s σ H x y v u Q I rx ry ⟨F, d, e, o, sb, vx, vy, g, gv⟩
  change addD d e = some o at g
  unfold addD at g
  split at g
  · cases g
    exact op_add pins s σ H x y v u Q I rx ry ⟨_, _, vx.int, vy.int, give_d sb gv (.int _)⟩
  · split at g
    · rename_i hl
      cases g
      exact op_add_str pins s σ H x y v u Q I rx ry ⟨_, _, vx.str.1, vy.str.1, lim_line hl, give_d sb gv (.str _ (strOk_append vx.str.2 vy.str.2))⟩
    · cases g
  · split at g
    · rename_i hl
      cases g
      obtain ⟨a, vs, rfl, ha, ra⟩ := vx.tup sb
      obtain ⟨b, us, rfl, hb, rb⟩ := vy.tup sb
      refine op_catA pins s σ H _ _ v u Q I rx ry ⟨a, b, vs, us, rfl, rfl, ha, hb, ?_, fun e => ?_, fun _ e => ?_, fun _ _ p n => give_tup sb gv (ra.append rb) n⟩
      · rw [← ra.length, ← rb.length]
        exact lim_line hl
      · subst e
        cases ra
        rcases vy with q | ⟨_, _, _, _, z⟩
        · exact give_d sb gv q
        · exact z.elim
      · subst e
        cases rb
        rcases vx with q | ⟨_, _, _, _, z⟩
        · rw [List.append_nil] at gv
          exact give_d sb gv q
        · exact z.elim
    · cases g
  · split at g
    · rename_i hl
      cases g
      obtain ⟨a, vs, rfl, ha, ra⟩ := vx.lst sb
      obtain ⟨b, us, rfl, hb, rb⟩ := vy.lst sb
      refine op_cat pins s σ H _ _ v u Q I rx ry ⟨a, b, vs, us, rfl, rfl, ha, hb, ?_, fun p n => give_lst sb gv (ra.append rb) n⟩
      rw [← ra.length, ← rb.length]
      exact lim_line hl
    · cases g
  · cases g
theorem o_mul : OpR X (binaryOp .Mult) (rGo X.K BOp.mul.go) := by
  intro pins s σ H x y v u Q I rx ry ⟨F, d, e, o, sb, vx, vy, g, gv⟩
  change mulD d e = some o at g
  unfold mulD at g
  split at g
  · split at g
    · rename_i i j hh
      cases g
      refine op_mulW pins s σ H x y v u Q I rx ry ⟨_, _, vx.int, vy.int, ?_, give_d sb gv (.int _)⟩
      have := of_decide_eq_true (p := i.natAbs.log2 + j.natAbs.log2 < 100000) hh
      show _ + _ < 1000000
      omega
    · cases g
  · split at g
    · rename_i hh
      cases g
      obtain ⟨a, vs, rfl, ha, ra⟩ := vx.lst sb
      refine op_rep pins s σ H _ y v u Q I rx ry ⟨a, _, vs, rfl, vy.int, ha, ?_, ?_, ?_, fun p n => give_lst sb gv (ra.rep _) n⟩
      · have := hh.2.1
        have e : (LIM : Int) = 1000000 := rfl
        omega
      · have := hh.2.2
        have e : (LIM : Int) = 1000000 := rfl
        omega
      · rw [← ra.length]
        exact lim_line hh.1
    · cases g
  · cases g
theorem o_ints {op : Operator} {C : Int → Int → Prop} {ok : Int → Int → Bool} {f : Int → Int → Int} (h : OpR X (binaryOp op) (rI C fun i j => .int (f i j))) (hc : ∀ i j, ok i j = true → C i j) : OpR X (binaryOp op) (rGo X.K (intsD ok f)) := by
  intro pins s σ H x y v u Q I rx ry ⟨F, d, e, o, sb, vx, vy, g, gv⟩
  unfold intsD at g
  split at g
  · split at g
    · rename_i hh
      cases g
      exact h pins s σ H x y v u Q I rx ry ⟨_, _, vx.int, vy.int, hc _ _ hh, give_d sb gv (.int _)⟩
    · cases g
  · cases g
theorem o_sub : OpR X (binaryOp .Sub) (rGo X.K BOp.sub.go) := o_ints (C := fun _ _ => True) (fun pins s σ H x y v u Q I rx ry ⟨i, j, h1, h2, _, q⟩ => op_sub pins s σ H x y v u Q I rx ry ⟨i, j, h1, h2, q⟩) fun _ _ _ => trivial
theorem o_fdiv : OpR X (binaryOp .FloorDiv) (rGo X.K BOp.fdiv.go) := o_ints op_fdiv fun i j h => (of_decide_eq_true h : 0 < j ∧ j < 1073741824)
theorem o_mod : OpR X (binaryOp .Mod) (rGo X.K BOp.mod.go) := o_ints op_mod fun i j h => (of_decide_eq_true h : 0 < j)
theorem o_pow : OpR X (binaryOp .Pow) (rGo X.K BOp.pow.go) := o_ints op_pow fun i j h => by
  unfold powOk at h
  rw [Bool.and_eq_true, Bool.and_eq_true] at h
  obtain ⟨⟨h1, h2⟩, h3⟩ := h
  have h1 := of_decide_eq_true h1
  have h2 := of_decide_eq_true h2
  exact ⟨h1, by omega, of_decide_eq_true h3⟩
end
end Ev

set_option Elab.async false
set_option linter.all false
set_option autoImplicit false
set_option maxHeartbeats 1000000
/-! Ev, part E: comparisons. -/
namespace Ev
variable [ClsTab]
open PySem PySem.Spec PyProof.Rows L2
section
variable {K : PySem.W.Frag} {F H : Hp}
mutual
theorem flat_depth : ∀ {n : Nat} {d : D}, d.flat n = true → d.py.depth ≤ n
  | n, .non, _ => by simp [D.py, PyData.depth]
  | n, .bl _, _ => by simp [D.py, PyData.depth]
  | n, .int _, _ => by simp [D.py, PyData.depth]
  | n, .str _, _ => by simp [D.py, PyData.depth]
  | 0, .tup _, h => by simp [D.flat] at h
  | 0, .lst _, h => by simp [D.flat] at h
  | n + 1, .tup xs, h => by
    have := flats_depth (n := n) (ds := xs) (by simpa [D.flat] using h)
    simp [D.py, PyData.depth]
    exact this
  | n + 1, .lst xs, h => by
    have := flats_depth (n := n) (ds := xs) (by simpa [D.flat] using h)
    simp [D.py, PyData.depth]
    exact this
  | n, .dct _ _, h => by simp [D.py, PyData.depth]
  | n, .set _, h => by simp [D.py, PyData.depth]
  | n, .ins _ _ _, h => by simp [D.py, PyData.depth]
  | n, .err _ _, h => by simp [D.py, PyData.depth]
  | n, .lz _, h => by simp [D.py, PyData.depth]
theorem flats_depth : ∀ {n : Nat} {ds : List D}, D.flats n ds = true → PyData.depthAll (D.pys ds) ≤ n
  | n, [], _ => by simp [D.pys, PyData.depthAll]
  | n, d :: ds, h => by
    rw [D.flats, Bool.and_eq_true] at h
    have h1 := flat_depth (n := n) (d := d) h.1
    have h2 := flats_depth (n := n) (ds := ds) h.2
    simp only [D.pys, PyData.depthAll]
    omega
end
mutual
theorem RD.lay : ∀ {n : Nat} {d : D} {v : V}, RD K F d v → d.flat n = true → d.py.canLay0 = true
  | _, _, _, .non, _ => by simp [D.py, PyData.canLay0]
  | _, _, _, .bl _, _ => by simp [D.py, PyData.canLay0]
  | _, _, _, .int _, _ => by simp [D.py, PyData.canLay0]
  | _, _, _, .str _ h, _ => by simpa [D.py, PyData.canLay0] using h
  | 0, _, _, .tup _ _, h => by simp [D.flat] at h
  | n + 1, _, _, .tup _ r, h => by
    simp only [D.py, PyData.canLay0]
    exact RDs.lay (n := n) r (by simpa [D.flat] using h)
  | 0, _, _, .lst _ _, h => by simp [D.flat] at h
  | n + 1, _, _, .lst _ r, h => by
    simp only [D.py, PyData.canLay0]
    exact RDs.lay (n := n) r (by simpa [D.flat] using h)
  | n, _, _, .lz _ _, h => by cases n <;> simp [D.flat] at h
theorem RDs.lay : ∀ {n : Nat} {ds : List D} {vs : List V}, RDs K F ds vs → D.flats n ds = true → PyData.canLayAll0 (D.pys ds) = true
  | _, _, _, .nil, _ => by simp [D.pys, PyData.canLayAll0]
  | n, _, _, .cons h r, q => by
    rw [D.flats, Bool.and_eq_true] at q
    simp only [D.pys, PyData.canLayAll0, Bool.and_eq_true]
    exact ⟨RD.lay h q.1, RDs.lay r q.2⟩
end
mutual
theorem RD.dp (sb : Same F H) : ∀ {n : Nat} {d : D} {v : V}, RD K F d v → d.flat n = true → Dp K H v d.py
  | _, _, _, .non, _ => by simp only [D.py]; exact .non
  | _, _, _, .bl _, _ => by simp only [D.py]; exact .bl _
  | _, _, _, .int _, _ => by simp only [D.py]; exact .int _
  | _, _, _, .str _ h, _ => by simp only [D.py]; exact .str _
  | 0, _, _, .tup _ _, h => by simp [D.flat] at h
  | n + 1, _, _, .tup e r, h => by
    simp only [D.py]
    exact .tup (Same.seqT sb e) (RDs.dp sb (n := n) r (by simpa [D.flat] using h))
  | 0, _, _, .lst _ _, h => by simp [D.flat] at h
  | n + 1, _, _, .lst e r, h => by
    simp only [D.py]
    exact .lst (.of (sb _ _ e)) (RDs.dp sb (n := n) r (by simpa [D.flat] using h))
  | n, _, _, .lz _ _, h => by cases n <;> simp [D.flat] at h
theorem RDs.dp (sb : Same F H) : ∀ {n : Nat} {ds : List D} {vs : List V}, RDs K F ds vs → D.flats n ds = true → DpAll K H vs (D.pys ds)
  | _, _, _, .nil, _ => by simp only [D.pys]; exact .nil
  | n, _, _, .cons h r, q => by
    rw [D.flats, Bool.and_eq_true] at q
    simp only [D.pys]
    exact .cons (RD.dp sb h q.1) (RDs.dp sb r q.2)
end
theorem View.lay {n : Nat} {d : D} {v : V} (h : View K F H d v) (q : d.flat n = true) : d.py.canLay0 = true := by
  rcases h with h | ⟨a, o, _, _, z⟩
  · exact h.lay q
  · cases d with
    | lst xs =>
      obtain ⟨vs, _, r⟩ := z
      cases n with
      | zero => simp [D.flat] at q
      | succ n =>
        simp only [D.py, PyData.canLay0]
        exact RDs.lay (n := n) r (by simpa [D.flat] using q)
    | ins c ns xs => simp [D.flat] at q
    | _ => exact z.elim
theorem View.dp {n : Nat} {d : D} {v : V} (sb : Same F H) (h : View K F H d v) (q : d.flat n = true) : Dp K H v d.py := by
  rcases h with h | ⟨a, o, rfl, hh, z⟩
  · exact h.dp sb q
  · cases d with
    | lst xs =>
      obtain ⟨vs, rfl, r⟩ := z
      cases n with
      | zero => simp [D.flat] at q
      | succ n =>
        simp only [D.py]
        exact .lst (.of hh) (RDs.dp sb (n := n) r (by simpa [D.flat] using q))
    | ins c ns xs => simp [D.flat] at q
    | _ => exact z.elim
theorem View.shaped {d : D} {v : V} (h : View K F H d v) (q : d.flat 60 = true) : SeqAt.shaped d.py = true := by
  unfold SeqAt.shaped
  rw [h.lay q, Bool.true_and]
  have := flat_depth q
  exact decide_eq_true (by omega)
end
/-- a comparison's outcome -/
def rCo (K : PySem.W.Frag) (g : D → D → Option Bool) : R2 := fun x y H Q => ∃ F d e b, Same F H ∧ View K F H d x ∧ View K F H e y ∧ g d e = some b ∧ Q (.bl b) H
section
variable {X : Cx}
theorem c_eq (hu : X.A.units + 64 < cLine) : OpR X (compareOp .Eq) (rCo X.K COp.eq.go) := by
  intro pins s σ H x y v u Q I rx ry ⟨F, d, e, b, sb, vx, vy, g, q⟩
  simp only [COp.go] at g
  split at g
  · rename_i hh
    cases g
    rw [okEq, Bool.and_eq_true] at hh
    exact op_eqD hu pins s σ H x y v u Q I rx ry ⟨_, _, vx.dp sb hh.1, vy.dp sb hh.2, vx.shaped hh.1, vy.shaped hh.2, q⟩
  · cases g
theorem c_ne (hu : X.A.units + 64 < cLine) : OpR X (compareOp .NotEq) (rCo X.K COp.ne.go) := by
  intro pins s σ H x y v u Q I rx ry ⟨F, d, e, b, sb, vx, vy, g, q⟩
  simp only [COp.go] at g
  split at g
  · rename_i hh
    cases g
    rw [okEq, Bool.and_eq_true] at hh
    exact op_neD hu pins s σ H x y v u Q I rx ry ⟨_, _, vx.dp sb hh.1, vy.dp sb hh.2, vx.shaped hh.1, vy.shaped hh.2, q⟩
  · cases g
omit [ClsTab] in
theorem ne_none_py {d e : D} (h : d.flat 60 = true) (ha : PySem.W.alike d.py e.py = true) (n : d.isNon = false) : d.py ≠ .none := by
  cases d <;> simp_all [D.py, D.flat, D.isNon]
theorem c_lt (hu : X.A.units + 64 < cLine) : OpR X (compareOp .Lt) (rCo X.K COp.lt.go) := by
  intro pins s σ H x y v u Q I rx ry ⟨F, d, e, b, sb, vx, vy, g, q⟩
  change ltD d e = some b at g
  unfold ltD at g
  split at g
  · cases g
    exact op_lt pins s σ H x y v u Q I rx ry ⟨_, _, vx.int, vy.int, q⟩
  · split at g
    · rename_i hh
      cases g
      rw [Bool.and_eq_true, Bool.and_eq_true, okEq, Bool.and_eq_true] at hh
      obtain ⟨⟨⟨h1, h2⟩, h3⟩, h4⟩ := hh
      obtain ⟨as, r1⟩ := Dp.reads I _ x v (vx.dp sb h1) rx
      obtain ⟨bs, r2⟩ := Dp.reads I _ y u (vy.dp sb h2) ry
      have hd := flat_depth h1
      exact PySem.W.lt_data r1 r2 h3 (ne_none_py h1 h3 (by simpa using h4)) (by omega) ⟨.bl _, H, I, rfl, q⟩
    · cases g
theorem c_gt (hu : X.A.units + 64 < cLine) : OpR X (compareOp .Gt) (rCo X.K COp.gt.go) := by
  intro pins s σ H x y v u Q I rx ry ⟨F, d, e, b, sb, vx, vy, g, q⟩
  change ltD e d = some b at g
  unfold ltD at g
  split at g
  · cases g
    exact op_gt pins s σ H x y v u Q I rx ry ⟨_, _, vx.int, vy.int, q⟩
  · split at g
    · rename_i hh
      cases g
      rw [Bool.and_eq_true, Bool.and_eq_true, okEq, Bool.and_eq_true] at hh
      obtain ⟨⟨⟨h1, h2⟩, h3⟩, h4⟩ := hh
      obtain ⟨as, r1⟩ := Dp.reads I _ x v (vx.dp sb h2) rx
      obtain ⟨bs, r2⟩ := Dp.reads I _ y u (vy.dp sb h1) ry
      have hd := flat_depth h1
      have h5 : PySem.W.alike d.py e.py = true := (PySem.W.alike_comm _ _).trans h3
      have h6 := ne_none_py h1 h3 (by simpa using h4)
      exact PySem.W.gt_data r1 r2 h5 (PySem.W.ne_none_both h3 h6) (by omega) ⟨.bl _, H, I, rfl, q⟩
    · cases g
theorem c_le (hu : X.A.units + 64 < cLine) : OpR X (compareOp .LtE) (rCo X.K COp.le.go) := by
  intro pins s σ H x y v u Q I rx ry ⟨F, d, e, b, sb, vx, vy, g, q⟩
  change leD d e = some b at g
  unfold leD at g
  split at g
  · cases g
    exact op_le pins s σ H x y v u Q I rx ry ⟨_, _, vx.int, vy.int, q⟩
  · split at g
    · rename_i hh
      cases g
      rw [Bool.and_eq_true, Bool.and_eq_true, okEq, Bool.and_eq_true] at hh
      obtain ⟨⟨⟨h1, h2⟩, h3⟩, h4⟩ := hh
      obtain ⟨as, r1⟩ := Dp.reads I _ x v (vx.dp sb h1) rx
      obtain ⟨bs, r2⟩ := Dp.reads I _ y u (vy.dp sb h2) ry
      have hd := flat_depth h1
      exact PySem.W.le_data r1 r2 h3 (ne_none_py h1 h3 (by simpa using h4)) (by omega) ⟨.bl _, H, I, rfl, q⟩
    · cases g
theorem c_ge (hu : X.A.units + 64 < cLine) : OpR X (compareOp .GtE) (rCo X.K COp.ge.go) := by
  intro pins s σ H x y v u Q I rx ry ⟨F, d, e, b, sb, vx, vy, g, q⟩
  change leD e d = some b at g
  unfold leD at g
  split at g
  · cases g
    exact op_ge pins s σ H x y v u Q I rx ry ⟨_, _, vx.int, vy.int, q⟩
  · split at g
    · rename_i hh
      cases g
      rw [Bool.and_eq_true, Bool.and_eq_true, okEq, Bool.and_eq_true] at hh
      obtain ⟨⟨⟨h1, h2⟩, h3⟩, h4⟩ := hh
      obtain ⟨as, r1⟩ := Dp.reads I _ x v (vx.dp sb h2) rx
      obtain ⟨bs, r2⟩ := Dp.reads I _ y u (vy.dp sb h1) ry
      have hd := flat_depth h1
      have h5 : PySem.W.alike d.py e.py = true := (PySem.W.alike_comm _ _).trans h3
      have h6 := ne_none_py h1 h3 (by simpa using h4)
      exact PySem.W.ge_data r1 r2 h5 (PySem.W.ne_none_both h3 h6) (by omega) ⟨.bl _, H, I, rfl, q⟩
    · cases g
theorem View.isNon {K : PySem.W.Frag} {F H : Hp} {d : D} {x : V} (vx : View K F H d x) : decide (x = V.non) = d.isNon := by
  rcases vx with h | ⟨a, o, rfl, _, z⟩
  · cases h <;> rfl
  · cases d <;> first | exact z.elim | rfl
theorem c_is : OpR X (compareOp .Is) (rCo X.K COp.is.go) := by
  intro pins s σ H x y v u Q I rx ry ⟨F, d, e, b, sb, vx, vy, g, q⟩
  change isD d e = some b at g
  unfold isD at g
  split at g
  · cases g
    refine op_isN pins s σ H x y v u Q I rx ry ⟨vy.non, ?_⟩
    rw [vx.isNon]
    exact q
  · cases g
    exact op_isBl pins s σ H x y v u Q I rx ry ⟨_, _, vx.bl, vy.bl, q⟩
  · cases g
theorem c_isnt : OpR X (compareOp .IsNot) (rCo X.K COp.isnt.go) := by
  intro pins s σ H x y v u Q I rx ry ⟨F, d, e, b, sb, vx, vy, g, q⟩
  obtain ⟨b', g2, rfl⟩ := Option.map_eq_some_iff.mp (show (isD d e).map (!·) = some b from g)
  clear g
  unfold isD at g2
  split at g2
  · cases g2
    refine op_notN pins s σ H x y v u Q I rx ry ⟨vy.non, ?_⟩
    rw [vx.isNon]
    exact q
  · cases g2
    exact op_notBl pins s σ H x y v u Q I rx ry ⟨_, _, vx.bl, vy.bl, q⟩
  · cases g2
omit [ClsTab] in
theorem flat_tup {xs : List D} (h : D.flats 60 xs = true) : (D.tup xs).flat 61 = true := by simpa [D.flat] using h
omit [ClsTab] in
theorem flat_lst {xs : List D} (h : D.flats 60 xs = true) : (D.lst xs).flat 61 = true := by simpa [D.flat] using h
omit [ClsTab] in
theorem pys_any (x : D) : ∀ ys : List D, (D.pys ys).any (fun z => PyData.eqv z x.py) = ys.any fun y => eqD y x
  | [] => rfl
  | y :: ys => by rw [D.pys, List.any_cons, List.any_cons, pys_any x ys]
theorem c_in (hu : X.A.units + 100 < cLine) : OpR X (compareOp .In) (rCo X.K COp.isin.go) := by
  intro pins s σ H x y v u Q I rx ry ⟨F, d, e, b, sb, vx, vy, g, q⟩
  change inD d e = some b at g
  unfold inD at g
  split at g
  · split at g
    · rename_i hh
      cases g
      rw [Bool.and_eq_true] at hh
      obtain ⟨as, r1⟩ := Dp.reads I _ x v (vx.dp sb hh.1) rx
      have hf := flat_tup hh.2
      obtain ⟨bs, r2⟩ := Dp.reads I _ y u (vy.dp sb hf) ry
      have h1 := vy.lay hf
      have hd := flat_depth hh.1
      rw [D.py] at r2 h1
      refine SeqAt.in_tuple_reads r2 r1 (by simpa [PyData.canLay0] using h1) (vx.lay hh.1) (by omega) ⟨.bl _, H, I, rfl, ?_⟩
      rw [pys_any]
      exact q
    · cases g
  · split at g
    · rename_i hh
      cases g
      rw [Bool.and_eq_true] at hh
      obtain ⟨as, r1⟩ := Dp.reads I _ x v (vx.dp sb hh.1) rx
      have hf := flat_lst hh.2
      obtain ⟨bs, r2⟩ := Dp.reads I _ y u (vy.dp sb hf) ry
      have h1 := vy.lay hf
      have hd := flat_depth hh.1
      rw [D.py] at r2 h1
      refine SeqAt.in_list_reads r2 r1 (by simpa [PyData.canLay0] using h1) (vx.lay hh.1) (by omega) ⟨.bl _, H, I, rfl, ?_⟩
      rw [pys_any]
      exact q
    · cases g
  · cases g
    exact op_in_str pins s σ H x y v u Q I rx ry ⟨_, _, vx.str.1, vy.str.1, q⟩
  · cases g
theorem c_notin (hu : X.A.units + 100 < cLine) : OpR X (compareOp .NotIn) (rCo X.K COp.notin.go) := by
  intro pins s σ H x y v u Q I rx ry ⟨F, d, e, b, sb, vx, vy, g, q⟩
  obtain ⟨b', g2, rfl⟩ := Option.map_eq_some_iff.mp (show (inD d e).map (!·) = some b from g)
  clear g
  unfold inD at g2
  split at g2
  · split at g2
    · rename_i hh
      cases g2
      rw [Bool.and_eq_true] at hh
      obtain ⟨as, r1⟩ := Dp.reads I _ x v (vx.dp sb hh.1) rx
      have hf := flat_tup hh.2
      obtain ⟨bs, r2⟩ := Dp.reads I _ y u (vy.dp sb hf) ry
      have h1 := vy.lay hf
      have hd := flat_depth hh.1
      rw [D.py] at r2 h1
      refine SeqAt.notIn_tuple_reads r2 r1 (by simpa [PyData.canLay0] using h1) (vx.lay hh.1) (by omega) ⟨.bl _, H, I, rfl, ?_⟩
      rw [pys_any]
      exact q
    · cases g2
  · split at g2
    · rename_i hh
      cases g2
      rw [Bool.and_eq_true] at hh
      obtain ⟨as, r1⟩ := Dp.reads I _ x v (vx.dp sb hh.1) rx
      have hf := flat_lst hh.2
      obtain ⟨bs, r2⟩ := Dp.reads I _ y u (vy.dp sb hf) ry
      have h1 := vy.lay hf
      have hd := flat_depth hh.1
      rw [D.py] at r2 h1
      refine SeqAt.notIn_list_reads r2 r1 (by simpa [PyData.canLay0] using h1) (vx.lay hh.1) (by omega) ⟨.bl _, H, I, rfl, ?_⟩
      rw [pys_any]
      exact q
    · cases g2
  · cases g2
    exact op_notIn_str pins s σ H x y v u Q I rx ry ⟨_, _, vx.str.1, vy.str.1, q⟩
  · cases g2
def cOf : COp → CmpOp
  | .eq => .Eq | .ne => .NotEq | .lt => .Lt | .le => .LtE | .gt => .Gt | .ge => .GtE | .is => .Is | .isnt => .IsNot | .isin => .In | .notin => .NotIn
theorem c_all (hu : X.A.units + 100 < cLine) (op : COp) : OpR X (compareOp (cOf op)) (rCo X.K op.go) := by
  cases op with
  | eq => exact c_eq (by omega)
  | ne => exact c_ne (by omega)
  | lt => exact c_lt (by omega)
  | le => exact c_le (by omega)
  | gt => exact c_gt (by omega)
  | ge => exact c_ge (by omega)
  | is => exact c_is
  | isnt => exact c_isnt
  | isin => exact c_in hu
  | notin => exact c_notin hu
def bOf : BOp → Operator
  | .add => .Add | .sub => .Sub | .mul => .Mult | .fdiv => .FloorDiv | .mod => .Mod | .pow => .Pow
theorem o_all (op : BOp) : OpR X (binaryOp (bOf op)) (rGo X.K op.go) := by
  cases op with
  | add => exact o_add
  | sub => exact o_sub
  | mul => exact o_mul
  | fdiv => exact o_fdiv
  | mod => exact o_mod
  | pow => exact o_pow
end
end Ev

set_option Elab.async false
set_option linter.all false
set_option autoImplicit false
set_option maxHeartbeats 1000000
/-! Ev, part F: comparisons and truth as expressions and tests. -/
namespace Ev
variable [ClsTab]
open PySem PySem.Spec PyProof.Rows L2
section
variable {X : Cx} {T : CT} {W : WX}
omit [ClsTab] in
theorem map_out {g : D → D → Option Bool} {d e : D} {o : Out} (h : ((g d e).map fun r => Out.d (.bl r)) = some o) : ∃ b, g d e = some b ∧ o = .d (.bl b) := by
  obtain ⟨b, h1, h2⟩ := Option.map_eq_some_iff.mp h
  exact ⟨b, h1, h2.symm⟩
theorem goC {op : CmpOp} {g : D → D → Option Bool} (ho : OpR X (compareOp op) (rCo X.K g)) : OpR X (compareOp op) (rGo X.K fun d e => (g d e).map fun r => .d (.bl r)) := by
  intro pins s σ H x y v u Q I rx ry ⟨F, d, e, o, sb, vx, vy, h, gv⟩
  obtain ⟨b, h1, rfl⟩ := map_out h
  exact ho pins s σ H x y v u Q I rx ry ⟨F, d, e, b, sb, vx, vy, h1, give_d sb gv (.bl _)⟩
omit [ClsTab] in
theorem map_plain {g : D → D → Option Bool} {d e : D} {o : Out} (h : ((g d e).map fun r => Out.d (.bl r)) = some o) : plainOut o := by
  obtain ⟨b, _, rfl⟩ := map_out h
  trivial
theorem e_cmp (hu : X.A.units + 100 < cLine) {op : COp} {a b : Expr} {pos : Pos} {ma mb : EM Out} (hm : behindInMarks (cOf op) b = false) (ha : PE X a (tE X.K T W ma)) (hb : PE X b (tE X.K T W mb)) : PE X (.Compare a [cOf op] [b] pos) (tE X.K T W (cmp op ma mb)) :=
  (pe_cmpR (goC (c_all hu op)) ha hb hm).imp fun _ _ _ h => go2 (fun _ _ _ => map_plain) (fun _ _ => rfl) h
/-- a comparison as a test -/
theorem b_cmp (hu : X.A.units + 100 < cLine) {op : COp} {a b : Expr} {pos : Pos} {ma mb : EM Out} (hm : behindInMarks (cOf op) b = false) (ha : PE X a (tE X.K T W ma)) (hb : PE X b (tE X.K T W mb)) : PT X (.Compare a [cOf op] [b] pos) (tB X.K T W (cmpB op ma mb)) :=
  (pt_cmpR (c_all hu op) ha hb hm).imp fun σ H Q ⟨F, ι, s, R, A⟩ => by
    refine ⟨F, ι, s, R, A.bind fun o s1 F1 i1 H1 v _ _ R1 r1 A1 => ⟨F1, i1, s1, R1, A1.bind fun p s2 F2 i2 H2 w _ t2 R2 r2 A2 => ?_⟩⟩
    obtain ⟨d, e1, A3⟩ := A2.get
    obtain ⟨e, e2, A4⟩ := A3.get
    obtain ⟨q, e3, A5⟩ := A4.opt
    exact ⟨F2, d, e, q, R2.sub, (r1.step t2).view R2 e1, r2.view R2 e2, e3, q, rfl, A5 F2 i2 H2 q (.refl ..) R2 rfl⟩
theorem e_chn (hu : X.A.units + 100 < cLine) {op op' : COp} {a b c : Expr} {pos : Pos} {ma mb mc : EM Out} (hm : behindInMarks (cOf op') c = false) (ha : PE X a (tE X.K T W ma)) (hb : PE X b (tE X.K T W mb)) (hc : PE X c (tE X.K T W mc)) :
    PE X (.Compare a [cOf op, cOf op'] [b, c] pos) (tE X.K T W (chn op op' ma mb mc)) :=
  (pe_chain (c_all hu op) (goC (c_all hu op')) ha hb hc hm).imp fun σ H Q ⟨F, ι, s, R, A⟩ => by
    refine ⟨F, ι, s, R, A.bind fun o s1 F1 i1 H1 v _ _ R1 r1 A1 => ⟨F1, i1, s1, R1, A1.bind fun p s2 F2 i2 H2 w _ t2 R2 r2 A2 => ?_⟩⟩
    obtain ⟨d, e1, A3⟩ := A2.get
    obtain ⟨e, e2, A4⟩ := A3.get
    obtain ⟨q, e3, A5⟩ := A4.pass
    refine ⟨F2, d, e, q, R2.sub, (r1.step t2).view R2 e1, r2.view R2 e2, e3, q, rfl, ?_⟩
    cases q with
    | false => exact give_d R2.sub (Gives.of R2 A5 trivial) (.bl _)
    | true =>
      rw [if_pos rfl] at A5 ⊢
      refine ⟨F2, i2, s2, R2, A5.bind fun z s3 F3 i3 H3 w3 _ t3 R3 r3 A6 => ?_⟩
      obtain ⟨d3, e4, A7⟩ := A6.get
      obtain ⟨e3', e5, A8⟩ := A7.get
      obtain ⟨q3, e6, A9⟩ := A8.opt
      exact ⟨F3, d3, e3', q3, R3.sub, (r2.step t3).view R3 e4, r3.view R3 e5, e6, Gives.of R3 A9 (map_plain e6)⟩
theorem View.tru {K : PySem.W.Frag} {F H : Hp} {d : D} {v : V} {b : Bool} (sb : Same F H) (h : View K F H d v) (e : truth d = some b) : TruV K v H b := by
  cases d with
  | non => cases h.non; cases e; rfl
  | bl c => cases h.bl; cases e; rfl
  | int i => cases h.int; cases e; rfl
  | str x =>
    cases h.str.1
    simp only [truth] at e
    split at e
    · rename_i hh
      cases e
      exact ⟨lim_line hh, rfl⟩
    · cases e
  | tup xs =>
    obtain ⟨a, vs, rfl, ha, r⟩ := h.tup sb
    cases e
    refine .inr (.inl ⟨vs, ha, ?_⟩)
    cases r <;> rfl
  | lst xs =>
    obtain ⟨a, vs, rfl, ha, r⟩ := h.lst sb
    cases e
    refine .inl ⟨vs, .of ha, ?_⟩
    cases r <;> rfl
  | _ => cases e
/-- an expression as a test, by its truth -/
theorem b_tst {a : Expr} {m : EM Out} (ha : PE X a (tE X.K T W m)) (he : ∀ whole, isTrue a X.env whole = (do let v ← whole; standAt a.pos; holding [v] (truthy v))) : PT X a (tB X.K T W (tst m)) :=
  (pt_truth ha he).imp fun σ H Q ⟨F, ι, s, R, A⟩ => by
    refine ⟨F, ι, s, R, A.bind fun o s1 F1 i1 H1 v _ _ R1 r1 A1 => ?_⟩
    obtain ⟨d, e1, A2⟩ := A1.get
    obtain ⟨b, e2, A3⟩ := A2.opt
    exact ⟨b, (r1.view R1 e1).tru R1.sub e2, A3 F1 i1 H1 b (.refl ..) R1 rfl⟩
theorem b_not {a : Expr} {pos : Pos} {m : EM Bool} (ha : PT X a (tB X.K T W m)) : PT X (.UnaryOp .Not a pos) (tB X.K T W (ntB m)) :=
  (pt_not ha).imp fun σ H Q ⟨F, ι, s, R, A⟩ => by
    refine ⟨F, ι, s, R, A.bind fun o s1 F1 i1 H1 v _ _ R1 r1 A1 => ?_⟩
    cases r1
    exact A1 F1 i1 H1 _ (.refl ..) R1 rfl
theorem tAnd_imp {ma mb : EM Bool} {σ : L2.St} {H : Hp} {Q : Bool → Hp → Prop} (h : tB X.K T W (andB ma mb) σ H Q) : tAnd (tB X.K T W ma) (tB X.K T W mb) σ H Q := by
  obtain ⟨F, ι, s, R, A⟩ := h
  refine ⟨F, ι, s, R, A.bind fun o s1 F1 i1 H1 v _ _ R1 r1 A1 => ?_⟩
  cases r1
  cases o with
  | true => exact iteT ⟨F1, i1, s1, R1, by simpa using A1⟩
  | false => exact iteF (A1 F1 i1 H1 _ (.refl ..) R1 rfl)
theorem tOr_imp {ma mb : EM Bool} {σ : L2.St} {H : Hp} {Q : Bool → Hp → Prop} (h : tB X.K T W (orB ma mb) σ H Q) : tOr (tB X.K T W ma) (tB X.K T W mb) σ H Q := by
  obtain ⟨F, ι, s, R, A⟩ := h
  refine ⟨F, ι, s, R, A.bind fun o s1 F1 i1 H1 v _ _ R1 r1 A1 => ?_⟩
  cases r1
  cases o with
  | true => exact iteT (A1 F1 i1 H1 _ (.refl ..) R1 rfl)
  | false => exact iteF ⟨F1, i1, s1, R1, by simpa using A1⟩
omit [ClsTab] in
theorem PW.imp {X : Cx} {e : Expr} {t t' : TT} (h : PW X e t) (i : ∀ σ H Q, t' σ H Q → t σ H Q) : PW X e t' := ⟨fun wh pins s σ H Q I q => h.run wh pins s σ H Q I (i σ H Q q)⟩
theorem w_and1 {a : Expr} {pos : Pos} {m : EM Bool} (ha : PT X a (tB X.K T W m)) : PW X (.BoolOp .And [a] pos) (tB X.K T W m) := pw_and1 ha
theorem w_or1 {a : Expr} {pos : Pos} {m : EM Bool} (ha : PT X a (tB X.K T W m)) : PW X (.BoolOp .Or [a] pos) (tB X.K T W m) := pw_or1 ha
theorem w_and {a b : Expr} {r : List Expr} {pos : Pos} {ma mb : EM Bool} (ha : PT X a (tB X.K T W ma)) (hb : PW X (.BoolOp .And (b :: r) pos) (tB X.K T W mb)) : PW X (.BoolOp .And (a :: b :: r) pos) (tB X.K T W (andB ma mb)) := PW.imp (pw_and ha hb) fun _ _ _ => tAnd_imp
theorem w_or {a b : Expr} {r : List Expr} {pos : Pos} {ma mb : EM Bool} (ha : PT X a (tB X.K T W ma)) (hb : PW X (.BoolOp .Or (b :: r) pos) (tB X.K T W mb)) : PW X (.BoolOp .Or (a :: b :: r) pos) (tB X.K T W (orB ma mb)) := PW.imp (pw_or ha hb) fun _ _ _ => tOr_imp
/-- the outcome is handed on -/
theorem Aft.out {K : PySem.W.Frag} {F F0 H H0 : Hp} {ι i0 : List Addr} {s s0 : S} {σ : L2.St} {o : Out} {v : V} {Q : VK} (R : Rel K F ι s σ H) (t : EStep F0 i0 s0 σ H0 F ι s H) (r : ROut K (Fresh s0 σ i0 H0) F ι s σ H o v) (h : Aft K T W (ROut K) F0 i0 s0 σ H0 (.ok o s) Q) : Q v H := h F ι H v t R r
/-- and, or as values -/
theorem e_and {a b : Expr} {r : List Expr} {pos : Pos} {ma mb : EM Out} (ha : PE X a (tE X.K T W ma)) (hb : PE X (.BoolOp .And (b :: r) pos) (tE X.K T W mb)) : PE X (.BoolOp .And (a :: b :: r) pos) (tE X.K T W (andE ma mb)) :=
  (pe_andT ha hb).imp fun σ H Q ⟨F, ι, s, R, A⟩ => by
    refine ⟨F, ι, s, R, A.bind0 fun o s1 F1 i1 H1 v _ t1 R1 r1 A1 => ?_⟩
    obtain ⟨d, e1, A2⟩ := A1.get
    obtain ⟨b, e2, A3⟩ := A2.pass
    refine ⟨b, (r1.view R1 e1).tru R1.sub e2, ?_⟩
    cases b with
    | true => exact iteT ⟨F1, i1, s1, R1, by simpa using A3.from t1⟩
    | false => exact iteF (Aft.out R1 t1 r1 A3)
theorem e_or {a b : Expr} {r : List Expr} {pos : Pos} {ma mb : EM Out} (ha : PE X a (tE X.K T W ma)) (hb : PE X (.BoolOp .Or (b :: r) pos) (tE X.K T W mb)) : PE X (.BoolOp .Or (a :: b :: r) pos) (tE X.K T W (orE ma mb)) :=
  (pe_orT ha hb).imp fun σ H Q ⟨F, ι, s, R, A⟩ => by
    refine ⟨F, ι, s, R, A.bind0 fun o s1 F1 i1 H1 v _ t1 R1 r1 A1 => ?_⟩
    obtain ⟨d, e1, A2⟩ := A1.get
    obtain ⟨b, e2, A3⟩ := A2.pass
    refine ⟨b, (r1.view R1 e1).tru R1.sub e2, ?_⟩
    cases b with
    | true => exact iteT (Aft.out R1 t1 r1 A3)
    | false => exact iteF ⟨F1, i1, s1, R1, by simpa using A3.from t1⟩
theorem e_one {a : Expr} {op : BoolOp} {pos : Pos} {m : EM Out} (ha : PE X a (tE X.K T W m)) : PE X (.BoolOp op [a] pos) (tE X.K T W m) := pe_one ha
theorem e_not {a : Expr} {pos : Pos} {m : EM Out} (ha : PE X a (tE X.K T W m)) : PE X (.UnaryOp .Not a pos) (tE X.K T W (nt (tst m))) :=
  (pe_notT ha).imp fun σ H Q ⟨F, ι, s, R, A⟩ => by
    have A : Aft X.K T W (ROut X.K) F ι s σ H ((m.bind fun x => (Ev.get x).bind fun u => (Ev.opt (truth u)).bind fun b => .pure (.d (.bl (!b)))) s) Q := by
      have e : nt (tst m) s = (m.bind fun x => (Ev.get x).bind fun u => (Ev.opt (truth u)).bind fun b => .pure (.d (.bl (!b)))) s := by
        simp only [nt, tst, EM.bind]
        cases m s with
        | ok o s1 =>
          simp only
          cases Ev.get o s1 <;> rfl
        | exc _ _ => rfl
        | bad => rfl
      rw [← e]
      exact A
    refine ⟨F, ι, s, R, A.bind fun o s1 F1 i1 H1 v _ _ R1 r1 A1 => ?_⟩
    obtain ⟨d, e1, A2⟩ := A1.get
    obtain ⟨b, e2, A3⟩ := A2.pass
    exact ⟨b, (r1.view R1 e1).tru R1.sub e2, give_d R1.sub (Gives.of R1 A3 trivial) (.bl _)⟩
theorem e_ite {c a b : Expr} {pos : Pos} {mc : EM Bool} {ma mb : EM Out} (hc : PT X c (tB X.K T W mc)) (ha : PE X a (tE X.K T W ma)) (hb : PE X b (tE X.K T W mb)) : PE X (.IfExp c a b pos) (tE X.K T W (iteE mc ma mb)) :=
  (pe_ifExp hc ha hb).imp fun σ H Q ⟨F, ι, s, R, A⟩ => by
    refine ⟨F, ι, s, R, A.bind fun o s1 F1 i1 H1 v _ _ R1 r1 A1 => ?_⟩
    cases r1
    cases o with
    | true => exact iteT ⟨F1, i1, s1, R1, by simpa using A1⟩
    | false => exact iteF ⟨F1, i1, s1, R1, by simpa using A1⟩
theorem e_neg {a : Expr} {pos : Pos} {m : EM Out} (ha : PE X a (tE X.K T W m)) : PE X (.UnaryOp .USub a pos) (tE X.K T W (neg m)) :=
  (pe_un un_neg ha).imp fun σ H Q ⟨F, ι, s, R, A⟩ => by
    refine ⟨F, ι, s, R, A.bind fun o s1 F1 i1 H1 v _ _ R1 r1 A1 => ?_⟩
    obtain ⟨d, e1, A2⟩ := A1.get
    obtain ⟨q, e2, A3⟩ := A2.opt
    cases d <;> first | (cases e2; done) | skip
    cases e2
    exact ⟨_, (r1.view R1 e1).int, give_d R1.sub (Gives.of R1 A3 trivial) (.int _)⟩
end
end Ev

set_option Elab.async false
set_option linter.all false
set_option autoImplicit false
set_option maxHeartbeats 1000000
/-! Ev, part G: what is kept; displays, items, slices. -/
namespace Ev
variable [ClsTab]
open PySem PySem.Spec PyProof.Rows L2
omit [ClsTab] in
theorem set_get {α : Type} {l : List α} {i j : Nat} {x : α} : (l.set i x)[j]? = if i = j then (if i < l.length then some x else none) else l[j]? := by
  rw [List.getElem?_set]
section
variable {K : PySem.W.Frag} {T : CT} {W : WX} {F H : Hp} {ι : List Addr} {s : S} {σ : L2.St}
omit [ClsTab] in
theorem fro_ne {F1 F' : Hp} {ι' : List Addr} {s' : S} {H' : Hp} {a : Addr} {u : HO} (h : F1 = upd F' a u) : Same F' F1 → True := fun _ => trivial
/-- a slot's own thing is frozen -/
theorem freeze_slot {i : Nat} {x : D} {v : V} (R : Rel K F ι s σ H) (e : s.env[i]? = some (some (.own x))) (ev : σ[i]? = some (some v)) :
    ∃ F1, EStep F ι s σ H F1 ι { s with env := s.env.set i (some (.d x)) } H ∧ Rel K F1 ι { s with env := s.env.set i (some (.d x)) } σ H ∧ RD K F1 x v := by
  obtain ⟨v', e2, a, o, rfl, h, r, f⟩ := R.env i _ e
  rw [ev] at e2
  cases e2
  have hi : i < s.env.length := (List.getElem?_eq_some_iff.mp e).1
  have own0 : OwnAt s σ i a := ⟨⟨x, e⟩, ev⟩
  have ff : Same F (upd F a o) := fun b z q => by
    rw [upd_ne (ne_of_none q f)]
    exact q
  have sb : Same (upd F a o) H := fun b z q => by
    by_cases hb : b = a
    · subst hb
      rw [upd_same] at q
      cases q
      exact h
    · rw [upd_ne hb] at q
      exact R.sub b z q
  have rd : RD K (upd F a o) x (.ref a) := by
    cases x with
    | lst xs =>
      obtain ⟨vs, rfl, q⟩ := r
      exact .lst upd_same (q.mono ff)
    | ins c ns xs =>
      obtain ⟨C, dx, vs, h0, rfl, h1, q⟩ := r
      exact .ins h0 upd_same h1 (q.mono ff)
    | _ => exact r.elim
  have ow : ∀ j b, OwnAt { s with env := s.env.set i (some (.d x)) } σ j b → OwnAt s σ j b ∧ j ≠ i := fun j b ⟨⟨y, q⟩, q2⟩ => by
    simp only [set_get] at q
    by_cases hj : i = j
    · rw [if_pos hj, if_pos hi] at q
      cases q
    · rw [if_neg hj] at q
      exact ⟨⟨⟨y, q⟩, q2⟩, fun z => hj z.symm⟩
  have owd : ∀ b, Owned { s with env := s.env.set i (some (.d x)) } σ ι b → Owned s σ ι b := fun b q => by
    rcases q with ⟨j, q⟩ | q
    · exact .inl ⟨j, (ow j b q).1⟩
    · exact .inr q
  refine ⟨upd F a o, ⟨⟨ff, List.prefix_refl _, fun _ _ q _ => q, fun b q => .inl (owd b q), fun b z q => ?_⟩, fun j q => ?_⟩, ⟨sb, fun j y q => ?_, fun k c q => ?_, R.len, by simpa using R.elen, fun j k b q q2 => R.oo j k b (ow j b q).1 (ow k b q2).1, fun j k b q q2 => R.ol j k b (ow j b q).1 q2, R.ll⟩, rd⟩
  · by_cases hb : b = a
    · subst hb
      exact .inr (.inl (.inl ⟨i, own0⟩))
    · rw [upd_ne hb] at q
      exact .inl q
  · by_cases hj : i = j
    · exact .inl ⟨x, by simp only [set_get]; rw [if_pos hj, if_pos hi]⟩
    · rcases q with ⟨y, q⟩ | ⟨y, q⟩
      · exact .inl ⟨y, by simp only [set_get]; rw [if_neg hj]; exact q⟩
      · exact .inr ⟨y, by simp only [set_get]; rw [if_neg hj]; exact q⟩
  · simp only [set_get] at q
    by_cases hj : i = j
    · rw [if_pos hj, if_pos hi] at q
      cases q
      subst hj
      exact ⟨_, ev, rd⟩
    · rw [if_neg hj] at q
      obtain ⟨v, e3, r3⟩ := R.env j y q
      refine ⟨v, e3, ?_⟩
      cases y with
      | d y => exact RD.mono ff r3
      | ref k => exact r3
      | own y =>
        obtain ⟨b, o2, rfl, h2, r2, f2⟩ := r3
        refine ⟨b, o2, rfl, h2, r2.mono ff, ?_⟩
        have hba : b ≠ a := fun z => by
          subst z
          exact hj (R.oo i j b own0 ⟨⟨y, q⟩, e3⟩)
        rw [upd_ne hba]
        exact f2
  · obtain ⟨b, e3, r3⟩ := R.mem k c q
    refine ⟨b, e3, ?_⟩
    cases c with
    | live y =>
      obtain ⟨o2, h2, r2, f2⟩ := r3
      refine ⟨o2, h2, r2.mono ff, ?_⟩
      have hba : b ≠ a := fun z => by
        subst z
        exact R.ol i k b own0 ⟨⟨y, q⟩, e3⟩
      rw [upd_ne hba]
      exact f2
    | fro y => exact RD.mono ff r3
/-- a cell is frozen -/
theorem freeze_cell {k : Nat} {c : Cell} {a : Addr} (R : Rel K F ι s σ H) (e : s.mem[k]? = some c) (ea : ι[k]? = some a) :
    ∃ F1, EStep F ι s σ H F1 ι { s with mem := s.mem.set k (.fro c.tree) } H ∧ Rel K F1 ι { s with mem := s.mem.set k (.fro c.tree) } σ H ∧ RD K F1 c.tree (.ref a) := by
  have hk : k < s.mem.length := (List.getElem?_eq_some_iff.mp e).1
  obtain ⟨a', e2, r⟩ := R.mem k c e
  rw [ea] at e2
  cases e2
  have lv : ∀ j b, LiveAt { s with mem := s.mem.set k (.fro c.tree) } ι j b → LiveAt s ι j b ∧ j ≠ k := fun j b ⟨⟨y, q⟩, q2⟩ => by
    simp only [set_get] at q
    by_cases hj : k = j
    · rw [if_pos hj, if_pos hk] at q
      cases q
    · rw [if_neg hj] at q
      exact ⟨⟨⟨y, q⟩, q2⟩, fun z => hj z.symm⟩
  have owd : ∀ b, Owned { s with mem := s.mem.set k (.fro c.tree) } σ ι b → Owned s σ ι b := fun b q => by
    rcases q with q | ⟨j, q⟩
    · exact .inl q
    · exact .inr ⟨j, (lv j b q).1⟩
  cases c with
  | fro x =>
    have es : s.mem.set k (.fro (Cell.fro x).tree) = s.mem := by
      apply List.ext_getElem?
      intro j
      rw [set_get]
      by_cases hj : k = j
      · subst hj
        rw [if_pos rfl, if_pos hk, e]
        rfl
      · rw [if_neg hj]
    rw [es]
    exact ⟨F, .refl .., R, r⟩
  | live x =>
    obtain ⟨o, h, r, f⟩ := r
    have lv0 : LiveAt s ι k a := ⟨⟨x, e⟩, ea⟩
    have ff : Same F (upd F a o) := fun b z q => by
      rw [upd_ne (ne_of_none q f)]
      exact q
    have sb : Same (upd F a o) H := fun b z q => by
      by_cases hb : b = a
      · subst hb
        rw [upd_same] at q
        cases q
        exact h
      · rw [upd_ne hb] at q
        exact R.sub b z q
    have rd : RD K (upd F a o) x (.ref a) := by
      cases x with
      | lst xs =>
        obtain ⟨vs, rfl, q⟩ := r
        exact .lst upd_same (q.mono ff)
      | ins c ns xs =>
        obtain ⟨C, dx, vs, h0, rfl, h1, q⟩ := r
        exact .ins h0 upd_same h1 (q.mono ff)
      | _ => exact r.elim
    refine ⟨upd F a o, ⟨⟨ff, List.prefix_refl _, fun _ _ q _ => q, fun b q => .inl (owd b q), fun b z q => ?_⟩, fun j q => q⟩, ⟨sb, fun j y q => ?_, fun j c q => ?_, by simpa using R.len, R.elen, R.oo, fun i j b q q2 => R.ol i j b q (lv j b q2).1, fun i j b q q2 => R.ll i j b (lv i b q).1 (lv j b q2).1⟩, rd⟩
    · by_cases hb : b = a
      · subst hb
        exact .inr (.inl (.inr ⟨k, lv0⟩))
      · rw [upd_ne hb] at q
        exact .inl q
    · obtain ⟨v, e3, r3⟩ := R.env j y q
      refine ⟨v, e3, ?_⟩
      cases y with
      | d y => exact RD.mono ff r3
      | ref k => exact r3
      | own y =>
        obtain ⟨b, o2, rfl, h2, r2, f2⟩ := r3
        refine ⟨b, o2, rfl, h2, r2.mono ff, ?_⟩
        have hba : b ≠ a := fun z => by
          subst z
          exact R.ol j k b ⟨⟨y, q⟩, e3⟩ lv0
        rw [upd_ne hba]
        exact f2
    · simp only [set_get] at q
      by_cases hj : k = j
      · rw [if_pos hj, if_pos hk] at q
        cases q
        subst hj
        exact ⟨a, ea, rd⟩
      · rw [if_neg hj] at q
        obtain ⟨b, e3, r3⟩ := R.mem j c q
        refine ⟨b, e3, ?_⟩
        cases c with
        | live y =>
          obtain ⟨o2, h2, r2, f2⟩ := r3
          refine ⟨o2, h2, r2.mono ff, ?_⟩
          have hba : b ≠ a := fun z => by
            subst z
            exact hj (R.ll k j b lv0 ⟨⟨y, q⟩, e3⟩)
          rw [upd_ne hba]
          exact f2
        | fro y => exact RD.mono ff r3
/-- a new thing is frozen -/
theorem freeze_new {x : D} {a : Addr} {o : HO} (R : Rel K F ι s σ H) (h : H a = some o) (r : RObj K F x o) (f : F a = none) (n : ¬ Owned s σ ι a) :
    Same F (upd F a o) ∧ Rel K (upd F a o) ι s σ H ∧ RD K (upd F a o) x (.ref a) := by
  have ff : Same F (upd F a o) := fun b z q => by
    rw [upd_ne (ne_of_none q f)]
    exact q
  have sb : Same (upd F a o) H := fun b z q => by
    by_cases hb : b = a
    · subst hb
      rw [upd_same] at q
      cases q
      exact h
    · rw [upd_ne hb] at q
      exact R.sub b z q
  have rd : RD K (upd F a o) x (.ref a) := by
    cases x with
    | lst xs =>
      obtain ⟨vs, rfl, q⟩ := r
      exact .lst upd_same (q.mono ff)
    | ins c ns xs =>
      obtain ⟨C, dx, vs, h0, rfl, h1, q⟩ := r
      exact .ins h0 upd_same h1 (q.mono ff)
    | _ => exact r.elim
  refine ⟨ff, ⟨sb, fun j y q => ?_, fun j c q => ?_, R.len, R.elen, R.oo, R.ol, R.ll⟩, rd⟩
  · obtain ⟨v, e3, r3⟩ := R.env j y q
    refine ⟨v, e3, ?_⟩
    cases y with
    | d y => exact RD.mono ff r3
    | ref k => exact r3
    | own y =>
      obtain ⟨b, o2, rfl, h2, r2, f2⟩ := r3
      refine ⟨b, o2, rfl, h2, r2.mono ff, ?_⟩
      have hba : b ≠ a := fun z => by
        subst z
        exact n (.inl ⟨j, ⟨⟨y, q⟩, e3⟩⟩)
      rw [upd_ne hba]
      exact f2
  · obtain ⟨b, e3, r3⟩ := R.mem j c q
    refine ⟨b, e3, ?_⟩
    cases c with
    | live y =>
      obtain ⟨o2, h2, r2, f2⟩ := r3
      refine ⟨o2, h2, r2.mono ff, ?_⟩
      have hba : b ≠ a := fun z => by
        subst z
        exact n (.inr ⟨j, ⟨⟨y, q⟩, e3⟩⟩)
      rw [upd_ne hba]
      exact f2
    | fro y => exact RD.mono ff r3
/-- what is kept is a tree from then on -/
theorem keep_ok {F0 H0 : Hp} {i0 : List Addr} {s0 : S} {o : Out} {v : V} {s1 : S} {x : D} (R : Rel K F ι s σ H) (t : EStep F0 i0 s0 σ H0 F ι s H) (r : ROut K (Fresh s0 σ i0 H0) F ι s σ H o v) (e : keep o s = .ok x s1) :
    ∃ F1, EStep F0 i0 s0 σ H0 F1 ι s1 H ∧ Rel K F1 ι s1 σ H ∧ RD K F1 x v := by
  cases o with
  | d y =>
    cases e
    exact ⟨F, t, R, r⟩
  | new y =>
    cases e
    obtain ⟨a, o, rfl, h, r, f, n, fr⟩ := r
    obtain ⟨ff, R1, rd⟩ := freeze_new R h r f n
    refine ⟨_, ⟨⟨t.ff.trans ff, t.ii, t.keep, t.own, fun b z q => ?_⟩, t.od⟩, R1, rd⟩
    by_cases hb : b = a
    · subst hb
      exact .inr fr
    · rw [upd_ne hb] at q
      exact t.fro b z q
  | ref k =>
    obtain ⟨a, ea, rfl⟩ := r
    simp only [keep] at e
    split at e
    · rename_i c ec
      cases e
      obtain ⟨F1, t1, R1, rd⟩ := freeze_cell R ec ea
      exact ⟨F1, t.trans t1, R1, rd⟩
    · cases e
  | own i =>
    obtain ⟨ev, _⟩ := r
    simp only [keep] at e
    split at e
    · rename_i y es
      cases e
      obtain ⟨v', e2, r⟩ := R.env i _ es
      rw [ev] at e2
      cases e2
      exact ⟨F, t, R, r⟩
    · rename_i y es
      cases e
      obtain ⟨F1, t1, R1, rd⟩ := freeze_slot R es ev
      exact ⟨F1, t.trans t1, R1, rd⟩
    · cases e
omit [ClsTab] in
theorem keep_exc {o : Out} {s s1 : S} {x : Exc} : keep o s ≠ .exc x s1 := fun e => by
  cases o with
  | d y => cases e
  | new y => cases e
  | ref k =>
    simp only [keep] at e
    split at e <;> cases e
  | own i =>
    simp only [keep] at e
    split at e <;> cases e
/-- the keeping within a row of steps; the origin stays -/
theorem Aft.keep {F0 H0 : Hp} {i0 : List Addr} {s0 : S} {β δ : Type} {R2 : RT β δ} {o : Out} {v : V} {f : D → EM β} {Q : δ → Hp → Prop} (h : Aft K T W R2 F0 i0 s0 σ H0 ((Ev.keep o).bind f s) Q) (t : EStep F0 i0 s0 σ H0 F ι s H) (R : Rel K F ι s σ H) (r : ROut K (Fresh s0 σ i0 H0) F ι s σ H o v) :
    ∃ x s1 F1, EStep F0 i0 s0 σ H0 F1 ι s1 H ∧ Rel K F1 ι s1 σ H ∧ RD K F1 x v ∧ Aft K T W R2 F0 i0 s0 σ H0 (f x s1) Q := by
  unfold EM.bind at h
  cases e : Ev.keep o s with
  | ok x s1 =>
    rw [e] at h
    obtain ⟨F1, t1, R1, rd⟩ := keep_ok R t r e
    exact ⟨x, s1, F1, t1, R1, rd, h⟩
  | exc x s1 => exact absurd e keep_exc
  | bad =>
    rw [e] at h
    exact h.elim
end
abbrev RDL (K : PySem.W.Frag) : RT (List D) (List V) := fun _ F _ _ _ _ ds vs => RDs K F ds vs
instance (K : PySem.W.Frag) : Mono (RDL K) := ⟨fun _ r => r⟩
abbrev RDd (K : PySem.W.Frag) : RT D V := fun _ F _ _ _ _ d v => RD K F d v
instance (K : PySem.W.Frag) : Mono (RDd K) := ⟨fun _ r => r⟩
omit [ClsTab] in
theorem items_some {d : D} {xs : List D} (h : items d = some xs) : d = .tup xs ∨ d = .lst xs := by
  unfold items at h
  split at h <;> cases h
  · exact .inl rfl
  · exact .inr rfl
section
variable {X : Cx} {T : CT} {W : WX}
theorem a_nil : PA X [] (tM X.K T W (RDL X.K) (els [])) := pa_nil.imp fun σ H Q ⟨F, ι, s, R, A⟩ => A F ι H [] (.refl ..) R .nil
theorem a_cons {e : Expr} {es : List Expr} {m : EM Out} {ms : List (Bool × EM Out)} (ha : PE X e (tE X.K T W m)) (hr : PA X es (tM X.K T W (RDL X.K) (els ms))) (hs : starEach (e :: es) X.env = (false, eval e X.env) :: starEach es X.env) : PA X (e :: es) (tM X.K T W (RDL X.K) (els ((false, m) :: ms))) :=
  (pa_cons ha hr hs).imp fun σ H Q ⟨F, ι, s, R, A⟩ => by
    refine ⟨F, ι, s, R, A.bind0 fun o s1 F1 i1 H1 v _ t1 R1 r1 A1 => ?_⟩
    obtain ⟨x, s2, F2, t2, R2, rd, A2⟩ := A1.keep t1 R1 r1
    refine ⟨F2, i1, s2, R2, (A2.from t2).bind fun us s3 F3 i3 H3 vs _ t3 R3 rs A3 => ?_⟩
    exact A3 F3 i3 H3 _ (.refl ..) R3 (.cons (rd.mono t3.ff) rs)
theorem a_star {e : Expr} {es : List Expr} {p : Pos} {m : EM Out} {ms : List (Bool × EM Out)} (ha : PE X e (tE X.K T W m)) (hr : PA X es (tM X.K T W (RDL X.K) (els ms))) : PA X (.Starred e p :: es) (tM X.K T W (RDL X.K) (els ((true, m) :: ms))) :=
  (StX.pa_star ha hr).imp fun σ H Q ⟨F, ι, s, R, A⟩ => by
    refine ⟨F, ι, s, R, A.bind fun o s1 F1 i1 H1 v _ t1 R1 r1 A1 => ?_⟩
    obtain ⟨d, e1, A2⟩ := A1.get
    obtain ⟨xs, e2, A3⟩ := A2.pass
    have key : ∀ {p : Addr} {vs : List V}, v = .ref p → (SqT X.K H1 p vs ∨ SqL X.K H1 p vs) → RDs X.K F1 xs vs → ∃ p xs, v = V.ref p ∧ (SqT X.K H1 p xs ∨ SqL X.K H1 p xs) ∧ tM X.K T W (RDL X.K) (els ms) σ H1 fun ys H2 => Q (xs ++ ys) H2 := fun {p vs} ev hv rv => by
      refine ⟨p, vs, ev, hv, F1, i1, s1, R1, A3.bind fun us s3 F3 i3 H3 ws _ t3 R3 rs A4 => ?_⟩
      exact A4 F3 i3 H3 _ (.refl ..) R3 ((rv.mono t3.ff).append rs)
    have vw := r1.view R1 e1
    rcases items_some e2 with rfl | rfl
    · obtain ⟨a, vs, rfl, ha, ra⟩ := vw.tup R1.sub
      exact key rfl (.inl ha) ra
    · obtain ⟨a, vs, rfl, ha, ra⟩ := vw.lst R1.sub
      exact key rfl (.inr (.of ha)) ra
theorem e_tup {es : List Expr} {ms : List (Bool × EM Out)} {k : Nat} {pos : Pos} (h : PA X es (tM X.K T W (RDL X.K) (els ms))) : PE X (.Tuple es k pos) (tE X.K T W (tupE ms)) :=
  (pe_tup h).imp fun σ H Q ⟨F, ι, s, R, A⟩ => by
    refine ⟨F, ι, s, R, A.bind fun us s1 F1 i1 H1 vs _ t1 R1 rs A1 => ?_⟩
    obtain ⟨o, e1, A2⟩ := A1.opt
    unfold few at e1
    split at e1
    · rename_i hl
      cases e1
      refine ⟨by rw [← rs.length]; exact lim_line hl, fun p n => give_tup R1.sub (Gives.of R1 A2 trivial) rs n⟩
    · cases e1
theorem e_lst {es : List Expr} {ms : List (Bool × EM Out)} {pos : Pos} (h : PA X es (tM X.K T W (RDL X.K) (els ms))) : PE X (.List es pos) (tE X.K T W (lstE ms)) :=
  (pe_lst h).imp fun σ H Q ⟨F, ι, s, R, A⟩ => by
    refine ⟨F, ι, s, R, A.bind fun us s1 F1 i1 H1 vs _ t1 R1 rs A1 => ?_⟩
    obtain ⟨o, e1, A2⟩ := A1.opt
    unfold few at e1
    split at e1
    · rename_i hl
      cases e1
      refine ⟨by rw [← rs.length]; exact lim_line hl, fun p n => give_lst R1.sub (Gives.of R1 A2 trivial) rs n⟩
    · cases e1
end
end Ev

set_option Elab.async false
set_option linter.all false
set_option autoImplicit false
set_option maxHeartbeats 1000000
/-! Ev, part S: sorted of whatever can be gathered. -/
namespace Ev
open PySem PySem.Spec PyProof.Rows L2 PySem.Calls
theorem reads_lt {h : Heap} : ∀ {v : Value} {d : PyData} {as : List Addr}, Reads h v d as → ∀ b ∈ as, b < h.objs.size := by
  intro v d as r
  induction r using Reads.rec (motive_2 := fun _ _ as _ => ∀ b ∈ as, b < h.objs.size) with
  | none => intro b hb; cases hb
  | bool => intro b hb; cases hb
  | int => intro b hb; cases hb
  | str => intro b hb; cases hb
  | list h1 h2 h3 h4 ih =>
    intro b hb
    rcases List.mem_cons.mp hb with rfl | hb
    · exact Heap.lt_size h1
    · exact ih b hb
  | tuple h1 h2 h3 h4 ih => exact ih
  | dict h1 h2 h3 h4 h5 ih1 ih2 =>
    intro b hb
    rcases List.mem_append.mp hb with hb | hb
    · rcases List.mem_cons.mp hb with rfl | hb
      · exact Heap.lt_size h1
      · exact ih1 b hb
    · exact ih2 b hb
  | nil => rename_i hb; cases hb
  | cons h1 h2 ih1 ih2 =>
    rename_i b hb
    rcases List.mem_append.mp hb with hb | hb
    · exact ih1 b hb
    · exact ih2 b hb
section
variable {prog : Program} {w : World} {A : Around} {E : Value → Shared → Prop} {s : Shared} {us : List Value} {bs : List D} {R : Value → D → Prop} {v : Value}
/-- sorted(v), v gathered to us in the state s1 -/
theorem sorted_col
    (col : ∀ (E : Value → Shared → Prop) (Q : List Value → Shared → Prop), (∀ s1 : Shared, (∀ b o, s.heap.get? b = some o → s1.heap.get? b = some o) → s1.os = s.os → AllBare s1.gens → Q us s1) → wpAny (model prog w) A.in1 (collect v) Q E s)
    (e : PySem.W.EachIs R us bs) (er : PySem.W.EachIs (fun u b => ∃ as, Reads s.heap u (D.py b) as) us bs) (hal : PySem.W.AllAlike (bs.map D.py)) (hk : PySem.W.Sortable (bs.map D.py)) (hL : bs.length ≤ sizeLine) (hu : ∀ b, b ∈ bs → A.units + 2 + (D.py b).depth < cLine) {Q : Value → Shared → Prop}
    (h : ∀ (out : List Value) (s1 s2 : Shared) (ep : Nat), out.length = bs.length → PySem.W.EachIs R out (bs.mergeSort (PySem.W.dataLe false D.py)) → (∀ b o, s.heap.get? b = some o → s1.heap.get? b = some o) → s1.os = s.os → AllBare s1.gens →
      (∀ b o, s1.heap.get? b = some o → s2.heap.get? b = some o) → s2.heap.get? s1.heap.objs.size = some (seqObj "list" out.toArray ep) → s2.os = s1.os → s2.gens = s1.gens → Q (.ref s1.heap.objs.size) s2) :
    wpAny (model prog w) A (PySem.call (.builtin "sorted") [v]) Q E s := by
  refine call_function_entry kind_sorted plain_sorted entry_sorted (args_sorted1 _) ?_
  unfold Builtin.«sorted»
  refine wpAny_bind (m := checkCount "sorted" 1 1 _) (wpAny_pure ?_)
  refine wpAny_bind (col _ _ fun s1 k1 os1 g1 => ?_)
  refine wpAny_bind (wpAny_newList ?_ (by rw [e.length]; exact hL))
  have at0 : (s1.heap.push { cls := .type "list", data := .seq us.toArray }).get? s1.heap.objs.size = some (seqObj "list" us.toArray 0) := Heap.get?_push_size _ rfl
  have k2 : ∀ b o, s.heap.get? b = some o → (s1.heap.push { cls := .type "list", data := .seq us.toArray }).get? b = some o := fun b o q => Heap.get?_push_of_some _ (k1 b o q)
  refine wpAny_bind (wpAny_holding (PySem.W.list_sort_data (s := { s1 with heap := s1.heap.push { cls := .type "list", data := .seq us.toArray } }) (bs := bs) (enc := D.py) at0 e ?_ hal hk hL ?_ fun out hl ho => ?_))
  · refine er.mono fun u b ⟨as, r⟩ => ⟨as, PyProof.Rows.Reads.keeps k2 r, fun hm => ?_⟩
    exact absurd (reads_lt (PyProof.Rows.Reads.keeps k1 r) _ hm) (Nat.lt_irrefl _)
  · intro b hb
    have := hu b hb
    show A.units + 1 + 1 + _ < _
    omega
  · obtain ⟨ep, he⟩ := sortedHeap_at (vs := us) (out := out.toArray) at0
    refine wpAny_pure ⟨_, rfl, h out s1 _ ep hl ho k1 os1 g1 (fun b o q => ?_) he rfl rfl⟩
    have lt : b < s1.heap.objs.size := Heap.lt_size q
    show (sortedHeap _ _ _ _).get? b = some o
    rw [sortedHeap_old (Nat.ne_of_lt lt) (Nat.lt_of_lt_of_le lt (by rw [Heap.size_push]; exact Nat.le_succ _))]
    exact Heap.get?_push_of_some _ q
end
end Ev

set_option Elab.async false
set_option linter.all false
set_option autoImplicit false
set_option maxHeartbeats 1000000
/-! Ev, part H: items, slices, calls of what Python has. -/
namespace Ev
variable [ClsTab]
open PySem PySem.Spec PyProof.Rows L2
section
variable {K : PySem.W.Frag} {F H : Hp}
theorem RDs.atI {ds : List D} {vs : List V} {i : Int} {d : D} (r : RDs K F ds vs) (h : L2.atI ds i = some d) : ∃ v, L2.atI vs i = some v ∧ RD K F d v := by
  unfold L2.atI at h ⊢
  rw [← r.length]
  cases e : L2.ixN ds.length i with
  | none =>
    rw [e] at h
    cases h
  | some j =>
    rw [e] at h
    exact r.get h
omit [ClsTab] in
theorem cutV_eq (vs : List V) (lo hi : Option Int) : cutV vs lo hi = cutL vs lo hi := rfl
theorem RDs.cut {ds : List D} {vs : List V} (r : RDs K F ds vs) (lo hi : Option Int) : RDs K F (cutL ds lo hi) (cutL vs lo hi) := by
  unfold cutL
  rw [← r.length]
  exact (r.drop _).take _
omit [ClsTab] in
theorem cps_ok {x : Str} (h : PyData.strOk x = true) : ∀ c ∈ x.cps.toList, c < 0x110000 := by
  intro c hc
  have := (Array.all_eq_true_iff_forall_mem.mp h) c (by simpa using hc)
  exact of_decide_eq_true this
omit [ClsTab] in
theorem ok_cps {l : List Nat} (h : ∀ c ∈ l, c < 0x110000) : PyData.strOk ⟨l.toArray⟩ = true := by
  refine Array.all_eq_true_iff_forall_mem.mpr fun c hc => decide_eq_true (h c (by simpa using hc))
omit [ClsTab] in
theorem cut_mem {l : List Nat} {lo hi : Option Int} {c : Nat} (h : c ∈ cutL l lo hi) : c ∈ l := List.mem_of_mem_drop (List.mem_of_mem_take h)
end
section
variable {X : Cx} {T : CT} {W : WX}
theorem o_idx : IxR X (rGo X.K fun d e => (idxD d e).map .d) := by
  intro value slice pins s σ H x y v u Q I rx ry ⟨F, d, e, o, sb, vx, vy, g, gv⟩ hs
  obtain ⟨r, g2, rfl⟩ := Option.map_eq_some_iff.mp g
  clear g
  have g := g2
  clear g2
  unfold idxD at g
  split at g
  · obtain ⟨a, vs, rfl, ha, ra⟩ := vx.tup sb
    obtain ⟨w, h1, h2⟩ := ra.atI g
    exact ix_tup value slice pins s σ H _ y v u Q I rx ry ⟨a, vs, _, w, rfl, vy.int, ha, h1, give_d sb gv h2⟩ hs
  · obtain ⟨a, vs, rfl, ha, ra⟩ := vx.lst sb
    obtain ⟨w, h1, h2⟩ := ra.atI g
    exact ix_list value slice pins s σ H _ y v u Q I rx ry ⟨a, vs, _, w, rfl, vy.int, .of ha, h1, give_d sb gv h2⟩ hs
  · split at g
    · rename_i z i hl
      obtain ⟨c, h1, rfl⟩ := Option.map_eq_some_iff.mp g
      obtain ⟨rfl, hok⟩ := vx.str
      refine ix_str value slice pins s σ H _ y v u Q I rx ry ⟨z, _, c, rfl, vy.int, lim_line hl, h1, give_d sb gv (.str _ ?_)⟩ hs
      obtain ⟨j, _, hj, _⟩ := atI_get h1
      exact ok_cps (l := [c]) fun c' hc' => by
        rw [List.mem_singleton.mp hc']
        exact cps_ok hok c (List.mem_of_getElem? hj)
    · cases g
  · cases g
omit [ClsTab] in
theorem map_d_plain {g : Option D} {o : Out} (h : g.map Out.d = some o) : plainOut o := by
  obtain ⟨d, _, rfl⟩ := Option.map_eq_some_iff.mp h
  trivial
theorem e_idx {a b : Expr} {pos : Pos} {ma mb : EM Out} (hs : PlainIx b) (ha : PE X a (tE X.K T W ma)) (hb : PE X b (tE X.K T W mb)) : PE X (.Subscript a b pos) (tE X.K T W (idx ma mb)) :=
  (pe_ix o_idx ha hb hs).imp fun _ _ _ h => go2 (fun _ _ _ => map_d_plain) (fun _ _ => rfl) h
/-! slices -/
abbrev RI : RT (Option Int) (Option Int) := fun _ _ _ _ _ _ a b => a = b
instance : Mono RI := ⟨fun _ r => r⟩
theorem p_none : PO X none (tM X.K T W RI (ends none)) := ⟨fun pins s σ H Q I ⟨F, ι, s0, R, A⟩ => po_none.run pins s σ H Q I (A F ι H none (.refl ..) R rfl)⟩
theorem p_some {e : Expr} {m : EM Out} (h : PE X e (tE X.K T W m)) : PO X (some e) (tM X.K T W RI (ends (some m))) := ⟨fun pins s σ H Q I ⟨F, ι, s0, R, A⟩ => (po_some h).run pins s σ H Q I (by
  refine ⟨F, ι, s0, R, A.bind fun o s1 F1 i1 H1 v _ _ R1 r1 A1 => ?_⟩
  obtain ⟨d, e1, A2⟩ := A1.get
  obtain ⟨i, e2, A3⟩ := A2.pass
  cases d <;> first | (cases e2; done) | skip
  cases e2
  exact ⟨_, (r1.view R1 e1).int, A3 F1 i1 H1 _ (.refl ..) R1 rfl⟩)⟩
def rCut (K : PySem.W.Frag) : V → Option Int → Option Int → Hp → VK → Prop := fun x lo hi H Q => ∃ F d o, Same F H ∧ View K F H d x ∧ cutD lo hi d = some o ∧ Gives K F H o Q
theorem o_cut : SlR X (rCut X.K) := by
  intro pins s σ H x v vl vu lo hi sl Q I rx hs pl pu ⟨F, d, o, sb, vx, g, gv⟩
  have lst : ∀ {a : Addr} {vs : List V} {ds : List D}, x = .ref a → SqL X.K H a vs → RDs X.K F ds vs → o = .new (.lst (cutL ds lo hi)) → ∃ T id, typeLookup (.type T) "__getitem__" = pure (some (.builtin id)) ∧ s.TypeIs v T ∧ wpAny (model X.prog X.w) X.A (getItem v (.ref sl)) (EP X pins σ Q) X.xe s := fun {a vs ds} ex ha ra eo => by
    subst ex eo
    exact sl_list pins s σ H _ v vl vu lo hi sl Q I rx hs pl pu ⟨a, vs, rfl, ha, fun p n => give_lst sb gv (ra.cut lo hi) n⟩
  unfold cutD at g
  split at g
  · cases g
    obtain ⟨a, vs, rfl, ha, ra⟩ := vx.tup sb
    refine sl_tupA pins s σ H _ v vl vu lo hi sl Q I rx hs pl pu ⟨a, vs, rfl, ha, fun hw => ?_, fun _ p n => give_tup sb gv (ra.cut lo hi) n⟩
    rcases vx with q | ⟨_, _, _, _, z⟩
    · rename_i xs
      have e : cutL xs lo hi = xs := by
        unfold cutL
        rw [ra.length, hw.1, hw.2, List.drop_zero, Nat.sub_zero, ← ra.length, List.take_length]
      rw [e] at gv
      exact give_d sb gv q
    · exact z.elim
  · cases g
    obtain ⟨a, vs, rfl, ha, ra⟩ := vx.lst sb
    exact lst rfl (.of ha) ra rfl
  · cases g
    obtain ⟨a, vs, rfl, ha, ra⟩ := vx.lz sb
    exact lst rfl ha ra rfl
  · split at g
    · rename_i z hl
      cases g
      obtain ⟨rfl, hok⟩ := vx.str
      refine sl_str pins s σ H _ v vl vu lo hi sl Q I rx hs pl pu ⟨z, rfl, lim_line hl, ?_⟩
      have e : cutS z lo hi = ⟨(cutL z.cps.toList lo hi).toArray⟩ := by
        unfold cutS cutL
        rw [Array.length_toList]
        rfl
      rw [e]
      exact give_d sb gv (.str _ (ok_cps fun c hc => cps_ok hok c (cut_mem hc)))
    · cases g
  · cases g
omit [ClsTab] in
theorem cutD_plain {lo hi : Option Int} {d : D} {o : Out} (h : cutD lo hi d = some o) : plainOut o := by
  unfold cutD at h
  split at h <;> first | (cases h; done) | (cases h; trivial) | (split at h <;> first | (cases h; done) | (cases h; trivial))
theorem e_cut {a : Expr} {lo hi : Option Expr} {pos p2 : Pos} {ma : EM Out} {ml mh : Option (EM Out)} (ha : PE X a (tE X.K T W ma)) (hl : PO X lo (tM X.K T W RI (ends ml))) (hh : PO X hi (tM X.K T W RI (ends mh))) : PE X (.Subscript a (.Slice lo hi none p2) pos) (tE X.K T W (cut ma ml mh)) :=
  (pe_slice o_cut ha hl hh).imp fun σ H Q ⟨F, ι, s, R, A⟩ => by
    refine ⟨F, ι, s, R, A.bind fun o s1 F1 i1 H1 v _ t1 R1 r1 A1 => ⟨F1, i1, s1, R1, A1.bind fun i s2 F2 i2 H2 i' _ t2 R2 ei A2 => ⟨F2, i2, s2, R2, A2.bind fun j s3 F3 i3 H3 j' _ t3 R3 ej A3 => ?_⟩⟩⟩
    cases ei
    cases ej
    obtain ⟨d, e1, A4⟩ := A3.get
    obtain ⟨q, e2, A5⟩ := A4.opt
    exact ⟨F3, d, q, R3.sub, ((r1.step t2).step t3).view R3 e1, e2, Gives.of R3 A5 (cutD_plain e2)⟩
end
end Ev

set_option Elab.async false
set_option linter.all false
set_option autoImplicit false
set_option maxHeartbeats 1000000
/-! Ev, part I: calls of what Python has. -/
namespace Ev
variable [ClsTab]
open PySem PySem.Spec PyProof.Rows L2
/-- outcomes and values, one by one -/
inductive All2 {α β : Type} (R : α → β → Prop) : List α → List β → Prop
  | nil : All2 R [] []
  | cons {a : α} {b : β} {as : List α} {bs : List β} : R a b → All2 R as bs → All2 R (a :: as) (b :: bs)
omit [ClsTab] in
theorem All2.mono {α β : Type} {R R' : α → β → Prop} (h : ∀ a b, R a b → R' a b) : ∀ {as : List α} {bs : List β}, All2 R as bs → All2 R' as bs
  | _, _, .nil => .nil
  | _, _, .cons x y => .cons (h _ _ x) (All2.mono h y)
abbrev ROs (K : PySem.W.Frag) : RT (List Out) (List V) := fun Fr F ι s σ H os vs => All2 (ROut K Fr F ι s σ H) os vs
instance (K : PySem.W.Frag) : Mono (ROs K) := ⟨fun h r => All2.mono (fun _ _ q => q.fresh h) r⟩
abbrev Views (K : PySem.W.Frag) (F H : Hp) : List D → List V → Prop := All2 (View K F H)
section
variable {X : Cx} {T : CT} {W : WX}
theorem g_nil : PA X [] (tM X.K T W (ROs X.K) (args [])) := pa_nil.imp fun σ H Q ⟨F, ι, s, R, A⟩ => A F ι H [] (.refl ..) R .nil
theorem Aft.bind1 {K : PySem.W.Frag} {α β γ δ : Type} {R1 : RT α γ} {R2 : RT β δ} [Mono R2] {F0 F H0 H : Hp} {i0 ι : List Addr} {s0 s : S} {σ : L2.St} {m : EM α} {f : α → EM β} {Q : δ → Hp → Prop} {Q1 : γ → Hp → Prop}
    (h : Aft K T W R2 F0 i0 s0 σ H0 (m.bind f s) Q) (t : EStep F0 i0 s0 σ H0 F ι s H)
    (g : ∀ o s1 F1 i1 H1 v, EStep F ι s σ H F1 i1 s1 H1 → Rel K F1 i1 s1 σ H1 → R1 (Fresh s σ ι H) F1 i1 s1 σ H1 o v → Aft K T W R2 F0 i0 s0 σ H0 (f o s1) Q → Q1 v H1) : Aft K T W R1 F ι s σ H (m s) Q1 := by
  unfold EM.bind at h
  cases e : m s with
  | ok o s1 =>
    rw [e] at h
    exact fun F1 i1 H1 v a b c => g o s1 F1 i1 H1 v a b c h
  | exc x s1 =>
    rw [e] at h
    exact fun F1 i1 H1 c d a b q => h F1 i1 H1 c d (t.trans a) b q
  | bad =>
    rw [e] at h
    exact h
theorem g_cons {e : Expr} {es : List Expr} {m : EM Out} {ms : List (EM Out)} (ha : PE X e (tE X.K T W m)) (hr : PA X es (tM X.K T W (ROs X.K) (args ms))) (hs : starEach (e :: es) X.env = (false, eval e X.env) :: starEach es X.env) : PA X (e :: es) (tM X.K T W (ROs X.K) (args (m :: ms))) :=
  (pa_cons ha hr hs).imp fun σ H Q ⟨F, ι, s, R, A⟩ => by
    refine ⟨F, ι, s, R, A.bind0 fun o s1 F1 i1 H1 v _ t1 R1 r1 A1 => ?_⟩
    refine ⟨F1, i1, s1, R1, A1.bind1 t1 fun us s3 F3 i3 H3 vs t3 R3 rs A3 => ?_⟩
    exact A3 F3 i3 H3 _ (t1.trans t3) R3 (.cons (r1.step t3) (All2.mono (fun _ _ q => q.fresh fun a h => t1.back h) rs))
/-- what gets finds -/
theorem gets_views {K : PySem.W.Frag} {F H : Hp} {ι : List Addr} {s s' : S} {σ : L2.St} {Fr : Addr → Prop} (R : Rel K F ι s σ H) : ∀ {os : List Out} {vs : List V} {ds : List D}, All2 (ROut K Fr F ι s σ H) os vs → gets os s = .ok ds s' → s' = s ∧ Views K F H ds vs
  | _, _, _, .nil, e => by
    cases e
    exact ⟨rfl, .nil⟩
  | o :: os, _, ds, .cons r rs, e => by
    simp only [gets, EM.bind, Ev.get] at e
    cases q : o.look s with
    | none =>
      rw [q] at e
      cases e
    | some d =>
      rw [q] at e
      simp only at e
      cases q2 : gets os s with
      | ok ds2 s2 =>
        rw [q2] at e
        obtain ⟨rfl, vw⟩ := gets_views R rs q2
        cases e
        exact ⟨rfl, .cons (r.view R q) vw⟩
      | exc _ _ =>
        rw [q2] at e
        cases e
      | bad =>
        rw [q2] at e
        cases e
omit [ClsTab] in
theorem gets_exc {os : List Out} {s s1 : S} {x : Exc} : gets os s ≠ .exc x s1 := by
  induction os with
  | nil => intro e; cases e
  | cons o os ih =>
    intro e
    simp only [gets, EM.bind, Ev.get] at e
    cases q : o.look s with
    | none => rw [q] at e; cases e
    | some d =>
      rw [q] at e
      simp only at e
      cases q2 : gets os s with
      | ok ds2 s2 => rw [q2] at e; cases e
      | exc _ _ =>
        rw [q2] at e
        cases e
        exact ih q2
      | bad => rw [q2] at e; cases e
def rBi (K : PySem.W.Frag) (f : List D → Option Out) : List V → Hp → VK → Prop := fun xs H Q => ∃ F ds o, Same F H ∧ Views K F H ds xs ∧ f ds = some o ∧ Gives K F H o Q
theorem bi_imp {f : List D → Option Out} {es : List (EM Out)} {σ : L2.St} {H : Hp} {Q : VK} (pl : ∀ ds o, f ds = some o → plainOut o)
    (h : tE X.K T W ((args es).bind fun xs => (gets xs).bind fun us => Ev.opt (f us)) σ H Q) : tCB (rBi X.K f) (tM X.K T W (ROs X.K) (args es)) σ H Q := by
  obtain ⟨F, ι, s, R, A⟩ := h
  refine ⟨F, ι, s, R, A.bind fun os s1 F1 i1 H1 vs _ _ R1 rs A1 => ?_⟩
  unfold EM.bind at A1
  cases q : gets os s1 with
  | ok ds s2 =>
    rw [q] at A1
    obtain ⟨rfl, vw⟩ := gets_views R1 rs q
    obtain ⟨o, e, A2⟩ := A1.opt
    exact ⟨F1, ds, o, R1.sub, vw, e, Gives.of R1 A2 (pl ds o e)⟩
  | exc x s2 => exact absurd q gets_exc
  | bad =>
    rw [q] at A1
    exact A1.elim
end
theorem Views.one {K : PySem.W.Frag} {F H : Hp} {d : D} {vs : List V} (h : Views K F H [d] vs) : ∃ v, vs = [v] ∧ View K F H d v := by
  cases h with
  | cons r t => cases t; exact ⟨_, rfl, r⟩
theorem Views.two {K : PySem.W.Frag} {F H : Hp} {d e : D} {vs : List V} (h : Views K F H [d, e] vs) : ∃ v w, vs = [v, w] ∧ View K F H d v ∧ View K F H e w := by
  cases h with
  | cons r t => cases t with
    | cons r2 t2 => cases t2; exact ⟨_, _, rfl, r, r2⟩
theorem ints_of {K : PySem.W.Frag} {F : Hp} : ∀ {xs : List D} {is : List Int} {vs : List V}, allInts xs = some is → RDs K F xs vs → vs = is.map V.int
  | [], is, _, e, .nil => by
    cases e
    rfl
  | x :: xs, is, _, e, .cons r rs => by
    cases x <;> first | (cases e; done) | skip
    obtain ⟨js, e2, rfl⟩ := Option.map_eq_some_iff.mp (show (allInts xs).map (_ :: ·) = some is from e)
    cases r
    rw [ints_of e2 rs]
    rfl
theorem bls_of {K : PySem.W.Frag} {F : Hp} : ∀ {xs : List D} {is : List Bool} {vs : List V}, allBls xs = some is → RDs K F xs vs → vs = is.map V.bl
  | [], is, _, e, .nil => by
    cases e
    rfl
  | x :: xs, is, _, e, .cons r rs => by
    cases x <;> first | (cases e; done) | skip
    obtain ⟨js, e2, rfl⟩ := Option.map_eq_some_iff.mp (show (allBls xs).map (_ :: ·) = some is from e)
    cases r
    rw [bls_of e2 rs]
    rfl
omit [ClsTab] in
theorem best_max {is : List Int} {m : Int} (h : best (fun x m => decide (m < x)) is = some m) : m ∈ is ∧ ∀ y ∈ is, y ≤ m := by
  cases is with
  | nil => cases h
  | cons i r =>
    cases h
    induction r generalizing i with
    | nil => simp
    | cons j r ih =>
      rw [List.foldl_cons]
      by_cases hj : i < j
      · simp only [hj, decide_true, if_true]
        obtain ⟨h1, h2⟩ := ih j
        refine ⟨?_, ?_⟩
        · rcases List.mem_cons.mp h1 with h | h
          · rw [h]; simp
          · exact List.mem_cons_of_mem _ (List.mem_cons_of_mem _ h)
        · intro y hy
          rcases List.mem_cons.mp hy with rfl | hy
          · exact Int.le_trans (by omega) (h2 j (List.mem_cons_self ..))
          · exact h2 y hy
      · simp only [hj, decide_false, Bool.false_eq_true, if_false]
        obtain ⟨h1, h2⟩ := ih i
        refine ⟨?_, ?_⟩
        · rcases List.mem_cons.mp h1 with h | h
          · rw [h]; simp
          · exact List.mem_cons_of_mem _ (List.mem_cons_of_mem _ h)
        · intro y hy
          rcases List.mem_cons.mp hy with rfl | hy
          · exact h2 y (List.mem_cons_self ..)
          · rcases List.mem_cons.mp hy with rfl | hy
            · exact Int.le_trans (by omega) (h2 i (List.mem_cons_self ..))
            · exact h2 y (List.mem_cons_of_mem _ hy)
omit [ClsTab] in
theorem best_min {is : List Int} {m : Int} (h : best (fun x m => decide (x < m)) is = some m) : m ∈ is ∧ ∀ y ∈ is, m ≤ y := by
  cases is with
  | nil => cases h
  | cons i r =>
    cases h
    induction r generalizing i with
    | nil => simp
    | cons j r ih =>
      rw [List.foldl_cons]
      by_cases hj : j < i
      · simp only [hj, decide_true, if_true]
        obtain ⟨h1, h2⟩ := ih j
        refine ⟨?_, ?_⟩
        · rcases List.mem_cons.mp h1 with h | h
          · rw [h]; simp
          · exact List.mem_cons_of_mem _ (List.mem_cons_of_mem _ h)
        · intro y hy
          rcases List.mem_cons.mp hy with rfl | hy
          · exact Int.le_trans (h2 j (List.mem_cons_self ..)) (by omega)
          · exact h2 y hy
      · simp only [hj, decide_false, Bool.false_eq_true, if_false]
        obtain ⟨h1, h2⟩ := ih i
        refine ⟨?_, ?_⟩
        · rcases List.mem_cons.mp h1 with h | h
          · rw [h]; simp
          · exact List.mem_cons_of_mem _ (List.mem_cons_of_mem _ h)
        · intro y hy
          rcases List.mem_cons.mp hy with rfl | hy
          · exact h2 y (List.mem_cons_self ..)
          · rcases List.mem_cons.mp hy with rfl | hy
            · exact Int.le_trans (h2 i (List.mem_cons_self ..)) (by omega)
            · exact h2 y (List.mem_cons_of_mem _ hy)
end Ev

set_option Elab.async false
set_option linter.all false
set_option autoImplicit false
set_option maxHeartbeats 1000000
/-! Ev, part J: each of them. -/
namespace Ev
variable [ClsTab]
open PySem PySem.Spec PyProof.Rows L2
section
variable {X : Cx}
theorem k_len : CallR X (.builtin "len") (rBi X.K Bi.len.go) := by
  intro pins s σ H xs us Q I r ⟨F, ds, o, sb, vw, g, gv⟩
  unfold Bi.go at g
  split at g <;> first | (rename_i z; cases z; done) | skip
  · obtain ⟨v, rfl, v1⟩ := vw.one
    obtain ⟨a, vs, rfl, ha, ra⟩ := v1.tup sb
    cases g
    exact call_len_seq pins s σ H _ us Q I r ⟨a, vs, rfl, .inr ha, by rw [← ra.length]; exact give_d sb gv (.int _)⟩
  · obtain ⟨v, rfl, v1⟩ := vw.one
    obtain ⟨a, vs, rfl, ha, ra⟩ := v1.lst sb
    cases g
    exact call_len_seq pins s σ H _ us Q I r ⟨a, vs, rfl, .inl (.of ha), by rw [← ra.length]; exact give_d sb gv (.int _)⟩
  · obtain ⟨v, rfl, v1⟩ := vw.one
    obtain ⟨rfl, _⟩ := v1.str
    split at g <;> first | (cases g; done) | skip
    rename_i hl
    cases g
    exact call_len_str pins s σ H _ us Q I r ⟨_, rfl, lim_line hl, give_d sb gv (.int _)⟩
  · cases g
theorem k_abs : CallR X (.builtin "abs") (rBi X.K Bi.abs.go) := by
  intro pins s σ H xs us Q I r ⟨F, ds, o, sb, vw, g, gv⟩
  unfold Bi.go at g
  split at g <;> first | (rename_i z; cases z; done) | skip
  · obtain ⟨v, rfl, v1⟩ := vw.one
    cases v1.int
    cases g
    exact call_abs pins s σ H _ us Q I r ⟨_, rfl, give_d sb gv (.int _)⟩
  · cases g
theorem k_int : CallR X (.type "int") (rBi X.K Bi.int.go) := by
  intro pins s σ H xs us Q I r ⟨F, ds, o, sb, vw, g, gv⟩
  unfold Bi.go at g
  split at g <;> first | (rename_i z; cases z; done) | skip
  · obtain ⟨v, rfl, v1⟩ := vw.one
    cases v1.int
    cases g
    exact call_int1 pins s σ H _ us Q I r (.inl ⟨_, rfl, give_d sb gv (.int _)⟩)
  · obtain ⟨v, rfl, v1⟩ := vw.one
    cases v1.bl
    cases g
    exact call_int1 pins s σ H _ us Q I r (.inr ⟨_, rfl, give_d sb gv (.int _)⟩)
  · cases g
theorem k_list : CallR X (.type "list") (rBi X.K Bi.list.go) := by
  intro pins s σ H xs us Q I r ⟨F, ds, o, sb, vw, g, gv⟩
  unfold Bi.go at g
  split at g <;> first | (rename_i z; cases z; done) | skip
  · obtain ⟨v, rfl, v1⟩ := vw.one
    obtain ⟨a, vs, rfl, ha, ra⟩ := v1.tup sb
    cases g
    exact call_list_of pins s σ H _ us Q I r ⟨a, vs, rfl, .inr ha, fun l n => give_lst sb gv ra n⟩
  · obtain ⟨v, rfl, v1⟩ := vw.one
    obtain ⟨a, vs, rfl, ha, ra⟩ := v1.lst sb
    cases g
    exact call_list_of pins s σ H _ us Q I r ⟨a, vs, rfl, .inl (.of ha), fun l n => give_lst sb gv ra n⟩
  · cases g
theorem k_tuple : CallR X (.type "tuple") (rBi X.K Bi.tuple.go) := by
  intro pins s σ H xs us Q I r ⟨F, ds, o, sb, vw, g, gv⟩
  unfold Bi.go at g
  split at g <;> first | (rename_i z; cases z; done) | skip
  · obtain ⟨v, rfl, v1⟩ := vw.one
    obtain ⟨a, vs, rfl, ha, ra⟩ := v1.tup sb
    cases g
    refine call_tuple_of pins s σ H _ us Q I r ⟨a, vs, rfl, .inr ⟨ha, ?_⟩⟩
    rcases v1 with q | ⟨_, _, _, _, z⟩
    · exact give_d sb gv q
    · exact z.elim
  · obtain ⟨v, rfl, v1⟩ := vw.one
    obtain ⟨a, vs, rfl, ha, ra⟩ := v1.lst sb
    cases g
    exact call_tuple_of pins s σ H _ us Q I r ⟨a, vs, rfl, .inl ⟨.of ha, fun l n => give_tup sb gv ra n⟩⟩
  · cases g
theorem k_all (hc : X.calm = true) : CallR X (.builtin "all") (rBi X.K Bi.all.go) := by
  intro pins s σ H xs us Q I r ⟨F, ds, o, sb, vw, g, gv⟩
  unfold Bi.go at g
  split at g <;> first | (rename_i z; cases z; done) | skip
  · obtain ⟨v, rfl, v1⟩ := vw.one
    obtain ⟨a, vs, rfl, ha, ra⟩ := v1.lst sb
    obtain ⟨bs, e, rfl⟩ := Option.map_eq_some_iff.mp g
    rw [bls_of e ra] at ha
    exact cr_all hc pins s σ H _ us Q I r ⟨a, bs, rfl, .of ha, give_d sb gv (.bl _)⟩
  · cases g
theorem k_any (hc : X.calm = true) : CallR X (.builtin "any") (rBi X.K Bi.any.go) := by
  intro pins s σ H xs us Q I r ⟨F, ds, o, sb, vw, g, gv⟩
  unfold Bi.go at g
  split at g <;> first | (rename_i z; cases z; done) | skip
  · obtain ⟨v, rfl, v1⟩ := vw.one
    obtain ⟨a, vs, rfl, ha, ra⟩ := v1.lst sb
    obtain ⟨bs, e, rfl⟩ := Option.map_eq_some_iff.mp g
    rw [bls_of e ra] at ha
    exact cr_any hc pins s σ H _ us Q I r ⟨a, bs, rfl, .of ha, give_d sb gv (.bl _)⟩
  · cases g
theorem k_sum (hc : X.calm = true) : CallR X (.builtin "sum") (rBi X.K Bi.sum.go) := by
  intro pins s σ H xs us Q I r ⟨F, ds, o, sb, vw, g, gv⟩
  unfold Bi.go at g
  split at g <;> first | (rename_i z; cases z; done) | skip
  · obtain ⟨v, rfl, v1⟩ := vw.one
    obtain ⟨a, vs, rfl, ha, ra⟩ := v1.lst sb
    obtain ⟨bs, e, rfl⟩ := Option.map_eq_some_iff.mp g
    rw [ints_of e ra] at ha
    exact cr_sum hc pins s σ H _ us Q I r ⟨a, bs, rfl, .of ha, give_d sb gv (.int _)⟩
  · cases g
theorem k_max (hc : X.calm = true) : CallR X (.builtin "max") (rBi X.K Bi.max.go) := by
  intro pins s σ H xs us Q I r ⟨F, ds, o, sb, vw, g, gv⟩
  unfold Bi.go at g
  split at g <;> first | (rename_i z; cases z; done) | skip
  · obtain ⟨v, rfl, v1⟩ := vw.one
    obtain ⟨a, vs, rfl, ha, ra⟩ := v1.lst sb
    obtain ⟨bs, e, g2⟩ := Option.bind_eq_some_iff.mp g
    obtain ⟨m, e2, rfl⟩ := Option.map_eq_some_iff.mp g2
    rw [ints_of e ra] at ha
    obtain ⟨h1, h2⟩ := best_max e2
    refine cr_max hc pins s σ H _ us Q I r ⟨a, bs, rfl, .of ha, List.length_pos_of_mem h1, fun m' h3 h4 => ?_⟩
    have : m' = m := Int.le_antisymm (h2 _ h3) (h4 _ h1)
    subst this
    exact give_d sb gv (.int _)
  · cases g
theorem k_min (hc : X.calm = true) : CallR X (.builtin "min") (rBi X.K Bi.min.go) := by
  intro pins s σ H xs us Q I r ⟨F, ds, o, sb, vw, g, gv⟩
  unfold Bi.go at g
  split at g <;> first | (rename_i z; cases z; done) | skip
  · obtain ⟨v, rfl, v1⟩ := vw.one
    obtain ⟨a, vs, rfl, ha, ra⟩ := v1.lst sb
    obtain ⟨bs, e, g2⟩ := Option.bind_eq_some_iff.mp g
    obtain ⟨m, e2, rfl⟩ := Option.map_eq_some_iff.mp g2
    rw [ints_of e ra] at ha
    obtain ⟨h1, h2⟩ := best_min e2
    refine cr_min hc pins s σ H _ us Q I r ⟨a, bs, rfl, .of ha, List.length_pos_of_mem h1, fun m' h3 h4 => ?_⟩
    have : m' = m := Int.le_antisymm (h4 _ h1) (h2 _ h3)
    subst this
    exact give_d sb gv (.int _)
  · cases g
theorem k_max2 (hc : X.calm = true) : CallR X (.builtin "max") (rBi X.K Bi.max2.go) := by
  intro pins s σ H xs us Q I r ⟨F, ds, o, sb, vw, g, gv⟩
  unfold Bi.go at g
  split at g <;> first | (rename_i z; cases z; done) | skip
  · obtain ⟨v, w, rfl, v1, v2⟩ := vw.two
    cases v1.int
    cases v2.int
    cases g
    exact call_max2 hc pins s σ H _ us Q I r ⟨_, _, rfl, give_d sb gv (.int _)⟩
  · cases g
theorem k_min2 (hc : X.calm = true) : CallR X (.builtin "min") (rBi X.K Bi.min2.go) := by
  intro pins s σ H xs us Q I r ⟨F, ds, o, sb, vw, g, gv⟩
  unfold Bi.go at g
  split at g <;> first | (rename_i z; cases z; done) | skip
  · obtain ⟨v, w, rfl, v1, v2⟩ := vw.two
    cases v1.int
    cases v2.int
    cases g
    exact call_min2 hc pins s σ H _ us Q I r ⟨_, _, rfl, give_d sb gv (.int _)⟩
  · cases g
theorem k_repr (hg : X.A.guards = some []) (hu : X.A.units + 100 < cLine) : CallR X (.builtin "repr") (rBi X.K Bi.repr.go) := by
  intro pins s σ H xs us Q I r ⟨F, ds, o, sb, vw, g, gv⟩
  have key : ∀ d : D, ds = [d] → showOk d = true → o = .d (.str d.py.shown) → wpAny (model X.prog X.w) X.A (PySem.call (.builtin "repr") us) (EP X pins σ Q) X.xe s := by
    intro d ed hs eo
    subst ed eo
    obtain ⟨v, rfl, v1⟩ := vw.one
    unfold showOk at hs
    simp only [Bool.and_eq_true, decide_eq_true_eq] at hs
    obtain ⟨⟨⟨hf, hsh⟩, ok⟩, hsz⟩ := hs
    obtain ⟨u, rfl, ru⟩ := vals1 r
    have fin : Q (.str d.py.shown) H := give_d sb gv (.str _ ok)
    have dp := flat_depth hf
    have kin := v1.dp sb hf
    obtain ⟨as, rd⟩ := Dp.reads I _ _ _ kin ru
    have zz := lim_line hsz
    cases hd : d.py with
    | none =>
      rw [hd] at rd fin
      cases rd
      exact PySem.P.repr_of_none ⟨.str _, H, I.tok _, ⟨_, rfl⟩, by simpa [PyData.shown] using fin⟩
    | bool b =>
      rw [hd] at rd fin
      cases rd
      exact PySem.P.repr_of_bool ⟨.str _, H, I.tok _, ⟨_, rfl⟩, by simpa [PyData.shown] using fin⟩
    | int i =>
      rw [hd] at rd fin hsh
      cases rd
      exact PySem.P.repr_of_int (by simpa [PyData.showable] using hsh) ⟨.str _, H, I.tok _, ⟨_, rfl⟩, by simpa [PyData.shown] using fin⟩
    | str x =>
      rw [hd] at rd fin zz
      cases rd
      exact PySem.P.repr_of_str ⟨.str _, H, I.tok _, ⟨_, rfl⟩, by simpa [PyData.shown] using fin⟩ (by simpa [PyData.shown] using zz)
    | list xs =>
      rw [hd] at rd fin zz hsh dp
      have nd := PyData.hasDict_of_canLay _ (v1.lay hf)
      rw [hd] at nd
      cases u <;> first | (cases rd; done) | skip
      exact repr_of_reads' rd hsh (PyData.noDict_hsm nd) hg (by omega) (fun b o q => q) (fun h' u tk hk => ⟨.str _, H, I.kept hk, ⟨_, rfl⟩, fin⟩) zz
    | tuple xs =>
      rw [hd] at rd fin zz hsh dp
      have nd := PyData.hasDict_of_canLay _ (v1.lay hf)
      rw [hd] at nd
      cases u <;> first | (cases rd; done) | skip
      exact repr_of_reads' rd hsh (PyData.noDict_hsm nd) hg (by omega) (fun b o q => q) (fun h' u tk hk => ⟨.str _, H, I.kept hk, ⟨_, rfl⟩, fin⟩) zz
    | dict kvs =>
      have nd := v1.lay hf
      rw [hd] at nd
      simp [PyData.canLay0] at nd
  unfold Bi.go at g
  split at g <;> first | (rename_i z; cases z; done) | skip
  · split at g <;> first | (cases g; done) | skip
    rename_i hs
    exact key _ rfl hs (Option.some.inj g).symm
  · cases g
end
end Ev

set_option Elab.async false
set_option linter.all false
set_option autoImplicit false
set_option maxHeartbeats 1000000
/-! Ev, part K: sorted, isinstance; the calls as expressions. -/
namespace Ev
variable [ClsTab]
open PySem PySem.Spec PyProof.Rows L2
section
variable {K : PySem.W.Frag} {F H : Hp}
def RU (K : PySem.W.Frag) (F : Hp) (u : Value) (d : D) : Prop := ∃ v, RelV v u ∧ RD K F d v
theorem each_of : ∀ {ds : List D} {vs : List V} {us : List Value}, RDs K F ds vs → Vals vs us → PySem.W.EachIs (RU K F) us ds
  | _, _, _, .nil, .nil => .nil
  | _, _, _, .cons r rs, .cons q qs => .cons ⟨_, q, r⟩ (each_of rs qs)
theorem of_each : ∀ {ds : List D} {us : List Value}, PySem.W.EachIs (RU K F) us ds → ∃ vs, RDs K F ds vs ∧ Vals vs us
  | _, _, .nil => ⟨[], .nil, .nil⟩
  | _, _, .cons ⟨v, q, r⟩ t => by
    obtain ⟨vs, h1, h2⟩ := of_each t
    exact ⟨v :: vs, .cons r h1, .cons q h2⟩
omit [ClsTab] in
theorem pys_map : ∀ xs : List D, D.pys xs = xs.map D.py
  | [] => rfl
  | x :: xs => by rw [D.pys, pys_map xs, List.map_cons]
omit [ClsTab] in
theorem flats_all {n : Nat} : ∀ {xs : List D}, D.flats n xs = true → ∀ x ∈ xs, x.flat n = true
  | [], _, x, h => by cases h
  | y :: ys, h, x, hx => by
    rw [D.flats, Bool.and_eq_true] at h
    rcases List.mem_cons.mp hx with rfl | hx
    · exact h.1
    · exact flats_all h.2 x hx
end
section
variable {X : Cx} {pins : List (Addr × Obj)} {σ : L2.St} {H F : Hp} {s : Shared}
theorem reads_each (I : Inv X pins σ H s) (sb : Same F H) : ∀ {ds : List D} {vs : List V} {us : List Value}, RDs X.K F ds vs → Vals vs us → D.flats 60 ds = true → PySem.W.EachIs (fun u b => ∃ as, Reads s.heap u (D.py b) as) us ds
  | _, _, _, .nil, .nil, _ => .nil
  | _, _, _, .cons r rs, .cons q qs, h => by
    rw [D.flats, Bool.and_eq_true] at h
    exact .cons (Dp.reads I _ _ _ (r.dp sb h.1) q) (reads_each I sb rs qs h.2)
theorem sort_any {xs : List D} {vs : List V} {its : List Value} {v : Value} {o : Out} {Q : VK} (hu : X.A.units + 100 < cLine) (I : Inv X pins σ H s) (sb : Same F H) (ra : RDs X.K F xs vs) (rv : Vals vs its) (hz : vs.length ≤ sizeLine)
    (col : ∀ (E : Value → Shared → Prop) (Q : List Value → Shared → Prop), (∀ h', (∀ b o, s.heap.get? b = some o → h'.get? b = some o) → Q its { s with heap := h' }) → wpAny (model X.prog X.w) X.A.in1 (collect v) Q E s)
    (g : (if sortable xs = true then some (Out.new (.lst (sortD xs))) else none) = some o) (gv : Gives X.K F H o Q) : wpAny (model X.prog X.w) X.A (PySem.call (.builtin "sorted") [v]) (EP X pins σ Q) X.xe s := by
  split at g <;> first | (cases g; done) | skip
  rename_i hs
  cases g
  unfold sortable at hs
  simp only [Bool.and_eq_true, Bool.or_eq_true] at hs
  obtain ⟨⟨hf, hal⟩, hk⟩ := hs
  refine sorted_col (us := its) (bs := xs) (R := RU X.K F) (fun E Q hq => col E Q fun h' kp => hq { s with heap := h' } kp rfl I.bare) (each_of ra rv) (reads_each I sb ra rv hf) ?_ ?_ (by rw [ra.length]; exact hz) ?_ ?_
  · intro d hd d' hd'
    obtain ⟨b, hb, rfl⟩ := List.mem_map.mp hd
    obtain ⟨b', hb', rfl⟩ := List.mem_map.mp hd'
    exact List.all_eq_true.mp (List.all_eq_true.mp hal b hb) b' hb'
  · rcases hk with hk | hk
    · refine .inl fun d hd => ?_
      obtain ⟨b, hb, rfl⟩ := List.mem_map.mp hd
      have := List.all_eq_true.mp hk b hb
      split at this
      · simp only [D.py, D.pys]
        exact ⟨_, _, rfl⟩
      · cases this
    · refine .inr fun d hd => ?_
      obtain ⟨b, hb, rfl⟩ := List.mem_map.mp hd
      have h1 := List.all_eq_true.mp hk b hb
      have h2 := flats_all hf b hb
      cases b <;> first | (simp at h1; done) | (simp [D.py]; done) | (simp [D.flat] at h2; done)
  · intro b hb
    have := flat_depth (flats_all hf b hb)
    omega
  · intro out s1 s2 ep hl ho k1 os1 g1 k2 e2 os2 g2
    obtain ⟨ws, r1, r2⟩ := of_each ho
    have lw : ws.length ≤ sizeLine := by
      rw [r2.length, hl, ra.length]
      exact hz
    have I1 : Inv X pins σ H s1 := I.call' (ch := []) os1 (Un.kept k1) (I.hok.kept k1) g1 fun b z => absurd z (by simp)
    have hn : H s1.heap.objs.size = none := I1.hok.fresh (Nat.le_refl _)
    have new : ObjOk X.prog X.w (upd H s1.heap.objs.size (.lst ws)) s2.heap s1.heap.objs.size (.lst ws) := ⟨lw, _, ep, r2, e2⟩
    have I2 : Inv X pins σ (upd H s1.heap.objs.size (.lst ws)) s2 := I1.call' (ch := []) os2 (Un.laid k2 (Nat.le_refl _) hn) (I1.hok.laid k2 (Nat.le_refl _) new) (by rw [g2]; exact g1) fun b z => absurd z (by simp)
    exact ⟨.ref _, _, I2, rfl, give_lst sb gv r1 hn⟩
end
section
variable {X : Cx}
theorem k_sorted (hu : X.A.units + 100 < cLine) : CallR X (.builtin "sorted") (rBi X.K Bi.sorted.go) := by
  intro pins s σ H xs us Q I r ⟨F, ds, o, sb, vw, g, gv⟩
  unfold Bi.go at g
  split at g <;> first | (rename_i z; cases z; done) | skip
  · obtain ⟨v, rfl, v1⟩ := vw.one
    obtain ⟨a, vs, rfl, ha, ra⟩ := v1.tup sb
    obtain ⟨u, rfl, rx⟩ := vals1 r
    cases rx
    obtain ⟨its, rv, pl, hz⟩ := I.tuple ha
    obtain ⟨ob, ho, hc, n, hd⟩ := pl
    exact sort_any hu I sb ra rv hz (fun E Q hq => wpAny_collect_seq a (.inr rfl) ho hc hd hq (by rw [List.size_toArray, ← rv.length]; exact hz)) g gv
  · obtain ⟨v, rfl, v1⟩ := vw.one
    obtain ⟨a, vs, rfl, ha, ra⟩ := v1.lst sb
    obtain ⟨u, rfl, rx⟩ := vals1 r
    cases rx
    obtain ⟨its, rv, pl, hz⟩ := I.list (.of ha)
    obtain ⟨ob, ho, hc, n, hd⟩ := pl.isList
    exact sort_any hu I sb ra rv hz (fun E Q hq => wpAny_collect_seq a (.inl rfl) ho hc hd hq (by rw [List.size_toArray, ← rv.length]; exact hz)) g gv
  · cases g
end
end Ev

set_option Elab.async false
set_option linter.all false
set_option autoImplicit false
set_option maxHeartbeats 1000000
/-! Ev, part L: the calls as expressions. -/
namespace Ev
variable [ClsTab]
open PySem PySem.Spec PyProof.Rows L2
theorem Aft.mono {α β : Type} {K : PySem.W.Frag} {T : CT} {W : WX} {R : RT α β} {F H : Hp} {ι : List Addr} {s : S} {σ : L2.St} {r : Res α} {Q Q' : β → Hp → Prop} (h : Aft K T W R F ι s σ H r Q) (i : ∀ v H, Q v H → Q' v H) : Aft K T W R F ι s σ H r Q' := by
  cases r with
  | ok o s' => exact fun F' ι' H' v a b c => i _ _ (h F' ι' H' v a b c)
  | exc x s' => exact h
  | bad => exact h
theorem View.up {K : PySem.W.Frag} {F H H' : Hp} {d : D} {v : V} (h : View K F H d v) (k : Same H H') : View K F H' d v := by
  rcases h with h | ⟨a, o, e, q, r⟩
  · exact .inl h
  · exact .inr ⟨a, o, e, k _ _ q, r⟩
def Bi.id : Bi → String
  | .len => "len" | .abs => "abs" | .int => "int" | .list => "list" | .tuple => "tuple" | .sorted => "sorted" | .all => "all" | .any => "any" | .sum => "sum"
  | .max => "max" | .min => "min" | .repr => "repr" | .max2 => "max" | .min2 => "min"
def Bi.ty : Bi → Bool
  | .int | .list | .tuple => true
  | _ => false
def Bi.val (f : Bi) : Value := if f.ty = true then .type f.id else .builtin f.id
def Bi.name (f : Bi) : Str := f.id
omit [ClsTab] in
theorem Bi.plain {f : Bi} {ds : List D} {o : Out} (h : f.go ds = some o) : plainOut o := by
  unfold Bi.go at h
  split at h <;> first
    | (cases h; trivial)
    | (split at h <;> first | (cases h; trivial) | (cases h; done))
    | (obtain ⟨_, _, rfl⟩ := Option.map_eq_some_iff.mp h; trivial)
    | (obtain ⟨_, _, h2⟩ := Option.bind_eq_some_iff.mp h; obtain ⟨_, _, rfl⟩ := Option.map_eq_some_iff.mp h2; trivial)
    | (cases h; done)
omit [ClsTab] in
theorem Bi.boot (f : Bi) : bootBuiltins f.name = some f.val := by cases f <;> decide +kernel
omit [ClsTab] in
theorem Bi.nm (f : Bi) : f.name ≠ "__name__" ∧ (f.name == ("__debug__" : Str)) = false := by cases f <;> decide +kernel
section
variable {X : Cx} {T : CT} {W : WX}
theorem k_bi (hc : X.calm = true) (hg : X.A.guards = some []) (hu : X.A.units + 100 < cLine) (f : Bi) : CallR X f.val (rBi X.K f.go) := by
  cases f with
  | len => exact k_len
  | abs => exact k_abs
  | int => exact k_int
  | list => exact k_list
  | tuple => exact k_tuple
  | sorted => exact k_sorted hu
  | all => exact k_all hc
  | any => exact k_any hc
  | sum => exact k_sum hc
  | max => exact k_max hc
  | min => exact k_min hc
  | repr => exact k_repr hg hu
  | max2 => exact k_max2 hc
  | min2 => exact k_min2 hc
theorem e_bi (hc : X.calm = true) (hg : X.A.guards = some []) (hu : X.A.units + 100 < cLine) (f : Bi) (gl : Gl X f.name) (hm : X.mg f.name = none) {e : Expr} {es : List Expr} {ms : List (EM Out)} {p pos : Pos} (ha : PA X (e :: es) (tM X.K T W (ROs X.K) (args ms)))
    (he : starEach (e :: es) X.env = (false, eval e X.env) :: starEach es X.env) (hpl : (backTo pos (starEach es X.env)).any (·.1) = false) : PE X (.Call (.Name f.name p) (e :: es) [] pos) (tE X.K T W (bi f ms)) := by
  have k := k_bi hc hg hu f
  have b := f.boot
  unfold Bi.val at k b
  cases ht : f.ty with
  | true =>
    rw [ht, if_pos rfl] at k b
    exact (pe_callTy k gl hm b ha f.nm.1 f.nm.2 he hpl).imp fun _ _ _ h => bi_imp (fun _ _ => Bi.plain) h
  | false =>
    rw [ht, if_neg (by decide)] at k b
    exact (pe_callB k gl hm b ha f.nm.1 f.nm.2 he hpl).imp fun _ _ _ h => bi_imp (fun _ _ => Bi.plain) h
end
def Ty.id : Ty → String
  | .int => "int" | .str => "str" | .bool => "bool" | .tuple => "tuple" | .list => "list" | .dict => "dict"
def Ty.name (t : Ty) : Str := t.id
omit [ClsTab] in
theorem Ty.boot (t : Ty) : bootBuiltins t.name = some (.type t.id) := by cases t <;> decide +kernel
omit [ClsTab] in
theorem Ty.nm (f : Ty) : f.name ≠ "__name__" ∧ (f.name == ("__debug__" : Str)) = false := by cases f <;> decide +kernel
def D.kind : D → String
  | .non => "NoneType" | .bl _ => "bool" | .int _ => "int" | .str _ => "str" | .tup _ => "tuple" | _ => "list"
omit [ClsTab] in
theorem Ty.kit (t : Ty) (d : D) (h : d.kinded = true) : kitB d.kind t.id = some (t.has d) := by
  cases d <;> first | (cases h; done) | (cases t <;> (simp only [D.kind, Ty.id, Ty.has]; decide +kernel))
theorem View.tyX {K : PySem.W.Frag} {F H : Hp} {d : D} {v : V} (sb : Same F H) (h : View K F H d v) (k : d.kinded = true) : TyX K H v (.type d.kind) := by
  cases d with
  | non => cases h.non; exact .base .non
  | bl b => cases h.bl; exact .base (.bl _)
  | int i => cases h.int; exact .base (.int _)
  | str x => cases h.str.1; exact .base (.str _)
  | tup xs =>
    obtain ⟨a, vs, rfl, ha, _⟩ := h.tup sb
    rcases ha with (ha | ⟨o, ha⟩) | ⟨o, its, n, e, c, _⟩
    · exact .base (.tup ha)
    · exact .fTuple ha
    · exact .kTuple e c
  | lst xs =>
    obtain ⟨a, vs, rfl, ha, _⟩ := h.lst sb
    exact .base (.lst ha)
  | _ => cases k
section
variable {X : Cx} {T : CT} {W : WX}
def rIsa (K : PySem.W.Frag) (ts : List Ty) : V → Hp → VK → Prop := fun x H Q => ∃ F d, Same F H ∧ View K F H d x ∧ d.kinded = true ∧ Gives K F H (.d (.bl (ts.any fun t => t.has d))) Q
theorem isa_imp {m : EM Out} {ts : List Ty} {σ : L2.St} {H : Hp} {Q : VK} (h : tE X.K T W (isa m ts) σ H Q) : tE X.K T W m σ H fun x H1 => rIsa X.K ts x H1 Q := by
  obtain ⟨F, ι, s, R, A⟩ := h
  refine ⟨F, ι, s, R, A.bind fun o s1 F1 i1 H1 v _ _ R1 r1 A1 => ?_⟩
  obtain ⟨d, e1, A2⟩ := A1.get
  obtain ⟨q, e2, A3⟩ := A2.opt
  split at e2 <;> first | (cases e2; done) | skip
  rename_i hk
  cases e2
  exact ⟨F1, d, R1.sub, r1.view R1 e1, hk, Gives.of R1 A3 trivial⟩
omit [ClsTab] in
theorem isi_nm : bootBuiltins ("isinstance" : Str) = some (.builtin "isinstance") := by decide +kernel
theorem e_isa (gi : Gl X "isinstance") (mi : X.mg "isinstance" = none) (t : Ty) (gl : Gl X t.name) (hm : X.mg t.name = none) {e : Expr} {m : EM Out} {p p2 pos : Pos} (ha : PE X e (tE X.K T W m))
    (he : starEach [e, .Name t.name p2] X.env = (false, eval e X.env) :: starEach [.Name t.name p2] X.env) : PE X (.Call (.Name "isinstance" p) [e, .Name t.name p2] [] pos) (tE X.K T W (isa m [t])) :=
  (pe_callB call_isi gi mi isi_nm (pa_cons ha (pa_cons (pe_bltn (v := .ty t.id) gl hm t.boot rfl t.nm.1 t.nm.2) pa_nil) he) (by decide) (by decide) he).imp fun σ H Q h => by
    obtain ⟨F, ι, s, R, A⟩ := isa_imp h
    exact ⟨F, ι, s, R, A.mono fun v H1 ⟨F2, d, sb, vw, hk, q⟩ => ⟨v, .ty t.id, .type d.kind, .type t.id, t.has d, rfl, .ty _, vw.tyX sb hk, kit_ty (t.kit d hk), by simpa using give_d sb q (.bl _)⟩⟩
/-! isinstance(x, (t, ..)) -/
omit [ClsTab] in
theorem a_tys : ∀ {ts : List Ty} {ps : List Pos}, (∀ t ∈ ts, Gl X t.name ∧ X.mg t.name = none) → ps.length = ts.length → PA X (List.zipWith (fun t p => Expr.Name t.name p) ts ps) fun _ H Q => Q (ts.map fun t => .ty t.id) H
  | [], [], _, _ => pa_nil
  | t :: ts, p :: ps, h, hl => by
    have h1 := h t (List.mem_cons_self ..)
    exact (pa_cons (pe_bltn (v := .ty t.id) (pos := p) h1.1 h1.2 t.boot rfl t.nm.1 t.nm.2) (a_tys (ts := ts) (ps := ps) (fun t ht => h t (List.mem_cons_of_mem _ ht)) (by simpa using hl)) rfl).imp fun _ _ _ q => q
omit [ClsTab] in
theorem kit_tys {K : PySem.W.Frag} {d : D} (hk : d.kinded = true) : ∀ ts : List Ty, PySem.W.kitAny K (.type d.kind) (ts.map fun t => .type t.id) = some (ts.any fun t => t.has d)
  | [] => kitAny_nil
  | t :: ts => kitAny_cons (kit_ty (t.kit d hk)) (fun h => by rw [kit_tys hk ts, List.any_cons, h, Bool.false_or]) fun h => by rw [List.any_cons, h, Bool.true_or]
omit [ClsTab] in
theorem clsv_tys : ∀ ts : List Ty, Paired ClsV (ts.map fun t => V.ty t.id) (ts.map fun t => Value.type t.id)
  | [] => .nil
  | t :: ts => .cons (.ty _) (clsv_tys ts)
theorem e_isaT (gi : Gl X "isinstance") (mi : X.mg "isinstance" = none) {ts : List Ty} {ps : List Pos} (hl : ps.length = ts.length) (hz : ts.length ≤ 6) (h : ∀ t ∈ ts, Gl X t.name ∧ X.mg t.name = none) {e : Expr} {m : EM Out} {p p2 pos : Pos} {k : Nat} (ha : PE X e (tE X.K T W m))
    (he : starEach [e, .Tuple (List.zipWith (fun t p => Expr.Name t.name p) ts ps) k p2] X.env = (false, eval e X.env) :: starEach [.Tuple (List.zipWith (fun t p => Expr.Name t.name p) ts ps) k p2] X.env) :
    PE X (.Call (.Name "isinstance" p) [e, .Tuple (List.zipWith (fun t p => Expr.Name t.name p) ts ps) k p2] [] pos) (tE X.K T W (isa m ts)) :=
  (pe_callB call_isiT gi mi isi_nm (pa_cons ha (pa_cons (pe_tup (a_tys h hl)) pa_nil) he) (by decide) (by decide) he).imp fun σ H Q q => by
    obtain ⟨F, ι, s, R, A⟩ := isa_imp q
    refine ⟨F, ι, s, R, A.mono fun v H1 ⟨F2, d, sb, vw, hk, q⟩ => ⟨by rw [List.length_map]; exact Nat.le_trans hz (by decide), fun tp n => ?_⟩⟩
    have sb2 := sb.trans (same_upd (o := .tup (ts.map fun t => .ty t.id)) n)
    refine ⟨v, tp, _, .type d.kind, _, _, rfl, upd_same, clsv_tys ts, (View.tyX (F := F2) sb2 ?_ hk), kit_tys hk ts, ?_⟩
    · exact vw.up (same_upd n)
    · exact q _ _ _ (More.one sb n) (.bl _)
end
end Ev

set_option Elab.async false
set_option linter.all false
set_option autoImplicit false
set_option maxHeartbeats 1000000
/-! Ev, part M: what changes a list. -/
namespace Ev
variable [ClsTab]
open PySem PySem.Spec PyProof.Rows L2
section
variable {K : PySem.W.Frag} {T : CT} {W : WX} {F H : Hp} {ι : List Addr} {s : S} {σ : L2.St}
theorem put_cell {k : Nat} {x y : D} {a : Addr} {u u' : HO} (R : Rel K F ι s σ H) (e : s.mem[k]? = some (.live x)) (ea : ι[k]? = some a) (h : H a = some u) (f : F a = none) (r' : RObj K F y u') :
    Rel K F ι { s with mem := s.mem.set k (.live y) } σ (upd H a u') ∧ EStep F ι s σ H F ι { s with mem := s.mem.set k (.live y) } (upd H a u') := by
  have hk : k < s.mem.length := (List.getElem?_eq_some_iff.mp e).1
  have lv0 : LiveAt s ι k a := ⟨⟨x, e⟩, ea⟩
  have lv : ∀ j b, LiveAt { s with mem := s.mem.set k (.live y) } ι j b → LiveAt s ι j b := fun j b ⟨⟨z, q⟩, q2⟩ => by
    simp only [set_get] at q
    by_cases hj : k = j
    · subst hj
      exact ⟨⟨x, e⟩, q2⟩
    · rw [if_neg hj] at q
      exact ⟨⟨z, q⟩, q2⟩
  have owd : ∀ b, Owned { s with mem := s.mem.set k (.live y) } σ ι b → Owned s σ ι b := fun b q => by
    rcases q with q | ⟨j, q⟩
    · exact .inl q
    · exact .inr ⟨j, lv j b q⟩
  refine ⟨⟨fun b z q => ?_, fun j z q => ?_, fun j c q => ?_, by simpa using R.len, R.elen, R.oo, fun i j b q q2 => R.ol i j b q (lv j b q2), fun i j b q q2 => R.ll i j b (lv i b q) (lv j b q2)⟩, ⟨⟨Same.refl F, List.prefix_refl _, fun b z q n => ?_, fun b q => .inl (owd b q), fun _ _ q => .inl q⟩, fun _ q => q⟩⟩
  · rw [upd_ne (ne_of_none q f)]
    exact R.sub b z q
  · obtain ⟨v, e3, r3⟩ := R.env j z q
    refine ⟨v, e3, ?_⟩
    cases z with
    | d z => exact r3
    | ref _ => exact r3
    | own z =>
      obtain ⟨b, o2, rfl, h2, r2, f2⟩ := r3
      have hba : b ≠ a := fun w => by
        subst w
        exact R.ol j k b ⟨⟨z, q⟩, e3⟩ lv0
      exact ⟨b, o2, rfl, by rw [upd_ne hba]; exact h2, r2, f2⟩
  · simp only [set_get] at q
    by_cases hj : k = j
    · rw [if_pos hj, if_pos hk] at q
      cases q
      subst hj
      exact ⟨a, ea, u', upd_same, r', f⟩
    · rw [if_neg hj] at q
      obtain ⟨b, e3, r3⟩ := R.mem j c q
      refine ⟨b, e3, ?_⟩
      cases c with
      | live z =>
        obtain ⟨o2, h2, r2, f2⟩ := r3
        have hba : b ≠ a := fun w => by
          subst w
          exact hj (R.ll k j b lv0 ⟨⟨z, q⟩, e3⟩)
        exact ⟨o2, by rw [upd_ne hba]; exact h2, r2, f2⟩
      | fro z => exact r3
  · rw [upd_ne fun w => n (by subst w; exact .inr ⟨k, lv0⟩)]
    exact q
/-- what a slot owns is written -/
theorem put_slot {i : Nat} {x y : D} {a : Addr} {u u' : HO} (R : Rel K F ι s σ H) (e : s.env[i]? = some (some (.own x))) (ea : σ[i]? = some (some (.ref a))) (h : H a = some u) (f : F a = none) (r' : RObj K F y u') :
    Rel K F ι { s with env := s.env.set i (some (.own y)) } σ (upd H a u') ∧ EStep F ι s σ H F ι { s with env := s.env.set i (some (.own y)) } (upd H a u') := by
  have hk : i < s.env.length := (List.getElem?_eq_some_iff.mp e).1
  have ow0 : OwnAt s σ i a := ⟨⟨x, e⟩, ea⟩
  have ow : ∀ j b, OwnAt { s with env := s.env.set i (some (.own y)) } σ j b → OwnAt s σ j b := fun j b ⟨⟨z, q⟩, q2⟩ => by
    simp only [set_get] at q
    by_cases hj : i = j
    · subst hj
      exact ⟨⟨x, e⟩, q2⟩
    · rw [if_neg hj] at q
      exact ⟨⟨z, q⟩, q2⟩
  have owd : ∀ b, Owned { s with env := s.env.set i (some (.own y)) } σ ι b → Owned s σ ι b := fun b q => by
    rcases q with ⟨j, q⟩ | q
    · exact .inl ⟨j, ow j b q⟩
    · exact .inr q
  refine ⟨⟨fun b z q => ?_, fun j z q => ?_, fun j c q => ?_, R.len, by simpa using R.elen, fun i j b q q2 => R.oo i j b (ow i b q) (ow j b q2), fun i j b q q2 => R.ol i j b (ow i b q) q2, R.ll⟩, ⟨⟨Same.refl F, List.prefix_refl _, fun b z q n => ?_, fun b q => .inl (owd b q), fun _ _ q => .inl q⟩, fun j q => ?_⟩⟩
  · rw [upd_ne (ne_of_none q f)]
    exact R.sub b z q
  · simp only [set_get] at q
    by_cases hj : i = j
    · rw [if_pos hj, if_pos hk] at q
      cases q
      subst hj
      exact ⟨_, ea, a, u', rfl, upd_same, r', f⟩
    · rw [if_neg hj] at q
      obtain ⟨v, e3, r3⟩ := R.env j z q
      refine ⟨v, e3, ?_⟩
      cases z with
      | d z => exact r3
      | ref _ => exact r3
      | own z =>
        obtain ⟨b, o2, rfl, h2, r2, f2⟩ := r3
        have hba : b ≠ a := fun w => by
          subst w
          exact hj (R.oo i j b ow0 ⟨⟨z, q⟩, e3⟩)
        exact ⟨b, o2, rfl, by rw [upd_ne hba]; exact h2, r2, f2⟩
  · obtain ⟨b, e3, r3⟩ := R.mem j c q
    refine ⟨b, e3, ?_⟩
    cases c with
    | live z =>
      obtain ⟨o2, h2, r2, f2⟩ := r3
      have hba : b ≠ a := fun w => by
        subst w
        exact R.ol i j b ow0 ⟨⟨z, q⟩, e3⟩
      exact ⟨o2, by rw [upd_ne hba]; exact h2, r2, f2⟩
    | fro z => exact r3
  · rw [upd_ne fun w => n (by subst w; exact .inl ⟨i, ow0⟩)]
    exact q
  · by_cases hj : i = j
    · exact .inr ⟨y, by simp only [set_get]; rw [if_pos hj, if_pos hk]⟩
    · rcases q with ⟨z, q⟩ | ⟨z, q⟩
      · exact .inl ⟨z, by simp only [set_get]; rw [if_neg hj]; exact q⟩
      · exact .inr ⟨z, by simp only [set_get]; rw [if_neg hj]; exact q⟩
theorem put_ok {Fr : Addr → Prop} {o : Out} {v : V} {f : D → Option D} {s' : S} {w : Unit} (R : Rel K F ι s σ H) (r : ROut K Fr F ι s σ H o v) (e : putIn o f s = .ok w s') :
    ∃ a x y u, v = .ref a ∧ o.look s = some x ∧ f x = some y ∧ H a = some u ∧ RObj K F x u ∧ ∀ u', RObj K F y u' → Rel K F ι s' σ (upd H a u') ∧ EStep F ι s σ H F ι s' (upd H a u') := by
  cases o with
  | d x => cases e
  | new x => cases e
  | ref k =>
    obtain ⟨a, ea, rfl⟩ := r
    simp only [putIn] at e
    split at e <;> first | (cases e; done) | skip
    rename_i x ex
    split at e <;> first | (cases e; done) | skip
    rename_i y ey
    cases e
    obtain ⟨a', ea', u, h, r, f2⟩ := R.mem k _ ex
    rw [ea] at ea'
    cases ea'
    exact ⟨a, x, y, u, rfl, by simp only [Out.look, ex]; rfl, ey, h, r, fun u' r' => put_cell R ex ea h f2 r'⟩
  | own i =>
    obtain ⟨ev, _⟩ := r
    simp only [putIn] at e
    split at e <;> first | (cases e; done) | skip
    rename_i x ex
    split at e <;> first | (cases e; done) | skip
    rename_i y ey
    cases e
    obtain ⟨v', e2, a, u, e3, h, r, f2⟩ := R.env i _ ex
    rw [ev] at e2
    cases e2
    subst e3
    exact ⟨a, x, y, u, rfl, by simp only [Out.look, ex], ey, h, r, fun u' r' => put_slot R ex ev h f2 r'⟩
omit [ClsTab] in
theorem put_exc {o : Out} {f : D → Option D} {s s1 : S} {x : Exc} : putIn o f s ≠ .exc x s1 := fun e => by
  cases o with
  | d y => cases e
  | new y => cases e
  | ref k =>
    simp only [putIn] at e
    split at e <;> first | (cases e; done) | (split at e <;> cases e)
  | own i =>
    simp only [putIn] at e
    split at e <;> first | (cases e; done) | (split at e <;> cases e)
/-- the writing within a row of steps -/
theorem Aft.put {F0 H0 : Hp} {i0 : List Addr} {s0 : S} {β δ : Type} {R2 : RT β δ} {o : Out} {v : V} {f : D → Option D} {m : Unit → EM β} {Q : δ → Hp → Prop} {Fr : Addr → Prop} (h : Aft K T W R2 F0 i0 s0 σ H0 ((putIn o f).bind m s) Q) (R : Rel K F ι s σ H) (r : ROut K Fr F ι s σ H o v) :
    ∃ a x y u s1, v = .ref a ∧ o.look s = some x ∧ f x = some y ∧ H a = some u ∧ RObj K F x u ∧ (∀ u', RObj K F y u' → Rel K F ι s1 σ (upd H a u') ∧ EStep F ι s σ H F ι s1 (upd H a u')) ∧ Aft K T W R2 F0 i0 s0 σ H0 (m () s1) Q := by
  unfold EM.bind at h
  cases e : putIn o f s with
  | ok x s1 =>
    rw [e] at h
    obtain ⟨a, x, y, u, h1, h2, h3, h4, h5, h6⟩ := put_ok R r e
    exact ⟨a, x, y, u, s1, h1, h2, h3, h4, h5, h6, h⟩
  | exc x s1 => exact absurd e put_exc
  | bad =>
    rw [e] at h
    exact h.elim
end
end Ev

set_option Elab.async false
set_option linter.all false
set_option autoImplicit false
set_option maxHeartbeats 1000000
/-! Ev, part N: methods of lists. -/
namespace Ev
variable [ClsTab]
open PySem PySem.Spec PyProof.Rows L2
section
variable {X : Cx} {T : CT} {W : WX}
theorem h_nil : PA X [] (tM X.K T W (RDL X.K) (keeps [])) := pa_nil.imp fun σ H Q ⟨F, ι, s, R, A⟩ => A F ι H [] (.refl ..) R .nil
theorem h_cons {e : Expr} {es : List Expr} {m : EM Out} {ms : List (EM Out)} (ha : PE X e (tE X.K T W m)) (hr : PA X es (tM X.K T W (RDL X.K) (keeps ms))) (hs : starEach (e :: es) X.env = (false, eval e X.env) :: starEach es X.env) : PA X (e :: es) (tM X.K T W (RDL X.K) (keeps (m :: ms))) :=
  (pa_cons ha hr hs).imp fun σ H Q ⟨F, ι, s, R, A⟩ => by
    refine ⟨F, ι, s, R, A.bind0 fun o s1 F1 i1 H1 v _ t1 R1 r1 A1 => ?_⟩
    obtain ⟨x, s2, F2, t2, R2, rd, A2⟩ := A1.keep t1 R1 r1
    refine ⟨F2, i1, s2, R2, (A2.from t2).bind fun us s3 F3 i3 H3 vs _ t3 R3 rs A3 => ?_⟩
    exact A3 F3 i3 H3 _ (.refl ..) R3 (.cons (rd.mono t3.ff) rs)
def rMt (K : PySem.W.Frag) (g : List D → List D → Option (List D × D)) : V → List V → Hp → VK → Prop := fun x vs H Q => ∃ F a xs us r ws, x = .ref a ∧ H a = some (.lst ws) ∧ RDs K F xs ws ∧ RDs K F us vs ∧ g xs us = some r ∧ ∀ ws' v', RDs K F r.1 ws' → RD K F r.2 v' → Q v' (upd H a (.lst ws'))
theorem mt_imp {f : Mt} {m : EM Out} {ms : List (EM Out)} {σ : L2.St} {H : Hp} {Q : VK} (h : tE X.K T W (mt f m ms) σ H Q) : tBM X.K "list" (rMt X.K f.go) (tE X.K T W m) (tM X.K T W (RDL X.K) (keeps ms)) σ H Q := by
  obtain ⟨F, ι, s, R, A⟩ := h
  refine ⟨F, ι, s, R, A.bind0 fun o s1 F1 i1 H1 v _ t1 R1 r1 A1 => ?_⟩
  obtain ⟨d, e1, A2⟩ := A1.get
  obtain ⟨xs0, e2, A3⟩ := A2.pass
  cases d <;> first | (cases e2; done) | skip
  obtain ⟨a, ws, rfl, ha, ra⟩ := (r1.view R1 e1).lst R1.sub
  refine ⟨.inl ⟨rfl, ws, .of ha⟩, F1, i1, s1, R1, A3.bind1 t1 fun us s3 F3 i3 H3 vs t3 R3 rs A4 => ?_⟩
  obtain ⟨d, e3, A5⟩ := A4.get
  obtain ⟨xs, e4, A6⟩ := A5.pass
  obtain ⟨r, e5, A7⟩ := A6.pass
  cases d <;> first | (cases e4; done) | skip
  cases e4
  have r3 := r1.step t3
  obtain ⟨a', x, y, u, s4, ea, ex, ey, hu, ru, hput, A8⟩ := A7.put R3 r3
  cases ea
  rw [e3] at ex
  cases ex
  cases ey
  obtain ⟨ws3, rfl, rw3⟩ := ru
  refine ⟨F3, a, xs, us, r, ws3, rfl, hu, rw3, rs, e5, fun ws' v' h1 h2 => ?_⟩
  obtain ⟨R4, t4⟩ := hput (.lst ws') ⟨ws', rfl, h1⟩
  exact A8 F3 i3 _ v' ((t1.trans t3).trans t4) R4 h2
omit [ClsTab] in
theorem keeps_nil_bind {β : Type} {f : List D → EM β} : (keeps []).bind f = f [] := rfl
theorem mt_imp0 {f : Mt} {m : EM Out} {σ : L2.St} {H : Hp} {Q : VK} (h : tE X.K T W (mt f m []) σ H Q) : tBM0 X.K "list" (rMt X.K f.go) (tE X.K T W m) σ H Q := by
  obtain ⟨F, ι, s, R, A⟩ := h
  refine ⟨F, ι, s, R, A.bind0 fun o s1 F1 i1 H1 v _ t1 R1 r1 A1 => ?_⟩
  obtain ⟨d, e1, A2⟩ := A1.get
  obtain ⟨xs0, e2, A3⟩ := A2.pass
  cases d <;> first | (cases e2; done) | skip
  obtain ⟨a, ws, rfl, ha, ra⟩ := (r1.view R1 e1).lst R1.sub
  refine ⟨.inl ⟨rfl, ws, .of ha⟩, ?_⟩
  rw [keeps_nil_bind] at A3
  obtain ⟨d, e3, A5⟩ := A3.get
  obtain ⟨xs, e4, A6⟩ := A5.pass
  obtain ⟨r, e5, A7⟩ := A6.pass
  cases d <;> first | (cases e4; done) | skip
  cases e4
  obtain ⟨a', x, y, u, s4, ea, ex, ey, hu, ru, hput, A8⟩ := A7.put R1 r1
  cases ea
  rw [e3] at ex
  cases ex
  cases ey
  obtain ⟨ws3, rfl, rw3⟩ := ru
  refine ⟨F1, a, xs, [], r, ws3, rfl, hu, rw3, .nil, e5, fun ws' v' h1 h2 => ?_⟩
  obtain ⟨R4, t4⟩ := hput (.lst ws') ⟨ws', rfl, h1⟩
  exact A8 F1 i1 _ v' (t1.trans t4) R4 h2
omit [ClsTab] in
theorem lim63 {i : Int} (h : i ≤ LIM) : i < 2 ^ 63 := by
  have : ((LIM : Nat) : Int) = 1000000 := rfl
  omega
def Mt.id : Mt → String
  | .append => "append" | .insert => "insert" | .pop => "pop" | .popAt => "pop" | .clear => "clear"
def Mt.name (f : Mt) : Str := f.id
def Mt.at_ (f : Mt) : String := "list." ++ f.id
theorem m_append : MtR X "list.append" (rMt X.K Mt.append.go) := by
  intro pins s σ H x vs v us Q I rx rv ⟨F, a, xs, ds, r, ws, ex, ha, ra, rd, g, q⟩
  unfold Mt.go at g
  split at g <;> first | (rename_i z; cases z; done) | skip
  · split at g <;> first | (cases g; done) | skip
    rename_i hl
    cases g
    obtain ⟨w, rfl, hw⟩ : ∃ w, vs = [w] ∧ RD X.K F _ w := by
      cases rd with
      | cons h t => cases t; exact ⟨_, rfl, h⟩
    exact mt_append pins s σ H x _ v us Q I rx rv ⟨a, ws, w, ex, rfl, ha, by rw [← ra.length]; exact lim_lt (Nat.le_of_lt hl), q _ _ (ra.append (.cons hw .nil)) .non⟩
  · cases g
theorem m_insert : MtR X "list.insert" (rMt X.K Mt.insert.go) := by
  intro pins s σ H x vs v us Q I rx rv ⟨F, a, xs, ds, r, ws, ex, ha, ra, rd, g, q⟩
  unfold Mt.go at g
  split at g <;> first | (rename_i z; cases z; done) | skip
  · split at g <;> first | (cases g; done) | skip
    rename_i hl
    cases g
    obtain ⟨w, rfl, hw⟩ : ∃ w, vs = [.int _, w] ∧ RD X.K F _ w := by
      cases rd with
      | cons h t => cases h; cases t with
        | cons h2 t2 => cases t2; exact ⟨_, rfl, h2⟩
    refine mt_insert pins s σ H x _ v us Q I rx rv ⟨a, ws, _, w, ex, rfl, ha, by rw [← ra.length]; exact lim_lt (Nat.le_of_lt hl.1), hl.2.1, lim63 hl.2.2, q _ _ ?_ .non⟩
    rw [List.append_assoc]
    exact (ra.take _).append (.cons hw (ra.drop _))
  · cases g
theorem m_pop : MtR X "list.pop" (rMt X.K Mt.pop.go) := by
  intro pins s σ H x vs v us Q I rx rv ⟨F, a, xs, ds, r, ws, ex, ha, ra, rd, g, q⟩
  unfold Mt.go at g
  split at g <;> first | (rename_i z; cases z; done) | skip
  · obtain ⟨y, h1, rfl⟩ := Option.map_eq_some_iff.mp g
    cases rd
    obtain ⟨w, h2, h3⟩ := ra.get h1
    rw [ra.length] at h2
    exact mt_pop pins s σ H x _ v us Q I rx rv ⟨a, ws, w, ex, rfl, ha, h2, q _ _ ra.dropLast h3⟩
  · cases g
theorem m_popAt : MtR X "list.pop" (rMt X.K Mt.popAt.go) := by
  intro pins s σ H x vs v us Q I rx rv ⟨F, a, xs, ds, r, ws, ex, ha, ra, rd, g, q⟩
  unfold Mt.go at g
  split at g <;> first | (rename_i z; cases z; done) | skip
  · split at g <;> first | (cases g; done) | skip
    rename_i i _ hl
    obtain ⟨y, h1, rfl⟩ := Option.map_eq_some_iff.mp g
    obtain rfl : vs = [.int i] := by
      cases rd with
      | cons h t => cases h; cases t; rfl
    obtain ⟨w, h2, h3⟩ := ra.get h1
    have hi := (List.getElem?_eq_some_iff.mp h2).1
    have hs : seqIndex? i ws.length = some i.toNat := by
      refine (ixN_seq (i := i) ?_).1
      unfold ixN
      rw [if_pos hl.1, if_pos (by omega)]
    exact mt_popAt pins s σ H x _ v us Q I rx rv ⟨a, ws, i, i.toNat, w, ex, rfl, ha, by omega, lim63 hl.2, hs, h2, q _ _ (ra.eraseIdx _) h3⟩
  · cases g
theorem m_clear : MtR X "list.clear" (rMt X.K Mt.clear.go) := by
  intro pins s σ H x vs v us Q I rx rv ⟨F, a, xs, ds, r, ws, ex, ha, ra, rd, g, q⟩
  unfold Mt.go at g
  split at g <;> first | (rename_i z; cases z; done) | skip
  · cases g
    cases rd
    exact mt_clear pins s σ H x _ v us Q I rx rv ⟨a, ws, ex, rfl, ha, q _ _ .nil .non⟩
  · cases g
theorem m_all (f : Mt) : MtR X f.at_ (rMt X.K f.go) := by
  cases f with
  | append => exact m_append
  | insert => exact m_insert
  | pop => exact m_pop
  | popAt => exact m_popAt
  | clear => exact m_clear
omit [ClsTab] in
theorem m_slot (f : Mt) : PySem.Slot "list" f.name f.at_ := by
  cases f with
  | append => exact F.slot_list_append
  | insert => exact F.slot_list_insert
  | pop => exact F.slot_list_pop
  | popAt => exact F.slot_list_pop
  | clear => exact F.slot_list_clear
omit [ClsTab] in
theorem m_type (f : Mt) : typeOf (.builtin f.at_) = pure (.type "method_descriptor") := by
  cases f with
  | append => exact F.type_list_append
  | insert => exact F.type_list_insert
  | pop => exact F.type_list_pop
  | popAt => exact F.type_list_pop
  | clear => exact F.type_list_clear
theorem e_mt0 (f : Mt) {o : Expr} {m : EM Out} {apos cpos : Pos} (ho : PE X o (tE X.K T W m)) (hbase : attributeBase o f.name X.env (eval o X.env) = eval o X.env) (hline : (apos.endLine == cpos.line) = true) :
    PE X (.Call (.Attribute o f.name apos) [] [] cpos) (tE X.K T W (mt f m [])) :=
  (pe_bm0 F.plainAttrs_list (m_slot f) (m_type f) (m_all f) ho hbase hline).imp fun _ _ _ h => mt_imp0 h
theorem e_mt (f : Mt) {o e : Expr} {es : List Expr} {m : EM Out} {ms : List (EM Out)} {apos cpos : Pos} (ho : PE X o (tE X.K T W m)) (ha : PA X (e :: es) (tM X.K T W (RDL X.K) (keeps ms))) (hbase : attributeBase o f.name X.env (eval o X.env) = eval o X.env)
    (hfew : ((backTo cpos (starEach (e :: es) X.env)).all (fun x => !x.1) && (backToKw cpos (keywordEach [] X.env)).all (fun x => x.1.isSome) && decide ((e :: es).length + ([] : List Keyword).length + (if ([] : List Keyword).isEmpty then 0 else 1) < 30)) = true)
    (hline : (apos.endLine == cpos.line) = true) (hs : starEach (e :: es) X.env = (false, eval e X.env) :: starEach es X.env) (hp : (backTo cpos (starEach es X.env)).any (·.1) = false) :
    PE X (.Call (.Attribute o f.name apos) (e :: es) [] cpos) (tE X.K T W (mt f m ms)) :=
  (pe_bm F.plainAttrs_list (m_slot f) (m_type f) (m_all f) ho ha hbase hfew hline hs hp).imp fun _ _ _ h => mt_imp h
end
end Ev

set_option Elab.async false
set_option linter.all false
set_option autoImplicit false
set_option maxHeartbeats 1000000
/-! Ev, part O: statements. -/
namespace Ev
variable [ClsTab]
open PySem PySem.Spec PyProof.Rows L2
/-- what a statement's outcome asks of what follows -/
def AftS (K : PySem.W.Frag) (T : CT) (W : WX) (F : Hp) (ι : List Addr) (s : S) (σ : L2.St) (H : Hp) (r : SR) (D : L2.Ends) : Prop := match r with
  | .next s' => ∀ F' ι' σ' H', Step F ι s σ H F' ι' s' σ' H' → Rel K F' ι' s' σ' H' → D.nx σ' H'
  | .brk s' => ∀ F' ι' σ' H', Step F ι s σ H F' ι' s' σ' H' → Rel K F' ι' s' σ' H' → D.bk σ' H'
  | .cont s' => ∀ F' ι' σ' H', Step F ι s σ H F' ι' s' σ' H' → Rel K F' ι' s' σ' H' → D.ct σ' H'
  | .ret o s' => ∀ F' ι' σ' H' v, Step F ι s σ H F' ι' s' σ' H' → Rel K F' ι' s' σ' H' → ROut K (Fresh s σ ι H) F' ι' s' σ' H' o v → D.rt v H'
  | .exc x s' => ∀ F' ι' σ' H' c d, Step F ι s σ H F' ι' s' σ' H' → Rel K F' ι' s' σ' H' → RExc K T F' H' x c d → W c d σ' H'
  | .bad => False
def tS (K : PySem.W.Frag) (T : CT) (W : WX) (m : SM) : TS := fun D σ H => ∃ F ι s, Rel K F ι s σ H ∧ AftS K T W F ι s σ H (m s) D
section
variable {K : PySem.W.Frag} {T : CT} {W : WX} {F H : Hp} {ι : List Addr} {s : S} {σ : L2.St}
theorem AftS.from {F1 H1 : Hp} {i1 : List Addr} {s1 : S} {g1 : L2.St} {r : SR} {D : L2.Ends} (h : AftS K T W F ι s σ H r D) (t : Step F ι s σ H F1 i1 s1 g1 H1) : AftS K T W F1 i1 s1 g1 H1 r D := by
  cases r with
  | next s' => exact fun F' ι' σ' H' a b => h F' ι' σ' H' (t.trans a) b
  | brk s' => exact fun F' ι' σ' H' a b => h F' ι' σ' H' (t.trans a) b
  | cont s' => exact fun F' ι' σ' H' a b => h F' ι' σ' H' (t.trans a) b
  | ret o s' => exact fun F' ι' σ' H' v a b c => h F' ι' σ' H' v (t.trans a) b (c.fresh fun _ => t.back)
  | exc x s' => exact fun F' ι' σ' H' c d a b e => h F' ι' σ' H' c d (t.trans a) b e
  | bad => exact h
theorem AftS.ends {r : SR} {D D' : L2.Ends} (h : AftS K T W F ι s σ H r D) (nx : ∀ s' F' ι' σ' H', r = .next s' → Step F ι s σ H F' ι' s' σ' H' → Rel K F' ι' s' σ' H' → D.nx σ' H' → D'.nx σ' H') (rt : ∀ v H, D.rt v H → D'.rt v H)
    (bk : ∀ s' F' ι' σ' H', r = .brk s' → Step F ι s σ H F' ι' s' σ' H' → Rel K F' ι' s' σ' H' → D.bk σ' H' → D'.bk σ' H') (ct : ∀ s' F' ι' σ' H', r = .cont s' → Step F ι s σ H F' ι' s' σ' H' → Rel K F' ι' s' σ' H' → D.ct σ' H' → D'.ct σ' H') : AftS K T W F ι s σ H r D' := by
  cases r with
  | next s' => exact fun F' ι' σ' H' a b => nx _ _ _ _ _ rfl a b (h F' ι' σ' H' a b)
  | brk s' => exact fun F' ι' σ' H' a b => bk _ _ _ _ _ rfl a b (h F' ι' σ' H' a b)
  | cont s' => exact fun F' ι' σ' H' a b => ct _ _ _ _ _ rfl a b (h F' ι' σ' H' a b)
  | ret o s' => exact fun F' ι' σ' H' v a b c => rt _ _ (h F' ι' σ' H' v a b c)
  | exc x s' => exact h
  | bad => exact h
/-- an expression ahead of what a statement does -/
theorem AftS.lift {α γ : Type} {R1 : RT α γ} {F0 H0 : Hp} {i0 : List Addr} {s0 : S} {g0 : L2.St} {m : EM α} {f : α → SM} {D : L2.Ends} {Q1 : γ → Hp → Prop}
    (h : AftS K T W F0 i0 s0 g0 H0 (Ev.lift m f s) D) (t : Step F0 i0 s0 g0 H0 F ι s σ H)
    (g : ∀ o s1 F1 i1 H1 v, m s = .ok o s1 → EStep F ι s σ H F1 i1 s1 H1 → Rel K F1 i1 s1 σ H1 → R1 (Fresh s σ ι H) F1 i1 s1 σ H1 o v → AftS K T W F0 i0 s0 g0 H0 (f o s1) D → Q1 v H1) : Aft K T W R1 F ι s σ H (m s) Q1 := by
  unfold Ev.lift at h
  cases e : m s with
  | ok o s1 =>
    rw [e] at h
    exact fun F1 i1 H1 v a b c => g o s1 F1 i1 H1 v e a b c h
  | exc x s1 =>
    rw [e] at h
    exact fun F1 i1 H1 c d a b q => h F1 i1 σ H1 c d (t.trans a.toStep) b q
  | bad =>
    rw [e] at h
    exact h
/-- a slot is set -/
def FreshOr (Fr : Addr → Prop) (s : S) (σ : L2.St) (ι : List Addr) (x : Slot) (v : V) : Prop := match x with
  | .own _ => ∀ a, v = .ref a → ¬ Owned s σ ι a ∧ Fr a
  | _ => True
theorem set_slot {F0 H0 : Hp} {i0 : List Addr} {s0 : S} {g0 : L2.St} {i : Nat} {x : Slot} {v : V} (R : Rel K F ι s σ H) (t : Step F0 i0 s0 g0 H0 F ι s σ H) (r : RSlot K F ι H x v) (fr : FreshOr (Fresh s0 g0 i0 H0) s σ ι x v) :
    Rel K F ι { s with env := s.env.set i (some x) } (σ.set i (some v)) H ∧ Step F0 i0 s0 g0 H0 F ι { s with env := s.env.set i (some x) } (σ.set i (some v)) H := by
  -- what is owned behind it
  have ow : ∀ j a, OwnAt { s with env := s.env.set i (some x) } (σ.set i (some v)) j a → (j ≠ i ∧ OwnAt s σ j a) ∨ (j = i ∧ v = .ref a ∧ ∃ y, x = .own y) := fun j a ⟨⟨y, q⟩, q2⟩ => by
    simp only [set_get] at q q2
    by_cases hj : i = j
    · rw [if_pos hj] at q q2
      split at q <;> cases q
      split at q2 <;> cases q2
      exact .inr ⟨hj.symm, rfl, _, rfl⟩
    · rw [if_neg hj] at q q2
      exact .inl ⟨fun z => hj z.symm, ⟨y, q⟩, q2⟩
  have nw : ∀ {a : Addr} {y : D}, x = .own y → v = .ref a → ¬ Owned s σ ι a ∧ Fresh s0 g0 i0 H0 a := fun {a y} ex ev => by
    subst ex
    exact fr a ev
  have hl : i < s.env.length ↔ i < σ.length := by rw [R.elen]
  refine ⟨⟨R.sub, fun j y q => ?_, R.mem, R.len, by simp only [List.length_set]; exact R.elen, fun j k a q q2 => ?_, fun j k a q q2 => ?_, R.ll⟩, ⟨t.ff, t.ii, t.keep, fun a q => ?_, t.fro⟩⟩
  · simp only [set_get] at q
    by_cases hj : i = j
    · rw [if_pos hj] at q
      split at q <;> cases q
      rename_i hi
      exact ⟨v, by rw [set_get, if_pos hj, if_pos (hl.mp hi)], r⟩
    · rw [if_neg hj] at q
      obtain ⟨w, h1, h2⟩ := R.env j y q
      exact ⟨w, by rw [set_get, if_neg hj]; exact h1, h2⟩
  · rcases ow j a q with ⟨n1, o1⟩ | ⟨e1, v1, y1, x1⟩
    · rcases ow k a q2 with ⟨n2, o2⟩ | ⟨e2, v2, y2, x2⟩
      · exact R.oo j k a o1 o2
      · exact absurd (.inl ⟨j, o1⟩) (nw x2 v2).1
    · rcases ow k a q2 with ⟨n2, o2⟩ | ⟨e2, v2, y2, x2⟩
      · exact absurd (.inl ⟨k, o2⟩) (nw x1 v1).1
      · rw [e1, e2]
  · rcases ow j a q with ⟨n1, o1⟩ | ⟨e1, v1, y1, x1⟩
    · exact R.ol j k a o1 q2
    · exact absurd (.inr ⟨k, q2⟩) (nw x1 v1).1
  · rcases q with ⟨j, q⟩ | q
    · rcases ow j a q with ⟨n1, o1⟩ | ⟨e1, v1, y1, x1⟩
      · exact t.own a (.inl ⟨j, o1⟩)
      · exact (nw x1 v1).2
    · exact t.own a (.inr q)
/-- a cell is made -/
theorem new_cell {F0 H0 : Hp} {i0 : List Addr} {s0 : S} {g0 : L2.St} {x : D} {a : Addr} {u : HO} (R : Rel K F ι s σ H) (t : Step F0 i0 s0 g0 H0 F ι s σ H) (h : H a = some u) (r : RObj K F x u) (f : F a = none) (n : ¬ Owned s σ ι a) (fr : Fresh s0 g0 i0 H0 a) :
    Rel K F (ι ++ [a]) { s with mem := s.mem ++ [.live x] } σ H ∧ Step F0 i0 s0 g0 H0 F (ι ++ [a]) { s with mem := s.mem ++ [.live x] } σ H := by
  have lv : ∀ k b, LiveAt { s with mem := s.mem ++ [.live x] } (ι ++ [a]) k b → LiveAt s ι k b ∨ (k = s.mem.length ∧ b = a) := fun k b ⟨⟨y, q⟩, q2⟩ => by
    by_cases hk : k < s.mem.length
    · simp only [List.getElem?_append_left hk] at q
      rw [List.getElem?_append_left (by rw [R.len]; exact hk)] at q2
      exact .inl ⟨⟨y, q⟩, q2⟩
    · have q' := (List.getElem?_eq_some_iff.mp q).1
      simp at q'
      have e : k = s.mem.length := by omega
      subst e
      rw [List.getElem?_append_right (by rw [R.len]; exact Nat.le_refl _), R.len, Nat.sub_self] at q2
      simp at q2
      exact .inr ⟨rfl, q2.symm⟩
  have pre : ι <+: ι ++ [a] := List.prefix_append _ _
  refine ⟨⟨R.sub, fun j y q => ?_, fun k c q => ?_, by simp [R.len], R.elen, R.oo, fun i k b q q2 => ?_, fun k l b q q2 => ?_⟩, ⟨t.ff, t.ii.trans pre, t.keep, fun b q => ?_, t.fro⟩⟩
  · obtain ⟨v, e, r⟩ := R.env j y q
    refine ⟨v, e, ?_⟩
    cases y with
    | d y => exact r
    | ref k => obtain ⟨b, e2, e3⟩ := r; exact ⟨b, pre_get pre e2, e3⟩
    | own y => exact r
  · by_cases hk : k < s.mem.length
    · simp only [List.getElem?_append_left hk] at q
      obtain ⟨b, e, r⟩ := R.mem k c q
      exact ⟨b, pre_get pre e, r⟩
    · have q' := (List.getElem?_eq_some_iff.mp q).1
      simp at q'
      have e : k = s.mem.length := by omega
      subst e
      simp at q
      subst q
      exact ⟨a, by rw [← R.len]; simp, u, h, r, f⟩
  · rcases lv k b q2 with q2 | ⟨_, rfl⟩
    · exact R.ol i k b q q2
    · exact n (.inl ⟨i, q⟩)
  · rcases lv k b q with y1 | ⟨e1, z1⟩
    · rcases lv l b q2 with y2 | ⟨e2, z2⟩
      · exact R.ll k l b y1 y2
      · exact absurd (.inr ⟨k, z2 ▸ y1⟩) n
    · rcases lv l b q2 with y2 | ⟨e2, _⟩
      · exact absurd (.inr ⟨l, z1 ▸ y2⟩) n
      · rw [e1, e2]
  · rcases q with q | ⟨k, q⟩
    · exact t.own b (.inl q)
    · rcases lv k b q with q | ⟨_, rfl⟩
      · exact t.own b (.inr ⟨k, q⟩)
      · exact fr
end
end Ev

set_option Elab.async false
set_option linter.all false
set_option autoImplicit false
set_option maxHeartbeats 1000000
/-! Ev, part P: statements, one by one. -/
namespace Ev
variable [ClsTab]
open PySem PySem.Spec PyProof.Rows L2
section
variable {K : PySem.W.Frag} {T : CT} {W : WX} {F H F0 H0 : Hp} {ι i0 : List Addr} {s s0 : S} {σ g0 : L2.St} {D : L2.Ends}
/-- steps that the heap does not see, within a statement -/
theorem AftS.get {o : Out} {f : Ev.D → SM} (h : AftS K T W F0 i0 s0 g0 H0 (Ev.lift (Ev.get o) f s) D) : ∃ d, o.look s = some d ∧ AftS K T W F0 i0 s0 g0 H0 (f d s) D := by
  unfold Ev.get Ev.lift at h
  cases e : o.look s with
  | none =>
    simp only [e] at h
    exact h.elim
  | some d =>
    simp only [e] at h
    exact ⟨d, rfl, h⟩
theorem AftS.opt {α : Type} {o : Option α} {f : α → SM} (h : AftS K T W F0 i0 s0 g0 H0 (Ev.lift (Ev.opt o) f s) D) : ∃ a, o = some a ∧ AftS K T W F0 i0 s0 g0 H0 (f a s) D := by
  cases o with
  | none => exact h.elim
  | some a => exact ⟨a, rfl, h⟩
omit [ClsTab] in
theorem Step.es {F1 H1 : Hp} {i1 : List Addr} {s1 : S} (t : Step F0 i0 s0 g0 H0 F ι s σ H) (e : EStep F ι s σ H F1 i1 s1 H1) : Step F0 i0 s0 g0 H0 F1 i1 s1 σ H1 := t.trans e.toStep
/-- keeping, the origin being elsewhere -/
theorem keep_at {Fr : Addr → Prop} {o : Out} {v : V} {s1 : S} {x : Ev.D} (R : Rel K F ι s σ H) (t : Step F0 i0 s0 g0 H0 F ι s σ H) (r : ROut K Fr F ι s σ H o v) (hf : ∀ a, Fr a → Fresh s0 g0 i0 H0 a) (e : Ev.keep o s = .ok x s1) :
    ∃ F1, Step F0 i0 s0 g0 H0 F1 ι s1 σ H ∧ Rel K F1 ι s1 σ H ∧ RD K F1 x v ∧ (∀ i, OD s.env i → OD s1.env i) ∧ Same F F1 := by
  cases o with
  | new y =>
    cases e
    obtain ⟨a, o, rfl, h, r, f, n, fr⟩ := r
    obtain ⟨ff, R1, rd⟩ := freeze_new R h r f n
    refine ⟨_, ⟨t.ff.trans ff, t.ii, t.keep, t.own, fun b z q => ?_⟩, R1, rd, fun _ h => h, ff⟩
    by_cases hb : b = a
    · subst hb
      exact .inr (hf _ fr)
    · rw [upd_ne hb] at q
      exact t.fro b z q
  | d y =>
    cases e
    exact ⟨F, t, R, r, fun _ h => h, .refl _⟩
  | ref k =>
    have r' : ROut K (Fresh s σ ι H) F ι s σ H (.ref k) v := r
    obtain ⟨F1, t1, R1, rd⟩ := keep_ok R (.refl ..) r' e
    exact ⟨F1, t.trans t1.toStep, R1, rd, t1.od, t1.ff⟩
  | own i =>
    have r' : ROut K (Fresh s σ ι H) F ι s σ H (.own i) v := r
    obtain ⟨F1, t1, R1, rd⟩ := keep_ok R (.refl ..) r' e
    exact ⟨F1, t.trans t1.toStep, R1, rd, t1.od, t1.ff⟩
theorem AftS.keep {Fr : Addr → Prop} {o : Out} {v : V} {f : Ev.D → SM} (h : AftS K T W F0 i0 s0 g0 H0 (Ev.lift (Ev.keep o) f s) D) (R : Rel K F ι s σ H) (t : Step F0 i0 s0 g0 H0 F ι s σ H) (r : ROut K Fr F ι s σ H o v) (hf : ∀ a, Fr a → Fresh s0 g0 i0 H0 a) :
    ∃ x s1 F1, Step F0 i0 s0 g0 H0 F1 ι s1 σ H ∧ Rel K F1 ι s1 σ H ∧ RD K F1 x v ∧ (∀ i, OD s.env i → OD s1.env i) ∧ Same F F1 ∧ AftS K T W F0 i0 s0 g0 H0 (f x s1) D := by
  unfold Ev.lift at h
  cases e : Ev.keep o s with
  | ok x s1 =>
    rw [e] at h
    obtain ⟨F1, t1, R1, rd, od, ff⟩ := keep_at R t r hf e
    exact ⟨x, s1, F1, t1, R1, rd, od, ff, h⟩
  | exc x s1 => exact absurd e keep_exc
  | bad =>
    rw [e] at h
    exact h.elim
/-- x = what came -/
theorem store_aft {Fr : Addr → Prop} {i : Nat} {o : Out} {v : V} (h : AftS K T W F0 i0 s0 g0 H0 (store i o s) D) (R : Rel K F ι s σ H) (t : Step F0 i0 s0 g0 H0 F ι s σ H) (r : ROut K Fr F ι s σ H o v) (hf : ∀ a, Fr a → Fresh s0 g0 i0 H0 a) : D.nx (σ.set i (some v)) H := by
  cases o with
  | d x =>
    obtain ⟨R1, t1⟩ := set_slot (i := i) (x := .d x) (v := v) R t r trivial
    exact h _ _ _ _ t1 R1
  | ref k =>
    obtain ⟨R1, t1⟩ := set_slot (i := i) (x := .ref k) (v := v) R t r trivial
    exact h _ _ _ _ t1 R1
  | new x =>
    obtain ⟨a, u, rfl, hu, ru, f, n, fr⟩ := r
    obtain ⟨R1, t1⟩ := set_slot (i := i) (x := .own x) (v := .ref a) R t ⟨a, u, rfl, hu, ru, f⟩ fun b e => by
      cases e
      exact ⟨n, hf _ fr⟩
    exact h _ _ _ _ t1 R1
  | own j =>
    obtain ⟨x, s1, F1, t1, R1, rd, _, _, h1⟩ := AftS.keep (f := fun x s => .next { s with env := s.env.set i (some (.d x)) }) h R t r hf
    obtain ⟨R2, t2⟩ := set_slot (i := i) (x := .d x) (v := v) R1 t1 rd trivial
    exact h1 _ _ _ _ t2 R2
end
section
variable {X : Cx} {T : CT} {W : WX} {pos : Pos} {e : Expr} {m : EM Out}
theorem s_nil : PSs X [] (tS X.K T W skip) := pss_nil.imp fun D σ H ⟨F, ι, s, R, A⟩ => A F ι σ H (.refl ..) R
theorem s_pass : PS X (.Pass pos) (tS X.K T W skip) := ps_pass.imp fun D σ H ⟨F, ι, s, R, A⟩ => A F ι σ H (.refl ..) R
theorem s_doc {x j p2} : PS X (.Expr (.Constant (.str x) j pos) p2) (tS X.K T W skip) := ps_doc.imp fun D σ H ⟨F, ι, s, R, A⟩ => A F ι σ H (.refl ..) R
theorem s_brk : PS X (.Break pos) (tS X.K T W sBrk) := ps_break.imp fun D σ H ⟨F, ι, s, R, A⟩ => A F ι σ H (.refl ..) R
theorem s_cont : PS X (.Continue pos) (tS X.K T W sCont) := ps_continue.imp fun D σ H ⟨F, ι, s, R, A⟩ => A F ι σ H (.refl ..) R
theorem s_retN : PS X (.Return none pos) (tS X.K T W sRetN) := ps_retN.imp fun D σ H ⟨F, ι, s, R, A⟩ => A F ι σ H .non (.refl ..) R .non
theorem s_cons {st : Stmt} {rest : List Stmt} {a b : SM} (h1 : PS X st (tS X.K T W a)) (h2 : PSs X rest (tS X.K T W b)) : PSs X (st :: rest) (tS X.K T W (seq a b)) :=
  (pss_cons h1 h2).imp fun D σ H ⟨F, ι, s, R, A⟩ => by
    refine ⟨F, ι, s, R, ?_⟩
    unfold seq at A
    cases e : a s with
    | next s' =>
      simp only [e] at A
      exact fun F' ι' σ' H' t R' => ⟨F', ι', s', R', A.from t⟩
    | brk s' => rw [e] at A; exact A
    | cont s' => rw [e] at A; exact A
    | ret o s' => rw [e] at A; exact A
    | exc x s' => rw [e] at A; exact A
    | bad => rw [e] at A; exact A
theorem s_expr (he : PE X e (tE X.K T W m)) (hs : swapsWith e none pos.line X.env = pure false) : PS X (.Expr e pos) (tS X.K T W (sExpr m)) :=
  (ps_expr he hs).imp fun D σ H ⟨F, ι, s, R, A⟩ => ⟨F, ι, s, R, A.lift (.refl ..) fun o s1 F1 i1 H1 v _ t R1 r1 A1 => A1 F1 i1 σ H1 t.toStep R1⟩
theorem s_ret (he : PE X e (tE X.K T W m)) : PS X (.Return (some e) pos) (tS X.K T W (sRet m)) :=
  (ps_ret he).imp fun D σ H ⟨F, ι, s, R, A⟩ => ⟨F, ι, s, R, A.lift (.refl ..) fun o s1 F1 i1 H1 v _ t R1 r1 A1 => A1 F1 i1 σ H1 v t.toStep R1 r1⟩
theorem s_if {c : Expr} {a b : List Stmt} {mc : EM Bool} {ma mb : SM} (hc : PT X c (tB X.K T W mc)) (ha : PSs X a (tS X.K T W ma)) (hb : PSs X b (tS X.K T W mb)) : PS X (.If c a b pos) (tS X.K T W (sIf mc ma mb)) :=
  (ps_if hc ha hb).imp fun D σ H ⟨F, ι, s, R, A⟩ => ⟨F, ι, s, R, A.lift (.refl ..) fun o s1 F1 i1 H1 v _ t R1 r1 A1 => by
    cases r1
    cases o with
    | true => exact iteT ⟨F1, i1, s1, R1, by simpa using A1.from t.toStep⟩
    | false => exact iteF ⟨F1, i1, s1, R1, by simpa using A1.from t.toStep⟩⟩
theorem s_set {i : Nat} {x : Str} {p2 : Pos} (hN : X.N.Nodup) (hi : X.N[i]? = some x) (hx : Loc X.env.scope x) (he : PE X e (tE X.K T W m)) (hs : swapsWith e (some (.Name x p2)) pos.line X.env = pure false) (hf : X.fn x = true ∨ X.env.scope.names.lookup x = some .local) :
    PS X (.Assign [.Name x p2] e pos) (tS X.K T W (sSet i m)) :=
  (ps_set hN hi hx he hs hf).imp fun D σ H ⟨F, ι, s, R, A⟩ => ⟨F, ι, s, R, A.lift (.refl ..) fun o s1 F1 i1 H1 v _ t R1 r1 A1 => store_aft A1 R1 t.toStep r1 fun _ h => h⟩
theorem s_cel {i : Nat} {x : Str} {p2 : Pos} (hN : X.N.Nodup) (hi : X.N[i]? = some x) (hx : Loc X.env.scope x) (he : PE X e (tE X.K T W m)) (hs : swapsWith e (some (.Name x p2)) pos.line X.env = pure false) (hf : X.fn x = true ∨ X.env.scope.names.lookup x = some .local) :
    PS X (.Assign [.Name x p2] e pos) (tS X.K T W (sCel i m)) :=
  (ps_set hN hi hx he hs hf).imp fun D σ H ⟨F, ι, s, R, A⟩ => ⟨F, ι, s, R, A.lift (.refl ..) fun o s1 F1 i1 H1 v _ t R1 r1 A1 => by
    cases o with
    | new x =>
      obtain ⟨a, u, rfl, hu, ru, f, n, fr⟩ := r1
      obtain ⟨R2, t2⟩ := new_cell R1 t.toStep hu ru f n fr
      obtain ⟨R3, t3⟩ := set_slot (i := i) (x := .ref s1.mem.length) (v := .ref a) R2 t2 ⟨a, by rw [← R1.len]; simp, rfl⟩ trivial
      exact A1 _ _ _ _ t3 R3
    | d x => exact store_aft (o := .d x) A1 R1 t.toStep r1 fun _ h => h
    | ref x => exact store_aft (o := .ref x) A1 R1 t.toStep r1 fun _ h => h
    | own x => exact store_aft (o := .own x) A1 R1 t.toStep r1 fun _ h => h⟩
end
end Ev

set_option Elab.async false
set_option linter.all false
set_option autoImplicit false
set_option maxHeartbeats 1000000
/-! Ev, part Q: targets; pairs; items stored. -/
namespace Ev
variable [ClsTab]
open PySem PySem.Spec PyProof.Rows L2
def gAll : List Nat → TGs
  | [] => gNil
  | i :: is => gCons (gName i) (gAll is)
def Tg.g (K : PySem.W.Frag) : Tg → TG
  | .one i => gName i
  | .many is => gTup K is.length (gAll is)
section
variable {K : PySem.W.Frag} {T : CT} {W : WX} {F H F0 H0 : Hp} {ι i0 : List Addr} {s s0 : S} {σ g0 : L2.St}
theorem all_put : ∀ {is : List Nat} {xs : List Ev.D} {vs : List V} {s : S} {σ : L2.St} {e : Slots} {Q : L2.St → Hp → Prop}, Rel K F ι s σ H → Step F0 i0 s0 g0 H0 F ι s σ H → RDs K F xs vs → setAll is xs s.env = some e →
    (∀ σ', Rel K F ι { s with env := e } σ' H → Step F0 i0 s0 g0 H0 F ι { s with env := e } σ' H → Q σ' H) → gAll is vs σ H Q
  | [], [], _, s, σ, e, Q, R, t, .nil, h, q => by
    cases h
    exact ⟨rfl, q σ R t⟩
  | i :: is, x :: xs, _, s, σ, e, Q, R, t, .cons r rs, h, q => by
    obtain ⟨R1, t1⟩ := set_slot (i := i) (x := .d x) R t r trivial
    exact ⟨_, _, rfl, all_put R1 t1 rs (by simpa [setAll] using h) q⟩
  | [], _ :: _, _, _, _, _, _, _, _, _, h, _ => by cases h
  | _ :: _, [], _, _, _, _, _, _, _, _, h, _ => by cases h
theorem tg_put {tg : Tg} {x : Ev.D} {v : V} {e : Slots} {Q : L2.St → Hp → Prop} (R : Rel K F ι s σ H) (t : Step F0 i0 s0 g0 H0 F ι s σ H) (r : RD K F x v) (h : tg.put x s.env = some e)
    (q : ∀ σ', Rel K F ι { s with env := e } σ' H → Step F0 i0 s0 g0 H0 F ι { s with env := e } σ' H → Q σ' H) : tg.g K v σ H Q := by
  cases tg with
  | one i =>
    cases h
    obtain ⟨R1, t1⟩ := set_slot (i := i) (x := .d x) R t r trivial
    exact q _ R1 t1
  | many is =>
    cases x <;> first | (cases h; done) | skip
    rename_i xs
    obtain ⟨a, vs, rfl, ha, rs⟩ := View.tup R.sub (.inl r)
    have hl : ∀ {is : List Nat} {xs : List Ev.D} {e0 e : Slots}, setAll is xs e0 = some e → xs.length = is.length := by
      intro is
      induction is with
      | nil => intro xs e0 e h; cases xs <;> first | rfl | cases h
      | cons i is ih =>
        intro xs e0 e h
        cases xs with
        | nil => cases h
        | cons x xs => simp only [List.length_cons]; rw [ih (by simpa [setAll] using h)]
    exact ⟨a, vs, rfl, ha, by rw [← rs.length]; exact hl h, all_put R t rs h q⟩
omit [ClsTab] in
theorem setD_some {d k v d' : Ev.D} (h : setD d k v = some d') : ∃ xs i j, d = .lst xs ∧ k = .int i ∧ ixN xs.length i = some j ∧ d' = .lst (xs.set j v) := by
  unfold setD at h
  split at h
  · obtain ⟨j, hj, rfl⟩ := Option.map_eq_some_iff.mp h
    exact ⟨_, _, j, rfl, rfl, hj, rfl⟩
  · cases h
end
section
variable {X : Cx} {T : CT} {W : WX} {pos : Pos} {e : Expr} {m : EM Out}
theorem s_unp {tg : Tg} {te : Expr} (hg : PG X te (tg.g X.K)) (he : PE X e (tE X.K T W m)) (hs : swapsWithSole [te] e pos.line X.env = pure false) (hw : swappedStores [te] e X.env = pure none) (h1 : (assignEach [te] X.env).map (·.2) = [assign te X.env]) :
    PS X (.Assign [te] e pos) (tS X.K T W (sUnp tg m)) :=
  (ps_asg he hg hs hw h1).imp fun D σ H ⟨F, ι, s, R, A⟩ => ⟨F, ι, s, R, A.lift (.refl ..) fun o s1 F1 i1 H1 v _ t R1 r1 A1 => by
    obtain ⟨x, s2, F2, t2, R2, rd, _, _, A2⟩ := A1.keep R1 t.toStep r1 fun _ h => h
    cases q : tg.put x s2.env with
    | none =>
      simp only [q] at A2
      exact A2.elim
    | some e2 =>
      simp only [q] at A2
      exact tg_put R2 t2 rd q fun σ' R3 t3 => A2 _ _ _ _ t3 R3⟩
/-! o[i] = e -/
theorem s_put {o i : Expr} {p2 : Pos} {mo mi : EM Out} (ho : PE X o (tE X.K T W mo)) (hi : PE X i (tE X.K T W mi)) (he : PE X e (tE X.K T W m)) (hs : swapsWithSole [.Subscript o i p2] e pos.line X.env = pure false) (hw : swappedStores [.Subscript o i p2] e X.env = pure none)
    (h1 : (assignEach [.Subscript o i p2] X.env).map (·.2) = [assign (.Subscript o i p2) X.env])
    (ha : ∀ v, assign (.Subscript o i p2) X.env v = (do
      let ov ← holding [v] (eval o X.env)
      let iv ← holding [v, ov] (eval i X.env)
      standAt p2
      holding [v, ov, iv] (setItem ov iv v)
      release [v, ov, iv] [])) : PS X (.Assign [.Subscript o i p2] e pos) (tS X.K T W (sPut mo mi m)) :=
  (ps_asg he (pg_sub ho hi set_list ha) hs hw h1).imp fun D σ H ⟨F, ι, s, R, A⟩ => ⟨F, ι, s, R, A.lift (.refl ..) fun y s1 F1 i1 H1 v _ t R1 r1 A1 => by
    obtain ⟨x, s2, F2, t2, R2, rd, _, _, A2⟩ := A1.keep R1 t.toStep r1 fun _ h => h
    refine ⟨F2, i1, s2, R2, A2.lift t2 fun o3 s3 F3 i3 H3 v3 _ t3 R3 r3 A3 => ⟨F3, i3, s3, R3, A3.lift (t2.es t3) fun o4 s4 F4 i4 H4 v4 _ t4 R4 r4 A4 => ?_⟩⟩
    obtain ⟨kd, e4, A5⟩ := A4.get
    have r34 := r3.step t4
    unfold Ev.lift at A5
    cases ep : putIn o3 (fun u => setD u kd x) s4 with
    | bad => rw [ep] at A5; exact A5.elim
    | exc x s5 => exact absurd ep put_exc
    | ok w s5 =>
      rw [ep] at A5
      obtain ⟨a, d, d', u, rfl, e5, e6, hu, ru, hput⟩ := put_ok R4 r34 ep
      obtain ⟨xs, k, j, rfl, rfl, hj, rfl⟩ := setD_some e6
      obtain ⟨ws, rfl, rw5⟩ := ru
      refine ⟨a, ws, k, j, rfl, (r4.view R4 e4).int, hu, by rw [← rw5.length]; exact hj, ?_⟩
      obtain ⟨R6, t6⟩ := hput (.lst (ws.set j v)) ⟨_, rfl, rw5.set (rd.mono (t3.ff.trans t4.ff)) j⟩
      exact A5 _ _ _ _ (((t2.es t3).es t4).es t6) R6⟩
/-! op= -/
def rIn (K : PySem.W.Frag) (op : BOp) : R2 := fun x y H Q => ∃ F d e z, View K F H d x ∧ View K F H e y ∧ op.inp d e = some z ∧ ∀ v, RD K F z v → Q v H
theorem i_all (op : BOp) : OpR X (inplaceOp (bOf op)) (Ev.rIn X.K op) := by
  intro pins s σ H x y v u Q I rx ry ⟨F, d, e, z, vx, vy, h, q⟩
  unfold BOp.inp at h
  split at h
  · cases h
    exact iop_add pins s σ H x y v u Q I rx ry ⟨_, _, vx.int, vy.int, q _ (.int _)⟩
  · cases h
    exact iop_sub pins s σ H x y v u Q I rx ry ⟨_, _, vx.int, vy.int, q _ (.int _)⟩
  · split at h <;> cases h
    rename_i hl
    exact iop_add_str pins s σ H x y v u Q I rx ry ⟨_, _, vx.str.1, vy.str.1, lim_line hl, q _ (.str _ (strOk_append vx.str.2 vy.str.2))⟩
  · cases h
theorem inp_view {K : PySem.W.Frag} {F F' H H' : Hp} {op : BOp} {d e z : Ev.D} {v : V} (h : op.inp d e = some z) (vw : View K F H d v) : View K F' H' d v := by
  unfold BOp.inp at h
  split at h <;> first | (cases h; done) | skip
  · cases vw.int
    exact .inl (.int _)
  · cases vw.int
    exact .inl (.int _)
  · cases vw.str.1
    exact .inl (.str _ vw.str.2)
theorem s_aug {op : BOp} {i : Nat} {x : Str} {p2 : Pos} (hN : X.N.Nodup) (hi : X.N[i]? = some x) (hx : Loc X.env.scope x) (he : PE X e (tE X.K T W m)) (hf : X.fn x = true ∨ X.env.scope.names.lookup x = some .local) : PS X (.AugAssign (.Name x p2) (bOf op) e pos) (tS X.K T W (sAug op i m)) :=
  (ps_aug hN hi hx he (i_all op) hf).imp fun D σ H ⟨F, ι, s, R, A⟩ => by
    unfold sAug Ev.lift at A
    cases ev : var i s with
    | bad => rw [ev] at A; exact A.elim
    | exc x s1 =>
      unfold var at ev
      split at ev <;> cases ev
    | ok o s1 =>
      rw [ev] at A
      have key : s1 = s ∧ ∃ v, σ[i]? = some (some v) ∧ ROut X.K (fun _ => True) F ι s σ H o v := by
        unfold var at ev
        split at ev
        · rename_i x e
          cases ev
          obtain ⟨v, e2, r⟩ := R.env i _ e
          exact ⟨rfl, v, e2, r⟩
        · rename_i k e
          cases ev
          obtain ⟨v, e2, r⟩ := R.env i _ e
          exact ⟨rfl, v, e2, r⟩
        · rename_i x e
          cases ev
          obtain ⟨v, e2, r⟩ := R.env i _ e
          exact ⟨rfl, v, e2, e2, .inr ⟨x, e⟩⟩
        · cases ev
      obtain ⟨rfl, v, e2, r⟩ := key
      obtain ⟨d, e3, A2⟩ := AftS.get A
      refine ⟨v, e2, F, ι, s1, R, A2.lift (.refl ..) fun y s2 F2 i2 H2 w _ t2 R2 r2 A3 => ?_⟩
      obtain ⟨d2, e4, A4⟩ := A3.get
      obtain ⟨z, e5, A5⟩ := A4.opt
      refine ⟨F2, d, d2, z, inp_view e5 (r.view R e3), r2.view R2 e4, e5, fun v' rv => ?_⟩
      obtain ⟨R3, t3⟩ := set_slot (i := i) (x := .d z) R2 t2.toStep rv trivial
      exact A5 _ _ _ _ t3 R3
omit [ClsTab] in
theorem get_list : PGet X (fun o i H Q => ∃ a ws k w, o = .ref a ∧ i = .int k ∧ H a = some (.lst ws) ∧ L2.atI ws k = some w ∧ Q w H) := by
  intro pins s σ H o i ov iv Q I ro ri ⟨a, ws, k, w, eo, ei, ha, hw, q⟩
  subst eo ei
  cases ro
  obtain ⟨t, rfl⟩ := ri
  obtain ⟨its, n, r, ho, hz⟩ := I.lst ha
  obtain ⟨j, b1, b2, b3, b4, b5⟩ := atI_get hw
  obtain ⟨u, eu, ru⟩ := r.get b2
  have len := r.length
  have big := line63
  have pl : s.heap.IsList a its.toArray := ⟨_, ho, rfl, n, rfl⟩
  have fin : EP X pins σ Q u s := ⟨w, H, I, ru, q⟩
  by_cases h0 : 0 ≤ k
  · have hj : k.toNat = j := Option.some.inj ((seqIndex_of h0 b5).symm.trans b1)
    exact wpAny_getItem_list pl h0 (by omega) (by rw [hj]; simpa using eu) fin
  · have hj : (k + (its.toArray.size : Int)).toNat = j := by
      rw [List.size_toArray, ← len]
      exact Option.some.inj ((seqIndex_neg (by omega) b4).symm.trans b1)
    exact wpAny_getItem_list_neg pl (by omega) (by rw [List.size_toArray]; omega) (by omega) (by rw [hj]; simpa using eu) fin
omit [ClsTab] in
theorem idxL_some {d k w : Ev.D} (h : idxL d k = some w) : ∃ xs i, d = .lst xs ∧ k = .int i ∧ L2.atI xs i = some w := by
  unfold idxL at h
  split at h
  · exact ⟨_, _, rfl, rfl, h⟩
  · cases h
theorem s_augI {op : BOp} {o i : Expr} {p2 : Pos} {mo mi : EM Out} (ho : PE X o (tE X.K T W mo)) (hi : PE X i (tE X.K T W mi)) (he : PE X e (tE X.K T W m))
    (ha : ∀ ov iv new, augStore i ov iv new = (do holding [new, ov, iv] (setItem ov iv new); release [new, ov, iv] []; pure .next)) : PS X (.AugAssign (.Subscript o i p2) (bOf op) e pos) (tS X.K T W (sAugI op mo mi m)) :=
  (ps_augS ho hi get_list he (i_all op) set_list ha).imp fun D σ H ⟨F, ι, s, R, A⟩ => ⟨F, ι, s, R, A.lift (.refl ..) fun x s1 F1 i1 H1 v1 _ t1 R1 r1 A1 => ⟨F1, i1, s1, R1, A1.lift t1.toStep fun k s2 F2 i2 H2 v2 _ t2 R2 r2 A2 => by
    obtain ⟨d, e1, A3⟩ := A2.get
    obtain ⟨kd, e2, A4⟩ := A3.get
    obtain ⟨w, e3, A5⟩ := A4.opt
    obtain ⟨xs, i, rfl, rfl, hw⟩ := idxL_some e3
    obtain ⟨a, ws, rfl, ha2, ra⟩ := (r1.step t2).view R2 e1 |>.lst R2.sub
    obtain ⟨wv, hv, rv⟩ := ra.atI hw
    have ei := (r2.view R2 e2).int
    subst ei
    refine ⟨a, ws, i, wv, rfl, rfl, ha2, hv, F2, i2, s2, R2, A5.lift (t1.toStep.es t2) fun y s3 F3 i3 H3 v3 _ t3 R3 r3 A6 => ?_⟩
    obtain ⟨d3, e4, A7⟩ := A6.get
    obtain ⟨z, e5, A8⟩ := A7.opt
    refine ⟨F3, w, d3, z, inp_view e5 (.inl (rv.mono t3.ff) : View X.K F3 H3 w wv), r3.view R3 e4, e5, fun v' rz => ?_⟩
    have r13 := (r1.step t2).step t3
    unfold Ev.lift at A8
    cases ep : putIn x (fun u => setD u (.int i) z) s3 with
    | bad => rw [ep] at A8; exact A8.elim
    | exc x s5 => exact absurd ep put_exc
    | ok q s5 =>
      rw [ep] at A8
      obtain ⟨a', d, d', u, ea, e6, e7, hu, ru, hput⟩ := put_ok R3 r13 ep
      cases ea
      obtain ⟨ys, k, j, rfl, ek, hj, rfl⟩ := setD_some e7
      cases ek
      obtain ⟨us, rfl, ru⟩ := ru
      refine ⟨a, us, i, j, rfl, rfl, hu, by rw [← ru.length]; exact hj, ?_⟩
      obtain ⟨R6, t6⟩ := hput (.lst (us.set j v')) ⟨_, rfl, ru.set rz j⟩
      exact A8 _ _ _ _ (((t1.toStep.es t2).es t3).es t6) R6⟩⟩
end
end Ev

set_option Elab.async false
set_option linter.all false
set_option autoImplicit false
set_option maxHeartbeats 1000000
/-! Ev, part R: walks, loops, pairs. -/
namespace Ev
variable [ClsTab]
open PySem PySem.Spec PyProof.Rows L2
/-- the iterator J yields these trees -/
def Steps (K : PySem.W.Frag) (F : Hp) (J : It) (ds : List Ev.D) : Prop := ∀ i F1 H, Same F F1 → Same F1 H → (ds.length ≤ i → J.stop i H) ∧ ∀ d, ds[i]? = some d → J.go i H ∧ ∀ x H', J.yld i H x H' → ∃ F2, More F1 H F2 H' ∧ RD K F2 d x
abbrev RIt (K : PySem.W.Frag) : RT (List Ev.D) It := fun _ F _ _ _ _ ds J => Steps K F J ds
instance (K : PySem.W.Frag) : Mono (RIt K) := ⟨fun _ r => r⟩
def tI (K : PySem.W.Frag) (T : CT) (W : WX) (m : EM (List Ev.D)) : TI := fun σ H Q => ∃ F ι s, Rel K F ι s σ H ∧ Aft K T W (RIt K) F ι s σ H (m s) Q
theorem Steps.mono {K : PySem.W.Frag} {F F' : Hp} {J : It} {ds : List Ev.D} (h : Steps K F J ds) (e : Same F F') : Steps K F' J ds := fun i F1 H a b => h i F1 H (e.trans a) b
section
variable {K : PySem.W.Frag} {F : Hp}
theorem steps_lst {a : Addr} {vs : List V} {ds : List Ev.D} (h : F a = some (.lst vs)) (r : RDs K F ds vs) : Steps K F (Itl K a) ds := fun i F1 H e e2 => by
  have hq : SqL K H a vs := .of (e2 _ _ (e _ _ h))
  refine ⟨fun hl => ⟨vs, hq, by rw [← r.length]; exact hl⟩, fun d hd => ?_⟩
  obtain ⟨v, h1, h2⟩ := r.get hd
  refine ⟨⟨vs, v, hq, h1⟩, fun x H' ⟨e3, y⟩ => ?_⟩
  subst e3
  have := y vs hq
  rw [h1] at this
  cases this
  exact ⟨F1, .refl e2, h2.mono e⟩
theorem steps_tup {a : Addr} {vs : List V} {ds : List Ev.D} (h : SqT K F a vs) (r : RDs K F ds vs) : Steps K F (Itt K a) ds := fun i F1 H e e2 => by
  have hq : SqT K H a vs := Same.seqT (e.trans e2) h
  refine ⟨fun hl => ⟨vs, hq, by rw [← r.length]; exact hl⟩, fun d hd => ?_⟩
  obtain ⟨v, h1, h2⟩ := r.get hd
  refine ⟨⟨vs, v, hq, h1⟩, fun x H' ⟨e3, y⟩ => ?_⟩
  subst e3
  have := y vs hq
  rw [h1] at this
  cases this
  exact ⟨F1, .refl e2, h2.mono e⟩
theorem steps_str {z : Str} (ok : PyData.strOk z = true) : Steps K F (Its z) (z.cps.toList.map fun c => .str ⟨#[c]⟩) := fun i F1 H e e2 => by
  refine ⟨fun hl => by simpa [Its] using hl, fun d hd => ?_⟩
  rw [List.getElem?_map] at hd
  obtain ⟨c, hc, rfl⟩ := Option.map_eq_some_iff.mp hd
  have hc2 : z.cps[i]? = some c := by simpa using hc
  refine ⟨(Array.getElem?_eq_some_iff.mp hc2).1, fun x H' ⟨e3, c', h1, h2⟩ => ?_⟩
  subst e3
  rw [hc2] at h1
  cases h1
  subst h2
  exact ⟨F1, .refl e2, .str _ (ok_cps (l := [c]) fun c' h' => by
    rw [List.mem_singleton.mp h']
    exact cps_ok ok c (List.mem_of_getElem? hc))⟩
theorem steps_rng {lo : Int} {n : Nat} : Steps K F (Itr lo n) (upto lo n) := fun i F1 H e e2 => by
  refine ⟨fun hl => by simpa [Itr, upto] using hl, fun d hd => ?_⟩
  unfold upto at hd
  rw [List.getElem?_map] at hd
  obtain ⟨c, hc, rfl⟩ := Option.map_eq_some_iff.mp hd
  obtain ⟨h1, h2⟩ := List.getElem?_eq_some_iff.mp hc
  simp at h1 h2
  subst h2
  refine ⟨h1, fun x H' ⟨e3, e4⟩ => ?_⟩
  subst e3 e4
  exact ⟨F1, .refl e2, .int _⟩
theorem steps_enum {a : Addr} {vs : List V} {ds : List Ev.D} (h : F a = some (.lst vs)) (r : RDs K F ds vs) : Steps K F (Ite K a) (ds.zipIdx.map fun p => .tup [.int p.2, p.1]) := fun i F1 H e e2 => by
  have hq : SqL K H a vs := .of (e2 _ _ (e _ _ h))
  refine ⟨fun hl => ⟨vs, hq, by rw [← r.length]; simpa using hl⟩, fun d hd => ?_⟩
  rw [List.getElem?_map] at hd
  obtain ⟨p, hp, rfl⟩ := Option.map_eq_some_iff.mp hd
  rw [List.getElem?_zipIdx] at hp
  obtain ⟨d, hd2, rfl⟩ := Option.map_eq_some_iff.mp hp
  obtain ⟨v, h1, h2⟩ := r.get hd2
  refine ⟨⟨vs, v, hq, h1⟩, fun x H' ⟨t, y, e3, n, e4, q⟩ => ?_⟩
  have := q vs hq
  rw [h1] at this
  cases this
  subst e3 e4
  refine ⟨_, More.both e2 n, .tup (.of upd_same) (.cons ?_ (.cons ((h2.mono e).mono (same_upd (F_none e2 n))) .nil))⟩
  have : (0 : Nat) + i = i := by omega
  simp only [this]
  exact .int _
theorem steps_zip {a b : Addr} {vs us : List V} {ds es : List Ev.D} (h : F a = some (.lst vs)) (r : RDs K F ds vs) (h' : F b = some (.lst us)) (r' : RDs K F es us) : Steps K F (Itz K a b) ((ds.zip es).map fun p => .tup [p.1, p.2]) := fun i F1 H e e2 => by
  have hq : SqL K H a vs := .of (e2 _ _ (e _ _ h))
  have hq' : SqL K H b us := .of (e2 _ _ (e _ _ h'))
  refine ⟨fun hl => ⟨vs, us, hq, hq', ?_⟩, fun d hd => ?_⟩
  · rw [← r.length, ← r'.length]
    simp at hl
    omega
  · rw [List.getElem?_map] at hd
    obtain ⟨p, hp, rfl⟩ := Option.map_eq_some_iff.mp hd
    obtain ⟨p1, p2⟩ := p
    have z1 : ds[i]? = some p1 ∧ es[i]? = some p2 := List.getElem?_zip_eq_some.mp hp
    obtain ⟨v, h1, h2⟩ := r.get z1.1
    obtain ⟨u, h3, h4⟩ := r'.get z1.2
    refine ⟨⟨vs, us, v, u, hq, hq', h1, h3⟩, fun x H' ⟨t, y, y2, e3, n, e4, q, q2⟩ => ?_⟩
    have t1 := q vs hq
    have t2 := q2 us hq'
    rw [h1] at t1
    rw [h3] at t2
    cases t1
    cases t2
    subst e3 e4
    exact ⟨_, More.both e2 n, .tup (.of upd_same) (.cons ((h2.mono e).mono (same_upd (F_none e2 n))) (.cons ((h4.mono e).mono (same_upd (F_none e2 n))) .nil))⟩
end
section
variable {X : Cx} {T : CT} {W : WX} {pos : Pos} {tg e : Expr} {m : EM Out}
/-- a list, a tuple or a text, as it stands at its begin -/
theorem i_seq (he : PE X e (tE X.K T W m)) : PI X tg e (tI X.K T W (seqE m)) := ⟨fun pins s σ H R I ⟨F, ι, s0, Rl, A⟩ => by
  -- what comes is known ahead
  cases hm : m s0 with
  | bad =>
    unfold seqE EM.bind at A
    rw [hm] at A
    exact A.elim
  | exc x s1 =>
    refine (pi_list he).run pins s σ H R I ⟨F, ι, s0, Rl, ?_⟩
    unfold seqE EM.bind at A
    rw [hm] at A ⊢
    exact A
  | ok o s1 =>
    cases hk : keep o s1 with
    | bad =>
      unfold seqE EM.bind at A
      simp only [hm, EM.bind, hk] at A
      exact A.elim
    | exc x s2 => exact absurd hk keep_exc
    | ok d s2 =>
      have A2 : Aft X.K T W (RIt X.K) F ι s0 σ H (Ev.opt (walkD d) s2) R := by
        unfold seqE EM.bind at A
        simp only [hm, EM.bind, hk] at A
        exact A
      obtain ⟨ds, e1, A3⟩ := A2.opt
      have base : ∀ {Q : VK}, (∀ F1 i1 H1 v, Rel X.K F1 i1 s2 σ H1 → EStep F ι s0 σ H F1 i1 s2 H1 → RD X.K F1 d v → Q v H1) → tE X.K T W m σ H Q := fun {Q} q => by
        refine ⟨F, ι, s0, Rl, ?_⟩
        rw [hm]
        intro F1 i1 H1 v t R1 r1
        obtain ⟨F2, t2, R2, rd⟩ := keep_ok R1 t r1 hk
        exact q F2 i1 H1 v R2 t2 rd
      unfold walkD at e1
      split at e1
      · cases e1
        refine (pi_tup he).run pins s σ H R I (base fun F1 i1 H1 v R1 t1 rd => ?_)
        cases rd with
        | tup h r => exact ⟨_, rfl, ⟨_, Same.seqT R1.sub h⟩, A3 F1 i1 H1 _ t1 R1 (steps_tup h r)⟩
      · cases e1
        refine (pi_list he).run pins s σ H R I (base fun F1 i1 H1 v R1 t1 rd => ?_)
        cases rd with
        | lst h r => exact ⟨_, rfl, ⟨_, .of (R1.sub _ _ h)⟩, A3 F1 i1 H1 _ t1 R1 (steps_lst h r)⟩
      · cases e1
        refine (pi_str he).run pins s σ H R I (base fun F1 i1 H1 v R1 t1 rd => ?_)
        cases rd with
        | str _ ok => exact ⟨_, rfl, A3 F1 i1 H1 _ t1 R1 (steps_str ok)⟩
      · cases e1⟩
/-- what is kept is known ahead: the walk's form hangs on it -/
theorem i_keeps {ms : List (EM Out)} {g : List Ev.D → Option (List Ev.D)} {σ : L2.St} {H : Hp} {R : It → Hp → Prop} {t : TI}
    (h : tI X.K T W ((keeps ms).bind fun us => Ev.opt (g us)) σ H R)
    (k : (∃ F ι s, Rel X.K F ι s σ H ∧ ∃ x s1, keeps ms s = .exc x s1 ∧ Aft X.K T W (RIt X.K) F ι s σ H (.exc x s1) R) ∨
      (∃ us ds, g us = some ds ∧ ∀ Q : List V → Hp → Prop, (∀ F1 H1 vs, Same F1 H1 → RDs X.K F1 us vs → (∀ J, Steps X.K F1 J ds → R J H1) → Q vs H1) → tM X.K T W (RDL X.K) (keeps ms) σ H Q) → t σ H R) : t σ H R := by
  obtain ⟨F, ι, s0, Rl, A⟩ := h
  refine k ?_
  cases hm : keeps ms s0 with
  | bad =>
    unfold EM.bind at A
    rw [hm] at A
    exact A.elim
  | exc x s1 =>
    unfold EM.bind at A
    rw [hm] at A
    exact .inl ⟨F, ι, s0, Rl, x, s1, hm, A⟩
  | ok us s1 =>
    unfold EM.bind at A
    simp only [hm] at A
    obtain ⟨ds, e, A2⟩ := A.opt
    refine .inr ⟨us, ds, e, fun Q q => ⟨F, ι, s0, Rl, ?_⟩⟩
    rw [hm]
    exact fun F1 i1 H1 vs t1 R1 rs => q F1 H1 vs R1.sub rs fun J st => A2 F1 i1 H1 J t1 R1 st
theorem i_exc {ms : List (EM Out)} {σ : L2.St} {H : Hp} {R : It → Hp → Prop} {Q : List V → Hp → Prop} (h : ∃ F ι s, Rel X.K F ι s σ H ∧ ∃ x s1, keeps ms s = .exc x s1 ∧ Aft X.K T W (RIt X.K) F ι s σ H (.exc x s1) R) : tM X.K T W (RDL X.K) (keeps ms) σ H Q := by
  obtain ⟨F, ι, s, Rl, x, s1, e, A⟩ := h
  refine ⟨F, ι, s, Rl, ?_⟩
  rw [e]
  exact A
omit [ClsTab] in
theorem rng_lim {i : Int} (h1 : -(LIM : Int) ≤ i) (h2 : i ≤ LIM) : -(2 ^ 62) ≤ i ∧ i < 2 ^ 62 := by
  have : ((LIM : Nat) : Int) = 1000000 := rfl
  omega
theorem i_rng1 {a : Expr} {ma : EM Out} {p : Pos} (hg : Gl X "range") (hm : X.mg "range" = none) (ha : PA X [a] (tM X.K T W (RDL X.K) (keeps [ma]))) (hs : starEach [a] X.env = [(false, eval a X.env)]) : PI X tg (.Call (.Name "range" p) [a] [] pos) (tI X.K T W (rng1 ma)) :=
  ⟨fun pins s σ H R I h => (pi_range1 hg hm ha hs).run pins s σ H R I (i_keeps h fun k => by
    rcases k with k | ⟨us, ds, e, k⟩
    · exact i_exc k
    · unfold rngD1 at e
      split at e <;> first | (cases e; done) | skip
      split at e <;> first | (cases e; done) | skip
      rename_i hl
      cases e
      refine k _ fun F1 H1 vs sb rs q => ?_
      cases rs with
      | cons r t =>
        cases r
        cases t
        obtain ⟨h1, h2⟩ := rng_lim hl.1 hl.2
        exact ⟨_, rfl, h1, h2, q _ steps_rng⟩)⟩
theorem i_rng2 {a b : Expr} {ma mb : EM Out} {p : Pos} (hg : Gl X "range") (hm : X.mg "range" = none) (ha : PA X [a, b] (tM X.K T W (RDL X.K) (keeps [ma, mb]))) (hs : starEach [a, b] X.env = [(false, eval a X.env), (false, eval b X.env)]) (hs2 : starEach [b] X.env = [(false, eval b X.env)]) :
    PI X tg (.Call (.Name "range" p) [a, b] [] pos) (tI X.K T W (rng2 ma mb)) :=
  ⟨fun pins s σ H R I h => (pi_range2 hg hm ha hs hs2).run pins s σ H R I (i_keeps h fun k => by
    rcases k with k | ⟨us, ds, e, k⟩
    · exact i_exc k
    · unfold rngD2 at e
      split at e <;> first | (cases e; done) | skip
      split at e <;> first | (cases e; done) | skip
      rename_i hl
      cases e
      refine k _ fun F1 H1 vs sb rs q => ?_
      cases rs with
      | cons r t =>
        cases r
        cases t with
        | cons r2 t2 =>
          cases r2
          cases t2
          obtain ⟨h1, h2⟩ := rng_lim hl.1.1 hl.1.2
          obtain ⟨h3, h4⟩ := rng_lim hl.2.1 hl.2.2
          exact ⟨_, _, rfl, ⟨h1, h2, h3, h4⟩, q _ steps_rng⟩)⟩
theorem i_zip {a b : Expr} {ma mb : EM Out} {p tp : Pos} {elts : List Expr} {kk : Nat} (hg : Gl X "zip") (hm : X.mg "zip" = none) (ha : PA X [a, b] (tM X.K T W (RDL X.K) (keeps [ma, mb]))) (hs : starEach [a, b] X.env = (false, eval a X.env) :: starEach [b] X.env)
    (hp : (backTo pos (starEach [b] X.env)).any (·.1) = false) : PI X (.Tuple elts kk tp) (.Call (.Name "zip" p) [a, b] [] pos) (tI X.K T W (zipE ma mb)) :=
  ⟨fun pins s σ H R I h => (pi_zip hg hm ha hs hp).run pins s σ H R I (i_keeps h fun k => by
    rcases k with k | ⟨us, ds, e, k⟩
    · exact i_exc k
    · unfold zipD at e
      split at e <;> first | (cases e; done) | skip
      cases e
      refine k _ fun F1 H1 vs sb rs q => ?_
      cases rs with
      | cons r t =>
        cases t with
        | cons r2 t2 =>
          cases t2
          cases r with
          | lst h r =>
            cases r2 with
            | lst h2 r2 => exact ⟨_, _, _, _, rfl, .of (sb _ _ h), .of (sb _ _ h2), q _ (steps_zip h r h2 r2)⟩)⟩
/-! for -/
theorem s_for {tgt : Tg} {iter : Expr} {body : List Stmt} {mi : EM (List Ev.D)} {mb : SM} (hp : PassesOwn (model X.prog X.w) X.A X.env X.xe) (hc : X.calm = true) (hi : PI X tg iter (tI X.K T W mi)) (hg : PG X tg (tgt.g X.K)) (hb : PSs X body (tS X.K T W mb))
    (hs : ∀ x, foldedSetIterable iter X.env x = pure x) : PS X (.For tg iter body [] pos) (tS X.K T W (sFor tgt mi mb)) :=
  (ps_for hp hc hi hg hb hs).imp fun D σ H ⟨F, ι, s, R, A⟩ => ⟨F, ι, s, R, A.lift (.refl ..) fun ds s1 F1 i1 H1 J _ t1 R1 st A1 => by
    have st : Steps X.K F1 J ds := st
    refine ⟨fun i m σ2 H2 => m = ds.length - i ∧ i ≤ ds.length ∧ ∃ F2 i2 s2, Same F1 F2 ∧ Step F ι s σ H F2 i2 s2 σ2 H2 ∧ Rel X.K F2 i2 s2 σ2 H2 ∧ AftS X.K T W F ι s σ H (loop tgt mb (ds.drop i) s2) D, ⟨ds.length, by simp, Nat.zero_le _, F1, i1, s1, .refl _, t1.toStep, R1, by simpa using A1⟩, ?_⟩
    rintro i m σ2 H2 ⟨rfl, hi, F2, i2, s2, ff, t2, R2, A2⟩
    obtain ⟨z1, z2⟩ := st i F2 H2 ff R2.sub
    by_cases hlt : i < ds.length
    · obtain ⟨go, yl⟩ := z2 ds[i] (by simp [hlt])
      refine .inr ⟨go, fun σ3 H3 => (fun m' => ∃ F3 i3 s3, m' = ds.length - (i + 1) ∧ Same F1 F3 ∧ Step F ι s σ H F3 i3 s3 σ3 H3 ∧ Rel X.K F3 i3 s3 σ3 H3 ∧ AftS X.K T W F ι s σ H (loop tgt mb (ds.drop (i + 1)) s3) D) (ds.length - (i + 1)), fun σ3 H3 ⟨F3, i3, s3, _, f3, t3, R3, A3⟩ => ⟨_, by omega, rfl, by omega, F3, i3, s3, f3, t3, R3, A3⟩, fun x H3 y => ?_⟩
      obtain ⟨F3, m3, rx⟩ := yl x H3 y
      rw [List.drop_eq_getElem_cons hlt] at A2
      simp only [loop] at A2
      have R3 := R2.more m3
      have t3 : Step F ι s σ H F3 i2 s2 σ2 H3 := t2.trans (EStep.more m3).toStep
      cases hp : tgt.put ds[i] s2.env with
      | none =>
        rw [hp] at A2
        exact A2.elim
      | some e =>
        rw [hp] at A2
        simp only at A2
        refine tg_put R3 t3 rx hp fun σ4 R4 t4 => ⟨F3, i2, _, R4, ?_⟩
        have again : ∀ s5, AftS X.K T W F ι s σ H (loop tgt mb (ds.drop (i + 1)) s5) D → ∀ F5 i5 σ5 H5, Step F3 i2 { s2 with env := e } σ4 H3 F5 i5 s5 σ5 H5 → Rel X.K F5 i5 s5 σ5 H5 → ∃ F3 i3 s3, ds.length - (i + 1) = ds.length - (i + 1) ∧ Same F1 F3 ∧ Step F ι s σ H F3 i3 s3 σ5 H5 ∧ Rel X.K F3 i3 s3 σ5 H5 ∧ AftS X.K T W F ι s σ H (loop tgt mb (ds.drop (i + 1)) s3) D := fun s5 A5 F5 i5 σ5 H5 t5 R5 =>
          ⟨F5, i5, s5, rfl, (ff.trans m3.ff).trans t5.ff, t4.trans t5, R5, A5⟩
        cases hb : mb { s2 with env := e } with
        | next s5 =>
          rw [hb] at A2
          exact fun F5 i5 σ5 H5 t5 R5 => again s5 A2 F5 i5 σ5 H5 t5 R5
        | cont s5 =>
          rw [hb] at A2
          exact fun F5 i5 σ5 H5 t5 R5 => again s5 A2 F5 i5 σ5 H5 t5 R5
        | brk s5 =>
          rw [hb] at A2
          exact fun F5 i5 σ5 H5 t5 R5 => A2 F5 i5 σ5 H5 (t4.trans t5) R5
        | ret o s5 =>
          rw [hb] at A2
          exact (show AftS X.K T W F ι s σ H (.ret o s5) D from A2).from t4
        | exc x s5 =>
          rw [hb] at A2
          exact (show AftS X.K T W F ι s σ H (.exc x s5) D from A2).from t4
        | bad =>
          rw [hb] at A2
          exact A2.elim
    · have e : i = ds.length := by omega
      subst e
      rw [List.drop_length] at A2
      exact .inl ⟨z1 (Nat.le_refl _), A2 F2 i2 σ2 H2 t2 R2⟩⟩
/-! while -/
theorem s_while {c : Expr} {body : List Stmt} {mc : EM Bool} {mb : SM} (hp : PassesOwn (model X.prog X.w) X.A X.env X.xe) (hc : PT X c (tB X.K T W mc)) (hb : PSs X body (tS X.K T W mb)) : PS X (.While c body [] pos) (tS X.K T W (sWhile mc mb)) :=
  (ps_while hp hc hb).imp fun D σ H ⟨F, ι, s, R, A⟩ => by
    refine ⟨fun m σ2 H2 => ∃ F2 i2 s2, Step F ι s σ H F2 i2 s2 σ2 H2 ∧ Rel X.K F2 i2 s2 σ2 H2 ∧ AftS X.K T W F ι s σ H (whil mc mb m s2) D, ⟨TURNS, F, ι, s, .refl .., R, A⟩, ?_⟩
    rintro m σ2 H2 ⟨F2, i2, s2, t2, R2, A2⟩
    cases m with
    | zero => exact A2.elim
    | succ n =>
      refine ⟨F2, i2, s2, R2, AftS.lift (f := fun t => if t = true then fun s => match mb s with
      | .next s' | .cont s' => whil mc mb n s'
      | .brk s' => .next s'
      | r => r
    else .next) A2 t2 fun b s3 F3 i3 H3 b' _ t3 R3 eb A3 => ?_⟩
      cases eb
      cases b with
      | false =>
        exact iteF (A3 F3 i3 σ2 H3 (t2.es t3) R3)
      | true =>
        refine iteT ⟨fun σ4 H4 => ∃ F2 i2 s2, Step F ι s σ H F2 i2 s2 σ4 H4 ∧ Rel X.K F2 i2 s2 σ4 H4 ∧ AftS X.K T W F ι s σ H (whil mc mb n s2) D, fun σ4 H4 q => ⟨n, Nat.lt_succ_self n, q⟩, F3, i3, s3, R3, ?_⟩
        simp only [if_true] at A3
        have t4 := t2.es t3
        cases hb : mb s3 with
        | next s5 =>
          rw [hb] at A3
          exact fun F5 i5 σ5 H5 t5 R5 => ⟨F5, i5, s5, t4.trans t5, R5, A3⟩
        | cont s5 =>
          rw [hb] at A3
          exact fun F5 i5 σ5 H5 t5 R5 => ⟨F5, i5, s5, t4.trans t5, R5, A3⟩
        | brk s5 =>
          rw [hb] at A3
          exact fun F5 i5 σ5 H5 t5 R5 => A3 F5 i5 σ5 H5 (t4.trans t5) R5
        | ret o s5 =>
          rw [hb] at A3
          exact (show AftS X.K T W F ι s σ H (.ret o s5) D from A3).from t4
        | exc x s5 =>
          rw [hb] at A3
          exact (show AftS X.K T W F ι s σ H (.exc x s5) D from A3).from t4
        | bad =>
          rw [hb] at A3
          exact A3.elim
end
end Ev

set_option Elab.async false
set_option linter.all false
set_option autoImplicit false
set_option maxHeartbeats 4000000
set_option maxRecDepth 100000
/-! Ev, part Ra: enumerate of a tuple. -/
namespace Ev
variable [ClsTab]
open PySem PySem.Spec PyProof.Rows L2
section
variable {prog : Program} {w : World} {A : Around} {E : Value → Shared → Prop} {s : Shared}
omit [ClsTab] in
theorem next_tup_item {it l : Addr} {i : Nat} {items : Array Value} {x : Value} {Q : Value → Shared → Prop} (hit : s.heap.IsTupleIter it l i) (hl : s.heap.IsTuple l items) (hx : items[i]? = some x)
    (hQ : ∀ h', h'.IsTupleIter it l (i + 1) → Heap.SameBut it s.heap h' → Q x { s with heap := h' }) : wpAny (model prog w) A (Builtin.SmallTypes.nextOf (.ref it)) Q E s := by
  have hT := hit.typeIs
  obtain ⟨o, ho, hc, hd⟩ := hit
  obtain ⟨ol, hol, _, nl, hdl⟩ := hl
  unfold Builtin.SmallTypes.nextOf
  refine wpAny_bind (wpAny_callSpecial?_slot (name := Str.ofString "__next__") hT F.slot_tuple_iterator_next (wpAny_call_entry F.slot_tuple_iterator_next hT F.entry_tuple_iterator_next ?_ (F.args_tuple_iterator_next_1 _)))
  show wpAny _ _ (field (.ref it) 0 >>= _) _ _ s
  refine wpAny_bind (wpAny_field ho hd (x := .ref l) rfl ?_)
  show wpAny _ _ (if (Value.ref l == Value.none) = true then _ else _) _ _ s
  rw [if_neg (show ¬ ((Value.ref l == Value.none) = true) from Bool.false_ne_true)]
  show wpAny _ _ (field (.ref it) 1 >>= _) _ _ s
  refine wpAny_bind (wpAny_field ho hd (x := .int i 0) rfl ?_)
  show wpAny _ _ (seqItems? (.ref l) >>= _) _ _ s
  refine wpAny_bind (wpAny_seqItems hol hdl ?_)
  simp only [Int.toNat_natCast, hx]
  refine wpAny_bind (wpAny_setField ho hd (by simp) (wpAny_pure ⟨x, rfl, wpAny_pure (hQ _ ⟨_, Heap.get?_update_self _ ho (Obj.isFreed_of_fields (Obj.data_mapFields hd _)), (Obj.cls_mapFields ..).trans hc, ?_⟩ (Heap.SameBut.update ..))⟩))
  rw [Obj.data_mapFields hd]
  simp [rawInt]
omit [ClsTab] in
theorem next_tup_end {it l : Addr} {i : Nat} {items : Array Value} {Q : Value → Shared → Prop} (hh : A.handled = none) (hit : s.heap.IsTupleIter it l i) (hl : s.heap.IsTuple l items) (hx : items[i]? = none)
    (hE : ∀ h' e, Heap.ExtBut it s.heap h' → (∃ o, h'.get? e = some o ∧ o.cls = .type "StopIteration") → E (.ref e) { s with heap := h' }) : wpAny (model prog w) A (Builtin.SmallTypes.nextOf (.ref it)) Q E s := by
  have hT := hit.typeIs
  obtain ⟨o, ho, hc, hd⟩ := hit
  obtain ⟨ol, hol, _, nl, hdl⟩ := hl
  unfold Builtin.SmallTypes.nextOf
  refine wpAny_bind (wpAny_callSpecial?_slot (name := Str.ofString "__next__") hT F.slot_tuple_iterator_next (wpAny_call_entry F.slot_tuple_iterator_next hT F.entry_tuple_iterator_next ?_ (F.args_tuple_iterator_next_1 _)))
  show wpAny _ _ (field (.ref it) 0 >>= _) _ _ s
  refine wpAny_bind (wpAny_field ho hd (x := .ref l) rfl ?_)
  show wpAny _ _ (if (Value.ref l == Value.none) = true then _ else _) _ _ s
  rw [if_neg (show ¬ ((Value.ref l == Value.none) = true) from Bool.false_ne_true)]
  show wpAny _ _ (field (.ref it) 1 >>= _) _ _ s
  refine wpAny_bind (wpAny_field ho hd (x := .int i 0) rfl ?_)
  show wpAny _ _ (seqItems? (.ref l) >>= _) _ _ s
  refine wpAny_bind (wpAny_seqItems hol hdl ?_)
  simp only [Int.toNat_natCast, hx]
  refine wpAny_bind (wpAny_rule (wpAny_bind (wpAny_setField ho hd (by simp) ?_)))
  show wpAny _ _ (newExc (.type "StopIteration") [] >>= _) _ _ _
  refine wpAny_bind ?_
  simp only [newExc, newTuple]
  refine wpAny_bind (wpAny_newObj_type ?_ (by size_fits))
  refine wpAny_bind (m := firstArgMember _ _) (wpAny_of_eq (a := Value.none) (by first | rfl | (simp only [firstArgMember]; rfl)) ?_)
  refine wpAny_newObj_type ?_ (by size_fits)
  simp only [raiseNew]
  refine wpAny_bind (wpAny_handled ?_)
  first | rw [show A.in1.handled = none from hh] | rw [hh]
  exact wpAny_bind (wpAny_pure (wpAny_throw (hE _ _ (((Heap.SameBut.update ..).extBut.push _).push _) ⟨_, Heap.get?_push_size _ rfl, rfl⟩)))
omit [ClsTab] in
theorem draws_tup (hh : A.handled = none) (it l : Addr) (hne : l ≠ it) (items : Array Value) : Draws prog w A it [it, l] items.size (fun i v => items[i]? = some v) (fun i h => h.IsTupleIter it l i ∧ h.IsTuple l items) where
  live := fun _ _ st => let ⟨o, ho, _⟩ := st.1; ⟨o, ho⟩
  frame := fun _ _ _ st hk => ⟨st.1.at fun o e => hk it (by simp) o e, let ⟨o, ho, r⟩ := st.2; ⟨o, hk l (by simp) o ho, r⟩⟩
  item := fun i s Q E hi st hQ => next_tup_item st.1 st.2 (x := items[i]) (by simp [hi]) fun h' hit' hs' => hQ _ h' s.toks (by simp [hi]) ⟨hit', let ⟨o, ho, r⟩ := st.2; ⟨o, hs'.extBut l o hne ho, r⟩⟩ hs'
  done := fun s Q E st hE => next_tup_end hh st.1 st.2 (by simp) hE
omit [ClsTab] in
open AutoSeq1 (wpAny_loadPart') in
theorem enum_newT (l : Addr) (items : Array Value) (n : Nat) (dct : Option Addr) (sl : Array (Option Value)) :
    Meets (Builtin.«enumerate.__new__» ⟨[.type "enumerate", .ref l], []⟩) (fun _ R s => s.heap.get? l = some { cls := .type "tuple", dict := dct, data := .seq items n, slots := sl } ∧
      R (.ok (.ret (.ref (s.heap.push { cls := .type "tuple_iterator", data := .fields #[.ref l, .int 0 0] }).objs.size)))
        { s with heap := (s.heap.push { cls := .type "tuple_iterator", data := .fields #[.ref l, .int 0 0] }).push { cls := .type "enumerate", data := .fields #[.none, .bool false, .ref s.heap.objs.size, rawInt 0, .none, .none] } }) :=
  .of_wp fun prog w A R s h => by
    obtain ⟨hp, g, d, tk, os⟩ := s
    obtain ⟨hl, h⟩ := h
    have hsub := sub_enumerate
    have hL : Heap.IsTuple (Shared.heap ⟨hp, g, d, tk, os⟩) l items := ⟨_, hl, rfl, n, rfl⟩
    wp_walk using wpAny_loadPart' hl
    refine wpAny_stack_any fun st => wpAny_pure ?_
    split
    · rename_i c _ _ _ _ _
      cases (c == Value.type "enumerate")
      · wp_walk using wpAny_loadPart' hl, wpAny_pyIter_tuple hL
        exact ⟨_, rfl, h⟩
      · wp_walk using wpAny_loadPart' hl, wpAny_pyIter_tuple hL
        exact ⟨_, rfl, h⟩
    · wp_walk using wpAny_loadPart' hl, wpAny_pyIter_tuple hL
      exact ⟨_, rfl, h⟩
omit [ClsTab] in
theorem call_enumT {l : Addr} {items : Array Value} {Q : Value → Shared → Prop} (hL : s.heap.IsTuple l items)
    (h : ∀ h', IsEnum h' (s.heap.objs.size + 1) s.heap.objs.size 0 .none → h'.IsTupleIter s.heap.objs.size l 0 → h'.objs.size = s.heap.objs.size + 2 → (∀ b o, s.heap.get? b = some o → h'.get? b = some o) → Q (.ref (s.heap.objs.size + 1)) { s with heap := h' }) :
    wpAny (model prog w) A (PySem.call (.type "enumerate") [.ref l]) Q E s := by
  obtain ⟨⟨c, dct, dt, sl⟩, hl, hc, n, hd⟩ := hL
  replace hc : c = .type "tuple" := hc
  replace hd : dt = .seq items n := hd
  subst hc hd
  refine callType_new F.called_enumerate (by decide) (F.typeCall_enumerate_1 _) (F.newCall_enumerate_1 _) (fun obj => F.args_object_init_2 obj _) F.entry_enumerate_new (enum_newT l items n dct sl) ⟨hl, ?_⟩
  have hz : (s.heap.push { cls := .type "tuple_iterator", data := .fields #[.ref l, .int 0 0] }).objs.size = s.heap.objs.size + 1 := Heap.size_push ..
  show _ ∧ _
  rw [hz]
  have he : IsEnum ((s.heap.push { cls := .type "tuple_iterator", data := .fields #[.ref l, .int 0 0] }).push { cls := .type "enumerate", data := .fields #[.none, .bool false, .ref s.heap.objs.size, rawInt 0, .none, .none] }) (s.heap.objs.size + 1) s.heap.objs.size 0 .none := by
    have := Heap.get?_push_size (s.heap.push { cls := .type "tuple_iterator", data := .fields #[.ref l, .int 0 0] }) (o := { cls := .type "enumerate", data := .fields #[.none, .bool false, .ref s.heap.objs.size, rawInt 0, .none, .none] }) rfl
    rw [hz] at this
    exact this
  exact ⟨⟨_, he, rfl⟩, h _ he ⟨_, Heap.get?_push_of_some _ (Heap.get?_push_size _ rfl), rfl, rfl⟩ (by rw [Heap.size_push, hz]) fun b o x => Heap.get?_push_of_some _ (Heap.get?_push_of_some _ x)⟩
end
/-- the tuple at a, each item in a new pair -/
def IteT (K : PySem.W.Frag) (a : Addr) : It :=
  ⟨fun i H => ∃ (xs : List V) (x : V), SqT K H a xs ∧ xs[i]? = some x, fun i H v H' => ∃ T x, v = .ref T ∧ H T = none ∧ H' = upd H T (.tup [.int (i : Nat), x]) ∧ ∀ xs, SqT K H a xs → xs[i]? = some x, fun i H => ∃ xs : List V, SqT K H a xs ∧ xs.length ≤ i⟩
omit [ClsTab] in
theorem turn_enumT {P : Program} {w : World} {K : PySem.W.Frag} {elts : List Expr} {kk : Nat} {tpos : Pos} (a e it : Addr) :
    Turn P w K (.Tuple elts kk tpos) (IteT K a) [e, it] e (fun i h => (∃ old, IsEnum h e it ((i : Nat) : Int) old) ∧ h.IsTupleIter it a i ∧ e ≠ it ∧ a ≠ it ∧ a ≠ e) where
  mem := by simp
  obj := fun i h st b hb => by
    obtain ⟨⟨old, he⟩, ⟨o, ho, hc, hd⟩, _⟩ := st
    have e' : b = e ∨ b = it := by simpa using hb
    rcases e' with rfl | rfl
    · exact ⟨_, he, fun v q => nomatch q⟩
    · exact ⟨o, ho, fun v q => by rw [hd] at q; cases q⟩
  keep := fun i h h' st k => let ⟨⟨old, he⟩, hi, hne⟩ := st; ⟨⟨old, k e (by simp) _ he⟩, hi.at fun o q => k it (by simp) o q, hne⟩
  item := by
    intro X hP hw hK hc i pins s σ H E I hf st hg
    subst hP hw hK
    obtain ⟨⟨old, he⟩, hit, hne, ha1, ha2⟩ := st
    obtain ⟨xs, x, hq, hx⟩ := hg
    obtain ⟨its, rv, p, hz⟩ := I.tuple hq
    obtain ⟨u, hu, ru⟩ := rv.get hx
    have hel : e < s.heap.objs.size := Heap.lt_size he
    have hil : it < s.heap.objs.size := by obtain ⟨_, q, _⟩ := hit; exact Heap.lt_size q
    have hlt : i < its.toArray.size := by
      have := (List.getElem?_eq_some_iff.mp hu).1
      simpa using this
    have hp : s.heap.IsTuple a its.toArray := p
    refine wpAny_pyNext_enum_itemD (draws_tup (A := X.A.in1) (I.ok.hd hc) it a ha1 its.toArray) he ⟨hit, hp⟩ hlt hne (by simp [hne, Ne.symm ha2]) fun y h' tk hy ho hst' hT hsz hk => ?_
    have : y = u := by
      have h2 : its.toArray[i]? = some u := by simpa using hu
      rw [h2] at hy
      exact (Option.some.inj hy).symm
    subst this
    refine ⟨_, rfl, wpAny_letOwnedTupleGo_enum (s := { s with heap := h', toks := tk + 1 }) ho fun h'' he' sb => ?_⟩
    have hT2 : h''.get? s.heap.objs.size = some { cls := .type "tuple", data := .seq #[.int i tk, y] } := (sb.2 _ (Nat.ne_of_gt hel)).trans hT
    have new : ObjOk X.prog X.w (upd H s.heap.objs.size (.tup [.int (i : Nat), x])) h'' s.heap.objs.size (.tup [.int (i : Nat), x]) :=
      ⟨by show 2 ≤ sizeLine; decide, [.int i tk, y], .cons ⟨_, rfl⟩ (.cons ru .nil), ⟨_, hT2, rfl, _, rfl⟩⟩
    have I1 : Inv X pins σ (upd H s.heap.objs.size (.tup [.int (i : Nat), x])) { s with heap := h'', toks := tk + 1 } :=
      I.turnedNew (ch := [e, it]) (fun b ob hb q => (sb.2 b (fun z => hb (by simp [z]))).trans (hk b ob (fun z => hb (by simp [z])) (fun z => hb (by simp [z])) q)) hf (Nat.le_refl _) new
    refine ⟨.ref s.heap.objs.size, _, I1, rfl, ⟨_, x, rfl, I.hok.fresh (Nat.le_refl _), rfl, fun ys hy => by rw [I.tuple_inj hy hq]; exact hx⟩, ⟨⟨y, ?_⟩, hst'.1.at fun o q => (sb.2 it (Ne.symm hne)).trans q, hne, ha1, ha2⟩, fun b hb => ?_⟩
    · have e1 : ((i + 1 : Nat) : Int) = (i : Int) + 1 := by omega
      rw [e1]
      exact he'
    · have hb' : b < s.heap.objs.size := by
        have e' : b = e ∨ b = it := by simpa using hb
        rcases e' with rfl | rfl
        · exact hel
        · exact hil
      rw [upd_ne (Nat.ne_of_lt hb')]
      exact (hf b hb).1
  done := by
    intro X hP hw hK hc i pins s σ H E I hf st hg
    subst hP hw hK
    obtain ⟨⟨old, he⟩, hit, hne, ha1, ha2⟩ := st
    obtain ⟨xs, hq, hx⟩ := hg
    obtain ⟨its, rv, p, hz⟩ := I.tuple hq
    obtain ⟨f0, f1, f2, f3, f4, f5⟩ := hf it (by simp)
    have hl := rv.length
    have hT : s.TypeIs (.ref e) "enumerate" := ⟨_, he, rfl⟩
    unfold pyNext
    refine wpAny_bind (wpAny_attempt (wpAny_callSpecial?_slot (name := Str.ofString "__next__") hT F.slot_enumerate_next (wpAny_call_entry F.slot_enumerate_next hT F.entry_enumerate_next ?_ (F.args_enumerate_next_1 _))))
    show wpAny _ _ (field (.ref e) 2 >>= _) _ _ _
    refine wpAny_bind (wpAny_field he rfl (x := .ref it) rfl ?_)
    refine wpAny_bind (next_tup_end (I.ok.hd hc) hit (show s.heap.IsTuple a its.toArray from p) (by simp; omega) fun h' x eb hx' => ?_)
    obtain ⟨o, ho, hcl⟩ := hx'
    refine wpAny_bind (wpAny_isInstance (T := "StopIteration") (b := true) ⟨o, ho, hcl⟩ isSubtype_stop ?_)
    exact wpAny_pure ⟨rfl, I.turned (t' := s.toks) (fun b o hb q => eb b o hb q) f0 f1 f3 f4 f5⟩
  self := fun A i s Q E st h => let ⟨⟨_, he⟩, _⟩ := st; wpAny_pyIter_enum he h
def iEnum2 (K : PySem.W.Frag) (ta : TA) : TI := fun σ H R => ta σ H fun vs H1 => ∃ a xs, vs = [.ref a] ∧ ((SqL K H1 a xs ∧ R (Ite K a) H1) ∨ (SqT K H1 a xs ∧ R (IteT K a) H1))
theorem pi_enum2 {X : Cx} {e : Expr} {ta : TA} {p pos tpos : Pos} {elts : List Expr} {kk : Nat} (hg : Gl X "enumerate") (hm : X.mg "enumerate" = none) (ha : PA X [e] ta) (hs : starEach [e] X.env = [(false, eval e X.env)]) :
    PI X (.Tuple elts kk tpos) (.Call (.Name "enumerate" p) [e] [] pos) (iEnum2 X.K ta) := by
  refine ⟨fun pins s σ H R I h => ?_⟩
  refine Call_ (ld_blt I hg hm boot_enumerate (PyProof.Rows.callWith_type1 (thn (ha.run pos pins s σ H _ I h) fun us s1 ⟨vs, H1, I1, r1, q1⟩ => ?_) hs rfl))
  obtain ⟨a, xs, rfl, q⟩ := q1
  rw [Vals.ref1 r1]
  have fresh : ∀ b, b ∈ [s1.heap.objs.size + 1, s1.heap.objs.size] → s1.heap.objs.size ≤ b := fun b hb => by
    have e' : b = s1.heap.objs.size + 1 ∨ b = s1.heap.objs.size := by simpa using hb
    rcases e' with rfl | rfl
    · exact Nat.le_add_right _ _
    · exact Nat.le_refl _
  rcases q with ⟨hq, q⟩ | ⟨hq, q⟩
  · obtain ⟨its, rv, p', hz⟩ := I1.list hq
    refine call_enumerate_list p'.isList fun h' he hit hsz hk => wpAny_pyIter_enum he ?_
    exact ⟨s1.heap.objs.size + 1, [s1.heap.objs.size + 1, s1.heap.objs.size], _, _, H1, rfl, I1.kept (t' := s1.toks) hk, turn_enum a (s1.heap.objs.size + 1) s1.heap.objs.size, ⟨⟨.none, he⟩, hit, Nat.succ_ne_self _⟩, fun b hb => I1.fpOk (fresh b hb) (I1.hok.fresh (fresh b hb)), q⟩
  · obtain ⟨its, rv, p', hz⟩ := I1.tuple hq
    have hlt : a < s1.heap.objs.size := by obtain ⟨o, ho, _⟩ := p'; exact Heap.lt_size ho
    refine call_enumT (show s1.heap.IsTuple a its.toArray from p') fun h' he hit hsz hk => wpAny_pyIter_enum he ?_
    exact ⟨s1.heap.objs.size + 1, [s1.heap.objs.size + 1, s1.heap.objs.size], _, _, H1, rfl, I1.kept (t' := s1.toks) hk, turn_enumT a (s1.heap.objs.size + 1) s1.heap.objs.size, ⟨⟨.none, he⟩, hit, Nat.succ_ne_self _, Nat.ne_of_lt hlt, Nat.ne_of_lt (Nat.lt_succ_of_lt hlt)⟩, fun b hb => I1.fpOk (fresh b hb) (I1.hok.fresh (fresh b hb)), q⟩
section
variable {K : PySem.W.Frag} {F : Hp}
theorem steps_enumT {a : Addr} {vs : List V} {ds : List Ev.D} (h : SqT K F a vs) (r : RDs K F ds vs) : Steps K F (IteT K a) (ds.zipIdx.map fun p => .tup [.int p.2, p.1]) := fun i F1 H e e2 => by
  have hq : SqT K H a vs := Same.seqT e2 (Same.seqT e h)
  refine ⟨fun hl => ⟨vs, hq, by rw [← r.length]; simpa using hl⟩, fun d hd => ?_⟩
  rw [List.getElem?_map] at hd
  obtain ⟨p, hp, rfl⟩ := Option.map_eq_some_iff.mp hd
  rw [List.getElem?_zipIdx] at hp
  obtain ⟨d, hd2, rfl⟩ := Option.map_eq_some_iff.mp hp
  obtain ⟨v, h1, h2⟩ := r.get hd2
  refine ⟨⟨vs, v, hq, h1⟩, fun x H' ⟨t, y, e3, n, e4, q⟩ => ?_⟩
  have := q vs hq
  rw [h1] at this
  cases this
  subst e3 e4
  refine ⟨_, More.both e2 n, .tup (.of upd_same) (.cons ?_ (.cons ((h2.mono e).mono (same_upd (F_none e2 n))) .nil))⟩
  have : (0 : Nat) + i = i := by omega
  simp only [this]
  exact .int _
end
section
variable {X : Cx} {T : CT} {W : WX} {pos : Pos}
theorem i_enum {a : Expr} {ma : EM Out} {p tp : Pos} {elts : List Expr} {kk : Nat} (hg : Gl X "enumerate") (hm : X.mg "enumerate" = none) (ha : PA X [a] (tM X.K T W (RDL X.K) (keeps [ma]))) (hs : starEach [a] X.env = [(false, eval a X.env)]) :
    PI X (.Tuple elts kk tp) (.Call (.Name "enumerate" p) [a] [] pos) (tI X.K T W (enumE ma)) :=
  ⟨fun pins s σ H R I h => (pi_enum2 hg hm ha hs).run pins s σ H R I (i_keeps h fun k => by
    rcases k with k | ⟨us, ds, e, k⟩
    · exact i_exc k
    · unfold enumD at e
      split at e <;> first | (cases e; done) | skip
      · cases e
        refine k _ fun F1 H1 vs sb rs q => ?_
        cases rs with
        | cons r t =>
          cases t
          cases r with
          | lst h r => exact ⟨_, _, rfl, .inl ⟨.of (sb _ _ h), q _ (steps_enum h r)⟩⟩
      · cases e
        refine k _ fun F1 H1 vs sb rs q => ?_
        cases rs with
        | cons r t =>
          cases t
          cases r with
          | tup h r => exact ⟨_, _, rfl, .inr ⟨Same.seqT sb h, q _ (steps_enumT h r)⟩⟩)⟩
end
end Ev

set_option Elab.async false
set_option linter.all false
set_option autoImplicit false
set_option maxHeartbeats 1000000
/-! Ev, part T: calls of defs. -/
namespace Ev
variable [ClsTab]
open PySem PySem.Spec PyProof.Rows L2
/-- what is passed -/
def RVl (K : PySem.W.Frag) (F : Hp) (ι : List Addr) : Vl → V → Prop
  | .d x, v => RD K F x v
  | .ref k, v => ∃ a, ι[k]? = some a ∧ v = .ref a
section
variable {K : PySem.W.Frag} {T : CT} {F H : Hp} {ι : List Addr} {s : S} {σ : L2.St}
def entry (s : S) (us : List Vl) (many : Nat) : S := { s with env := us.map (fun u => some u.slot) ++ List.replicate (many - us.length) none }
theorem entry_env {us : List Vl} {vs : List V} {N : List Str} {many i : Nat} {x : Slot} (r : All2 (RVl K F ι) us vs) (hi : (entry s us many).env[i]? = some (some x)) : ∃ u v, vs[i]? = some v ∧ us[i]? = some u ∧ x = u.slot ∧ RVl K F ι u v := by
  unfold entry at hi
  simp only at hi
  by_cases hl : i < us.length
  · rw [List.getElem?_append_left (by simpa using hl), List.getElem?_map] at hi
    obtain ⟨u, hu, e⟩ := Option.map_eq_some_iff.mp hi
    cases e
    have go : ∀ {us : List Vl} {vs : List V} {i : Nat}, All2 (RVl K F ι) us vs → us[i]? = some u → ∃ v, vs[i]? = some v ∧ RVl K F ι u v := by
      intro us vs i r
      induction r generalizing i with
      | nil => intro h; simp at h
      | cons a b ih =>
        intro h
        cases i with
        | zero => simp at h; subst h; exact ⟨_, rfl, a⟩
        | succ i => exact ih (by simpa using h)
    obtain ⟨v, h1, h2⟩ := go r hu
    exact ⟨u, v, h1, hu, rfl, h2⟩
  · rw [List.getElem?_append_right (by simpa using hl), List.getElem?_replicate] at hi
    split at hi <;> cases hi
omit [ClsTab] in
theorem All2.len {α β : Type} {R : α → β → Prop} : ∀ {as : List α} {bs : List β}, All2 R as bs → as.length = bs.length
  | _, _, .nil => rfl
  | _, _, .cons _ t => congrArg Nat.succ (All2.len t)
omit [ClsTab] in
theorem start_get {N : List Str} {vs : List V} {i : Nat} {v : V} (h : vs[i]? = some v) : (start N vs)[i]? = some (some v) := by
  unfold L2.start
  rw [List.getElem?_append_left (by simpa using (List.getElem?_eq_some_iff.mp h).1), List.getElem?_map, h]
  rfl
/-- a def is entered -/
theorem enter_rel {us : List Vl} {vs : List V} {N : List Str} (R : Rel K F ι s σ H) (r : All2 (RVl K F ι) us vs) (hl : us.length ≤ N.length) : Rel K F ι (entry s us N.length) (start N vs) H := by
  have no : ∀ i a, ¬ OwnAt (entry s us N.length) (start N vs) i a := fun i a ⟨⟨x, e⟩, _⟩ => by
    obtain ⟨u, v, _, _, e2, _⟩ := entry_env (N := N) r e
    cases u <;> cases e2
  refine ⟨R.sub, fun i x e => ?_, R.mem, R.len, ?_, fun i j a h => absurd h (no i a), fun i k a h => absurd h (no i a), R.ll⟩
  · obtain ⟨u, v, h1, _, e2, h2⟩ := entry_env (N := N) r e
    refine ⟨v, start_get h1, ?_⟩
    subst e2
    cases u with
    | d x => exact h2
    | ref k => exact h2
  · have := All2.len r
    simp only [entry, L2.start, List.length_append, List.length_map, List.length_replicate]
    omega
theorem entry_own {us : List Vl} {vs : List V} {N : List Str} (r : All2 (RVl K F ι) us vs) {a : Addr} (h : Owned (entry s us N.length) (start N vs) ι a) : ∃ k, LiveAt s ι k a := by
  rcases h with ⟨i, ⟨x, e⟩, _⟩ | ⟨k, h⟩
  · obtain ⟨u, v, _, _, e2, _⟩ := entry_env (N := N) r e
    cases u <;> cases e2
  · exact ⟨k, h⟩
theorem entry_fresh {us : List Vl} {vs : List V} {N : List Str} (r : All2 (RVl K F ι) us vs) {a : Addr} (h : Fresh (entry s us N.length) (start N vs) ι H a) : Fresh s σ ι H a := by
  rcases h with h | h
  · exact .inl (.inr (entry_own r h))
  · exact .inr h
/-- what a caller's slot owns is out of a callee's reach -/
theorem own_far {us : List Vl} {vs : List V} {N : List Str} (R : Rel K F ι s σ H) (r : All2 (RVl K F ι) us vs) {i : Nat} {a : Addr} (h : OwnAt s σ i a) : ¬ Fresh (entry s us N.length) (start N vs) ι H a := fun f => by
  rcases f with f | f
  · obtain ⟨k, f⟩ := entry_own r f
    exact R.ol i k a h f
  · obtain ⟨o, q⟩ := Owned.there R (.inl ⟨i, h⟩)
    rw [f] at q
    cases q
/-- a def is left -/
theorem leave_rel {us : List Vl} {vs : List V} {N : List Str} {F2 H2 : Hp} {ι2 : List Addr} {s2 : S} {σ2 : L2.St} (R : Rel K F ι s σ H) (r : All2 (RVl K F ι) us vs) (t : Step F ι (entry s us N.length) (start N vs) H F2 ι2 s2 σ2 H2) (R2 : Rel K F2 ι2 s2 σ2 H2) :
    Rel K F2 ι { s with mem := s2.mem.take s.mem.length } σ H2 ∧ EStep F ι s σ H F2 ι { s with mem := s2.mem.take s.mem.length } H2 := by
  have hle : s.mem.length ≤ s2.mem.length := by
    have := t.ii.length_le
    rw [R.len, R2.len] at this
    exact this
  have lv : ∀ k a, LiveAt { s with mem := s2.mem.take s.mem.length } ι k a → LiveAt s2 ι2 k a := fun k a ⟨⟨x, e⟩, e2⟩ => by
    simp only [List.getElem?_take] at e
    split at e <;> first | (cases e; done) | skip
    exact ⟨⟨x, e⟩, pre_get t.ii e2⟩
  have ow : ∀ {i a}, OwnAt { s with mem := s2.mem.take s.mem.length } σ i a → OwnAt s σ i a := fun {i a} h => h
  refine ⟨⟨R2.sub, fun i x e => ?_, fun k c e => ?_, ?_, R.elen, R.oo, fun i k a h h2 => ?_, fun k l a h h2 => R2.ll k l a (lv k a h) (lv l a h2)⟩, ⟨⟨t.ff, List.prefix_refl _, fun a o e n => ?_, fun a h => ?_, fun a o e => ?_⟩, fun _ h => h⟩⟩
  · obtain ⟨v, e2, q⟩ := R.env i x e
    refine ⟨v, e2, ?_⟩
    cases x with
    | d x => exact RD.mono t.ff q
    | ref k => exact q
    | own x =>
      obtain ⟨a, o, rfl, h, q, f⟩ := q
      have far := own_far (N := N) R r (i := i) (a := a) ⟨⟨x, e⟩, e2⟩
      refine ⟨a, o, rfl, t.keep a o h (fun z => far (.inl z)), q.mono t.ff, ?_⟩
      cases z : F2 a with
      | none => rfl
      | some w =>
        rcases t.fro a w z with y | y
        · rw [f] at y; cases y
        · exact absurd y far
  · simp only [List.getElem?_take] at e
    split at e <;> first | (cases e; done) | skip
    rename_i hk
    obtain ⟨a, e2, q⟩ := R2.mem k c e
    have hk2 : k < ι.length := by rw [R.len]; exact hk
    obtain ⟨b, hb⟩ : ∃ b, ι[k]? = some b := ⟨ι[k], by simp [hk2]⟩
    have := pre_get t.ii hb
    rw [e2] at this
    cases this
    exact ⟨a, hb, q⟩
  · rw [List.length_take, R.len]
    omega
  · exact own_far (N := N) R r h (t.own a (.inr ⟨k, lv k a h2⟩))
  · exact t.keep a o e fun z => n (.inr (entry_own r z))
  · rcases h with ⟨i, h⟩ | ⟨k, h⟩
    · exact .inl (.inl ⟨i, h⟩)
    · exact entry_fresh r (t.own a (.inr ⟨k, lv k a h⟩))
  · rcases t.fro a o e with z | z
    · exact .inl z
    · exact .inr (entry_fresh r z)
theorem not_owned_after {us : List Vl} {vs : List V} {N : List Str} {F2 H2 : Hp} {ι2 : List Addr} {s2 : S} {σ2 : L2.St} (R : Rel K F ι s σ H) (r : All2 (RVl K F ι) us vs) (t : Step F ι (entry s us N.length) (start N vs) H F2 ι2 s2 σ2 H2) {a : Addr} (fr : Fresh (entry s us N.length) (start N vs) ι H a)
    (nl : ∀ k, k < s.mem.length → ¬ LiveAt s2 ι2 k a) : ¬ Owned { s with mem := s2.mem.take s.mem.length } σ ι a := fun h => by
  rcases h with ⟨i, h⟩ | ⟨k, ⟨x, e⟩, e2⟩
  · exact own_far (N := N) R r h fr
  · simp only [List.getElem?_take] at e
    split at e <;> first | (cases e; done) | skip
    rename_i hk
    exact nl k hk ⟨⟨x, e⟩, pre_get t.ii e2⟩
/-- what a def's body reaches, from what its call is to reach -/
theorem leave_ok {us : List Vl} {vs : List V} {N : List Str} {r2 : SR} {Q : VK} {E : XK} (R : Rel K F ι s σ H) (r : All2 (RVl K F ι) us vs) (h : Aft K T (fun c d _ H => E c d H) (ROut K) F ι s σ H (leave s r2) Q) :
    AftS K T (fun c d _ H => E c d H) F ι (entry s us N.length) (start N vs) H r2 { nx := fun _ H' => Q .non H', rt := Q } := by
  have nw : ∀ {x : Ev.D} {s2 : S} {F2 H2 : Hp} {ι2 : List Addr} {σ2 : L2.St} {a : Addr} {u : HO}, Aft K T (fun c d _ H => E c d H) (ROut K) F ι s σ H (.ok (.new x) { s with mem := s2.mem.take s.mem.length }) Q → Step F ι (entry s us N.length) (start N vs) H F2 ι2 s2 σ2 H2 → Rel K F2 ι2 s2 σ2 H2 →
      H2 a = some u → RObj K F2 x u → F2 a = none → Fresh (entry s us N.length) (start N vs) ι H a → (∀ k, k < s.mem.length → ¬ LiveAt s2 ι2 k a) → Q (.ref a) H2 := fun {x s2 F2 H2 ι2 σ2 a u} h t R2 hu ru f fr nl => by
    obtain ⟨R3, t3⟩ := leave_rel R r t R2
    exact h F2 ι H2 (.ref a) t3 R3 ⟨a, u, rfl, hu, ru, f, not_owned_after R r t fr nl, entry_fresh r fr⟩
  have pl : ∀ {x : Ev.D} {s2 : S} {F2 H2 : Hp} {ι2 : List Addr} {σ2 : L2.St} {v : V}, Aft K T (fun c d _ H => E c d H) (ROut K) F ι s σ H (.ok (.d x) { s with mem := s2.mem.take s.mem.length }) Q → Step F ι (entry s us N.length) (start N vs) H F2 ι2 s2 σ2 H2 → Rel K F2 ι2 s2 σ2 H2 →
      RD K F2 x v → Q v H2 := fun {x s2 F2 H2 ι2 σ2 v} h t R2 rd => by
    obtain ⟨R3, t3⟩ := leave_rel R r t R2
    exact h F2 ι H2 v t3 R3 rd
  cases r2 with
  | next s2 => exact fun F2 ι2 σ2 H2 t R2 => pl h t R2 .non
  | brk s2 => exact h.elim
  | cont s2 => exact h.elim
  | bad => exact h.elim
  | exc x s2 =>
    intro F2 ι2 σ2 H2 c d t R2 rx
    obtain ⟨R3, t3⟩ := leave_rel R r t R2
    exact h F2 ι H2 c d t3 R3 rx
  | ret o s2 =>
    intro F2 ι2 σ2 H2 v t R2 ro
    cases o with
    | d x => exact pl h t R2 ro
    | new x =>
      obtain ⟨a, u, rfl, hu, ru, f, n, fr⟩ := ro
      exact nw h t R2 hu ru f fr fun k _ z => n (.inr ⟨k, z⟩)
    | ref k =>
      obtain ⟨a, ea, rfl⟩ := ro
      simp only [leave] at h
      split at h
      · rename_i hk
        obtain ⟨R3, t3⟩ := leave_rel R r t R2
        have hk2 : k < ι.length := by rw [R.len]; exact hk
        obtain ⟨b, hb⟩ : ∃ b, ι[k]? = some b := ⟨ι[k], by simp [hk2]⟩
        have := pre_get t.ii hb
        rw [ea] at this
        cases this
        exact h F2 ι H2 (.ref a) t3 R3 ⟨a, hb, rfl⟩
      · rename_i hk
        split at h <;> first | (exact h.elim) | skip
        · rename_i x ex
          obtain ⟨b, eb, u, hu, ru, f⟩ := R2.mem k _ ex
          rw [ea] at eb
          cases eb
          have lk : LiveAt s2 ι2 k a := ⟨⟨x, ex⟩, ea⟩
          exact nw h t R2 hu ru f (t.own a (.inr ⟨k, lk⟩)) fun j hj z => hk (by rw [R2.ll k j a lk z]; exact hj)
        · rename_i x ex
          obtain ⟨b, eb, rd⟩ := R2.mem k _ ex
          rw [ea] at eb
          cases eb
          exact pl h t R2 rd
    | own i =>
      obtain ⟨ev, _⟩ := ro
      simp only [leave] at h
      split at h <;> first | (exact h.elim) | skip
      · rename_i x ex
        obtain ⟨v2, e2, a, u, rfl, hu, ru, f⟩ := R2.env i _ ex
        rw [ev] at e2
        cases e2
        have ok : OwnAt s2 σ2 i a := ⟨⟨x, ex⟩, ev⟩
        exact nw h t R2 hu ru f (t.own a (.inl ⟨i, ok⟩)) fun j hj z => R2.ol i j a ok z
      · rename_i x ex
        obtain ⟨v2, e2, rd⟩ := R2.env i _ ex
        rw [ev] at e2
        cases e2
        exact pl h t R2 rd
end
end Ev

set_option Elab.async false
set_option linter.all false
set_option autoImplicit false
set_option maxHeartbeats 1000000
/-! Ev, part U: what a def promises where nothing is being shown; its body; its calls. -/
namespace Ev
variable [ClsTab]
open PySem PySem.Spec PyProof.Rows L2
/-- a def's promise, of calls with no repr around -/
structure FnG (P : Program) (w : World) (K : PySem.W.Frag) (mg : Str → Option Value) (base : Heap) (n : Nat) (f : Addr) (fd : FuncData) (ps : List Str) (sp : Sp) : Prop where
  many : ∀ vs H Q E, sp vs H Q E → vs.length = ps.length
  go : ∀ (B : Around) (below : List Env) (st : Shared) (H : Hp) (ar : Args) (us : List Value) (vs : List V) (Q : VK) (E : XK), sp vs H Q E → Vals vs us → BindsTo st fd ar (ps.zip us) → Room n B → B.guards = some [] →
    Env0 P w K mg base B below st H → codeAny (model P w) B (.call (.ref f) ar) (CR (L2.CX P w) below P w H st Q E) st
omit [ClsTab] in
theorem FnG.up {P : Program} {w : World} {K : PySem.W.Frag} {mg : Str → Option Value} {base : Heap} {m n : Nat} {f : Addr} {fd : FuncData} {ps : List Str} {sp : Sp} (h : FnG P w K mg base m f fd ps sp) (l : m ≤ n) : FnG P w K mg base n f fd ps sp :=
  ⟨h.many, fun B below st H ar us vs Q E q v b r => h.go B below st H ar us vs Q E q v b (r.mono l)⟩
omit [ClsTab] in
theorem guards_deeper (A : Around) (env : Env) : (A.deeper env).guards = A.guards := rfl
section
variable {P : Program} {w : World} {K : PySem.W.Frag} {mg : Str → Option Value} {base : Heap} {x qual : Str} {params : Arguments} {body : List Stmt} {scope : Scope} {dvs : List V} {kws : List (Str × V)} {f : Addr} {fd : FuncData}
omit [ClsTab] in
/-- a def by its body -/
theorem FnG.by_body {N ps : List Str} {n : Nat} {sp : Sp} (D : FunD K x qual params body scope dvs kws f fd) (S : FnScope N ps scope) (many : ∀ vs H Q E, sp vs H Q E → vs.length = ps.length)
    (hb : ∀ (cdv : Value) (B : Around) (below : List Env) (st : Shared) (H : Hp) (vs : List V) (Q : VK) (E : XK), Room n (B.deeper (envOfC qual scope st.heap.objs.size f cdv)) → B.guards = some [] → sp vs H Q E →
      ∃ t, PSs (cxOf (L2.CX P w) P w K mg base N qual scope f cdv B below st H E) body t ∧ t { nx := fun _ H' => Q .non H', rt := Q } (L2.start N vs) H) : FnG P w K mg base (n + 1) f fd ps sp := by
  obtain ⟨oc, od, dV, kV, doc, pm, an, cdv, ct, osl, rfl, lk, hcd, _, _⟩ := D.ex
  refine ⟨many, fun B below st H ar us vs Q E q v b r g e0 => ?_⟩
  have room : K.In st.heap := e0.mod.kin.keeps fun a o h => (e0.bs a o h).1
  have kinds : ∀ y ∈ ps.zip us, scope.names.lookup y.1 = some .local ∨ (scope.names.lookup y.1 = some .cell ∧ ((cellsFrom (st.heap.objs.size + 1) scope.names []).lookup y.1).isSome = true) := by
    rintro ⟨y, z⟩ hy
    rcases S.par y (List.of_mem_zip hy).1 with h | h
    · exact .inl h
    · exact .inr ⟨h, PySem.W.cellsFrom_some _ _ _ (.inl h)⟩
  refine codeAny_call_function r.depth (room _ _ lk) rfl S.co S.gen rfl (PySem.W.codeRec_of room hcd) (b _ _ _ _ (wpAny_newFunctionEnv_cells S.kind kinds fun env he s1 ic => ?_))
  subst he
  refine ⟨(e0.mod.nolimit.keeps fun a o h => (e0.bs a o h).1).keeps ic.toInCall.keep, codeAny_func ?_⟩
  obtain ⟨t, ht, hq⟩ := hb cdv B below st H vs Q E (r.deeper _) g q
  have I := inv_start (E := E) (CX := L2.CX P w) S r.hd e0 (many _ _ _ _ q) v ic
  refine wpAny_mono (ht.run [] s1 _ H _ I hq) (fun fl s2 h => ?_) fun _ _ h => h
  cases fl with
  | brk => exact (h.elim fun _ h => h.elim fun _ h => h.2).elim
  | cont => exact (h.elim fun _ h => h.elim fun _ h => h.2).elim
  | ret u =>
    obtain ⟨y, _, H2, J, ry, qy⟩ := h
    exact ⟨y, H2, J.os, J.bare, J.base, J.hok, ry, qy⟩
  | next =>
    obtain ⟨_, H2, J, qy⟩ := h
    exact ⟨.non, H2, J.os, J.bare, J.base, J.hok, rfl, qy⟩
end
section
variable {X : Cx} {T : CT} {W : WX} {n : Nat} {f : Addr} {fd : FuncData} {ps : List Str} {sp : Sp} {dvs : List V} {ds : List Value} {y : Str} {p pos : Pos} {e : Expr} {es : List Expr} {t : TA}
omit [ClsTab] in
theorem FnG.run {pins : List (Addr × Obj)} {σ : L2.St} {H : Hp} {st : Shared} {Q : VK} {us : List Value} {vs : List V} (h : FnG X.prog X.w X.K X.mg X.base n f fd ps sp) (r : Room n X.A) (g : X.A.guards = some []) (hb : Binds X.K fd ps ds) (hd : Vals dvs ds) (tk : Takes X W)
    (I : Inv X pins σ H st) (v : Vals vs us) (q : sp (vs ++ dvs) H Q fun c d H' => W c d σ H') : wpAny (model X.prog X.w) X.A (PySem.call (.ref f) us) (EP X pins σ Q) X.xe st := by
  have v2 := v.append hd
  have len : (us ++ ds).length = ps.length := v2.length.symm.trans (h.many _ _ _ _ q)
  refine wpAny_call (codeAny_mono (h.go X.A X.stack st H ⟨us, []⟩ (us ++ ds) _ Q _ q v2 (hb st us I.kIn len) r g I.env0) fun res s2 hr => ?_)
  cases res with
  | error x => exact tk x s2 (XE.of_call I (fun _ _ _ h => h) hr)
  | ok fl =>
    cases fl with
    | ret u => exact I.after hr
    | next => exact hr.elim
    | brk => exact hr.elim
    | cont => exact hr.elim
def tCl (sp : Sp) (W : WX) (dvs : List V) (t : TA) : TE := fun σ H Q => t σ H fun vs H1 => sp (vs ++ dvs) H1 Q fun c d H' => W c d σ H'
omit [ClsTab] in
theorem FnG.call (h : FnG X.prog X.w X.K X.mg X.base n f fd ps sp) (r : Room n X.A) (g : X.A.guards = some []) (hg : Gl X y) (hm : X.mg y = some (.ref f)) (hk : PySem.W.keepIn X.K (.ref f) = true) (hb : Binds X.K fd ps ds) (hd : Vals dvs ds) (tk : Takes X W) (ha : PA X (e :: es) t)
    (hdb : (y == ("__debug__" : Str)) = false) (he : starEach (e :: es) X.env = (false, eval e X.env) :: starEach es X.env) (hp : (backTo pos (starEach es X.env)).any (·.1) = false) : PE X (.Call (.Name y p) (e :: es) [] pos) (tCl sp W dvs t) :=
  ⟨fun pins st σ H Q I q => wpAny_Call_Name_kw (ld_glob I hg hm (PySem.W.callWith_K (h₀ := X.base) I.ok.mod.kin hk (thn (ha.run pos pins st σ H _ I q) fun us s1 ⟨vs, H1, I1, v, q1⟩ => ⟨I1.kIn, h.run r g hb hd tk I1 v q1⟩) he hp) hdb)⟩
omit [ClsTab] in
theorem FnG.call0 (h : FnG X.prog X.w X.K X.mg X.base n f fd ps sp) (r : Room n X.A) (g : X.A.guards = some []) (hg : Gl X y) (hm : X.mg y = some (.ref f)) (hk : PySem.W.keepIn X.K (.ref f) = true) (hb : Binds X.K fd ps ds) (hd : Vals dvs ds) (tk : Takes X W)
    (hdb : (y == ("__debug__" : Str)) = false) : PE X (.Call (.Name y p) [] [] pos) (tCl sp W dvs tNil) :=
  ⟨fun pins st σ H Q I q => wpAny_Call_Name_kw (ld_glob I hg hm (PySem.W.callWith_K0 I.kIn hk (h.run (us := []) (vs := []) r g hb hd tk I .nil q)) hdb)⟩
end
/-! ### the evaluator's defs -/
/-- the promise of the def number f, by the evaluator -/
def spF (K : PySem.W.Frag) (T : CT) (F : Call) (f n : Nat) : Sp := fun vs H Q E => vs.length = n ∧ ∃ F0 ι s σ us, Rel K F0 ι s σ H ∧ All2 (RVl K F0 ι) us vs ∧ Aft K T (fun c d _ H => E c d H) (ROut K) F0 ι s σ H (F f us s) Q
section
variable {X : Cx} {T : CT} {W : WX} {n : Nat} {f : Addr} {fd : FuncData} {ps : List Str} {dvs : List V} {ds : List Value} {y : Str} {p pos : Pos} {e : Expr} {es : List Expr}
abbrev RVls (K : PySem.W.Frag) : RT (List Vl) (List V) := fun _ F ι _ _ _ us vs => All2 (RVl K F ι) us vs
instance (K : PySem.W.Frag) : Mono (RVls K) := ⟨fun _ r => r⟩
theorem RVl.step {K : PySem.W.Frag} {F F' : Hp} {ι ι' : List Addr} {u : Vl} {v : V} (r : RVl K F ι u v) (ff : Same F F') (ii : ι <+: ι') : RVl K F' ι' u v := by
  cases u with
  | d x => exact RD.mono ff r
  | ref k => obtain ⟨a, e, q⟩ := r; exact ⟨a, pre_get ii e, q⟩
theorem v_nil : PA X [] (tM X.K T W (RVls X.K) (passes [])) := pa_nil.imp fun σ H Q ⟨F, ι, s, R, A⟩ => A F ι H [] (.refl ..) R .nil
theorem v_cons {m : EM Out} {ms : List (EM Out)} (ha : PE X e (tE X.K T W m)) (hr : PA X es (tM X.K T W (RVls X.K) (passes ms))) (hs : starEach (e :: es) X.env = (false, eval e X.env) :: starEach es X.env) : PA X (e :: es) (tM X.K T W (RVls X.K) (passes (m :: ms))) :=
  (pa_cons ha hr hs).imp fun σ H Q ⟨F, ι, s, R, A⟩ => by
    refine ⟨F, ι, s, R, A.bind0 fun o s1 F1 i1 H1 v _ t1 R1 r1 A1 => ?_⟩
    have fin : ∀ {u : Vl} {s2 : S} {F2 : Hp}, EStep F ι s σ H F2 i1 s2 H1 → Rel X.K F2 i1 s2 σ H1 → RVl X.K F2 i1 u v → Aft X.K T W (RVls X.K) F ι s σ H (((passes ms).bind fun us => EM.pure (u :: us)) s2) Q → tM X.K T W (RVls X.K) (passes ms) σ H1 fun xs H2 => Q (v :: xs) H2 := fun {u s2 F2} t2 R2 ru A2 =>
      ⟨F2, i1, s2, R2, (A2.from t2).bind fun us s3 F3 i3 H3 vs _ t3 R3 rs A3 => A3 F3 i3 H3 _ (.refl ..) R3 (.cons (ru.step t3.ff t3.ii) rs)⟩
    cases o with
    | ref k => exact fin (u := .ref k) t1 R1 r1 A1
    | d x =>
      obtain ⟨z, s2, F2, t2, R2, rd, A2⟩ := Aft.keep (o := .d x) (f := fun x => (passes ms).bind fun us => EM.pure (.d x :: us)) A1 t1 R1 r1
      exact fin (u := .d z) t2 R2 rd A2
    | new x =>
      obtain ⟨z, s2, F2, t2, R2, rd, A2⟩ := Aft.keep (o := .new x) (f := fun x => (passes ms).bind fun us => EM.pure (.d x :: us)) A1 t1 R1 r1
      exact fin (u := .d z) t2 R2 rd A2
    | own i =>
      have A1' : Aft X.K T W (RVls X.K) F ι s σ H (((Ev.keep (.own i)).bind fun x => (passes ms).bind fun us => EM.pure (Vl.d x :: us)) s1) Q := by
        have e1 : ((pass (.own i)).bind fun u => (passes ms).bind fun us => EM.pure (u :: us)) s1 = ((Ev.keep (.own i)).bind fun x => (passes ms).bind fun us => EM.pure (Vl.d x :: us)) s1 := by
          simp only [pass, EM.bind]
          cases Ev.keep (.own i) s1 <;> rfl
        rw [← e1]
        exact A1
      obtain ⟨z, s2, F2, t2, R2, rd, A2⟩ := Aft.keep A1' t1 R1 r1
      exact fin (u := .d z) t2 R2 rd A2
omit [ClsTab] in
theorem All2.app {α β : Type} {R : α → β → Prop} : ∀ {as as' : List α} {bs bs' : List β}, All2 R as bs → All2 R as' bs' → All2 R (as ++ as') (bs ++ bs')
  | _, _, _, _, .nil, h => h
  | _, _, _, _, .cons a b, h => .cons a (All2.app b h)
theorem dfl_vls {K : PySem.W.Frag} {F : Hp} {ι : List Addr} : ∀ {xs : List Ev.D} {vs : List V}, RDs K F xs vs → All2 (RVl K F ι) (xs.map .d) vs
  | _, _, .nil => .nil
  | _, _, .cons a b => .cons a (dfl_vls b)
theorem call_imp {C : Call} {fi : Nat} {ms : List (EM Out)} {dd : List Ev.D} {σ : L2.St} {H : Hp} {Q : VK} (hd : ∀ F, RDs X.K F dd dvs) (hl : ∀ us s, us.length ≠ n → C fi us s = .bad) (h : tE X.K T W (Ev.call C fi ms dd) σ H Q) : tCl (spF X.K T C fi n) W dvs (tM X.K T W (RVls X.K) (passes ms)) σ H Q := by
  obtain ⟨F, ι, s, R, A⟩ := h
  refine ⟨F, ι, s, R, A.bind fun us s1 F1 i1 H1 vs _ t1 R1 rs A1 => ?_⟩
  have r2 : All2 (RVl X.K F1 i1) (us ++ dd.map .d) (vs ++ dvs) := rs.app (dfl_vls (hd F1))
  refine ⟨?_, F1, i1, s1, σ, _, R1, r2, ?_⟩
  · by_cases hn : (us ++ dd.map Vl.d).length = n
    · rw [← r2.len]
      exact hn
    · rw [hl _ _ hn] at A1
      exact A1.elim
  · cases hr : C fi (us ++ dd.map .d) s1 with
    | ok o s2 =>
      rw [hr] at A1
      exact A1
    | bad =>
      rw [hr] at A1
      exact A1
    | exc x s2 =>
      rw [hr] at A1
      exact A1
theorem View.frz {K : PySem.W.Frag} {F F2 H : Hp} {d : Ev.D} {v : V} (e : Same F F2) (h : View K F H d v) : View K F2 H d v := by
  rcases h with h | ⟨a, o, e1, e2, r⟩
  · exact .inl (RD.mono e h)
  · exact .inr ⟨a, o, e1, e2, r.mono e⟩
theorem call_nil {sp : Sp} {σ : L2.St} {H : Hp} {Q : VK} (h : tCl sp W dvs (tM X.K T W (RVls X.K) (passes [])) σ H Q) : tCl sp W dvs tNil σ H Q := by
  obtain ⟨F, ι, s, R, A⟩ := h
  exact A F ι H [] (.refl ..) R .nil
theorem frozen {K : PySem.W.Frag} {H : Hp} : ∀ {F : Hp} {ds : List Ev.D} {vs : List V}, Same F H → Views K F H ds vs → ∃ F2, Same F F2 ∧ Same F2 H ∧ RDs K F2 ds vs
  | F, _, _, sb, .nil => ⟨F, .refl F, sb, .nil⟩
  | F, _, _, sb, .cons (a := d) (b := v) h r => by
    rcases h with h | ⟨a, o, rfl, ho, q⟩
    · obtain ⟨F2, e1, e2, q⟩ := frozen sb r
      exact ⟨F2, e1, e2, .cons (RD.mono e1 h) q⟩
    · have s1 : Same F (upd F a o) := fun b u e => by
        by_cases z : b = a
        · subst z
          rw [upd_same, ← ho, sb _ _ e]
        · rw [upd_ne z]
          exact e
      have s2 : Same (upd F a o) H := fun b u e => by
        by_cases z : b = a
        · subst z
          rw [upd_same] at e
          rw [ho, e]
        · rw [upd_ne z] at e
          exact sb _ _ e
      have r2 : Views K (upd F a o) H _ _ := All2.mono (fun _ _ q => View.frz s1 q) r
      obtain ⟨F2, e1, e2, q2⟩ := frozen s2 r2
      refine ⟨F2, s1.trans e1, e2, .cons ?_ q2⟩
      cases d with
      | lst xs =>
        obtain ⟨vs, rfl, rs⟩ := q
        exact .lst (e1 _ _ upd_same) (RDs.mono (s1.trans e1) rs)
      | ins c ns xs =>
        obtain ⟨C, dx, vs, h0, rfl, h1, rs⟩ := q
        exact .ins h0 (e1 _ _ upd_same) h1 (RDs.mono (s1.trans e1) rs)
      | _ => exact q.elim
theorem callB_imp {C : Call} {fi : Nat} {ms : List (EM Out)} {σ : L2.St} {H : Hp} {Q : VK} (hl : ∀ us s, us.length ≠ n → C fi us s = .bad) (h : tE X.K T W (callB C fi ms) σ H Q) : tCl (spF X.K T C fi n) W [] (tM X.K T W (ROs X.K) (args ms)) σ H Q := by
  obtain ⟨F, ι, s, R, A⟩ := h
  refine ⟨F, ι, s, R, A.bind fun os s1 F1 i1 H1 vs _ _ R1 rs A1 => ?_⟩
  unfold EM.bind at A1
  cases q : gets os s1 with
  | exc x s2 => exact absurd q gets_exc
  | bad =>
    rw [q] at A1
    exact A1.elim
  | ok ds s2 =>
    rw [q] at A1
    try simp only at A1
    obtain ⟨rfl, vw⟩ := gets_views R1 rs q
    obtain ⟨F2, e1, e2, rd⟩ := frozen R1.sub vw
    have r0 : Rel X.K F2 [] ⟨[], []⟩ [] H1 := ⟨e2, fun i x e => (by simp at e), fun k c e => (by simp at e), rfl, rfl, fun i j a h => (by obtain ⟨⟨x, e⟩, _⟩ := h; simp at e), fun i k a h => (by obtain ⟨⟨x, e⟩, _⟩ := h; simp at e), fun k l a h => (by obtain ⟨⟨x, e⟩, _⟩ := h; simp at e)⟩
    cases hr : C fi (ds.map .d) ⟨[], []⟩ with
    | bad => rw [hr] at A1; exact A1.elim
    | exc x s3 => rw [hr] at A1; exact A1.elim
    | ok o s3 =>
      rw [hr] at A1
      try simp only at A1
      split at A1 <;> first | exact A1.elim | skip
      rename_i x s4 hx
      cases hx
      split at A1 <;> first | exact A1.elim | skip
      rename_i hat
      refine ⟨?_, F2, [], ⟨[], []⟩, [], ds.map .d, r0, by rw [List.append_nil]; exact dfl_vls rd, ?_⟩
      · rw [List.append_nil, ← rd.length]
        by_cases hn : (ds.map Vl.d).length = n
        · rw [List.length_map] at hn
          exact hn
        · rw [hl _ _ hn] at hr
          cases hr
      · rw [hr]
        intro F3 i3 H3 v st R3 rv
        have keep : Same H1 H3 := fun a o e => st.keep a o e fun ow => by
          rcases ow with ⟨i, ⟨y, z⟩, _⟩ | ⟨k, ⟨y, z⟩, _⟩ <;> simp at z
        have more : More F1 H1 F1 H3 := ⟨.refl _, keep, R1.sub.trans keep, fun a o e => .inl e⟩
        refine A1 F1 i1 H3 v (.more more) (R1.more more) ?_
        have rv : RD X.K F3 x v := rv
        show RD X.K F1 x v
        cases x <;> first | (cases hat; done) | (cases rv; constructor; done) | (cases rv; constructor; assumption)
theorem callB_nil {sp : Sp} {σ : L2.St} {H : Hp} {Q : VK} (h : tCl sp W [] (tM X.K T W (ROs X.K) (args [])) σ H Q) : tCl sp W [] tNil σ H Q := by
  obtain ⟨F, ι, s, R, A⟩ := h
  exact A F ι H [] (.refl ..) R .nil
end
end Ev

set_option Elab.async false
set_option linter.all false
set_option autoImplicit false
set_option maxHeartbeats 1000000
/-! Ev, part Uk: calls of defs with keywords that stand in the parameters' order. -/
namespace Ev
variable [ClsTab]
open PySem PySem.Spec PyProof.Rows L2
omit [ClsTab] in
theorem passes_len : ∀ {ms : List (EM Out)} {s s' : S} {us : List Vl}, passes ms s = .ok us s' → us.length = ms.length
  | [], s, s', us, h => by
    cases h
    rfl
  | m :: ms, s, s', us, h => by
    simp only [passes, EM.bind] at h
    split at h <;> first | (cases h; done) | skip
    split at h <;> first | (cases h; done) | skip
    split at h <;> first | (cases h; done) | skip
    rename_i e
    cases h
    simp [passes_len e]
omit [ClsTab] in
theorem passes_app : ∀ (ms ns : List (EM Out)), passes (ms ++ ns) = (passes ms).bind fun us => (passes ns).bind fun zs => EM.pure (us ++ zs)
  | [], ns => by
    funext s
    simp only [passes, List.nil_append, EM.bind, EM.pure]
    cases passes ns s <;> rfl
  | m :: ms, ns => by
    funext s
    simp only [passes, List.cons_append, EM.bind, EM.pure, passes_app ms ns]
    cases m s <;> simp only
    rename_i o s1
    cases pass o s1 <;> simp only
    rename_i u s2
    cases passes ms s2 <;> simp only
    rename_i us s3
    cases passes ns s3 <;> simp only [List.cons_append]
section
variable {X : Cx} {T : CT} {W : WX} {n m : Nat} {f : Addr} {fd : FuncData} {ps ks : List Str} {sp : Sp} {y : Str} {p pos : Pos} {e : Expr} {es : List Expr} {kws : List Keyword} {t tk : TA} {g : List Value → List Value → List Value} {gV : List V → List V → List V}
def tCK (n m : Nat) (sp : Sp) (gV : List V → List V → List V) (W : WX) (t tk : TA) : TE := fun σ H Q => t σ H fun vs H1 => tk σ H1 fun zs H2 => vs.length = n ∧ zs.length = m ∧ sp (gV vs zs) H2 Q fun c d H' => W c d σ H'
omit [ClsTab] in
theorem FnG.callK (h : FnG X.prog X.w X.K X.mg X.base n f fd ps sp) (r : Room n X.A) (gd : X.A.guards = some []) (hg : Gl X y) (hm : X.mg y = some (.ref f)) (hk : PySem.W.keepIn X.K (.ref f) = true) (hb : KBn X.K fd ps m ks g gV) (tk0 : Takes X W)
    (ha : PA X (e :: es) t) (hkw : PK X kws tk) (hall : (backToKw pos (keywordEach kws X.env)).all (·.1.isSome) = true) (hks : (backToKw pos (keywordEach kws X.env)).filterMap (·.1) = ks)
    (hdb : (y == ("__debug__" : Str)) = false) (he : starEach (e :: es) X.env = (false, eval e X.env) :: starEach es X.env)
    (hpl : ((backTo pos (starEach (e :: es) X.env)).any (·.1) || (backToKw pos (keywordEach kws X.env)).any (·.1.isNone)) = false) :
    PE X (.Call (.Name y p) (e :: es) kws pos) (tCK m ks.length sp gV W t tk) := by
  refine ⟨fun pins s σ H Q I h0 => ?_⟩
  refine wpAny_Call_Name_kw (ld_glob I hg hm ?_ hdb)
  refine PySem.W.callWith_KW (h₀ := X.base) I.ok.mod.kin hk hall (thn (ha.run pos pins s σ H _ I h0) fun us s1 ⟨vs, H1, I1, rv, q⟩ => ?_) hpl he
  refine thn (hkw.run pos pins s1 σ H1 _ I1 q) fun ws s2 ⟨zs, H2, I2, rz, l1, l2, q2⟩ => ⟨I2.kIn, ?_⟩
  rw [hks]
  have r2 := hb.rel rv rz
  refine wpAny_call (codeAny_mono (h.go X.A X.stack s2 H2 ⟨us, ks.zip ws⟩ (g us ws) (gV vs zs) Q _ q2 r2 (hb.to s2 us ws I2.kIn (rv.length.symm.trans l1) (rz.length.symm.trans l2)) r gd I2.env0) fun res s3 hr => ?_)
  cases res with
  | error x => exact tk0 x s3 (XE.of_call I2 (fun _ _ _ h => h) hr)
  | ok fl =>
    cases fl with
    | ret u => exact I2.after hr
    | next => exact hr.elim
    | brk => exact hr.elim
    | cont => exact hr.elim
theorem callK_imp {C : Call} {fi : Nat} {ms ns : List (EM Out)} {σ : L2.St} {H : Hp} {Q : VK} (hl : ∀ us s, us.length ≠ n → C fi us s = .bad) (h : tE X.K T W (Ev.call C fi (ms ++ ns) []) σ H Q) :
    tCK ms.length ns.length (spF X.K T C fi n) (fun vs zs => vs ++ zs) W (tM X.K T W (RVls X.K) (passes ms)) (tM X.K T W (RVls X.K) (passes ns)) σ H Q := by
  obtain ⟨F, ι, s, R, A⟩ := h
  have e1 : Ev.call C fi (ms ++ ns) [] = (passes ms).bind fun us => (passes ns).bind fun zs => C fi (us ++ zs) := by
    unfold Ev.call
    rw [passes_app]
    funext s
    simp only [EM.bind, EM.pure, List.map_nil, List.append_nil]
    cases passes ms s <;> simp only
    rename_i us s1
    cases passes ns s1 <;> rfl
  rw [e1] at A
  refine ⟨F, ι, s, R, A.bind fun us s1 F1 i1 H1 vs q1 t1 R1 rs A1 => ?_⟩
  refine ⟨F1, i1, s1, R1, A1.bind fun ws s2 F2 i2 H2 zs q2 t2 R2 rz A2 => ?_⟩
  have r1 : All2 (RVl X.K F2 i2) us vs := All2.mono (fun _ _ q => RVl.step q t2.ff t2.ii) rs
  have r2 : All2 (RVl X.K F2 i2) (us ++ ws) (vs ++ zs) := r1.app rz
  refine ⟨by rw [← r1.len]; exact passes_len q1, by rw [← rz.len]; exact passes_len q2, ?_, F2, i2, s2, σ, _, R2, r2, ?_⟩
  · by_cases hn : (us ++ ws).length = n
    · rw [← r2.len]
      exact hn
    · rw [hl _ _ hn] at A2
      exact A2.elim
  · cases hr : C fi (us ++ ws) s2 with
    | ok o s3 =>
      rw [hr] at A2
      exact A2
    | bad =>
      rw [hr] at A2
      exact A2
    | exc x s3 =>
      rw [hr] at A2
      exact A2
theorem v_imp {m : EM Out} {ms : List (EM Out)} {σ : L2.St} {H : Hp} {Q : List V → Hp → Prop} (h : tM X.K T W (RVls X.K) (passes (m :: ms)) σ H Q) : tCons (tE X.K T W m) (tM X.K T W (RVls X.K) (passes ms)) σ H Q := by
  obtain ⟨F, ι, s, R, A⟩ := h
  refine ⟨F, ι, s, R, A.bind0 fun o s1 F1 i1 H1 v _ t1 R1 r1 A1 => ?_⟩
  have fin : ∀ {u : Vl} {s2 : S} {F2 : Hp}, EStep F ι s σ H F2 i1 s2 H1 → Rel X.K F2 i1 s2 σ H1 → RVl X.K F2 i1 u v → Aft X.K T W (RVls X.K) F ι s σ H (((passes ms).bind fun us => EM.pure (u :: us)) s2) Q → tM X.K T W (RVls X.K) (passes ms) σ H1 fun xs H2 => Q (v :: xs) H2 := fun {u s2 F2} t2 R2 ru A2 =>
    ⟨F2, i1, s2, R2, (A2.from t2).bind fun us s3 F3 i3 H3 vs _ t3 R3 rs A3 => A3 F3 i3 H3 _ (.refl ..) R3 (.cons (ru.step t3.ff t3.ii) rs)⟩
  cases o with
  | ref k => exact fin (u := .ref k) t1 R1 r1 A1
  | d x =>
    obtain ⟨z, s2, F2, t2, R2, rd, A2⟩ := Aft.keep (o := .d x) (f := fun x => (passes ms).bind fun us => EM.pure (.d x :: us)) A1 t1 R1 r1
    exact fin (u := .d z) t2 R2 rd A2
  | new x =>
    obtain ⟨z, s2, F2, t2, R2, rd, A2⟩ := Aft.keep (o := .new x) (f := fun x => (passes ms).bind fun us => EM.pure (.d x :: us)) A1 t1 R1 r1
    exact fin (u := .d z) t2 R2 rd A2
  | own i =>
    have A1' : Aft X.K T W (RVls X.K) F ι s σ H (((Ev.keep (.own i)).bind fun x => (passes ms).bind fun us => EM.pure (Vl.d x :: us)) s1) Q := by
      have e1 : ((pass (.own i)).bind fun u => (passes ms).bind fun us => EM.pure (u :: us)) s1 = ((Ev.keep (.own i)).bind fun x => (passes ms).bind fun us => EM.pure (Vl.d x :: us)) s1 := by
        simp only [pass, EM.bind]
        cases Ev.keep (.own i) s1 <;> rfl
      rw [← e1]
      exact A1
    obtain ⟨z, s2, F2, t2, R2, rd, A2⟩ := Aft.keep A1' t1 R1 r1
    exact fin (u := .d z) t2 R2 rd A2
theorem v_nil_imp {σ : L2.St} {H : Hp} {Q : List V → Hp → Prop} (h : tM X.K T W (RVls X.K) (passes []) σ H Q) : tNil σ H Q := by
  obtain ⟨F, ι, s, R, A⟩ := h
  exact A F ι H [] (.refl ..) R .nil
theorem k_one {nm : Option Str} {kpos : Pos} {mk : EM Out} (hk : PE X e (tE X.K T W mk)) : PK X [⟨nm, e, kpos⟩] (tM X.K T W (RVls X.K) (passes [mk])) := by
  refine ⟨fun pos pins st σ H Q I q => ?_⟩
  have hs : PK X [⟨nm, e, kpos⟩] (tCons (tE X.K T W mk) (tM X.K T W (RVls X.K) (passes []))) := pk_cons hk ⟨fun pos pins st σ H Q I q => pk_nil.run pos pins st σ H Q I (v_nil_imp q)⟩
  exact hs.run pos pins st σ H Q I (v_imp q)
end
end Ev

set_option Elab.async false
set_option linter.all false
set_option autoImplicit false
set_option maxHeartbeats 1000000
/-! Ev, part Up: f(x, y), where y's own list is lent as a cell for the call. -/
namespace Ev
variable [ClsTab]
open PySem PySem.Spec PyProof.Rows L2
def lend (F : Call) (f i : Nat) (u : Vl) : EM Out := fun s => match s.env[i]? with
  | some (some (.own t)) => (match F f [u, .ref s.mem.length] ⟨[], s.mem ++ [.live t]⟩ with
    | .ok (.d r) s' => (match s'.mem[s.mem.length]? with
      | some (.live t') => .ok (.d r) ⟨s.env.set i (some (.own t')), s'.mem.take s.mem.length⟩
      | _ => .bad)
    | _ => .bad)
  | _ => .bad
def callP (F : Call) (f : Nat) (es : List (EM Out)) : EM Out := (args es).bind fun xs => match xs with
  | [.ref k, .own i] => lend F f i (.ref k)
  | _ => fun _ => .bad
section
variable {K : PySem.W.Frag} {F1 H1 : Hp} {i1 : List Addr} {s1 : S} {σ : L2.St}
/-- the slot's thing stands as a further cell -/
theorem lent_rel {i : Nat} {t : Ev.D} {a : Addr} (R : Rel K F1 i1 s1 σ H1) (e : s1.env[i]? = some (some (.own t))) (es : σ[i]? = some (some (.ref a))) : Rel K F1 (i1 ++ [a]) ⟨[], s1.mem ++ [.live t]⟩ [] H1 := by
  have ow : OwnAt s1 σ i a := ⟨⟨t, e⟩, es⟩
  have live : ∀ {k b}, LiveAt ⟨[], s1.mem ++ [.live t]⟩ (i1 ++ [a]) k b → LiveAt s1 i1 k b ∨ (k = s1.mem.length ∧ b = a) := fun {k b} ⟨⟨x, h⟩, h2⟩ => by
    rcases Nat.lt_or_ge k s1.mem.length with hk | hk
    · simp only [List.getElem?_append_left hk] at h
      rw [List.getElem?_append_left (by rw [R.len]; exact hk)] at h2
      exact .inl ⟨⟨x, h⟩, h2⟩
    · have hk2 : k < i1.length + 1 := by
        have := (List.getElem?_eq_some_iff.mp h2).1
        simpa using this
      have : k = s1.mem.length := by rw [R.len] at hk2; omega
      subst this
      rw [List.getElem?_append_right (by rw [R.len]; exact Nat.le_refl _), R.len, Nat.sub_self] at h2
      simp at h2
      exact .inr ⟨rfl, h2.symm⟩
  refine ⟨R.sub, fun j x h => (by simp at h), fun k c h => ?_, by simp [R.len], rfl, fun i j b h => (by obtain ⟨⟨x, e⟩, _⟩ := h; simp at e), fun i k b h => (by obtain ⟨⟨x, e⟩, _⟩ := h; simp at e), fun k l b h h2 => ?_⟩
  · rcases Nat.lt_or_ge k s1.mem.length with hk | hk
    · simp only [List.getElem?_append_left hk] at h
      obtain ⟨b, e1, r⟩ := R.mem k c h
      exact ⟨b, by rw [List.getElem?_append_left (by rw [R.len]; exact hk)]; exact e1, r⟩
    · have hk2 := (List.getElem?_eq_some_iff.mp h).1
      have : k = s1.mem.length := by simp at hk2; omega
      subst this
      simp at h
      subst h
      obtain ⟨v, e2, b, o, e3, h1, h2, h3⟩ := R.env i _ e
      rw [es] at e2
      cases e2
      cases e3
      exact ⟨a, by rw [List.getElem?_append_right (by rw [R.len]; exact Nat.le_refl _), R.len, Nat.sub_self]; rfl, o, h1, h2, h3⟩
  · rcases live h with q | ⟨k1, b1⟩
    · rcases live h2 with q2 | ⟨k2, b2⟩
      · exact R.ll k l b q q2
      · rw [b2] at q
        exact (R.ol i k _ ow q).elim
    · rcases live h2 with q2 | ⟨k2, b2⟩
      · rw [b1] at q2
        exact (R.ol i l _ ow q2).elim
      · rw [k1, k2]
/-- what the call left is taken back -/
theorem back_lent {F3 H3 : Hp} {i3 : List Addr} {e3 : Slots} {m3 : Mem} {i : Nat} {t t' : Ev.D} {a : Addr} (R : Rel K F1 i1 s1 σ H1) (e : s1.env[i]? = some (some (.own t))) (es : σ[i]? = some (some (.ref a)))
    (st : Step F1 (i1 ++ [a]) ⟨[], s1.mem ++ [.live t]⟩ [] H1 F3 i3 ⟨e3, m3⟩ [] H3) (R3 : Rel K F3 i3 ⟨e3, m3⟩ [] H3) (hk : m3[s1.mem.length]? = some (.live t')) :
    EStep F1 i1 s1 σ H1 F3 i1 ⟨s1.env.set i (some (.own t')), m3.take s1.mem.length⟩ H3 ∧ Rel K F3 i1 ⟨s1.env.set i (some (.own t')), m3.take s1.mem.length⟩ σ H3 := by
  have ow : OwnAt s1 σ i a := ⟨⟨t, e⟩, es⟩
  have len := R.len
  have hi : i < s1.env.length := (List.getElem?_eq_some_iff.mp e).1
  have i3k : ∀ {k b}, i1[k]? = some b → i3[k]? = some b := fun {k b} h => pre_get st.ii (by rw [List.getElem?_append_left (List.getElem?_eq_some_iff.mp h).1]; exact h)
  have i3a : i3[s1.mem.length]? = some a := pre_get st.ii (by rw [List.getElem?_append_right (by rw [len]; exact Nat.le_refl _), len, Nat.sub_self]; rfl)
  have i13 : ∀ {k b}, k < s1.mem.length → i3[k]? = some b → i1[k]? = some b := fun {k b} hk h => by
    have : k < i1.length := by omega
    rw [i3k (List.getElem?_eq_getElem this)] at h
    rw [List.getElem?_eq_getElem this]
    exact h
  have live3 : LiveAt ⟨e3, m3⟩ i3 s1.mem.length a := ⟨⟨t', hk⟩, i3a⟩
  -- who owns at the call's begin owned before
  have back : ∀ {b}, Owned ⟨[], s1.mem ++ [.live t]⟩ [] (i1 ++ [a]) b → Owned s1 σ i1 b := fun {b} h => by
    rcases h with ⟨j, ⟨x, z⟩, _⟩ | ⟨k, ⟨x, h⟩, h2⟩
    · simp at z
    · rcases Nat.lt_or_ge k s1.mem.length with hk | hk
      · simp only [List.getElem?_append_left hk] at h
        rw [List.getElem?_append_left (by omega)] at h2
        exact .inr ⟨k, ⟨x, h⟩, h2⟩
      · have := (List.getElem?_eq_some_iff.mp h2).1
        simp at this
        have : k = s1.mem.length := by omega
        subst this
        rw [List.getElem?_append_right (by omega), len, Nat.sub_self] at h2
        simp at h2
        subst h2
        exact .inl ⟨i, ow⟩
  have backF : ∀ {b}, Fresh ⟨[], s1.mem ++ [.live t]⟩ [] (i1 ++ [a]) H1 b → Fresh s1 σ i1 H1 b := fun h => h.imp back id
  -- another slot's thing is not the call's
  have other : ∀ {j b}, j ≠ i → OwnAt s1 σ j b → ¬ Owned ⟨[], s1.mem ++ [.live t]⟩ [] (i1 ++ [a]) b := fun {j b} hj h z => by
    rcases z with ⟨j, ⟨x, z⟩, _⟩ | ⟨k, ⟨x, z⟩, z2⟩
    · simp at z
    · rcases Nat.lt_or_ge k s1.mem.length with hk | hk
      · simp only [List.getElem?_append_left hk] at z
        rw [List.getElem?_append_left (by omega)] at z2
        exact R.ol j k b h ⟨⟨x, z⟩, z2⟩
      · have := (List.getElem?_eq_some_iff.mp z2).1
        simp at this
        have : k = s1.mem.length := by omega
        subst this
        rw [List.getElem?_append_right (by omega), len, Nat.sub_self] at z2
        simp at z2
        subst z2
        exact hj (R.oo j i _ h ow)
  have ownE : ∀ {j b}, OwnAt ⟨s1.env.set i (some (.own t')), m3.take s1.mem.length⟩ σ j b → OwnAt s1 σ j b := fun {j b} ⟨⟨x, h⟩, h2⟩ => by
    by_cases hj : j = i
    · subst hj
      exact ⟨⟨t, e⟩, h2⟩
    · simp only [List.getElem?_set_ne (fun z => hj z.symm)] at h
      exact ⟨⟨x, h⟩, h2⟩
  have liveE : ∀ {k b}, LiveAt ⟨s1.env.set i (some (.own t')), m3.take s1.mem.length⟩ i1 k b → k < s1.mem.length ∧ LiveAt ⟨e3, m3⟩ i3 k b := fun {k b} ⟨⟨x, h⟩, h2⟩ => by
    simp only [List.getElem?_take] at h
    split at h
    · rename_i hk
      exact ⟨hk, ⟨x, h⟩, i3k h2⟩
    · cases h
  have nol : ∀ j k b, OwnAt s1 σ j b → LiveAt ⟨e3, m3⟩ i3 k b → k < s1.mem.length → False := fun j k b h h2 hk => by
    by_cases hj : j = i
    · subst hj
      have : a = b := by
        have := h.2
        rw [es] at this
        cases this
        rfl
      subst this
      have := R3.ll k _ _ h2 live3
      omega
    · obtain ⟨o, q⟩ := Owned.there R (.inl ⟨j, h⟩)
      rcases st.own b (.inr ⟨k, h2⟩) with z | z
      · exact other hj h z
      · rw [q] at z
        cases z
  refine ⟨⟨⟨st.ff, List.prefix_refl _, fun b o h n => st.keep b o h fun z => n (back z), fun b h => ?_, fun b o h => (st.fro b o h).imp id backF⟩, fun j h => ?_⟩, R3.sub, fun j x h => ?_, fun k c h => ?_, ?_, ?_, fun j l b h h2 => R.oo j l b (ownE h) (ownE h2), fun j k b h h2 => nol j k b (ownE h) (liveE h2).2 (liveE h2).1, fun k l b h h2 => R3.ll k l b (liveE h).2 (liveE h2).2⟩
  · rcases h with ⟨j, h⟩ | ⟨k, h⟩
    · exact .inl (.inl ⟨j, ownE h⟩)
    · exact backF (st.own b (.inr ⟨k, (liveE h).2⟩))
  · by_cases hj : j = i
    · subst hj
      exact .inr ⟨t', by simp [hi]⟩
    · rcases h with ⟨x, h⟩ | ⟨x, h⟩
      · exact .inl ⟨x, by simp only [List.getElem?_set_ne (fun z => hj z.symm)]; exact h⟩
      · exact .inr ⟨x, by simp only [List.getElem?_set_ne (fun z => hj z.symm)]; exact h⟩
  · by_cases hj : j = i
    · subst hj
      simp [hi] at h
      subst h
      obtain ⟨b, e1, o, q1, q2, q3⟩ := R3.mem _ _ hk
      rw [i3a] at e1
      cases e1
      exact ⟨.ref a, es, a, o, rfl, q1, q2, q3⟩
    · simp only [List.getElem?_set_ne (fun z => hj z.symm)] at h
      obtain ⟨v, e1, r⟩ := R.env j x h
      refine ⟨v, e1, ?_⟩
      cases x with
      | d x => exact RD.mono st.ff r
      | ref k => exact r
      | own x =>
        obtain ⟨b, o, rfl, q1, q2, q3⟩ := r
        have no := other hj ⟨⟨x, h⟩, e1⟩
        refine ⟨b, o, rfl, st.keep b o q1 no, q2.mono st.ff, ?_⟩
        cases z : F3 b with
        | none => rfl
        | some w =>
          rcases st.fro b w z with y | y | y
          · rw [q3] at y; cases y
          · exact (no y).elim
          · rw [q1] at y; cases y
  · simp only [List.getElem?_take] at h
    split at h
    · rename_i hk
      obtain ⟨b, e1, r⟩ := R3.mem k c h
      exact ⟨b, i13 hk e1, r⟩
    · cases h
  · have := (List.getElem?_eq_some_iff.mp hk).1
    simp only [List.length_take]
    omega
  · simp only [List.length_set]
    exact R.elen
end
section
variable {X : Cx} {T : CT} {W : WX} {n : Nat}
theorem callP_imp {C : Call} {fi : Nat} {ms : List (EM Out)} {σ : L2.St} {H : Hp} {Q : VK} (hl : ∀ us s, us.length ≠ n → C fi us s = .bad) (h : tE X.K T W (callP C fi ms) σ H Q) : tCl (spF X.K T C fi n) W [] (tM X.K T W (ROs X.K) (args ms)) σ H Q := by
  obtain ⟨F, ι, s, R, A⟩ := h
  refine ⟨F, ι, s, R, A.bind fun os s1 F1 i1 H1 vs _ _ R1 rs A1 => ?_⟩
  split at A1 <;> first | exact A1.elim | skip
  rename_i k i _
  cases rs with
  | cons r1 rs =>
    cases rs with
    | cons r2 rs =>
      cases rs
      obtain ⟨b, hb, rfl⟩ := r1
      obtain ⟨hs, _⟩ := r2
      unfold lend at A1
      split at A1 <;> first | exact A1.elim | skip
      rename_i t ht
      obtain ⟨v, e2, a, o, rfl, q1, q2, q3⟩ := R1.env i _ ht
      rw [hs] at e2
      cases e2
      have Rl := lent_rel R1 ht hs
      have ln : i1.length = s1.mem.length := R1.len
      have hk : k < s1.mem.length := by
        rw [← ln]
        exact (List.getElem?_eq_some_iff.mp hb).1
      have r0 : All2 (RVl X.K F1 (i1 ++ [a])) [.ref k, .ref s1.mem.length] [V.ref b, V.ref a] :=
        .cons ⟨b, by rw [List.getElem?_append_left (by omega)]; exact hb, rfl⟩ (.cons ⟨a, by rw [← ln]; simp, rfl⟩ .nil)
      cases hr : C fi [.ref k, .ref s1.mem.length] ⟨[], s1.mem ++ [.live t]⟩ with
      | bad => rw [hr] at A1; exact A1.elim
      | exc x s3 => rw [hr] at A1; exact A1.elim
      | ok o s3 =>
        rw [hr] at A1
        cases o <;> first | exact A1.elim | skip
        rename_i r
        simp only at A1
        split at A1 <;> first | exact A1.elim | skip
        rename_i t' ht'
        refine ⟨?_, F1, i1 ++ [a], ⟨[], s1.mem ++ [.live t]⟩, [], [.ref k, .ref s1.mem.length], Rl, by simpa using r0, ?_⟩
        · by_cases hn : ([Vl.ref k, Vl.ref s1.mem.length] : List Vl).length = n
          · exact hn
          · rw [hl _ _ hn] at hr
            cases hr
        · rw [hr]
          intro F3 i3 H3 v st R3 rv
          obtain ⟨e3, m3⟩ := s3
          obtain ⟨es, R4⟩ := back_lent R1 ht hs st.toStep R3 ht'
          exact A1 F3 i1 H3 v es R4 rv
end
end Ev

set_option Elab.async false
set_option linter.all false
set_option autoImplicit false
set_option maxHeartbeats 1000000
set_option maxRecDepth 100000
/-! Ev, part Mx: max(xs, default=d) of a list of whole numbers. -/
namespace Ev
variable [ClsTab]
open PySem PySem.Spec PyProof.Rows L2
section
variable {prog : Program} {w : World} {A : Around} {R : Result → Shared → Prop} {I : Addr} {fp wr : List Addr} {n : Nat} {P : Nat → Value → Prop} {St : Nat → Heap → Prop} {d : Value}
omit [ClsTab] in
/-- the turns behind the first -/
theorem maxd_rest (W : Walks prog w A.in1 I fp wr n P St) (bt : Nat → Nat → Bool) (hcmp : CmpOf prog w A.in1 .Gt P bt) (S : Addr) (hSf : S ∉ fp) :
    ∀ (k j : Nat) (s : Shared) (vb : Value) (c : Nat), n - (j + 1) = k → j + 1 ≤ n → St (j + 1) s.heap → P (argBest bt j) vb →
    s.heap.get? S = some { cls := .type "list", dict := none, data := .seq #[vb, vb] c, slots := #[] } →
    (∀ v h' tk, P (argBest bt (n - 1)) v → (∀ b o, b ∉ wr → b ≠ S → s.heap.get? b = some o → h'.get? b = some o) → R (.ok (.ret v)) { s with heap := h', toks := tk }) →
    codeAny (model prog w) A (.builtin "max.loop" ⟨[.ref I, .none, .ref S], [("default", d)]⟩) R s
  | k, j, s, vb, c, hk, hj, hst, hPb, hS, hR => by
    have hSw : S ∉ wr := fun h => hSf (W.sub _ h)
    refine codeAny_builtin F.entry_max_loop ?_
    rw [Around.under_plainId F.plain_max_loop _]
    show wpAny _ A.in1 (seqItems? (.ref S) >>= _) _ _ s
    refine wpAny_bind (wpAny_seqItems hS rfl ?_)
    show wpAny _ A.in1 (tryCatch (pyNext (.ref I)) _ >>= _) _ _ s
    refine wpAny_bind (wpAny_tryCatch ?_)
    cases k with
    | zero =>
      have hin : j + 1 = n := by omega
      refine W.done s _ _ (hin ▸ hst) fun h' tk hk' => ?_
      have hS' := hk' S _ hSw hS
      show wpAny _ A.in1 (updateSeq S (fun _ => #[]) >>= _) _ _ _
      refine wpAny_bind (wpAny_updateSeq hS' rfl (wpAny_bind (wpAny_letGo (wpAny_pure ?_))))
      exact hR vb _ tk (by rw [← hin]; exact hPb) fun b o hbw hbS e => (Heap.get?_update_other _ _ (Ne.symm hbS)).trans (hk' b o hbw e)
    | succ k =>
      have hlt : j + 1 < n := by omega
      refine W.item (j + 1) s _ _ hlt hst fun v h' tk hP hst' hk' => ?_
      have hS' := hk' S _ hSw hS
      show wpAny _ A.in1 (tryCatch (holding [v, v] (richCompare .Gt v vb >>= _)) _ >>= _) _ _ _
      refine wpAny_bind (wpAny_tryCatch (wpAny_holding (wpAny_bind (hcmp (j + 1) (argBest bt j) v vb _ _ _ hP hPb ?_))))
      refine wpAny_bind (wpAny_holding (wpAny_truthy_bool ?_))
      refine wpAny_bind (wpAny_letGo (wpAny_pure ?_))
      cases hb : bt (j + 1) (argBest bt j) with
      | true =>
        simp only [if_true]
        refine wpAny_bind (wpAny_updateSeq hS' rfl (wpAny_bind (wpAny_letGo ?_)))
        refine wpAny_pure ⟨plainId_quiet F.plain_max_loop _, maxd_rest W bt hcmp S hSf k (j + 1) _ v _ (by omega) hlt (W.frame _ _ _ hst' fun b hbf o e => ?_) (by simp only [argBest, hb, if_true]; exact hP) (Heap.get?_update_self _ hS' rfl) fun v' h'' tk'' hP' hk'' => ?_⟩
        · exact (Heap.get?_update_other _ _ (fun h : S = b => hSf (by rw [h]; exact hbf))).trans e
        · exact hR v' h'' tk'' hP' fun b o hbw hbS e => hk'' b o hbw hbS ((Heap.get?_update_other _ _ (Ne.symm hbS)).trans (hk' b o hbw e))
      | false =>
        simp only [Bool.false_eq_true, if_false]
        refine wpAny_bind (wpAny_letGo ?_)
        refine wpAny_pure ⟨plainId_quiet F.plain_max_loop _, maxd_rest W bt hcmp S hSf k (j + 1) _ vb c (by omega) hlt hst' (by simp only [argBest, hb, Bool.false_eq_true, if_false]; exact hPb) hS' fun v' h'' tk'' hP' hk'' => ?_⟩
        exact hR v' h'' tk'' hP' fun b o hbw hbS e => hk'' b o hbw hbS (hk' b o hbw e)
  termination_by k => k
omit [ClsTab] in
/-- the first turn -/
theorem maxd_first (W : Walks prog w A.in1 I fp wr n P St) (bt : Nat → Nat → Bool) (hcmp : CmpOf prog w A.in1 .Gt P bt) (S : Addr) (hSf : S ∉ fp) {s : Shared} {c : Nat} (hst : St 0 s.heap)
    (hS : s.heap.get? S = some { cls := .type "list", dict := none, data := .seq #[] c, slots := #[] })
    (hR : ∀ v h' tk, (if n = 0 then v = d else P (argBest bt (n - 1)) v) → (∀ b o, b ∉ wr → b ≠ S → s.heap.get? b = some o → h'.get? b = some o) → R (.ok (.ret v)) { s with heap := h', toks := tk }) :
    codeAny (model prog w) A (.builtin "max.loop" ⟨[.ref I, .none, .ref S], [("default", d)]⟩) R s := by
  have hSw : S ∉ wr := fun h => hSf (W.sub _ h)
  refine codeAny_builtin F.entry_max_loop ?_
  rw [Around.under_plainId F.plain_max_loop _]
  show wpAny _ A.in1 (seqItems? (.ref S) >>= _) _ _ s
  refine wpAny_bind (wpAny_seqItems hS rfl ?_)
  show wpAny _ A.in1 (tryCatch (pyNext (.ref I)) _ >>= _) _ _ s
  refine wpAny_bind (wpAny_tryCatch ?_)
  rcases Nat.eq_zero_or_pos n with hn | hn
  · refine W.done s _ _ (hn ▸ hst) fun h' tk hk' => ?_
    show wpAny _ A.in1 (rule _ >>= _) _ _ _
    refine wpAny_bind (wpAny_rule (wpAny_pure ?_))
    exact hR d h' tk (by rw [if_pos hn]) fun b o hbw _ e => hk' b o hbw e
  · refine W.item 0 s _ _ hn hst fun v h' tk hP hst' hk' => ?_
    have hS' := hk' S _ hSw hS
    show wpAny _ A.in1 (updateSeq S (fun _ => #[v, v]) >>= _) _ _ _
    refine wpAny_bind (wpAny_updateSeq hS' rfl ?_)
    refine wpAny_pure ⟨plainId_quiet F.plain_max_loop _, maxd_rest W bt hcmp S hSf _ 0 _ v _ rfl hn (W.frame _ _ _ hst' fun b hbf o e => ?_) hP (Heap.get?_update_self _ hS' rfl) fun v' h'' tk'' hP' hk'' => ?_⟩
    · exact (Heap.get?_update_other _ _ (fun h : S = b => hSf (by rw [h]; exact hbf))).trans e
    · exact hR v' h'' tk'' (by rw [if_neg (by omega)]; exact hP') fun b o hbw hbS e => hk'' b o hbw hbS ((Heap.get?_update_other _ _ (Ne.symm hbS)).trans (hk' b o hbw e))
end
section
variable {prog : Program} {w : World} {A : Around} {E : Value → Shared → Prop} {s : Shared} {d : Value}
omit [ClsTab] in
theorem max_args (x d : Value) : argsOk "max" ⟨[x], [("default", d)]⟩ := by unfold argsOk; kernel_rfl
omit [ClsTab] in
theorem call_maxd {x : Value} {Q : Value → Shared → Prop}
    (h : wpAny (model prog w) A.in1 (pyIter x) (fun it s₂ => ∃ I fp wr n P St bt, it = .ref I ∧ Walks prog w A.in1 I fp wr n P St ∧ St 0 s₂.heap ∧ (∀ b ∈ fp, b < s₂.heap.objs.size) ∧ CmpOf prog w A.in1 .Gt P bt ∧
      ∀ v h' tk, (if n = 0 then v = d else P (argBest bt (n - 1)) v) → (∀ b o, b ∉ wr → s₂.heap.get? b = some o → h'.get? b = some o) → Q v { s₂ with heap := h', toks := tk }) E s) :
    wpAny (model prog w) A (PySem.call (.builtin "max") [x] [("default", d)]) Q E s := by
  have b0 : wpAny (model prog w) A.in1 (Builtin.«max» ⟨[x], [("default", d)]⟩) (fun fin s' => match fin with
      | .done f => (match (Except.ok f : Result) with | .ok (.ret v) => Q v s' | .ok _ => False | .error e => E e s')
      | .again c' => c'.quiet = true ∧ codeAny (model prog w) A c' (fun r s' => match r with | .ok (.ret v) => Q v s' | .ok _ => False | .error e => E e s') s') E s := by
    show wpAny _ A.in1 (Builtin.Builtins.bindParams "max" ["key", "default"] 0 ⟨[], [("default", d)]⟩ >>= _) _ _ s
    refine wpAny_bind (wpAny_of_eq (show Builtin.Builtins.bindParams "max" ["key", "default"] 0 ⟨[], [("default", d)]⟩ = pure [none, some d] from by kernel_rfl) ?_)
    refine wpAny_bind (wpAny_pure ?_)
    refine wpAny_bind (wpAny_mono h (fun it s₂ h₂ => ?_) fun _ _ e => e)
    obtain ⟨I, fp, wr, n, P, St, bt, rfl, W, hst, hfp, hcmp, hQ⟩ := h₂
    refine wpAny_bind (wpAny_newObj_type ?_)
    have hSf : s₂.heap.objs.size ∉ fp := fun hm => Nat.lt_irrefl _ (hfp _ hm)
    refine wpAny_pure ⟨plainId_quiet F.plain_max_loop _, maxd_first W bt hcmp s₂.heap.objs.size hSf (W.frame _ _ _ hst fun b _ o e => Heap.get?_push_of_some _ e) (Heap.get?_push_size _ rfl) fun v h' tk hP hk => ?_⟩
    exact hQ v h' tk hP fun b o hbw e => hk b o hbw (Nat.ne_of_lt (Heap.lt_size e)) (Heap.get?_push_of_some _ e)
  refine wpAny_call (codeAny_call_builtin F.plain_max F.entry_max ?_)
  simp only [checkBuiltinCall, F.kind_max]
  have ha := max_args x d
  cases hsig : Manifest.signature? "max" with
  | none => exact wpAny_pure b0
  | some sig =>
    simp only [argsOk, hsig] at ha
    have h2 : Bind.checkArgs "max" sig ⟨[x], [("default", d)]⟩ = pure () := ha
    show wpAny _ A.in1 (Bind.checkArgs "max" sig ⟨[x], [("default", d)]⟩) _ _ s
    rw [h2]
    exact wpAny_pure b0
theorem maxd_raw {l : Addr} {its : List Value} {ns : List Int} {Q : Value → Shared → Prop} (hh : A.handled = none) (hl : s.heap.IsList l its.toArray) (hi : IntsAre its ns)
    (h : ∀ v h' tk, (∀ b o, s.heap.get? b = some o → h'.get? b = some o) → (ns = [] → v = d) → (ns ≠ [] → ∃ M t, v = .int M t ∧ M ∈ ns ∧ ∀ a, a ∈ ns → a ≤ M) → Q v { s with heap := h', toks := tk }) : wpAny (model prog w) A (PySem.call (.builtin "max") [.ref l] [("default", d)]) Q E s := by
  obtain ⟨xs, e⟩ := hi.allInts.items
  have hn : numsOf (intItems xs).toList = ns := by rw [← e]; exact hi.numsOf
  rw [nums_intItems] at hn
  subst hn
  rw [e] at hl
  refine call_maxd (iter_intList hl fun s₂ e st hfp hlI => ?_)
  subst e
  refine ⟨_, _, _, _, _, _, _, rfl, Walks.list (A := A.in1) hh _ l hlI (intItems xs), st, hfp, CmpOf.ints_gt (numAt xs) (fun _ _ => intItems_at), fun v h' tk hP hk => h v h' tk (old_kept hk) (fun z => ?_) fun z => ?_⟩
  · have : (intItems xs).size = 0 := by
      have := congrArg List.length z
      simpa [intItems] using this
    rw [if_pos this] at hP
    exact hP
  · have hsz : 0 < xs.size := by
      rcases Nat.eq_zero_or_pos xs.size with q | q
      · exact absurd (by simpa using q) z
      · exact q
    rw [if_neg (by
      intro z
      simp [intItems] at z
      rw [z] at hsz
      simp at hsz)] at hP
    have hv : (intItems xs)[argBest (fun i j => decide (numAt xs i > numAt xs j)) (xs.size - 1)]? = some v := by simpa [intItems] using hP
    obtain ⟨t, rfl⟩ := intItems_at hv
    obtain ⟨h1, h2⟩ := argBest_gt (numAt xs) (xs.size - 1)
    refine ⟨_, t, rfl, ?_, fun a ha => ?_⟩
    · rw [numAt_eq]; exact PySem.getD_mem (by rw [List.length_map, Array.length_toList]; omega)
    · obtain ⟨j, hj, rfl⟩ := mem_getD ha
      rw [List.length_map, Array.length_toList] at hj
      rw [← numAt_eq]; exact h2 j (by omega)
end
/-- max(e, default=k) -/
def maxDD : D → D → Option Out
  | .lst xs, .int i => (allInts xs).map fun is => .d (.int ((best (fun x m => decide (m < x)) is).getD i))
  | _, _ => none
def maxDf (a b : EM Out) : EM Out := a.bind fun x => b.bind fun y => (get x).bind fun u => (get y).bind fun v => opt (maxDD u v)
section
variable {X : Cx} {T : CT} {W : WX}
omit [ClsTab] in
theorem max_nm : bootBuiltins ("max" : Str) = some (.builtin "max") := by decide +kernel
theorem k_maxd (hc : X.calm = true) : CallRK X (.builtin "max") ["default"] fun vs zs H Q => ∃ x y, vs = [x] ∧ zs = [y] ∧ rGo X.K maxDD x y H Q := by
  intro pins s σ H xs zs us ws Q I r rz h
  obtain ⟨x, y, rfl, rfl, F, d, e, o, sb, vx, vy, g, gv⟩ := h
  unfold maxDD at g
  split at g <;> first | (cases g; done) | skip
  obtain ⟨a, vs, rfl, ha, ra⟩ := vx.lst sb
  obtain ⟨is, e1, rfl⟩ := Option.map_eq_some_iff.mp g
  rw [ints_of e1 ra] at ha
  obtain ⟨its, rv, hl, _⟩ := I.list (.of ha)
  obtain ⟨u, rfl, ru⟩ := vals1 r
  obtain ⟨v, rfl, rv2⟩ := vals1 rz
  cases ru
  rw [vy.int] at rv2
  obtain ⟨t, rfl⟩ := rv2
  refine maxd_raw (I.ok.hd hc) hl.isList rv.ints fun v h' tk hk h1 h2 => ?_
  cases is with
  | nil =>
    rw [h1 rfl]
    exact ⟨.int _, H, I.kept hk, ⟨_, rfl⟩, give_d sb gv (.int _)⟩
  | cons i is =>
    obtain ⟨M, t2, rfl, m1, m2⟩ := h2 (by simp)
    cases e2 : best (fun x m => decide (m < x)) (i :: is) with
    | none => cases e2
    | some m =>
      obtain ⟨b1, b2⟩ := best_max e2
      have : M = m := Int.le_antisymm (b2 _ m1) (m2 _ b1)
      subst this
      rw [e2] at gv
      exact ⟨.int _, H, I.kept hk, ⟨_, rfl⟩, give_d sb gv (.int _)⟩
omit [ClsTab] in
theorem maxDD.plain {d e : D} {o : Out} (h : maxDD d e = some o) : plainOut o := by
  unfold maxDD at h
  split at h <;> first | (cases h; done) | (obtain ⟨_, _, rfl⟩ := Option.map_eq_some_iff.mp h; trivial)
theorem e_maxd (hc : X.calm = true) (gl : Gl X "max") (hm : X.mg "max" = none) {e k : Expr} {m mk : EM Out} {p kp pos : Pos} (ha : PE X e (tE X.K T W m)) (hk : PE X k (tE X.K T W mk)) (he : starEach [e] X.env = (false, eval e X.env) :: starEach [] X.env) :
    PE X (.Call (.Name "max" p) [e] [⟨some "default", k, kp⟩] pos) (tE X.K T W (maxDf m mk)) :=
  (pe_callBK (k_maxd hc) gl hm max_nm (pa_cons ha pa_nil he) (pk_cons hk pk_nil) (by decide) (by decide) (by rw [he]; rfl) (by rw [he]; rfl)).imp fun σ H Q h => by
    obtain ⟨F, ι, s, R, A⟩ := go2 (fun _ _ _ => maxDD.plain) (fun _ _ => rfl) h
    refine ⟨F, ι, s, R, A.mono fun v H1 ⟨F1, i1, s1, R1, A1⟩ => ?_⟩
    exact ⟨F1, i1, s1, R1, A1.mono fun w H2 q => ⟨v, w, rfl, rfl, q⟩⟩
end
end Ev

set_option Elab.async false
set_option linter.all false
set_option autoImplicit false
set_option maxHeartbeats 1000000
/-! Ev, part Ca: instances: their fields, their methods, how they are made. -/
namespace Ev
variable [ClsTab]
open PySem PySem.Spec PyProof.Rows L2
/-! ### fields -/
def fieldD (nm : Str) (cs : List Nat) : D → Option Out
  | .ins c ns vs => if cs.contains c = true then ((ns.zip vs).lookup nm).map .d else none
  | _ => none
def fld (nm : Str) (cs : List Nat) (e : EM Out) : EM Out := e.bind fun x => (get x).bind fun u => opt (fieldD nm cs u)
def putN (nm : Str) : List Str → List Str
  | [] => [nm]
  | g :: r => if g = nm then g :: r else g :: putN nm r
def putV {α : Type} (nm : Str) (v : α) : List Str → List α → List α
  | g :: r, x :: xs => if g = nm then v :: xs else x :: putV nm v r xs
  | _, _ => [v]
def setFD (nm : Str) (cs : List Nat) (v : D) : D → Option D
  | .ins c ns vs => if cs.contains c = true ∧ ns.length < 900 ∧ ns.length = vs.length then some (.ins c (putN nm ns) (putV nm v ns vs)) else none
  | _ => none
/-- o.nm = e -/
def sFldE (nm : Str) (cs : List Nat) (o e : EM Out) : SM := lift e fun y => lift (keep y) fun v => lift o fun x => lift (putIn x (setFD nm cs v)) fun _ => .next
section
variable {K : PySem.W.Frag} {F H : Hp}
omit [ClsTab] in
theorem putF_zip {nm : Str} {v : V} : ∀ {ns : List Str} {vs : List V}, ns.length = vs.length → putF nm v (ns.zip vs) = (putN nm ns).zip (putV nm v ns vs)
  | [], [], _ => rfl
  | g :: r, x :: xs, h => by
    simp only [List.length_cons, Nat.add_right_cancel_iff] at h
    rw [List.zip_cons_cons, putF, putN, putV]
    split
    · rfl
    · rw [putF_zip h, List.zip_cons_cons]
omit [ClsTab] in
theorem put_len {α : Type} {nm : Str} {v : α} : ∀ {ns : List Str} {vs : List α}, ns.length = vs.length → (putN nm ns).length = (putV nm v ns vs).length
  | [], [], _ => rfl
  | g :: r, x :: xs, h => by
    simp only [List.length_cons, Nat.add_right_cancel_iff] at h
    rw [putN, putV]
    split
    · simp [h]
    · simp [put_len (v := v) h]
theorem RDs.putV {nm : Str} {d : D} {v : V} (q : RD K F d v) : ∀ {ns : List Str} {ds : List D} {vs : List V}, RDs K F ds vs → ns.length = vs.length → RDs K F (Ev.putV nm d ns ds) (Ev.putV nm v ns vs)
  | [], _, _, .nil, _ => .cons q .nil
  | g :: r, _, _, .cons h hs, e => by
    simp only [List.length_cons, Nat.add_right_cancel_iff] at e
    rw [Ev.putV, Ev.putV]
    split
    · exact .cons q hs
    · exact .cons h (RDs.putV q hs e)
theorem RDs.lookup {nm : Str} {d : D} : ∀ {ns : List Str} {ds : List D} {vs : List V}, RDs K F ds vs → (ns.zip ds).lookup nm = some d → ∃ v, (ns.zip vs).lookup nm = some v ∧ RD K F d v
  | [], _, _, .nil, e => by cases e
  | [], _, _, .cons _ _, e => by cases e
  | g :: r, _, _, .nil, e => by cases e
  | g :: r, _, _, .cons h hs, e => by
    rw [List.zip_cons_cons, List.lookup_cons] at e ⊢
    cases hg : nm == g with
    | true =>
      rw [hg] at e
      cases e
      exact ⟨_, rfl, h⟩
    | false =>
      rw [hg] at e
      exact RDs.lookup hs e
omit [ClsTab] in
theorem lookup_none {nm : Str} {α β : Type} : ∀ {ns : List Str} {xs : List α} {ys : List β}, (ns.zip xs).lookup nm = none → ns.length = xs.length → (ns.zip ys).lookup nm = none
  | [], _, _, _, _ => rfl
  | g :: r, x :: xs, [], _, _ => by simp
  | g :: r, x :: xs, y :: ys, e, h => by
    rw [List.zip_cons_cons, List.lookup_cons] at e ⊢
    cases hg : nm == g with
    | true => rw [hg] at e; cases e
    | false =>
      rw [hg] at e
      exact lookup_none e (by simpa using h)
end
/-- what is known of the classes of a list -/
def ClsF (K : PySem.W.Frag) (nm : Str) (cs : List Nat) : Prop := ∀ c ∈ cs, ∀ C, ClsTab.at_ c = some C → L2.Cls K C ∧ NoAttr K C nm
section
variable {X : Cx} {T : CT} {W : WX} {e o : Expr} {m mo : EM Out} {nm : Str} {cs : List Nat} {pos p2 : Pos}
theorem e_fld (hc : ClsF X.K nm cs) (he : PE X e (tE X.K T W m)) (hb : attributeBase e nm X.env (eval e X.env) = eval e X.env) : PE X (.Attribute e nm pos) (tE X.K T W (fld nm cs m)) :=
  (pe_fld he hb).imp fun σ H Q ⟨F, ι, s, R, A⟩ => ⟨F, ι, s, R, A.bind fun o s1 F1 i1 H1 v _ t R1 r1 A1 => by
    obtain ⟨d, e1, A2⟩ := A1.get
    obtain ⟨o2, e2, A3⟩ := A2.opt
    unfold fieldD at e2
    split at e2 <;> first | (cases e2; done) | skip
    split at e2 <;> first | (cases e2; done) | skip
    rename_i c ns xs hcs
    obtain ⟨z, e3, rfl⟩ := Option.map_eq_some_iff.mp e2
    obtain ⟨a, C, dx, vs, rfl, hC, hH, hl, rs⟩ := (r1.view R1 e1).ins R1.sub
    obtain ⟨k1, k2⟩ := hc c (by simpa using hcs) C hC
    obtain ⟨w, e4, rd⟩ := rs.lookup e3
    exact ⟨a, C, dx, _, w, rfl, hH, k1, k2, e4, A3 F1 i1 H1 w (.refl ..) R1 rd⟩⟩
theorem s_fld (hc : ClsF X.K nm cs) (ho : PE X o (tE X.K T W mo)) (he : PE X e (tE X.K T W m)) (hs : swapsWith e (some (.Attribute o nm p2)) pos.line X.env = pure false) : PS X (.Assign [.Attribute o nm p2] e pos) (tS X.K T W (sFldE nm cs mo m)) :=
  (ps_fld ho he hs).imp fun D σ H ⟨F, ι, s, R, A⟩ => ⟨F, ι, s, R, A.lift (.refl ..) fun y s1 F1 i1 H1 v _ t R1 r1 A1 => by
    obtain ⟨x, s2, F2, t2, R2, rd, _, _, A2⟩ := A1.keep R1 t.toStep r1 fun _ h => h
    refine ⟨F2, i1, s2, R2, A2.lift t2 fun o3 s3 F3 i3 H3 v3 _ t3 R3 r3 A3 => ?_⟩
    unfold Ev.lift at A3
    cases ep : putIn o3 (setFD nm cs x) s3 with
    | bad => rw [ep] at A3; exact A3.elim
    | exc x s5 => exact absurd ep put_exc
    | ok w s5 =>
      rw [ep] at A3
      obtain ⟨a, d, d', u, rfl, e5, e6, hu, ru, hput⟩ := put_ok R3 r3 ep
      unfold setFD at e6
      split at e6 <;> first | (cases e6; done) | skip
      split at e6 <;> first | (cases e6; done) | skip
      rename_i c ns xs hcs
      cases e6
      obtain ⟨C, dx, vs, hC, rfl, hl, rs⟩ := ru
      obtain ⟨k1, k2⟩ := hc c (by simpa using hcs.1) C hC
      obtain ⟨R6, t6⟩ := hput (.ins C dx (putF nm v (ns.zip vs))) ⟨C, dx, _, hC, by rw [putF_zip hl], put_len hl, RDs.putV (rd.mono t3.ff) rs hl⟩
      refine ⟨a, C, dx, _, rfl, hu, k1, k2, ?_, A3 _ _ _ _ ((t2.es t3).es t6) R6⟩
      have := hcs.2.1
      rw [List.length_zip]
      omega⟩
end
end Ev

set_option Elab.async false
set_option linter.all false
set_option autoImplicit false
set_option maxHeartbeats 1000000
/-! Ev, part Cb: methods; instances are made. -/
namespace Ev
variable [ClsTab]
open PySem PySem.Spec PyProof.Rows L2
/-- a class's own def of a name -/
def mfind (ms : List (Nat × Nat)) (nm : Str) : D → Option Nat
  | .ins c ns vs => if (ns.zip vs).lookup nm = none ∧ ns.length = vs.length then ms.lookup c else none
  | _ => none
def getV : Vl → EM D
  | .d x => .pure x
  | .ref k => get (.ref k)
/-- o.nm(es) -/
def callM (C : Call) (ms : List (Nat × Nat)) (nm : Str) (o : EM Out) (es : List (EM Out)) : EM Out :=
  o.bind fun x => (pass x).bind fun v => (getV v).bind fun u => (opt (mfind ms nm u)).bind fun f => (passes es).bind fun us => C f (v :: us)
/-- class(es): a new instance, then its __init__ -/
def mkI (C : Call) (c f : Nat) (es : List (EM Out)) : EM Out := (passes es).bind fun us => fun s => match C f (.ref s.mem.length :: us) ⟨[], s.mem ++ [.live (.ins c [] [])]⟩ with
  | .ok (.d .non) s' => (match s'.mem[s.mem.length]? with
    | some (.live x) => .ok (.new x) ⟨s.env, s'.mem.take s.mem.length⟩
    | _ => .bad)
  | .exc x s' => .exc x ⟨s.env, s'.mem.take s.mem.length⟩
  | _ => .bad
section
variable {K : PySem.W.Frag} {F H : Hp} {ι : List Addr} {s : S} {σ : L2.St} {T : CT} {W : WX}
theorem Aft.passV {F0 H0 : Hp} {i0 : List Addr} {s0 : S} {β δ : Type} {R2 : RT β δ} {o : Out} {v : V} {f : Vl → EM β} {Q : δ → Hp → Prop} (h : Aft K T W R2 F0 i0 s0 σ H0 ((Ev.pass o).bind f s) Q) (t : EStep F0 i0 s0 σ H0 F ι s H) (R : Rel K F ι s σ H) (r : ROut K (Fresh s0 σ i0 H0) F ι s σ H o v) :
    ∃ u s1 F1, EStep F0 i0 s0 σ H0 F1 ι s1 H ∧ Rel K F1 ι s1 σ H ∧ RVl K F1 ι u v ∧ Aft K T W R2 F0 i0 s0 σ H0 (f u s1) Q := by
  cases o with
  | ref k => exact ⟨.ref k, s, F, t, R, r, h⟩
  | d x =>
    obtain ⟨z, s2, F2, t2, R2, rd, A2⟩ := Aft.keep (o := .d x) (f := fun x => f (.d x)) h t R r
    exact ⟨.d z, s2, F2, t2, R2, rd, A2⟩
  | new x =>
    obtain ⟨z, s2, F2, t2, R2, rd, A2⟩ := Aft.keep (o := .new x) (f := fun x => f (.d x)) h t R r
    exact ⟨.d z, s2, F2, t2, R2, rd, A2⟩
  | own i =>
    have h' : Aft K T W R2 F0 i0 s0 σ H0 (((Ev.keep (.own i)).bind fun x => f (.d x)) s) Q := by
      have e1 : ((Ev.pass (.own i)).bind f) s = ((Ev.keep (.own i)).bind fun x => f (.d x)) s := by
        simp only [Ev.pass, EM.bind]
        cases Ev.keep (.own i) s <;> rfl
      rw [← e1]
      exact h
    obtain ⟨z, s2, F2, t2, R2, rd, A2⟩ := Aft.keep h' t R r
    exact ⟨.d z, s2, F2, t2, R2, rd, A2⟩
theorem Aft.getV {F0 H0 : Hp} {i0 : List Addr} {s0 : S} {β δ : Type} {R2 : RT β δ} {u : Vl} {v : V} {f : D → EM β} {Q : δ → Hp → Prop} (h : Aft K T W R2 F0 i0 s0 σ H0 ((Ev.getV u).bind f s) Q) (R : Rel K F ι s σ H) (r : RVl K F ι u v) :
    ∃ d, View K F H d v ∧ Aft K T W R2 F0 i0 s0 σ H0 (f d s) Q := by
  cases u with
  | d x => exact ⟨x, .inl r, h⟩
  | ref k =>
    obtain ⟨d, e1, A⟩ := Aft.get h
    exact ⟨d, ROut.view (Fr := fun _ => True) (o := .ref k) R r e1, A⟩
end
section
variable {X : Cx} {T : CT} {W : WX} {e o : Expr} {m mo : EM Out} {nm : Str} {pos apos : Pos} {es : List Expr} {mes : List (EM Out)} {C : Call} {ms : List (Nat × Nat)}
/-- the defs behind a method's name -/
def MethF (X : Cx) (Cc : Call) (T : CT) (nm : Str) (ms : List (Nat × Nat)) : Prop := ∀ c fi, ms.lookup c = some fi → ∀ C, ClsTab.at_ c = some C → L2.Cls X.K C ∧ ∃ (f : Addr) (fd : FuncData) (ps : List Str) (m n : Nat), Meth X.K C nm f ∧
  FnG X.prog X.w X.K X.mg X.base m f fd ps (spF X.K T Cc fi n) ∧ Room m X.A ∧ Binds X.K fd ps [] ∧ ∀ us s, us.length ≠ n → Cc fi us s = .bad
/-- what is known of a receiver -/
structure Recv (X : Cx) (C : Call) (T : CT) (nm : Str) (W : WX) (t : TA) (σ : L2.St) (x : V) (H1 : Hp) (Q : VK) : Prop where
  ex : ∃ (a A dx : Addr) (fs : List (Str × V)) (f : Addr) (fd : FuncData) (ps : List Str) (m n fi : Nat), x = .ref a ∧ H1 a = some (.ins A dx fs) ∧ fs.lookup nm = none ∧ L2.Cls X.K A ∧ Meth X.K A nm f ∧
    FnG X.prog X.w X.K X.mg X.base m f fd ps (spF X.K T C fi n) ∧ Room m X.A ∧ Binds X.K fd ps [] ∧ t σ H1 fun vs H2 => spF X.K T C fi n (x :: vs) H2 Q fun c d H' => W c d σ H'
theorem recv_of (hm : MethF X C T nm ms) {σ : L2.St} {H : Hp} {Q : VK} {F : Hp} {ι : List Addr} {s : S} (R : Rel X.K F ι s σ H) (A : Aft X.K T W (ROut X.K) F ι s σ H (callM C ms nm mo mes s) Q) :
    Aft X.K T W (ROut X.K) F ι s σ H (mo s) fun x H1 => Recv X C T nm W (tM X.K T W (RVls X.K) (passes mes)) σ x H1 Q := by
  refine A.bind0 fun o1 s1 F1 i1 H1 v _ t1 R1 r1 A1 => ?_
  obtain ⟨u, s2, F2, t2, R2, ru, A2⟩ := A1.passV t1 R1 r1
  obtain ⟨d, vw, A3⟩ := A2.getV R2 ru
  obtain ⟨fi, e1, A4⟩ := A3.pass
  unfold mfind at e1
  split at e1 <;> first | (cases e1; done) | skip
  split at e1 <;> first | (cases e1; done) | skip
  rename_i c ns xs hl
  obtain ⟨a, Ca, dx, vs, rfl, hC, hH, hlen, rs⟩ := vw.ins R2.sub
  obtain ⟨k1, f, fd, ps, mm, n, k2, k3, k4, k5, k6⟩ := hm c fi e1 Ca hC
  refine ⟨a, Ca, dx, _, f, fd, ps, mm, n, fi, rfl, hH, lookup_none hl.1 hl.2, k1, k2, k3, k4, k5, F2, i1, s2, R2, (A4.from t2).bind fun us s3 F3 i3 H3 ws _ t3 R3 rws A5 => ?_⟩
  have rall : All2 (RVl X.K F3 i3) (u :: us) (V.ref a :: ws) := .cons (ru.step t3.ff t3.ii) rws
  refine ⟨?_, F3, i3, s3, σ, _, R3, rall, ?_⟩
  · by_cases hn : (u :: us).length = n
    · rw [← rall.len]
      exact hn
    · rw [k6 _ _ hn] at A5
      exact A5.elim
  · cases hr : C fi (u :: us) s3 with
    | ok o s2 => rw [hr] at A5; exact A5
    | bad => rw [hr] at A5; exact A5
    | exc x s2 => rw [hr] at A5; exact A5
theorem e_meth {pl : Sem Bool} {e1 : Expr} (hm : MethF X C T nm ms) (g : X.A.guards = some []) (tk : Takes X W) (ho : PE X o (tE X.K T W mo)) (ha : PA X (e1 :: es) (tM X.K T W (RVls X.K) (passes mes)))
    (hst : starEach (e1 :: es) X.env = (false, eval e1 X.env) :: starEach es X.env) (hpl : (backTo pos (starEach es X.env)).any (·.1) = false)
    (ht : eval (.Call (.Attribute o nm apos) (e1 :: es) [] pos) X.env = (do
      let ov ← eval o X.env
      standAt apos.atName
      let (f, first) ← holding [ov] (getMethod ov nm pl)
      callWith pos f first (backTo pos (starEach (e1 :: es) X.env)) (backToKw pos (keywordEach [] X.env)))) :
    PE X (.Call (.Attribute o nm apos) (e1 :: es) [] pos) (tE X.K T W (callM C ms nm mo mes)) := by
  refine ⟨fun pins s σ H Q I ⟨F, ι, s0, R, A⟩ => ?_⟩
  refine PySem.W.methodCall_KW (pl := pl) (thn (ho.run pins s σ H _ I ⟨F, ι, s0, R, recv_of hm R A⟩) fun u s1 ⟨x, H1, I1, rx, rv⟩ => ?_) ht
  obtain ⟨a, Ca, dx, fs, f, fd, ps, mm, n, fi, rfl, hH, hl, k1, k2, k3, k4, k5, q⟩ := rv.ex
  obtain rfl : u = Value.ref a := rx
  refine getmeth_ok I1 hH k1 k2 hl ?_
  refine PySem.W.callWith_K (first := [.ref a]) (h₀ := X.base) I.ok.mod.kin k2.kp (thn (ha.run pos pins s1 σ H1 _ I1 q) fun us s2 ⟨vs, H2, I2, r, q2⟩ => ⟨I2.kIn, ?_⟩) hst hpl
  exact FnG.run (us := .ref a :: us) (vs := .ref a :: vs) (dvs := []) (ds := []) k3 k4 g k5 .nil tk I2 (.cons rfl r) (by rw [List.append_nil]; exact q2)
theorem e_meth0 {pl : Sem Bool} (hm : MethF X C T nm ms) (g : X.A.guards = some []) (tk : Takes X W) (ho : PE X o (tE X.K T W mo))
    (ht : eval (.Call (.Attribute o nm apos) [] [] pos) X.env = (do
      let ov ← eval o X.env
      standAt apos.atName
      let (f, first) ← holding [ov] (getMethod ov nm pl)
      callWith pos f first (backTo pos (starEach [] X.env)) (backToKw pos (keywordEach [] X.env)))) :
    PE X (.Call (.Attribute o nm apos) [] [] pos) (tE X.K T W (callM C ms nm mo [])) := by
  refine ⟨fun pins s σ H Q I ⟨F, ι, s0, R, A⟩ => ?_⟩
  refine PySem.W.methodCall_KW (pl := pl) (thn (ho.run pins s σ H _ I ⟨F, ι, s0, R, recv_of hm R A⟩) fun u s1 ⟨x, H1, I1, rx, rv⟩ => ?_) ht
  obtain ⟨a, Ca, dx, fs, f, fd, ps, mm, n, fi, rfl, hH, hl, k1, k2, k3, k4, k5, F1, i1, s3, R1, A1⟩ := rv.ex
  obtain rfl : u = Value.ref a := rx
  refine getmeth_ok I1 hH k1 k2 hl ?_
  refine PySem.W.callWith_K0 (first := [.ref a]) I1.kIn k2.kp ?_
  exact FnG.run (us := [.ref a]) (vs := [.ref a]) (dvs := []) (ds := []) k3 k4 g k5 .nil tk I1 (.cons rfl .nil) (by rw [List.append_nil]; exact A1 F1 i1 H1 [] (.refl ..) R1 .nil)
end
end Ev

set_option Elab.async false
set_option linter.all false
set_option autoImplicit false
set_option maxHeartbeats 1000000
/-! Ev, part Cc: instances are made. -/
namespace Ev
variable [ClsTab]
open PySem PySem.Spec PyProof.Rows L2
section
variable {K : PySem.W.Frag} {F1 H1 Hn : Hp} {i1 : List Addr} {s1 : S} {σ : L2.St}
/-- the slots left out -/
theorem Rel.bare (R : Rel K F1 i1 s1 σ H1) : Rel K F1 i1 ⟨[], s1.mem⟩ [] H1 :=
  ⟨R.sub, fun i x e => by simp at e, R.mem, R.len, rfl, fun i j a h => by obtain ⟨⟨x, e⟩, _⟩ := h; simp at e, fun i k a h => by obtain ⟨⟨x, e⟩, _⟩ := h; simp at e, R.ll⟩
/-- what a call over a further, new cell left is taken back -/
theorem back_new {F3 H3 : Hp} {i3 : List Addr} {e3 : Slots} {m3 : Mem} {t : Ev.D} {a : Addr} (R : Rel K F1 i1 s1 σ H1) (hs : Same H1 Hn) (ha : H1 a = none)
    (st : Step F1 (i1 ++ [a]) ⟨[], s1.mem ++ [.live t]⟩ [] Hn F3 i3 ⟨e3, m3⟩ [] H3) (R3 : Rel K F3 i3 ⟨e3, m3⟩ [] H3) (hn : ∀ b, H1 b = none → Hn b ≠ none → Owned ⟨[], s1.mem ++ [.live t]⟩ [] (i1 ++ [a]) b ∨ H1 b = none) (hl : s1.mem.length ≤ m3.length) :
    EStep F1 i1 s1 σ H1 F3 i1 ⟨s1.env, m3.take s1.mem.length⟩ H3 ∧ Rel K F3 i1 ⟨s1.env, m3.take s1.mem.length⟩ σ H3 := by
  have len := R.len
  have i3k : ∀ {k b}, i1[k]? = some b → i3[k]? = some b := fun {k b} h => pre_get st.ii (by rw [List.getElem?_append_left (List.getElem?_eq_some_iff.mp h).1]; exact h)
  have i13 : ∀ {k b}, k < s1.mem.length → i3[k]? = some b → i1[k]? = some b := fun {k b} hk h => by
    have : k < i1.length := by omega
    rw [i3k (List.getElem?_eq_getElem this)] at h
    rw [List.getElem?_eq_getElem this]
    exact h
  -- who owns at the call's begin owned before, or is new
  have back : ∀ {b}, Owned ⟨[], s1.mem ++ [.live t]⟩ [] (i1 ++ [a]) b → Owned s1 σ i1 b ∨ b = a := fun {b} h => by
    rcases h with ⟨j, ⟨x, z⟩, _⟩ | ⟨k, ⟨x, h⟩, h2⟩
    · simp at z
    · rcases Nat.lt_or_ge k s1.mem.length with hk | hk
      · simp only [List.getElem?_append_left hk] at h
        rw [List.getElem?_append_left (by omega)] at h2
        exact .inl (.inr ⟨k, ⟨x, h⟩, h2⟩)
      · have := (List.getElem?_eq_some_iff.mp h2).1
        simp at this
        have : k = s1.mem.length := by omega
        subst this
        rw [List.getElem?_append_right (by omega), len, Nat.sub_self] at h2
        simp at h2
        exact .inr h2.symm
  have backF : ∀ {b}, Fresh ⟨[], s1.mem ++ [.live t]⟩ [] (i1 ++ [a]) Hn b → Fresh s1 σ i1 H1 b := fun {b} h => by
    rcases h with h | h
    · rcases back h with z | rfl
      · exact .inl z
      · exact .inr ha
    · refine .inr ?_
      cases z : H1 b with
      | none => rfl
      | some o => rw [hs b o z] at h; cases h
  -- a slot's thing is not the call's
  have other : ∀ {j b}, OwnAt s1 σ j b → ¬ Owned ⟨[], s1.mem ++ [.live t]⟩ [] (i1 ++ [a]) b := fun {j b} h z => by
    obtain ⟨o, q⟩ := Owned.there R (.inl ⟨j, h⟩)
    rcases z with ⟨j, ⟨x, z⟩, _⟩ | ⟨k, ⟨x, z⟩, z2⟩
    · simp at z
    · rcases Nat.lt_or_ge k s1.mem.length with hk | hk
      · simp only [List.getElem?_append_left hk] at z
        rw [List.getElem?_append_left (by omega)] at z2
        exact R.ol _ k b h ⟨⟨x, z⟩, z2⟩
      · have := (List.getElem?_eq_some_iff.mp z2).1
        simp at this
        have : k = s1.mem.length := by omega
        subst this
        rw [List.getElem?_append_right (by omega), len, Nat.sub_self] at z2
        simp at z2
        subst z2
        rw [ha] at q
        cases q
  have liveE : ∀ {k b}, LiveAt ⟨s1.env, m3.take s1.mem.length⟩ i1 k b → k < s1.mem.length ∧ LiveAt ⟨e3, m3⟩ i3 k b := fun {k b} ⟨⟨x, h⟩, h2⟩ => by
    simp only [List.getElem?_take] at h
    split at h
    · rename_i hk
      exact ⟨hk, ⟨x, h⟩, i3k h2⟩
    · cases h
  have nol : ∀ j k b, OwnAt s1 σ j b → LiveAt ⟨e3, m3⟩ i3 k b → False := fun j k b h h2 => by
    obtain ⟨o, q⟩ := Owned.there R (.inl ⟨j, h⟩)
    rcases st.own b (.inr ⟨k, h2⟩) with z | z
    · exact other h z
    · rw [hs b o q] at z
      cases z
  refine ⟨⟨⟨st.ff, List.prefix_refl _, fun b o h n => st.keep b o (hs b o h) fun z => ?_, fun b h => ?_, fun b o h => (st.fro b o h).imp id backF⟩, fun j h => h⟩, R3.sub, fun j x h => ?_, fun k c h => ?_, ?_, R.elen, fun j l b h h2 => R.oo j l b h h2, fun j k b h h2 => nol j k b h (liveE h2).2, fun k l b h h2 => R3.ll k l b (liveE h).2 (liveE h2).2⟩
  · rcases back z with z | rfl
    · exact n z
    · rw [ha] at h
      cases h
  · rcases h with ⟨j, h⟩ | ⟨k, h⟩
    · exact .inl (.inl ⟨j, h⟩)
    · exact backF (st.own b (.inr ⟨k, (liveE h).2⟩))
  · obtain ⟨v, e1, r⟩ := R.env j x h
    refine ⟨v, e1, ?_⟩
    cases x with
    | d x => exact RD.mono st.ff r
    | ref k => exact r
    | own x =>
      obtain ⟨b, o, rfl, q1, q2, q3⟩ := r
      have no := other ⟨⟨x, h⟩, e1⟩
      refine ⟨b, o, rfl, st.keep b o (hs b o q1) no, q2.mono st.ff, ?_⟩
      cases z : F3 b with
      | none => rfl
      | some w =>
        rcases st.fro b w z with y | y | y
        · rw [q3] at y; cases y
        · exact (no y).elim
        · rw [hs b o q1] at y; cases y
  · simp only [List.getElem?_take] at h
    split at h
    · rename_i hk
      obtain ⟨b, e1, r⟩ := R3.mem k c h
      exact ⟨b, i13 hk e1, r⟩
    · cases h
  · simp only [List.length_take]
    omega
end
section
variable {X : Cx} {T : CT} {W : WX} {n : Nat} {f A : Addr} {fd : FuncData} {ps : List Str} {sp : Sp} {dvs : List V} {ds : List Value}
omit [ClsTab] in
theorem FnG.make {pins : List (Addr × Obj)} {σ : L2.St} {H : Hp} {st : Shared} {Q : VK} {us : List Value} {vs : List V} (M : Mk X.K A f) (h : FnG X.prog X.w X.K X.mg X.base n f fd ps sp) (r : Room (n + 1) X.A) (g : X.A.guards = some []) (hb : Binds X.K fd ps ds) (hd : Vals dvs ds) (tk : Takes X W)
    (I : Inv X pins σ H st) (v : Vals vs us) (q : ∀ x dx, H x = none → H dx = none → dx ≠ x → sp (.ref x :: (vs ++ dvs)) (upd (upd H dx (.own x)) x (.ins A dx [])) (fun v H2 => v = .non ∧ Q (.ref x) H2) fun c d H' => W c d σ H') :
    wpAny (model X.prog X.w) X.A (PySem.call (.ref A) us) (EP X pins σ Q) X.xe st := by
  have hq := q (st.heap.objs.size + 1) st.heap.objs.size (I.hok.fresh (Nat.le_succ _)) (I.hok.fresh (Nat.le_refl _)) (Nat.ne_of_lt (Nat.lt_succ_self _))
  have I2 := Inv.made (C := A) I
  have r2 : Vals (V.ref (st.heap.objs.size + 1) :: (vs ++ dvs)) (Value.ref (st.heap.objs.size + 1) :: (us ++ ds)) := .cons rfl (v.append hd)
  have hl : (Value.ref (st.heap.objs.size + 1) :: us ++ ds).length = ps.length := by
    have e := r2.length
    rw [h.many _ _ _ _ hq] at e
    exact e.symm
  refine wpAny_call (make_map (f := f) I.kIn M.makes M.init (beq_iff_eq.mp M.fn) (codeAny_mono (h.go _ X.stack _ _ ⟨Value.ref (st.heap.objs.size + 1) :: us, []⟩ (Value.ref (st.heap.objs.size + 1) :: (us ++ ds)) _ _ _ hq r2
    (hb _ (Value.ref (st.heap.objs.size + 1) :: us) I2.kIn hl) (r.make A us []) g (I2.env0.make A us [])) fun r s' hq' => ?_))
  cases r with
  | error e => exact tk e s' (XE.of_call I2 (fun _ _ _ h => h) hq')
  | ok fl =>
    cases fl with
    | ret u =>
      obtain ⟨v, H', I3, rv, ev, q3⟩ := I2.after hq'
      subst ev
      exact ⟨rv, ⟨V.ref (st.heap.objs.size + 1), H', I3, rfl, q3⟩⟩
    | next => exact False.elim hq'
    | brk => exact False.elim hq'
    | cont => exact False.elim hq'
/-- what stands behind a class's name that is called -/
def MakeF (X : Cx) (Cc : Call) (T : CT) (y : Str) (c fi : Nat) : Prop := ∃ (A f : Addr) (fd : FuncData) (ps : List Str) (m n : Nat), X.mg y = some (.ref A) ∧ ClsTab.at_ c = some A ∧ Mk X.K A f ∧
  FnG X.prog X.w X.K X.mg X.base m f fd ps (spF X.K T Cc fi n) ∧ Room (m + 1) X.A ∧ Binds X.K fd ps [] ∧ (∀ us s, us.length ≠ n → Cc fi us s = .bad) ∧ (y == ("__debug__" : Str)) = false
theorem make_imp {Cc : Call} {c fi : Nat} {A : Addr} {ms : List (EM Out)} {σ : L2.St} {H : Hp} {Q : VK} (hc : ClsTab.at_ c = some A) (hl : ∀ us s, us.length ≠ n → Cc fi us s = .bad) (h : tE X.K T W (mkI Cc c fi ms) σ H Q) :
    tM X.K T W (RVls X.K) (passes ms) σ H fun vs H1 => ∀ x dx, H1 x = none → H1 dx = none → dx ≠ x → spF X.K T Cc fi n (.ref x :: vs) (upd (upd H1 dx (.own x)) x (.ins A dx [])) (fun v H2 => v = .non ∧ Q (.ref x) H2) fun c d H' => W c d σ H' := by
  obtain ⟨F, ι, s, R, A0⟩ := h
  refine ⟨F, ι, s, R, A0.bind fun us s1 F1 i1 H1 vs _ _ R1 rvs A1 => fun x dx hx hdx hne => ?_⟩
  have hs : Same H1 (upd (upd H1 dx (.own x)) x (.ins A dx [])) := fun b o e => by
    rw [upd_ne (ne_of_none e hx), upd_ne (ne_of_none e hdx)]
    exact e
  have more : More F1 H1 F1 (upd (upd H1 dx (.own x)) x (.ins A dx [])) := ⟨.refl _, hs, R1.sub.trans hs, fun a o e => .inl e⟩
  have Rm := (R1.more more).bare
  have fx : F1 x = none := by
    cases z : F1 x with
    | none => rfl
    | some o => rw [R1.sub x o z] at hx; cases hx
  have nx : ¬ Owned ⟨[], s1.mem⟩ [] i1 x := fun z => by
    rcases z with ⟨j, ⟨y, z⟩, _⟩ | ⟨k, hk⟩
    · simp at z
    · obtain ⟨o, q⟩ := Owned.there R1 (.inr ⟨k, hk⟩)
      rw [hx] at q
      cases q
  obtain ⟨Rn, _⟩ := new_cell (F0 := F1) (H0 := H1) (i0 := i1) (s0 := ⟨[], s1.mem⟩) (g0 := []) (x := .ins c [] []) (a := x) (u := .ins A dx []) Rm (EStep.more (s := ⟨[], s1.mem⟩) (σ := []) more).toStep upd_same ⟨A, dx, [], hc, rfl, rfl, .nil⟩ fx nx (.inr hx)
  have rall : All2 (RVl X.K F1 (i1 ++ [x])) (.ref s1.mem.length :: us) (V.ref x :: vs) := .cons ⟨x, by rw [← R1.len]; simp, rfl⟩ (All2.mono (fun u v r => r.step (.refl _) (List.prefix_append _ _)) rvs)
  have hk3 : ∀ {F3 H3 : Hp} {i3 : List Addr} {s3 : S}, EStep F1 (i1 ++ [x]) ⟨[], s1.mem ++ [.live (.ins c [] [])]⟩ [] (upd (upd H1 dx (.own x)) x (.ins A dx [])) F3 i3 s3 H3 → Rel X.K F3 i3 s3 [] H3 →
      EStep F1 i1 s1 σ H1 F3 i1 ⟨s1.env, s3.mem.take s1.mem.length⟩ H3 ∧ Rel X.K F3 i1 ⟨s1.env, s3.mem.take s1.mem.length⟩ σ H3 := fun {F3 H3 i3 s3} st R3 => by
    obtain ⟨e3, m3⟩ := s3
    have l3 : i3.length = m3.length := R3.len
    obtain ⟨t, ht⟩ := st.ii
    have : i3.length = i1.length + 1 + t.length := by rw [← ht]; simp; omega
    exact back_new R1 hs hx st.toStep R3 (fun b hb _ => .inr hb) (by have := R1.len; show s1.mem.length ≤ m3.length; omega)
  refine ⟨?_, F1, i1 ++ [x], ⟨[], s1.mem ++ [.live (.ins c [] [])]⟩, [], .ref s1.mem.length :: us, Rn, rall, ?_⟩
  · by_cases hn : ((Vl.ref s1.mem.length) :: us).length = n
    · rw [← rall.len]
      exact hn
    · simp only [hl _ _ hn] at A1
      exact A1.elim
  · cases hr : Cc fi (.ref s1.mem.length :: us) ⟨[], s1.mem ++ [.live (.ins c [] [])]⟩ with
    | bad => simp only [hr] at A1; exact A1.elim
    | exc e s3 =>
      simp only [hr] at A1
      intro F3 i3 H3 c d st R3 re
      obtain ⟨st4, R4⟩ := hk3 st R3
      exact A1 F3 i1 H3 c d st4 R4 re
    | ok o s3 =>
      simp only [hr] at A1
      split at A1 <;> first | exact A1.elim | skip
      · rename_i s4 hz
        cases hz
        split at A1 <;> first | exact A1.elim | skip
        rename_i t' ht'
        intro F3 i3 H3 v st R3 rv
        obtain ⟨st4, R4⟩ := hk3 st R3
        have rv : RD X.K F3 .non v := rv
        cases rv
        refine ⟨rfl, A1 F3 i1 H3 (.ref x) st4 R4 ?_⟩
        obtain ⟨b, e1, o, q1, q2, q3⟩ := R3.mem _ _ ht'
        have e2 : i3[s1.mem.length]? = some x := pre_get st.ii (by rw [← R1.len]; simp)
        rw [e2] at e1
        cases e1
        refine ⟨x, o, rfl, q1, q2, q3, fun z => ?_, .inr hx⟩
        rcases z with ⟨j, z⟩ | ⟨k, ⟨y, z⟩, z2⟩
        · obtain ⟨o2, q⟩ := Owned.there R1 (.inl ⟨j, z⟩)
          rw [hx] at q
          cases q
        · simp only [List.getElem?_take] at z
          split at z <;> first | (cases z; done) | skip
          have e5 : i3[k]? = some x := pre_get st.ii (by rw [List.getElem?_append_left (List.getElem?_eq_some_iff.mp z2).1]; exact z2)
          have := R3.ll k s1.mem.length x ⟨⟨y, z⟩, e5⟩ ⟨⟨_, ht'⟩, e2⟩
          omega
      · rename_i e s4 hz
        cases hz
theorem e_new {Cc : Call} {c fi : Nat} {y : Str} {p pos : Pos} {e : Expr} {es : List Expr} {ms : List (EM Out)} (hm : MakeF X Cc T y c fi) (g : X.A.guards = some []) (hg : Gl X y) (tk : Takes X W) (ha : PA X (e :: es) (tM X.K T W (RVls X.K) (passes ms)))
    (he : starEach (e :: es) X.env = (false, eval e X.env) :: starEach es X.env) (hp : (backTo pos (starEach es X.env)).any (·.1) = false) : PE X (.Call (.Name y p) (e :: es) [] pos) (tE X.K T W (mkI Cc c fi ms)) := by
  obtain ⟨A, f, fd, ps, m, n, k1, k2, k3, k4, k5, k6, k7, k8⟩ := hm
  refine ⟨fun pins s σ H Q I q => ?_⟩
  refine wpAny_Call_Name_kw (ld_glob I hg k1 ?_ k8)
  refine PySem.W.callWith_K (h₀ := X.base) I.ok.mod.kin k3.kp (thn (ha.run pos pins s σ H _ I (make_imp k2 k7 q)) fun us s1 ⟨vs, H1, I1, r, q1⟩ => ⟨I1.kIn, ?_⟩) he hp
  exact FnG.make (dvs := []) (ds := []) k3 k4 k5 g k6 .nil tk I1 r fun x dx h1 h2 h3 => by rw [List.append_nil]; exact q1 x dx h1 h2 h3
end
end Ev

set_option Elab.async false
set_option linter.all false
set_option autoImplicit false
set_option maxHeartbeats 2000000
/-! Ev, part Cd: a walk over an instance whose __iter__ gives the iterator of a tuple. -/
namespace Ev
variable [ClsTab]
open PySem PySem.Spec PyProof.Rows L2
def ItT (l it : Addr) (i : Nat) : HO := .ext fun h => h.IsTupleIter it l i
section
variable {X : Cx} {pins : List (Addr × Obj)} {σ : L2.St} {H : Hp} {s : Shared}
omit [ClsTab] in
theorem itT_ok {P : Program} {w : World} {h : Heap} {l it : Addr} {i : Nat} (e : h.IsTupleIter it l i) : ObjOk P w H h it (ItT l it i) :=
  ⟨e, (let ⟨o, q, _⟩ := e; ⟨o, q⟩), fun h1 h2 q k => q.at fun o z => k o z⟩
omit [ClsTab] in
theorem inst_at (I : Inv X pins σ H s) {a C dx : Addr} {fs : List (Str × V)} (e : H a = some (.ins C dx fs)) : ∃ od, PySem.W.InstAt s.heap a (PySem.W.instObj C dx) C (some od) := by
  obtain ⟨mA, O, _⟩ := ins_get I.hok e
  obtain ⟨od, h, _⟩ := O.look
  exact ⟨od, h⟩
def rIterT (K : PySem.W.Frag) (n : Nat) : List V → Hp → VK → Prop := fun xs H Q => ∃ (l : Addr) (zs : List V), xs = [.ref l] ∧ SqT K H l zs ∧ ∀ it, H it = Option.none → n ≤ it → Q (.ref it) (upd H it (ItT l it 0))
theorem call_iterT : CallR X (.builtin "iter") (rIterT X.K X.s_0.heap.objs.size) := by
  intro pins s σ H xs us Q I r h
  obtain ⟨l, zs, rfl, hq, q⟩ := h
  obtain ⟨u, rfl, ru⟩ := vals1 r
  cases ru
  obtain ⟨its, rv, pl, hz⟩ := I.tuple hq
  refine Calls.call_function_entry (by decide +kernel) (by decide +kernel) PySem.W.kdk_entry_iter (PySem.W.kdk_args_iter _) ?_
  unfold Builtin.«iter»
  refine wpAny_bind (m := someArgs "iter" 1 2 _) (wpAny_of_eq (a := [Value.ref l]) (by first | rfl | kernel_rfl!) ?_)
  show wpAny _ _ (pyIter (.ref l) >>= _) _ _ _
  refine wpAny_bind (wpAny_pyIter_tuple (show s.heap.IsTuple l its.toArray from pl) (wpAny_pure ⟨_, rfl, ?_⟩))
  exact ⟨.ref s.heap.objs.size, _, I.laid (t' := s.toks) (fun b u e => Heap.get?_push_of_some _ e) (Nat.le_refl _) (itT_ok ⟨_, Heap.get?_push_size _ rfl, rfl, rfl⟩), rfl, q _ (I.hok.fresh (Nat.le_refl _)) I.sz⟩
end
/-- the promise of an __iter__, n the heap's size at its call -/
def spIter (K : PySem.W.Frag) (fl : Str) (C : Addr) (n : Nat) : Sp := fun vs H Q _ => ∃ (a dx : Addr) (fs : List (Str × V)) (t : Addr) (xs : List V), vs = [.ref a] ∧ H a = some (.ins C dx fs) ∧ fs.lookup fl = some (.ref t) ∧ SqT K H t xs ∧
  ∀ it, H it = none → n ≤ it → Q (.ref it) (upd H it (ItT t it 0))
structure FnI (P : Program) (w : World) (K : PySem.W.Frag) (mg : Str → Option Value) (base : Heap) (n : Nat) (f : Addr) (fd : FuncData) (ps : List Str) (sp : Nat → Sp) : Prop where
  many : ∀ m vs H Q E, sp m vs H Q E → vs.length = ps.length
  go : ∀ (B : Around) (below : List Env) (st : Shared) (H : Hp) (ar : Args) (us : List Value) (vs : List V) (Q : VK) (E : XK), sp st.heap.objs.size vs H Q E → Vals vs us → BindsTo st fd ar (ps.zip us) → Room n B → B.guards = some [] →
    Env0 P w K mg base B below st H → codeAny (model P w) B (.call (.ref f) ar) (CR (L2.CX P w) below P w H st Q E) st
section
variable {P : Program} {w : World} {K : PySem.W.Frag} {mg : Str → Option Value} {base : Heap} {x qual : Str} {params : Arguments} {body : List Stmt} {scope : Scope} {dvs : List V} {kws : List (Str × V)} {f : Addr} {fd : FuncData}
omit [ClsTab] in
theorem FnI.by_body {N ps : List Str} {n : Nat} {sp : Nat → Sp} (D : FunD K x qual params body scope dvs kws f fd) (S : FnScope N ps scope) (many : ∀ m vs H Q E, sp m vs H Q E → vs.length = ps.length)
    (hb : ∀ (cdv : Value) (B : Around) (below : List Env) (st : Shared) (H : Hp) (vs : List V) (Q : VK) (E : XK), Room n (B.deeper (envOfC qual scope st.heap.objs.size f cdv)) → B.guards = some [] → sp st.heap.objs.size vs H Q E →
      ∃ t, PSs (cxOf (L2.CX P w) P w K mg base N qual scope f cdv B below st H E) body t ∧ t { nx := fun _ H' => Q .non H', rt := Q } (L2.start N vs) H) : FnI P w K mg base (n + 1) f fd ps sp := by
  obtain ⟨oc, od, dV, kV, doc, pm, an, cdv, ct, osl, rfl, lk, hcd, _, _⟩ := D.ex
  refine ⟨many, fun B below st H ar us vs Q E q v b r g e0 => ?_⟩
  have room : K.In st.heap := e0.mod.kin.keeps fun a o h => (e0.bs a o h).1
  have kinds : ∀ y ∈ ps.zip us, scope.names.lookup y.1 = some .local ∨ (scope.names.lookup y.1 = some .cell ∧ ((cellsFrom (st.heap.objs.size + 1) scope.names []).lookup y.1).isSome = true) := by
    rintro ⟨y, z⟩ hy
    rcases S.par y (List.of_mem_zip hy).1 with h | h
    · exact .inl h
    · exact .inr ⟨h, PySem.W.cellsFrom_some _ _ _ (.inl h)⟩
  refine codeAny_call_function r.depth (room _ _ lk) rfl S.co S.gen rfl (PySem.W.codeRec_of room hcd) (b _ _ _ _ (wpAny_newFunctionEnv_cells S.kind kinds fun env he s1 ic => ?_))
  subst he
  refine ⟨(e0.mod.nolimit.keeps fun a o h => (e0.bs a o h).1).keeps ic.toInCall.keep, codeAny_func ?_⟩
  obtain ⟨t, ht, hq⟩ := hb cdv B below st H vs Q E (r.deeper _) g q
  have I := inv_start (E := E) (CX := L2.CX P w) S r.hd e0 (many _ _ _ _ _ q) v ic
  refine wpAny_mono (ht.run [] s1 _ H _ I hq) (fun fl s2 h => ?_) fun _ _ h => h
  cases fl with
  | brk => exact (h.elim fun _ h => h.elim fun _ h => h.2).elim
  | cont => exact (h.elim fun _ h => h.elim fun _ h => h.2).elim
  | ret u =>
    obtain ⟨y, _, H2, J, ry, qy⟩ := h
    exact ⟨y, H2, J.os, J.bare, J.base, J.hok, ry, qy⟩
  | next =>
    obtain ⟨_, H2, J, qy⟩ := h
    exact ⟨.non, H2, J.os, J.bare, J.base, J.hok, rfl, qy⟩
omit [ClsTab] in
theorem boot_iterB : bootBuiltins ("iter" : Str) = some (.builtin "iter") := by first | rfl | kernel_rfl
/-- def __iter__(self): return iter(self.fl) -/
theorem FnI.iter {mb : Str → Option Value} {sf fl : Str} {p1 p2 p3 p4 p5 : Pos} {C : Addr} {n : Nat} (D : FunD K x qual params [.Return (some (.Call (.Name "iter" p1) [.Attribute (.Name sf p2) fl p3] [] p4)) p5] scope [] kws f fd) (S : FnScope [sf] [sf] scope)
    (hc : L2.Cls K C) (hn : NoAttr K C fl) (hi : mg "iter" = none) (hg : scope.names.lookup ("iter" : Str) = some .globalImplicit) (hv : scope.names.lookup sf = some .local ∨ scope.names.lookup sf = some .cell) (hd : (sf == ("__debug__" : Str)) = false) (hd2 : (sf == ("__classdict__" : Str)) = false) (hb : sf ≠ "super") :
    FnI P w K mg base (n + 1) f fd [sf] (spIter K fl C) := by
  refine FnI.by_body (N := [sf]) D S (fun m vs H Q E ⟨a, dx, fs, t, xs, e, _⟩ => by rw [e]; rfl) fun cdv B below st H vs Q E r g h => ?_
  obtain ⟨a, dx, fs, t, xs, rfl, hH, hl, hs, q⟩ := h
  refine ⟨_, pss_one (ps_ret (pe_callB call_iterT (by exact hg) hi boot_iterB (pa_cons (pe_fld (pe_var (i := 0) rfl ?_ hd hd2) ?_) pa_nil (by rfl)) (by decide) (by decide) (by rfl) (by rfl))), ?_⟩
  · exact hv.imp id fun h => .inl h
  · rfl
  · exact ⟨.ref a, rfl, a, C, dx, fs, .ref t, rfl, hH, hc, hn, hl, t, xs, rfl, hs, fun it h1 h2 => q it h1 h2⟩
end
end Ev

set_option Elab.async false
set_option linter.all false
set_option autoImplicit false
set_option maxHeartbeats 2000000
/-! Ev, part Ce: for x in an instance. -/
namespace Ev
variable [ClsTab]
open PySem PySem.Spec PyProof.Rows L2
/-- what a walk over it goes through: its classes' fields by their numbers -/
def walkI (its : List (Nat × Str)) : D → Option (List D)
  | .ins c ns vs => (its.lookup c).bind fun fl => ((ns.zip vs).lookup fl).bind fun d => match d with
    | .tup xs => some xs
    | _ => none
  | d => walkD d
def seqI (its : List (Nat × Str)) (e : EM Out) : EM (List D) := e.bind fun x => (keep x).bind fun u => opt (walkI its u)
def IterF (X : Cx) (its : List (Nat × Str)) : Prop := ∀ c fl, its.lookup c = some fl → ∀ C, ClsTab.at_ c = some C → ∃ (f : Addr) (fd : FuncData) (ps : List Str) (m : Nat), Meth X.K C "__iter__" f ∧
  FnI X.prog X.w X.K X.mg X.base m f fd ps (spIter X.K fl C) ∧ Room m X.A ∧ Binds X.K fd ps []
def iInst (K : PySem.W.Frag) (its : List (Nat × Str)) (te : TE) : TI := fun σ H R => te σ H fun x H1 => ∃ (a C dx : Addr) (fs : List (Str × V)) (c : Nat) (fl : Str) (t : Addr) (xs : List V), x = .ref a ∧ ClsTab.at_ c = some C ∧ its.lookup c = some fl ∧ H1 a = some (.ins C dx fs) ∧ fs.lookup fl = some (.ref t) ∧ SqT K H1 t xs ∧ R (Itt K t) H1
section
variable {X : Cx} {T : CT} {W : WX} {tg e : Expr} {m : EM Out} {its : List (Nat × Str)} {te : TE}
/-- iter(x) of an instance, and what stands then -/
theorem iter_inst {A1 : Around} {E1 : Value → Shared → Prop} {pins : List (Addr × Obj)} {σ : L2.St} {H : Hp} {s : Shared} {a C dx t f : Addr} {fs : List (Str × V)} {fd : FuncData} {ps : List Str} {k : Nat} {fl : Str} {xs : List V} {Q : Value → Shared → Prop} (I : Inv X pins σ H s) (k1 : Meth X.K C "__iter__" f)
    (k2 : FnI X.prog X.w X.K X.mg X.base k f fd ps (spIter X.K fl C)) (k3 : Room k A1) (k4 : Binds X.K fd ps []) (g : A1.guards = some []) (e0 : Env0 X.prog X.w X.K X.mg X.base A1 X.stack s H) (hH : H a = some (.ins C dx fs)) (hfl : fs.lookup fl = some (.ref t)) (hs : SqT X.K H t xs)
    (q : ∀ it s2, H it = none → X.s_0.heap.objs.size ≤ it → s2.heap.IsTupleIter it t 0 → Inv X pins σ H s2 → Inv X pins σ (upd H it (ItT t it 0)) s2 → FpOk X pins H it → Q (.ref it) s2) : wpAny (model X.prog X.w) A1 (pyIter (.ref a)) Q E1 s := by
  obtain ⟨m0, Fr0⟩ := I.fr
  obtain ⟨od, IA⟩ := inst_at I hH
  refine PySem.W.owit_iter Fr0 I.ok.mod.kin IA k1.at_ (by exact k1.fn) ?_
  have hsp : spIter X.K fl C s.heap.objs.size [.ref a] H (fun v H2 => ∃ it, v = .ref it ∧ H it = none ∧ s.heap.objs.size ≤ it ∧ H2 = upd H it (ItT t it 0)) fun _ _ _ => False := ⟨a, dx, fs, t, xs, rfl, hH, hfl, hs, fun it h1 h2 => ⟨it, rfl, h1, h2, rfl⟩⟩
  have run := k2.go A1 X.stack s H ⟨[.ref a], []⟩ [.ref a] [.ref a] _ _ hsp (.cons rfl .nil) (by
    have := k4 s [.ref a] I.kIn (by rw [List.append_nil]; exact k2.many _ _ _ _ _ hsp)
    rw [List.append_nil] at this
    exact this) k3 g e0
  refine wpAny_call (codeAny_mono run fun res s2 hr => ?_)
  cases res with
  | error x =>
    obtain ⟨_, _, _, _, _, _, _, _, _, _, _, _, z⟩ := hr
    exact z.elim
  | ok fw =>
    cases fw with
    | next => exact hr.elim
    | brk => exact hr.elim
    | cont => exact hr.elim
    | ret u =>
      obtain ⟨v, H2, I2, rv, it, rfl, n1, n2, rfl⟩ := I.after hr
      obtain rfl : u = Value.ref it := rv
      have hit : s2.heap.IsTupleIter it t 0 := (I2.hok it _ upd_same).1
      have hT : s2.TypeIs (.ref it) "tuple_iterator" := by
        obtain ⟨o, ho, hc, _⟩ := hit
        exact ⟨o, ho, hc⟩
      refine wpAny_specialOf (name := Str.ofString "__next__") hT F.slot_tuple_iterator_next.lookup ?_
      have I3 := ItX.inv_drop (φ := fun h => h.IsTupleIter it t 0) I2 upd_same
      rw [ItX.dropH_upd n1] at I3
      have fp := ItX.inv_fp I2 upd_same (Nat.le_trans I.sz n2)
      rw [ItX.dropH_upd n1] at fp
      exact q it s2 n1 (Nat.le_trans I.sz n2) hit I3 I2 fp
theorem pi_inst (hf : IterF X its) (g : X.A.guards = some []) (he : PE X e te) : PI X tg e (iInst X.K its te) := by
  refine ⟨fun pins s σ H R I h => ?_⟩
  refine thn (he.run pins s σ H _ I h) fun v s1 ⟨x, H1, I1, r1, q1⟩ => ?_
  obtain ⟨a, C, dx, fs, c, fl, t, xs, rfl, hC, hl, hH, hfl, hs, q⟩ := q1
  obtain rfl : v = Value.ref a := r1
  obtain ⟨f, fd, ps, k, k1, k2, k3, k4⟩ := hf c fl hl C hC
  refine iter_inst I1 k1 k2 k3 k4 g I1.env0 hH hfl hs fun it s2 n1 n2 hit I3 _ fp => ?_
  refine ⟨it, [it], _, _, H1, rfl, I3, turn_tuple t it, hit, fun b hb => ?_, q⟩
  have e : b = it := by simpa using hb
  rw [e]
  exact fp
theorem i_seqI (hf : IterF X its) (g : X.A.guards = some []) (he : PE X e (tE X.K T W m)) : PI X tg e (tI X.K T W (seqI its m)) := ⟨fun pins s σ H R I ⟨F, ι, s0, Rl, A⟩ => by
  cases hm : m s0 with
  | bad =>
    unfold seqI EM.bind at A
    rw [hm] at A
    exact A.elim
  | exc x s1 =>
    refine (pi_list he).run pins s σ H R I ⟨F, ι, s0, Rl, ?_⟩
    unfold seqI EM.bind at A
    rw [hm] at A ⊢
    exact A
  | ok o s1 =>
    cases hk : keep o s1 with
    | bad =>
      unfold seqI EM.bind at A
      simp only [hm, EM.bind, hk] at A
      exact A.elim
    | exc x s2 => exact absurd hk keep_exc
    | ok d s2 =>
      have A2 : Aft X.K T W (RIt X.K) F ι s0 σ H (Ev.opt (walkI its d) s2) R := by
        unfold seqI EM.bind at A
        simp only [hm, EM.bind, hk] at A
        exact A
      have plain : walkI its d = walkD d → wpAny (model X.prog X.w) X.A (eval e X.env) (fun v s1 => wpAny (model X.prog X.w) X.A (pyIter v) (PIE X pins σ tg R) X.xe s1) X.xe s := fun ed => by
        refine (i_seq he).run pins s σ H R I ⟨F, ι, s0, Rl, ?_⟩
        unfold seqE EM.bind
        simp only [hm, EM.bind, hk]
        rw [← ed]
        exact A2
      obtain ⟨ds, e1, A3⟩ := A2.opt
      cases d with
      | ins c ns ws =>
        obtain ⟨fl, e2, e3⟩ := Option.bind_eq_some_iff.mp (show (its.lookup c).bind _ = some ds from e1)
        obtain ⟨z, e4, e5⟩ := Option.bind_eq_some_iff.mp e3
        cases z with
        | tup xs =>
          cases e5
          refine (pi_inst hf g he).run pins s σ H R I ⟨F, ι, s0, Rl, ?_⟩
          rw [hm]
          intro F1 i1 H1 v t R1 r1
          obtain ⟨F2, t2, R2, rd⟩ := keep_ok R1 t r1 hk
          cases rd with
          | ins hC hF hl rs =>
            obtain ⟨u, h1, h2⟩ := rs.lookup e4
            cases h2 with
            | tup hq hr => exact ⟨_, _, _, _, c, fl, _, _, rfl, hC, e2, R2.sub _ _ hF, h1, Same.seqT R2.sub hq, A3 F2 i1 H1 _ t2 R2 (steps_tup hq hr)⟩
        | _ => cases e5
      | _ => exact plain rfl⟩
end
end Ev

set_option Elab.async false
set_option linter.all false
set_option autoImplicit false
set_option maxHeartbeats 2000000
/-! Ev, part Cf: len, in, == of instances with their own defs; isinstance. -/
namespace Ev
variable [ClsTab]
open PySem PySem.Spec PyProof.Rows L2
omit [ClsTab] in
/-- a def that is called by the machine: nothing is raised -/
theorem FnG.runB {X : Cx} {n : Nat} {f : Addr} {fd : FuncData} {ps : List Str} {sp : Sp} {B : Around} {E1 : Value → Shared → Prop} {pins : List (Addr × Obj)} {σ : L2.St} {H : Hp} {st : Shared} {Q : VK} {us : List Value} {vs : List V} (h : FnG X.prog X.w X.K X.mg X.base n f fd ps sp) (r : Room n B) (g : B.guards = some [])
    (e0 : Env0 X.prog X.w X.K X.mg X.base B X.stack st H) (hb : Binds X.K fd ps []) (I : Inv X pins σ H st) (v : Vals vs us) (q : sp vs H Q fun _ _ _ => False) : wpAny (model X.prog X.w) B (PySem.call (.ref f) us) (EP X pins σ Q) E1 st := by
  have b := hb st us I.kIn (by rw [List.append_nil]; exact v.length.symm.trans (h.many _ _ _ _ q))
  rw [List.append_nil] at b
  refine wpAny_call (codeAny_mono (h.go B X.stack st H ⟨us, []⟩ us vs Q _ q v b r g e0) fun res s2 hr => ?_)
  cases res with
  | error x =>
    obtain ⟨_, _, _, _, _, _, _, _, _, _, _, _, z⟩ := hr
    exact z.elim
  | ok fw =>
    cases fw with
    | ret u => exact I.after hr
    | next => exact hr.elim
    | brk => exact hr.elim
    | cont => exact hr.elim
/-- the outcome of a def of an instance that only looks, a plain thing -/
def ask (C : Call) (f : Nat) (us : List D) : EM D := fun s => match C f (us.map .d) ⟨[], []⟩ with
  | .ok (.d x) _ => if x.atom = true then .ok x s else .bad
  | _ => .bad
/-- what stands behind a name of the machine's own -/
def DunF (X : Cx) (Cc : Call) (T : CT) (nm : Str) (ms : List (Nat × Nat)) : Prop := ∀ c fi, ms.lookup c = some fi → ∀ C, ClsTab.at_ c = some C → ∃ (f : Addr) (fd : FuncData) (ps : List Str) (m n : Nat), Meth X.K C nm f ∧
  FnG X.prog X.w X.K X.mg X.base m f fd ps (spF X.K T Cc fi n) ∧ Room (m + 1) X.A ∧ Binds X.K fd ps [] ∧ ∀ us s, us.length ≠ n → Cc fi us s = .bad
section
variable {X : Cx} {T : CT} {W : WX} {Cc : Call} {ms : List (Nat × Nat)} {nm : Str}
/-- looked at only: the heap stays -/
theorem ask_sp {F H : Hp} {fi n : Nat} {us : List Ev.D} {vs : List V} {x : Ev.D} {s1 : S} (hr : Cc fi (us.map .d) ⟨[], []⟩ = .ok (.d x) s1) (hat : x.atom = true) (hl : ∀ us s, us.length ≠ n → Cc fi us s = .bad) (sb : Same F H) (vw : Views X.K F H us vs) :
    spF X.K T Cc fi n vs H (fun v H2 => Same H H2 ∧ RD X.K (fun _ => none) x v) fun _ _ _ => False := by
  obtain ⟨F2, e1, e2, rd⟩ := frozen sb vw
  have r0 : Rel X.K F2 [] ⟨[], []⟩ [] H := ⟨e2, fun i x e => (by simp at e), fun k c e => (by simp at e), rfl, rfl, fun i j a h => (by obtain ⟨⟨x, e⟩, _⟩ := h; simp at e), fun i k a h => (by obtain ⟨⟨x, e⟩, _⟩ := h; simp at e), fun k l a h => (by obtain ⟨⟨x, e⟩, _⟩ := h; simp at e)⟩
  refine ⟨?_, F2, [], ⟨[], []⟩, [], us.map .d, r0, dfl_vls rd, ?_⟩
  · rw [← rd.length]
    by_cases hn : (us.map Vl.d).length = n
    · rw [List.length_map] at hn
      exact hn
    · rw [hl _ _ hn] at hr
      cases hr
  · rw [hr]
    intro F3 i3 H3 v st R3 rv
    refine ⟨fun a o e => st.keep a o e fun ow => ?_, ?_⟩
    · rcases ow with ⟨i, ⟨y, z⟩, _⟩ | ⟨k, ⟨y, z⟩, _⟩ <;> simp at z
    · have rv : RD X.K F3 x v := rv
      cases x <;> first | (cases hat; done) | (cases rv; constructor; done) | (cases rv; constructor; assumption)
/-! len -/
def lenI (C : Call) (ms : List (Nat × Nat)) (e : EM Out) : EM Out := e.bind fun x => (get x).bind fun u => match u with
  | .ins c _ _ => (opt (ms.lookup c)).bind fun f => (ask C f [u]).bind fun r => opt (match r with
    | .int n => if 0 ≤ n ∧ n < 2 ^ 63 then some (.d (.int n)) else none
    | _ => none)
  | u => opt (Bi.len.go [u])
def rLenI (X : Cx) (T : CT) (Cc : Call) : List V → Hp → VK → Prop := fun xs H Q => ∃ (a C dx : Addr) (fs : List (Str × V)) (f : Addr) (fd : FuncData) (ps : List Str) (m n fi : Nat) (i : Int), xs = [.ref a] ∧ H a = some (.ins C dx fs) ∧ Meth X.K C "__len__" f ∧
  FnG X.prog X.w X.K X.mg X.base m f fd ps (spF X.K T Cc fi n) ∧ Room (m + 1) X.A ∧ Binds X.K fd ps [] ∧ (0 ≤ i ∧ i < 2 ^ 63) ∧ spF X.K T Cc fi n [.ref a] H (fun v H2 => Same H H2 ∧ v = .int i) (fun _ _ _ => False) ∧ ∀ H2, Same H H2 → Q (.int i) H2
theorem k_lenI (g : X.A.guards = some []) : CallR X (.builtin "len") (rLenI X T Cc) := by
  intro pins s σ H xs us Q I v h
  obtain ⟨a, C, dx, fs, f, fd, ps, m, n, fi, i, rfl, hH, k1, k2, k3, k4, hi, q1, q2⟩ := h
  obtain ⟨u, rfl, ru⟩ := vals1 v
  cases ru
  obtain ⟨m0, Fr0⟩ := I.fr
  obtain ⟨od, IA⟩ := inst_at I hH
  refine PySem.W.len_K Fr0 I.ok.mod.kin IA k1.at_ k1.fn (wpAny_mono (FnG.runB (vs := [V.ref a]) (us := [Value.ref a]) k2 k3.in1 g I.env0.in1 k4 I (.cons rfl .nil) q1) (fun r s' hr => ?_) fun _ _ z => z)
  obtain ⟨v, H2, I2, rv, hs, rfl⟩ := hr
  obtain ⟨t, rfl⟩ := rv
  exact ⟨hi, .int i, H2, I2.tok _, ⟨_, rfl⟩, q2 H2 hs⟩
omit [ClsTab] in
theorem CallR.or {f : Value} {r1 r2 : List V → Hp → VK → Prop} (h1 : CallR X f r1) (h2 : CallR X f r2) : CallR X f fun xs H Q => r1 xs H Q ∨ r2 xs H Q := fun pins s σ H xs us Q I v h => h.elim (h1 pins s σ H xs us Q I v) (h2 pins s σ H xs us Q I v)
theorem len_imp (hd : DunF X Cc T "__len__" ms) {me : EM Out} {σ : L2.St} {H : Hp} {Q : VK} (h : tE X.K T W (lenI Cc ms me) σ H Q) : tCB (fun xs H Q => rBi X.K Bi.len.go xs H Q ∨ rLenI X T Cc xs H Q) (tM X.K T W (ROs X.K) (args [me])) σ H Q := by
  obtain ⟨F, ι, s, R, A⟩ := h
  have e1 : Aft X.K T W (ROut X.K) F ι s σ H ((args [me]).bind (fun xs => match xs with
      | [x] => (get x).bind fun u => match u with
        | .ins c _ _ => (opt (ms.lookup c)).bind fun f => (ask Cc f [u]).bind fun r => opt (match r with
          | .int n => if 0 ≤ n ∧ n < 2 ^ 63 then some (.d (.int n)) else none
          | _ => none)
        | u => opt (Bi.len.go [u])
      | _ => fun _ => .bad) s) Q := by
    unfold lenI EM.bind at A
    unfold args EM.bind
    cases hm : me s with
    | ok o s1 => simp only [hm, args, EM.pure, EM.bind] at A ⊢; exact A
    | exc x s1 => simp only [hm] at A ⊢; exact A
    | bad => simp only [hm] at A; exact A.elim
  refine ⟨F, ι, s, R, e1.bind fun os s1 F1 i1 H1 vs eq1 st1 R1 rs A1 => ?_⟩
  clear eq1 st1
  cases rs with
  | nil => exact A1.elim
  | cons r1 rs =>
    cases rs with
    | cons _ _ => exact A1.elim
    | nil =>
      rename_i o v
      obtain ⟨d, e2, A2⟩ := Aft.get A1
      have vw := r1.view R1 e2
      have plain : (∀ c ns ws, d ≠ .ins c ns ws) → rBi X.K Bi.len.go [v] H1 Q := fun hne => by
        have A3 : Aft X.K T W (ROut X.K) F1 i1 s1 σ H1 (Ev.opt (Bi.len.go [d]) s1) Q := by
          cases d <;> first | exact A2 | exact absurd rfl (hne _ _ _)
        obtain ⟨o2, e3, A4⟩ := A3.opt
        exact ⟨F1, [d], o2, R1.sub, .cons vw .nil, e3, Gives.of R1 A4 (Bi.plain e3)⟩
      cases d with
      | ins c ns ws =>
        right
        obtain ⟨fi, e3, A3⟩ := Aft.pass A2
        obtain ⟨a, C, dx, us, rfl, hC, hH, hl, rws⟩ := vw.ins R1.sub
        obtain ⟨f, fd, ps, m, n, k1, k2, k3, k4, k5⟩ := hd c fi e3 C hC
        unfold ask EM.bind at A3
        cases hr : Cc fi ([D.ins c ns ws].map .d) ⟨[], []⟩ with
        | bad => simp only [hr] at A3; exact A3.elim
        | exc x s3 => simp only [hr] at A3; exact A3.elim
        | ok o2 s3 =>
          simp only [hr] at A3
          cases o2 <;> first | exact A3.elim | skip
          rename_i x
          simp only at A3
          by_cases hat : x.atom = true
          · simp only [hat, if_true] at A3
            obtain ⟨o3, e4, A4⟩ := Aft.opt A3
            cases x <;> first | (cases e4; done) | skip
            rename_i i
            simp only at e4
            split at e4 <;> first | (cases e4; done) | skip
            rename_i hi
            cases e4
            refine ⟨a, C, dx, _, f, fd, ps, m, n, fi, i, rfl, hH, k1, k2, k3, k4, hi, ?_, fun H2 hs => ?_⟩
            · have := ask_sp (X := X) (T := T) (us := [D.ins c ns ws]) (vs := [.ref a]) hr hat k5 R1.sub (.cons vw .nil)
              obtain ⟨q1, q2⟩ := this
              refine ⟨q1, ?_⟩
              obtain ⟨F0, ι0, s0, σ0, us0, z1, z2, z3⟩ := q2
              refine ⟨F0, ι0, s0, σ0, us0, z1, z2, ?_⟩
              revert z3
              cases Cc fi us0 s0 with
              | ok o s' => exact fun z3 F' ι' H' v a b c => ⟨(z3 F' ι' H' v a b c).1, by cases (z3 F' ι' H' v a b c).2; rfl⟩
              | exc x s' => exact fun z3 F' ι' H' c d a b e => z3 F' ι' H' c d a b e
              | bad => exact fun z3 => z3
            · have more : More F1 H1 F1 H2 := ⟨.refl _, hs, R1.sub.trans hs, fun a o e => .inl e⟩
              exact A4 F1 i1 H2 _ (.more more) (R1.more more) (.int _)
          · simp only [hat] at A3
            exact A3.elim
      | _ => exact .inl (plain fun _ _ _ h => nomatch h)
theorem e_lenI (hd : DunF X Cc T "__len__" ms) (g : X.A.guards = some []) (hu : X.A.units + 100 < cLine) (hc : X.calm = true) (gl : Gl X "len") (hm : X.mg "len" = none) {e : Expr} {me : EM Out} {p pos : Pos} (ha : PA X [e] (tM X.K T W (ROs X.K) (args [me]))) (he : starEach [e] X.env = (false, eval e X.env) :: starEach [] X.env) :
    PE X (.Call (.Name "len" p) [e] [] pos) (tE X.K T W (lenI Cc ms me)) :=
  (pe_callB (CallR.or (k_bi hc g hu .len) (k_lenI g)) gl hm PySem.boot_len ha (by decide) (by decide) he (by rfl)).imp fun _ _ _ h => len_imp hd h
end
end Ev

set_option Elab.async false
set_option linter.all false
set_option autoImplicit false
set_option maxHeartbeats 2000000
/-! Ev, part Cg: list(x) of an instance with an own __iter__ and an own __len__. -/
namespace Ev
variable [ClsTab]
open PySem PySem.Spec PyProof.Rows L2
section
variable {X : Cx} {pins : List (Addr × Obj)} {σ : L2.St} {A1 : Around} {Rs : Result → Shared → Prop}
omit [ClsTab] in
/-- what is left of the iterator goes behind what the list has -/
theorem tuple_loop {S it t : Addr} {zs : List V} (hcalm : A1.in1.handled = none) (hne : S ≠ it) : ∀ (k i : Nat) (H : Hp) (s : Shared), i + k = zs.length → Inv X pins σ (upd H S (.lst (zs.take i))) s → s.heap.IsTupleIter it t i → SqT X.K (upd H S (.lst (zs.take i))) t zs → FpOk X pins (upd H S (.lst (zs.take i))) it →
    (∀ G : HO, FpOk X pins (upd H S G) it) → (∀ G : HO, SqT X.K (upd H S G) t zs) → (∀ s', Inv X pins σ (upd H S (.lst zs)) s' → Rs (.ok (.ret .none)) s') →
    codeAny (model X.prog X.w) A1 (.builtin "list.extend.loop" ⟨[.ref S, .ref it, .none], []⟩) Rs s
  | k, i, H, s, hk, I, hit, hs, hf, hfs, hss, hR => by
    refine codeAny_builtin PySem.F.entry_extend_loop ?_
    rw [Around.under_plainId PySem.F.plain_extend_loop _]
    show wpAny _ A1.in1 (pyNext (.ref it) >>= _) _ _ s
    obtain ⟨its, rv, pl, hz⟩ := I.tuple hs
    have hlen : its.length = zs.length := rv.length.symm
    cases k with
    | zero =>
      refine wpAny_bind (wpAny_pyNext_tuple_end hcalm hit (show s.heap.IsTuple t its.toArray from pl) (by simp; omega) fun h' eb => wpAny_pure (hR _ ?_))
      have e : zs.take i = zs := List.take_of_length_le (by omega)
      rw [e] at I hf
      obtain ⟨f0, f1, f2, f3, f4, f5⟩ := hf
      exact I.turned (t' := s.toks) (fun b o hb q => eb b o hb q) f0 f1 f3 f4 f5
    | succ k =>
      have hi : i < zs.length := by omega
      obtain ⟨u, hu, ru⟩ := rv.get (show zs[i]? = some zs[i] by simp [hi])
      refine wpAny_bind (wpAny_pyNext_tuple_item hit (show s.heap.IsTuple t its.toArray from pl) (x := u) (by simpa using hu) fun h' hit' sb => ?_)
      show wpAny _ A1.in1 (updateSeq S (·.push u) >>= _) _ _ _
      obtain ⟨f0, f1, f2, f3, f4, f5⟩ := hf
      have I2 := I.turned (t' := s.toks) (fun b o hb q => (sb.2 b hb).trans q) f0 f1 f3 f4 f5
      obtain ⟨z, its2, kk, r2, hl, e⟩ := I2.lstM upd_same
      have l2 : its2.length = i := by rw [← r2.length, List.length_take]; omega
      have hzl : zs.length ≤ sizeLine := hz
      refine wpAny_bind (wpAny_updateSeq e rfl (wpAny_pure ⟨plainId_quiet PySem.F.plain_extend_loop _, ?_⟩) (by rw [List.size_toArray]; omega) (by show (its2.toArray.push u).size ≤ sizeLine + 1; rw [Array.size_push, List.size_toArray]; omega))
      have et : zs.take i ++ [zs[i]] = zs.take (i + 1) := by rw [List.take_succ_eq_append_getElem hi]
      have I3 := I2.lset (f := (·.push u)) (its' := its2 ++ [u]) (ys := zs.take (i + 1)) (t' := s.toks) upd_same e (by simp) (by rw [← et]; exact r2.append (.cons ru .nil)) (by rw [List.length_take]; omega)
      rw [upd_upd] at I3
      refine tuple_loop hcalm hne k (i + 1) H _ (by omega) I3 ?_ (hss _) (hfs _) hfs hss hR
      exact hit'.at fun o q => (Heap.get?_update_other _ _ hne).trans q
end
/-- an instance whose __iter__ gives the iterator of a tuple, and whose __len__ tells a number -/
structure ListF (X : Cx) (T : CT) (Cc : Call) (a : Addr) (H : Hp) (zs : List V) : Prop where
  ex : ∃ (C dx t f g : Addr) (fs : List (Str × V)) (fd gd : FuncData) (ps qs : List Str) (k m n fi : Nat) (fl : Str) (i : Int), H a = some (.ins C dx fs) ∧ fs.lookup fl = some (.ref t) ∧ SqT X.K H t zs ∧ Meth X.K C "__iter__" f ∧
    FnI X.prog X.w X.K X.mg X.base k f fd ps (spIter X.K fl C) ∧ Room (k + 2) X.A ∧ Binds X.K fd ps [] ∧ Meth X.K C "__len__" g ∧ FnG X.prog X.w X.K X.mg X.base m g gd qs (spF X.K T Cc fi n) ∧ Room (m + 3) X.A ∧ Binds X.K gd qs [] ∧
    (0 ≤ i ∧ i < 1000000) ∧ ∀ H2 : Hp, Same H H2 → spF X.K T Cc fi n [.ref a] H2 (fun v H3 => Same H2 H3 ∧ v = .int i) fun _ _ _ => False
section
variable {X : Cx} {T : CT} {Cc : Call}
def rListI (X : Cx) (T : CT) (Cc : Call) : List V → Hp → VK → Prop := fun xs H Q => ∃ (a : Addr) (zs : List V), xs = [.ref a] ∧ ListF X T Cc a H zs ∧ ∀ q H2, H q = none → Same H H2 → H2 q = none → Q (.ref q) (upd H2 q (.lst zs))
theorem k_listI (hc : X.calm = true) (g : X.A.guards = some []) : CallR X (.type "list") (rListI X T Cc) := by
  intro pins s σ H xs us Q I rv h
  obtain ⟨a, zs, rfl, LF, hq⟩ := h
  obtain ⟨C, dx, t, f, gg, fs, fd, gd, ps, qs, k, m, n, fi, fl, i, hH, hfl, hs, k1, k2, k3, k4, k5, k6, k7, k8, hi, q1⟩ := LF.ex
  obtain ⟨u, rfl, ru⟩ := vals1 rv
  cases ru
  refine callType_codes (Q₁ := fun obj s₁ => obj = .ref s.heap.objs.size ∧ s₁ = { s with heap := s.heap.push { cls := .type "list", data := .seq #[] } }) PySem.F.called_list (PySem.F.typeCall_list_1 _) PySem.F.entry_list_init
    (code_list_new _ ⟨rfl, rfl⟩) fun obj s₁ h₁ => ?_
  obtain ⟨rfl, rfl⟩ := h₁
  have eS : (s.heap.push { cls := .type "list", data := .seq #[] }).get? s.heap.objs.size = some { cls := .type "list", data := .seq #[] } := Heap.get?_push_size _ rfl
  refine ⟨⟨_, eS, rfl⟩, PySem.F.args_list_init_2 _ _, ?_⟩
  have fr : H s.heap.objs.size = none := I.hok.fresh (Nat.le_refl _)
  have J1 : Inv X pins σ (upd H s.heap.objs.size (.lst [])) { s with heap := s.heap.push { cls := .type "list", data := .seq #[] } } := I.lnew (its := []) (t' := s.toks) .nil (Nat.zero_le _)
  show wpAny _ _ (do let old ← Builtin.List.listItems (.ref s.heap.objs.size); Builtin.List.listUpdate (.ref s.heap.objs.size) (fun _ => #[]); letGo old.toList.reverse; Builtin.List.listExtendWith (.ref s.heap.objs.size) (.ref a) .none) _ _ _
  refine wpAny_bind ?_
  unfold Builtin.List.listItems
  refine wpAny_bind (wpAny_seqItems eS rfl (wpAny_pure ?_))
  show wpAny _ _ (updateSeq s.heap.objs.size (fun _ => #[]) >>= fun _ => letGo (#[] : Array Value).toList.reverse >>= fun _ => Builtin.List.listExtendWith (.ref s.heap.objs.size) (.ref a) .none) _ _ _
  refine wpAny_bind (wpAny_updateSeq eS rfl ?_)
  have J2 := J1.lset (f := fun _ => #[]) (its := []) (its' := []) (ys := []) (t' := s.toks) upd_same eS rfl .nil (Nat.zero_le _)
  rw [upd_upd] at J2
  refine wpAny_bind (wpAny_letGo ?_)
  have hne : s.heap.objs.size ≠ a := ne_of_none hH fr |>.symm
  have hH2 : upd H s.heap.objs.size (.lst []) a = some (.ins C dx fs) := by rw [upd_ne (Ne.symm hne)]; exact hH
  have sameS : ∀ G : HO, Same H (upd H s.heap.objs.size G) := fun G b o e => by rw [upd_ne (ne_of_none e fr)]; exact e
  obtain ⟨m0, Fr0⟩ := J2.fr
  obtain ⟨od, IA⟩ := inst_at J2 hH2
  unfold Builtin.List.listExtendWith
  refine wpAny_bind (IA.type.here ?_)
  have h1 : Builtin.List.listSameRef (.ref s.heap.objs.size) (.ref a) = false := by simp [Builtin.List.listSameRef, hne]
  have h2 : (Value.ref C == Value.type "list") = false := rfl
  have h3 : (Value.ref C == Value.type "tuple") = false := rfl
  simp only [h1, h2, h3, Bool.or_false, Bool.false_eq_true, if_false]
  have r1 : Room (k + 0) X.A.in1.in1 := (Room.in1 (Room.in1 (k := k + 1) k3))
  refine wpAny_bind (iter_inst (A1 := X.A.in1.in1) J2 k1 k2 r1 k4 g J2.env0.in1.in1 hH2 hfl (Same.seqT (sameS _) hs) fun it s2 n1 n2 hit _ J3 _ => ?_)
  have nSi : s.heap.objs.size ≠ it := fun z => by
    rw [← z, upd_same] at n1
    cases n1
  have hit0 : H it = none := by rw [upd_ne (Ne.symm nSi)] at n1; exact n1
  have nai : a ≠ it := ne_of_none hH hit0
  have hH3 : upd (upd H s.heap.objs.size (.lst [])) it (ItT t it 0) a = some (.ins C dx fs) := by rw [upd_ne nai]; exact hH2
  have same3 : Same H (upd (upd H s.heap.objs.size (.lst [])) it (ItT t it 0)) := fun b o e => by
    rw [upd_ne (ne_of_none e hit0)]
    exact sameS _ b o e
  obtain ⟨m1, Fr1⟩ := J3.fr
  obtain ⟨od1, IB⟩ := inst_at J3 hH3
  refine wpAny_bind (wpAny_holding ?_)
  unfold Builtin.List.listLengthHint
  refine wpAny_bind (wpAny_bind (IB.type.here ((PySem.W.looks_findIn J3.kIn k5.at_).here ?_)))
  refine PySem.W.KFB.if_not rfl ?_
  rw [if_pos (show (some (Value.ref gg)).isSome = true from rfl)]
  refine wpAny_bind (wpAny_rule ?_)
  have r2 : Room (m + 0) X.A.in1.in1.in1 := Room.in1 (Room.in1 (k := m + 1) (Room.in1 (k := m + 2) k7))
  refine wpAny_bind (wpAny_attempt (PySem.W.len_K Fr1 J3.ok.mod.kin IB k5.at_ k5.fn (wpAny_mono (FnG.runB (vs := [V.ref a]) (us := [Value.ref a]) k6 r2 g J3.env0.in1.in1.in1 k8 J3 (.cons rfl .nil) (q1 _ same3)) (fun r s3 hr => ?_) fun _ _ z => z)))
  obtain ⟨v, H4, J4, rv, hs4, rfl⟩ := hr
  obtain ⟨tk, rfl⟩ := rv
  refine ⟨⟨hi.1, by omega⟩, ?_⟩
  have J4 := J4.tok (s3.toks + 1)
  have e4 : H4 it = some (ItT t it 0) := hs4 it _ upd_same
  have hit4 : s3.heap.IsTupleIter it t 0 := (J4.hok it _ e4).1
  have J5 := ItX.inv_drop (φ := fun h => h.IsTupleIter it t 0) J4 e4
  have fp5 := ItX.inv_fp J4 e4 n2
  have eS5 : ItX.dropH H4 it s.heap.objs.size = some (.lst []) := by
    rw [ItX.dropH_ne nSi]
    exact hs4 _ _ (by rw [upd_ne nSi, upd_same])
  have back : ∀ G : HO, upd (ItX.dropH H4 it) s.heap.objs.size G = upd (fun b => if b = s.heap.objs.size then none else ItX.dropH H4 it b) s.heap.objs.size G := fun G => by
    funext b
    by_cases hb : b = s.heap.objs.size
    · rw [hb, upd_same, upd_same]
    · rw [upd_ne hb, upd_ne hb, if_neg hb]
  have id5 : upd (ItX.dropH H4 it) s.heap.objs.size (.lst []) = ItX.dropH H4 it := by
    funext b
    by_cases hb : b = s.heap.objs.size
    · rw [hb, upd_same, eS5]
    · rw [upd_ne hb]
  have same5 : Same H (fun b => if b = s.heap.objs.size then none else ItX.dropH H4 it b) := fun b o e => by
    show (if b = s.heap.objs.size then none else ItX.dropH H4 it b) = some o
    rw [if_neg (ne_of_none e fr), ItX.dropH_ne (ne_of_none e hit0)]
    exact hs4 _ _ (same3 b o e)
  have sameG : ∀ G : HO, Same H (upd (ItX.dropH H4 it) s.heap.objs.size G) := fun G b o e => by
    rw [upd_ne (ne_of_none e fr), ItX.dropH_ne (ne_of_none e hit0)]
    exact hs4 _ _ (same3 b o e)
  have fpG : ∀ G : HO, FpOk X pins (upd (ItX.dropH H4 it) s.heap.objs.size G) it := fun G => by
    obtain ⟨f0, f⟩ := fp5
    exact ⟨by rw [upd_ne (Ne.symm nSi)]; exact f0, f⟩
  refine wpAny_bind (wpAny_of_eq (a := some i) (by first | rfl | kernel_rfl) ?_)
  dsimp only
  have small : Builtin.List.listTooLong i.toNat = false := by
    unfold Builtin.List.listTooLong
    have := sizeLine_eq
    simp only [decide_eq_false_iff_not]
    omega
  rw [if_neg (by rw [small]; decide)]
  refine wpAny_pure ?_
  have fin : ∀ s4 : Shared, Inv X pins σ (ItX.dropH H4 it) s4 → s4.heap.IsTupleIter it t 0 → codeAny (model X.prog X.w) X.A.in1 (.builtin "list.extend.loop" ⟨[.ref s.heap.objs.size, .ref it, .none], []⟩) (wants (fun r s₂ => r = .none ∧ EP X pins σ Q (.ref s.heap.objs.size) s₂) X.xe) s4 := fun s4 J6 hit6 =>
    tuple_loop (t := t) (zs := zs) (by exact J6.ok.hd hc) nSi zs.length 0 (ItX.dropH H4 it) s4 (by omega) (by rw [List.take_zero, id5]; exact J6) hit6 (Same.seqT (sameG _) hs) (fpG _) fpG (fun G => Same.seqT (sameG G) hs) fun s5 J7 => ⟨rfl, .ref s.heap.objs.size, _, J7, rfl, by rw [back]; exact hq _ _ fr same5 (if_pos rfl)⟩
  refine wpAny_ite_split (fun _ => ?_) (fun _ => wpAny_pure ⟨plainId_quiet PySem.F.plain_extend_loop _, fin _ J5 hit4⟩)
  obtain ⟨z5, its5, k9, r5, hl5, e5⟩ := J5.lstM eS5
  cases r5
  refine wpAny_bind (wpAny_rule ?_)
  refine wpAny_bind ?_
  show wpAny _ _ (updateSeq s.heap.objs.size (·.push .none) >>= fun _ => updateSeq s.heap.objs.size (·.pop)) _ _ _
  refine wpAny_bind (wpAny_updateSeq e5 rfl ?_)
  have K2 := J5.lset (f := (·.push Value.none)) (its' := [Value.none]) (ys := [.non]) (t' := s3.toks + 1) eS5 e5 (by simp) (.cons rfl .nil) (by rw [List.length_singleton, sizeLine_eq]; decide)
  obtain ⟨z6, its6, k6', r6, hl6, e6⟩ := K2.lstM upd_same
  obtain ⟨u6, rfl, ru6⟩ := r6.one
  refine wpAny_updateSeq e6 rfl ?_ (by show 1 ≤ sizeLine; rw [sizeLine_eq]; decide) (by show 0 ≤ sizeLine + 1; exact Nat.zero_le _)
  have K3 := K2.lset (f := (·.pop)) (its := [u6]) (its' := []) (ys := []) (t' := s3.toks + 1) upd_same e6 (by rfl) .nil (Nat.zero_le _)
  rw [upd_upd, id5] at K3
  refine wpAny_pure ⟨plainId_quiet PySem.F.plain_extend_loop _, fin _ K3 (hit4.at fun o q => ?_)⟩
  exact (Heap.get?_update_other _ _ nSi).trans ((Heap.get?_update_other _ _ nSi).trans q)
end
end Ev

set_option Elab.async false
set_option linter.all false
set_option autoImplicit false
set_option maxHeartbeats 2000000
/-! Ev, part Ch: list(x); tests a op b op c; a module's constants. -/
namespace Ev
variable [ClsTab]
open PySem PySem.Spec PyProof.Rows L2
def numD : D → Option Int
  | .int n => if 0 ≤ n ∧ n < 1000000 then some n else none
  | _ => none
def listI (C : Call) (ms : List (Nat × Nat)) (its : List (Nat × Str)) (e : EM Out) : EM Out := e.bind fun x => (get x).bind fun u => match u with
  | .ins c _ _ => (opt (walkI its u)).bind fun xs => (opt (ms.lookup c)).bind fun f => (ask C f [u]).bind fun r => (opt (numD r)).bind fun _ => .pure (.new (.lst xs))
  | u => opt (Bi.list.go [u])
def chnB (op1 op2 : COp) (a b c : EM Out) : EM Bool := a.bind fun x => b.bind fun y => (get x).bind fun u => (get y).bind fun v =>
  (opt (op1.go u v)).bind fun r => if r = true then c.bind fun z => (get y).bind fun v => (get z).bind fun w => opt (op2.go v w) else .pure false
section
variable {X : Cx} {T : CT} {W : WX} {Cc : Call} {ms : List (Nat × Nat)} {its : List (Nat × Str)} {nm : Str}
/-- the defs by which the machine itself asks, with more room -/
def DunL (X : Cx) (Cc : Call) (T : CT) (nm : Str) (ms : List (Nat × Nat)) : Prop := ∀ c fi, ms.lookup c = some fi → ∀ C, ClsTab.at_ c = some C → ∃ (f : Addr) (fd : FuncData) (ps : List Str) (m n : Nat), Meth X.K C nm f ∧
  FnG X.prog X.w X.K X.mg X.base m f fd ps (spF X.K T Cc fi n) ∧ Room (m + 3) X.A ∧ Binds X.K fd ps [] ∧ ∀ us s, us.length ≠ n → Cc fi us s = .bad
def IterL (X : Cx) (its : List (Nat × Str)) : Prop := ∀ c fl, its.lookup c = some fl → ∀ C, ClsTab.at_ c = some C → ∃ (f : Addr) (fd : FuncData) (ps : List Str) (m : Nat), Meth X.K C "__iter__" f ∧
  FnI X.prog X.w X.K X.mg X.base m f fd ps (spIter X.K fl C) ∧ Room (m + 2) X.A ∧ Binds X.K fd ps []
theorem DunL.f (h : DunL X Cc T nm ms) : DunF X Cc T nm ms := fun c fi h1 C h2 => by
  obtain ⟨f, fd, ps, m, n, k1, k2, k3, k4, k5⟩ := h c fi h1 C h2
  exact ⟨f, fd, ps, m, n, k1, k2, k3.mono (by omega), k4, k5⟩
theorem IterL.f (h : IterL X its) : IterF X its := fun c fl h1 C h2 => by
  obtain ⟨f, fd, ps, m, k1, k2, k3, k4⟩ := h c fl h1 C h2
  exact ⟨f, fd, ps, m, k1, k2, k3.mono (by omega), k4⟩
theorem View.hmono {K : PySem.W.Frag} {F H H2 : Hp} {d : Ev.D} {v : V} (e : Same H H2) (h : View K F H d v) : View K F H2 d v := by
  rcases h with h | ⟨a, o, e1, e2, r⟩
  · exact .inl h
  · exact .inr ⟨a, o, e1, e _ _ e2, r⟩
theorem Aft.ask {K : PySem.W.Frag} {F0 H0 : Hp} {i0 : List Addr} {s0 s : S} {σ : L2.St} {β δ : Type} {R2 : RT β δ} {us : List Ev.D} {fi : Nat} {f : Ev.D → EM β} {Q : δ → Hp → Prop} (h : Aft K T W R2 F0 i0 s0 σ H0 ((Ev.ask Cc fi us).bind f s) Q) :
    ∃ x s3, Cc fi (us.map .d) ⟨[], []⟩ = .ok (.d x) s3 ∧ x.atom = true ∧ Aft K T W R2 F0 i0 s0 σ H0 (f x s) Q := by
  unfold EM.bind Ev.ask at h
  cases hr : Cc fi (us.map .d) ⟨[], []⟩ with
  | bad => simp only [hr] at h; exact h.elim
  | exc x s3 => simp only [hr] at h; exact h.elim
  | ok o s3 =>
    simp only [hr] at h
    cases o <;> first | exact h.elim | skip
    rename_i x
    simp only at h
    by_cases hat : x.atom = true
    · simp only [hat, if_true] at h
      exact ⟨x, s3, rfl, hat, h⟩
    · simp only [hat] at h
      exact h.elim
theorem list_imp (hd : DunL X Cc T "__len__" ms) (hi : IterL X its) {me : EM Out} {σ : L2.St} {H : Hp} {Q : VK} (h : tE X.K T W (listI Cc ms its me) σ H Q) : tCB (fun xs H Q => rBi X.K Bi.list.go xs H Q ∨ rListI X T Cc xs H Q) (tM X.K T W (ROs X.K) (args [me])) σ H Q := by
  obtain ⟨F, ι, s, R, A⟩ := h
  have e1 : Aft X.K T W (ROut X.K) F ι s σ H ((args [me]).bind (fun xs => match xs with
      | [x] => (get x).bind fun u => match u with
        | .ins c _ _ => (opt (walkI its u)).bind fun xs => (opt (ms.lookup c)).bind fun f => (ask Cc f [u]).bind fun r => (opt (numD r)).bind fun _ => .pure (.new (.lst xs))
        | u => opt (Bi.list.go [u])
      | _ => fun _ => .bad) s) Q := by
    unfold listI EM.bind at A
    unfold args EM.bind
    cases hm : me s with
    | ok o s1 => simp only [hm, args, EM.pure, EM.bind] at A ⊢; exact A
    | exc x s1 => simp only [hm] at A ⊢; exact A
    | bad => simp only [hm] at A; exact A.elim
  refine ⟨F, ι, s, R, e1.bind fun os s1 F1 i1 H1 vs eq1 st1 R1 rs A1 => ?_⟩
  clear eq1 st1
  cases rs with
  | nil => exact A1.elim
  | cons r1 rs =>
    cases rs with
    | cons _ _ => exact A1.elim
    | nil =>
      rename_i o v
      obtain ⟨d, e2, A2⟩ := Aft.get A1
      have vw := r1.view R1 e2
      have plain : (∀ c ns ws, d ≠ .ins c ns ws) → rBi X.K Bi.list.go [v] H1 Q := fun hne => by
        have A3 : Aft X.K T W (ROut X.K) F1 i1 s1 σ H1 (Ev.opt (Bi.list.go [d]) s1) Q := by
          cases d <;> first | exact A2 | exact absurd rfl (hne _ _ _)
        obtain ⟨o2, e3, A4⟩ := A3.opt
        exact ⟨F1, [d], o2, R1.sub, .cons vw .nil, e3, Gives.of R1 A4 (Bi.plain e3)⟩
      cases d with
      | ins c ns ws =>
        right
        obtain ⟨xs, e0, A2⟩ := Aft.pass A2
        obtain ⟨fi, e3, A3⟩ := Aft.pass A2
        obtain ⟨fl, e5, e6⟩ := Option.bind_eq_some_iff.mp (show (its.lookup c).bind _ = some xs from e0)
        obtain ⟨z, e7, e8⟩ := Option.bind_eq_some_iff.mp e6
        cases z <;> first | (cases e8; done) | skip
        rename_i ys
        cases e8
        obtain ⟨a, C, dx, us, rfl, hC, hH, hl, rws⟩ := vw.ins R1.sub
        obtain ⟨u, h1, h2⟩ := rws.lookup e7
        obtain ⟨g, gd, qs, m, n, j1, j2, j3, j4, j5⟩ := hd c fi e3 C hC
        obtain ⟨f, fd, ps, k, k1, k2, k3, k4⟩ := hi c fl e5 C hC
        cases h2 with
        | @tup t' vs' _ hq hr =>
          obtain ⟨x, s3, hr2, hat, A4⟩ := Aft.ask A3
          obtain ⟨i, e9, A5⟩ := Aft.pass A4
          unfold numD at e9
          split at e9 <;> first | (cases e9; done) | skip
          split at e9 <;> first | (cases e9; done) | skip
          rename_i hi0
          cases e9
          refine ⟨a, _, rfl, ⟨C, dx, _, f, g, _, fd, gd, ps, qs, k, m, n, fi, fl, i, hH, h1, Same.seqT R1.sub hq, k1, k2, k3, k4, j1, j2, j3, j4, hi0, fun H2 hs => ?_⟩, fun q H2 hqn hs hq2 => ?_⟩
          · obtain ⟨q1, F0, ι0, s0, σ0, us0, z1, z2, z3⟩ := ask_sp (X := X) (T := T) (us := [D.ins c ns ws]) (vs := [.ref a]) hr2 hat j5 (R1.sub.trans hs) (.cons (vw.hmono hs) .nil)
            refine ⟨q1, F0, ι0, s0, σ0, us0, z1, z2, ?_⟩
            revert z3
            cases Cc fi us0 s0 with
            | ok o s' => exact fun z3 F' ι' H' v a b c => ⟨(z3 F' ι' H' v a b c).1, by cases (z3 F' ι' H' v a b c).2; rfl⟩
            | exc x s' => exact fun z3 F' ι' H' c d a b e => z3 F' ι' H' c d a b e
            | bad => exact fun z3 => z3
          · have sH : Same H1 (upd H2 q (.lst vs')) := fun b o e => by
              rw [upd_ne (ne_of_none e hqn)]
              exact hs b o e
            have more : More F1 H1 F1 (upd H2 q (.lst vs')) := ⟨.refl _, sH, R1.sub.trans sH, fun a o e => .inl e⟩
            have fq : F1 q = none := by
              cases z : F1 q with
              | none => rfl
              | some o => rw [R1.sub q o z] at hqn; cases hqn
            refine A5 F1 i1 _ (.ref q) (.more more) (R1.more more) ⟨q, _, rfl, upd_same, ⟨_, rfl, hr⟩, fq, fun z => ?_, .inr hqn⟩
            obtain ⟨o, y⟩ := Owned.there R1 z
            rw [hqn] at y
            cases y
      | _ => exact .inl (plain fun _ _ _ h => nomatch h)
theorem e_listI (hd : DunL X Cc T "__len__" ms) (hi : IterL X its) (g : X.A.guards = some []) (hu : X.A.units + 100 < cLine) (hc : X.calm = true) (gl : Gl X "list") (hm : X.mg "list" = none) {e : Expr} {me : EM Out} {p pos : Pos} (ha : PA X [e] (tM X.K T W (ROs X.K) (args [me]))) (he : starEach [e] X.env = (false, eval e X.env) :: starEach [] X.env) :
    PE X (.Call (.Name "list" p) [e] [] pos) (tE X.K T W (listI Cc ms its me)) := by
  have b := Bi.list.boot
  exact (pe_callTy (CallR.or (k_bi hc g hu .list) (k_listI hc g)) gl hm b ha Bi.list.nm.1 Bi.list.nm.2 he (by rfl)).imp fun _ _ _ h => list_imp hd hi h
/-- a op b op c as a test -/
theorem b_chn (hu : X.A.units + 100 < cLine) {op op' : COp} {a b c : Expr} {pos : Pos} {ma mb mc : EM Out} (hm : behindInMarks (cOf op') c = false) (ha : PE X a (tE X.K T W ma)) (hb : PE X b (tE X.K T W mb)) (hc : PE X c (tE X.K T W mc)) :
    PT X (.Compare a [cOf op, cOf op'] [b, c] pos) (tB X.K T W (chnB op op' ma mb mc)) :=
  (pt_chain (c_all hu op) (c_all hu op') ha hb hc hm).imp fun σ H Q ⟨F, ι, s, R, A⟩ => by
    refine ⟨F, ι, s, R, A.bind fun o s1 F1 i1 H1 v _ _ R1 r1 A1 => ⟨F1, i1, s1, R1, A1.bind fun p s2 F2 i2 H2 w _ t2 R2 r2 A2 => ?_⟩⟩
    obtain ⟨d, e1, A3⟩ := A2.get
    obtain ⟨e, e2, A4⟩ := A3.get
    obtain ⟨q, e3, A5⟩ := A4.pass
    refine ⟨F2, d, e, q, R2.sub, (r1.step t2).view R2 e1, r2.view R2 e2, e3, q, rfl, ?_⟩
    cases q with
    | false => exact ⟨false, rfl, A5 F2 i2 H2 false (.refl ..) R2 rfl⟩
    | true =>
      rw [if_pos rfl] at A5 ⊢
      refine ⟨F2, i2, s2, R2, A5.bind fun z s3 F3 i3 H3 w3 _ t3 R3 r3 A6 => ?_⟩
      obtain ⟨d3, e4, A7⟩ := A6.get
      obtain ⟨e3', e5, A8⟩ := A7.get
      obtain ⟨q3, e6, A9⟩ := A8.opt
      exact ⟨F3, d3, e3', q3, R3.sub, (r2.step t3).view R3 e4, r3.view R3 e5, e6, q3, rfl, A9 F3 i3 H3 q3 (.refl ..) R3 rfl⟩
/-- a module's constant -/
theorem e_con {x : Str} {p : Pos} {u : Value} {v : V} {d : Ev.D} (hg : Gl X x) (hm : X.mg x = some u) (rv : L2.RelV v u) (hd : (x == ("__debug__" : Str)) = false) (r : ∀ F, RD X.K F d v) : PE X (.Name x p) (tE X.K T W (lit d)) :=
  (pe_glob (v := v) hg hm rv hd).imp fun σ H Q ⟨F, ι, s, R, A⟩ => A F ι H v (.refl ..) R (r F)
end
end Ev

set_option Elab.async false
set_option linter.all false
set_option autoImplicit false
set_option maxHeartbeats 2000000
/-! Ev, part Ci: the tree of a method's call; receivers. -/
namespace Ev
open PySem PySem.Spec PyProof.Rows L2
theorem mtree {o : Expr} {m : Str} {apos pos : Pos} {es : List Expr} {env : Env} (hb : attributeBase o m env (eval o env) = eval o env)
    (hfew : ((backTo pos (starEach es env)).all (fun x => !x.1) && (backToKw pos (keywordEach [] env)).all (fun x => x.1.isSome) && decide (es.length + ([] : List Keyword).length + (if ([] : List Keyword).isEmpty then 0 else 1) < 30)) = true) (hl : (apos.endLine == pos.line) = true) :
    eval (.Call (.Attribute o m apos) es [] pos) env = (do
      let ov ← eval o env
      standAt apos.atName
      let (f, first) ← holding [ov] (getMethod ov m (do return (← importBound o env).getD true))
      callWith pos f first (backTo pos (starEach es env)) (backToKw pos (keywordEach [] env))) := by
  refine mcall_of (t := fun ov => (do
      let (f, first) ← holding [ov] (getMethod ov m (do return (← importBound o env).getD true))
      callWith pos f first (backTo pos (starEach es env)) (backToKw pos (keywordEach [] env)))) hb fun ov => ?_
  have e : methodCallForm (es.length + ([] : List Keyword).length) (backTo pos (starEach es env)) (backToKw pos (keywordEach [] env)) = true := by
    unfold methodCallForm
    exact hfew
  unfold methodCall calleeOf methodCallPos
  rw [e]
  simp only [Bool.not_true, Bool.false_or, hl, if_true]
  rfl
/-- what a method is asked of: no super() -/
def isRecv : Expr → Bool
  | .Name .. | .Subscript .. => true
  | .Call (.Name x _) _ _ _ => x != "super"
  | .Attribute .. => true
  | .ListComp .. => false
  | _ => false
theorem base_recv {o : Expr} {x : Str} {env : Env} (h : isRecv o = true) : attributeBase o x env (eval o env) = eval o env := by
  unfold isRecv at h
  split at h
  · rfl
  · rfl
  · rename_i y p es ks q
    cases es with
    | nil =>
      cases ks with
      | nil => exact abase_call h
      | cons k ks => rfl
    | cons e es => rfl
  · rfl
  · cases h
  · cases h
end Ev

set_option Elab.async false
set_option linter.all false
set_option autoImplicit false
set_option maxHeartbeats 1000000
/-! Ev, part V: comprehensions. -/
namespace Ev
variable [ClsTab]
open PySem PySem.Spec PyProof.Rows L2
def Tg.slots : Tg → List Nat
  | .one i => [i]
  | .many is => is
abbrev wp (s : S) (vs : List Nat) : S := { s with env := wipeE s.env vs }
omit [ClsTab] in
theorem wipeE_get {e : Slots} {i : Nat} : ∀ {vs : List Nat}, i ∉ vs → (wipeE e vs)[i]? = e[i]?
  | [], _ => rfl
  | v :: vs, h => by
    simp only [List.mem_cons, not_or] at h
    rw [wipeE, set_get, if_neg fun z => h.1 z.symm]
    exact wipeE_get h.2
omit [ClsTab] in
theorem wipeE_some {e : Slots} {i : Nat} {x : Slot} : ∀ {vs : List Nat}, (wipeE e vs)[i]? = some (some x) → e[i]? = some (some x) ∧ i ∉ vs
  | [], h => ⟨h, by simp⟩
  | v :: vs, h => by
    rw [wipeE, set_get] at h
    split at h
    · split at h <;> cases h
    · rename_i hv
      obtain ⟨h1, h2⟩ := wipeE_some h
      exact ⟨h1, by simp only [List.mem_cons, not_or]; exact ⟨fun z => hv z.symm, h2⟩⟩
omit [ClsTab] in
theorem wipeE_len (e : Slots) : ∀ vs : List Nat, (wipeE e vs).length = e.length
  | [] => rfl
  | v :: vs => by rw [wipeE, List.length_set, wipeE_len e vs]
omit [ClsTab] in
theorem wipe_get {σ : L2.St} {i : Nat} : ∀ {vs : List Nat}, i ∉ vs → (wipe σ vs)[i]? = σ[i]?
  | [], _ => rfl
  | v :: vs, h => by
    simp only [List.mem_cons, not_or] at h
    rw [wipe, set_get, if_neg fun z => h.1 z.symm]
    exact wipe_get h.2
omit [ClsTab] in
theorem wipe_none {σ : L2.St} {i : Nat} (hi : i < σ.length) : ∀ {vs : List Nat}, i ∈ vs → (wipe σ vs)[i]? = some none
  | [], h => by cases h
  | v :: vs, h => by
    rw [wipe, set_get]
    by_cases hv : v = i
    · rw [if_pos hv, if_pos (by rw [wipe_length]; omega)]
    · rw [if_neg hv]
      rcases List.mem_cons.mp h with z | z
      · exact absurd z.symm hv
      · exact wipe_none hi z
omit [ClsTab] in
theorem wipe_ext {σ τ : L2.St} {vs : List Nat} (hl : σ.length = τ.length) (h : ∀ i, i ∉ vs → σ[i]? = τ[i]?) : wipe σ vs = wipe τ vs := by
  apply List.ext_getElem?
  intro i
  by_cases hi : i ∈ vs
  · by_cases hn : i < σ.length
    · rw [wipe_none hn hi, wipe_none (by omega) hi]
    · rw [List.getElem?_eq_none (by rw [wipe_length]; omega), List.getElem?_eq_none (by rw [wipe_length]; omega)]
  · rw [wipe_get hi, wipe_get hi, h i hi]
omit [ClsTab] in
theorem unwipe_get {e e' : Slots} {i : Nat} : ∀ {vs : List Nat}, i ∉ vs → (unwipe e e' vs)[i]? = e'[i]?
  | [], _ => rfl
  | v :: vs, h => by
    simp only [List.mem_cons, not_or] at h
    rw [unwipe, set_get, if_neg fun z => h.1 z.symm]
    exact unwipe_get h.2
omit [ClsTab] in
theorem unwipe_len (e e' : Slots) : ∀ vs : List Nat, (unwipe e e' vs).length = e'.length
  | [] => rfl
  | v :: vs => by rw [unwipe, List.length_set, unwipe_len e e' vs]
omit [ClsTab] in
theorem unwipe_in {e e' : Slots} {i : Nat} (hl : e.length = e'.length) (hi : i < e.length) : ∀ {vs : List Nat}, i ∈ vs → (unwipe e e' vs)[i]? = e[i]?
  | [], h => by cases h
  | v :: vs, h => by
    rw [unwipe, set_get]
    by_cases hv : v = i
    · subst hv
      rw [if_pos rfl, if_pos (by rw [unwipe_len]; omega)]
      rw [List.getElem?_eq_getElem hi]
      rfl
    · rw [if_neg hv]
      rcases List.mem_cons.mp h with z | z
      · exact absurd z.symm hv
      · exact unwipe_in hl hi z
omit [ClsTab] in
theorem setAll_get : ∀ {is : List Nat} {xs : List Ev.D} {e e' : Slots}, setAll is xs e = some e' → e'.length = e.length ∧ ∀ i, i ∉ is → e'[i]? = e[i]?
  | [], [], _, _, h => by cases h; exact ⟨rfl, fun _ _ => rfl⟩
  | j :: is, x :: xs, e, e', h => by
    obtain ⟨h1, h2⟩ := setAll_get (is := is) (xs := xs) (by simpa [setAll] using h)
    refine ⟨by rw [h1, List.length_set], fun i hi => ?_⟩
    simp only [List.mem_cons, not_or] at hi
    rw [h2 i hi.2, set_get, if_neg fun z => hi.1 z.symm]
  | [], _ :: _, _, _, h => by cases h
  | _ :: _, [], _, _, h => by cases h
omit [ClsTab] in
theorem put_get {tg : Tg} {x : Ev.D} {e e' : Slots} (h : tg.put x e = some e') : e'.length = e.length ∧ ∀ i, i ∉ tg.slots → e'[i]? = e[i]? := by
  cases tg with
  | one j =>
    cases h
    refine ⟨by rw [List.length_set], fun i hi => ?_⟩
    rw [set_get, if_neg fun z => hi (by simp [Tg.slots, z])]
  | many is =>
    cases x <;> first | (cases h; done) | exact setAll_get h
section
variable {K : PySem.W.Frag} {T : CT} {W : WX} {F H F0 H0 : Hp} {ι i0 : List Addr} {s s0 : S} {σ g0 : L2.St} {vs : List Nat}
theorem all_put2 : ∀ {is : List Nat} {xs : List Ev.D} {vs : List V} {s : S} {σ : L2.St} {e : Slots} {Q : L2.St → Hp → Prop}, Rel K F ι s σ H → Step F0 i0 s0 g0 H0 F ι s σ H → RDs K F xs vs → setAll is xs s.env = some e →
    (∀ σ', σ'.length = σ.length → (∀ i, i ∉ is → σ'[i]? = σ[i]?) → Rel K F ι { s with env := e } σ' H → Step F0 i0 s0 g0 H0 F ι { s with env := e } σ' H → Q σ' H) → gAll is vs σ H Q
  | [], [], _, s, σ, e, Q, R, t, .nil, h, q => by
    cases h
    exact ⟨rfl, q σ rfl (fun _ _ => rfl) R t⟩
  | i :: is, x :: xs, _, s, σ, e, Q, R, t, .cons r rs, h, q => by
    obtain ⟨R1, t1⟩ := set_slot (i := i) (x := .d x) R t r trivial
    refine ⟨_, _, rfl, all_put2 R1 t1 rs (by simpa [setAll] using h) fun σ' hl hg => q σ' (by rw [hl, List.length_set]) fun j hj => ?_⟩
    simp only [List.mem_cons, not_or] at hj
    rw [hg j hj.2, set_get, if_neg fun z => hj.1 z.symm]
  | [], _ :: _, _, _, _, _, _, _, _, _, h, _ => by cases h
  | _ :: _, [], _, _, _, _, _, _, _, _, h, _ => by cases h
omit [ClsTab] in
theorem setAll_len : ∀ {is : List Nat} {xs : List Ev.D} {e0 e : Slots}, setAll is xs e0 = some e → xs.length = is.length
  | [], [], _, _, _ => rfl
  | _ :: _, _ :: _, _, _, h => congrArg Nat.succ (setAll_len (by simpa [setAll] using h))
  | [], _ :: _, _, _, h => by cases h
  | _ :: _, [], _, _, h => by cases h
theorem tg_put2 {tg : Tg} {x : Ev.D} {v : V} {e : Slots} {Q : L2.St → Hp → Prop} (R : Rel K F ι s σ H) (t : Step F0 i0 s0 g0 H0 F ι s σ H) (r : RD K F x v) (h : tg.put x s.env = some e)
    (q : ∀ σ', σ'.length = σ.length → (∀ i, i ∉ tg.slots → σ'[i]? = σ[i]?) → Rel K F ι { s with env := e } σ' H → Step F0 i0 s0 g0 H0 F ι { s with env := e } σ' H → Q σ' H) : tg.g K v σ H Q := by
  cases tg with
  | one i =>
    cases h
    obtain ⟨R1, t1⟩ := set_slot (i := i) (x := .d x) R t r trivial
    refine q _ (by rw [List.length_set]) (fun j hj => ?_) R1 t1
    rw [set_get, if_neg fun z => hj (by simp [Tg.slots, z])]
  | many is =>
    cases x <;> first | (cases h; done) | skip
    obtain ⟨a, ws, rfl, ha, rs⟩ := View.tup R.sub (.inl r)
    exact ⟨a, ws, rfl, ha, by rw [← rs.length]; exact setAll_len h, all_put2 R t rs h q⟩
omit [ClsTab] in
theorem wipe_own {i : Nat} {a : Addr} (h : OwnAt (wp s vs) (wipe σ vs) i a) : OwnAt s σ i a ∧ i ∉ vs := by
  obtain ⟨⟨x, e⟩, e2⟩ := h
  obtain ⟨h1, h2⟩ := wipeE_some e
  rw [wipe_get h2] at e2
  exact ⟨⟨⟨x, h1⟩, e2⟩, h2⟩
theorem wipe_owned {a : Addr} (h : Owned (wp s vs) (wipe σ vs) ι a) : Owned s σ ι a := by
  rcases h with ⟨i, h⟩ | h
  · exact .inl ⟨i, (wipe_own h).1⟩
  · exact .inr h
/-- the block's own slots are emptied -/
theorem wipe_rel (R : Rel K F ι s σ H) : Rel K F ι (wp s vs) (wipe σ vs) H := by
  refine ⟨R.sub, fun i x e => ?_, R.mem, R.len, by rw [wipeE_len, wipe_length]; exact R.elen, fun i j a h h2 => R.oo i j a (wipe_own h).1 (wipe_own h2).1, fun i k a h h2 => R.ol i k a (wipe_own h).1 h2, R.ll⟩
  obtain ⟨h1, h2⟩ := wipeE_some e
  obtain ⟨v, h3, h4⟩ := R.env i x h1
  exact ⟨v, by rw [wipe_get h2]; exact h3, h4⟩
theorem wipe_step (t : Step F0 i0 s0 g0 H0 F ι s σ H) : Step F0 i0 s0 g0 H0 F ι (wp s vs) (wipe σ vs) H := ⟨t.ff, t.ii, t.keep, fun a h => t.own a (wipe_owned h), t.fro⟩
/-- a thing that is nobody's is written -/
theorem free_write {a : Addr} {u : HO} (R : Rel K F ι s σ H) (f : F a = none) (n : ¬ Owned s σ ι a) : Rel K F ι s σ (upd H a u) := by
  refine ⟨fun b z q => ?_, fun j z q => ?_, fun k c q => ?_, R.len, R.elen, R.oo, R.ol, R.ll⟩
  · rw [upd_ne (ne_of_none q f)]
    exact R.sub b z q
  · obtain ⟨v, e, r⟩ := R.env j z q
    refine ⟨v, e, ?_⟩
    cases z with
    | d z => exact r
    | ref k => exact r
    | own z =>
      obtain ⟨b, o, rfl, h, r, f2⟩ := r
      exact ⟨b, o, rfl, by rw [upd_ne fun w => n (by subst w; exact .inl ⟨j, ⟨z, q⟩, e⟩)]; exact h, r, f2⟩
  · obtain ⟨b, e, r⟩ := R.mem k c q
    refine ⟨b, e, ?_⟩
    cases c with
    | live z =>
      obtain ⟨o, h, r, f2⟩ := r
      exact ⟨o, by rw [upd_ne fun w => n (by subst w; exact .inr ⟨k, ⟨z, q⟩, e⟩)]; exact h, r, f2⟩
    | fro z => exact r
omit [ClsTab] in
theorem free_step {a : Addr} {u : HO} (t : Step F0 i0 s0 g0 H0 F ι s σ H) (h : H0 a = none) : Step F0 i0 s0 g0 H0 F ι s σ (upd H a u) :=
  ⟨t.ff, t.ii, fun b o e n => by rw [upd_ne (ne_of_none e h)]; exact t.keep b o e n, t.own, t.fro⟩
/-- what is nobody's stays so, as it is -/
structure Far (F : Hp) (ι : List Addr) (s : S) (σ : L2.St) (H : Hp) (a : Addr) (u : HO) : Prop where
  at_ : H a = some u
  own : ¬ Owned s σ ι a
  fro : F a = none
omit [ClsTab] in
theorem Far.step {a : Addr} {u : HO} (f : Far F0 i0 s0 g0 H0 a u) (t : Step F0 i0 s0 g0 H0 F ι s σ H) : Far F ι s σ H a u := by
  have nf : ¬ Fresh s0 g0 i0 H0 a := fun z => by
    rcases z with z | z
    · exact f.own z
    · rw [f.at_] at z; cases z
  refine ⟨t.keep a u f.at_ f.own, fun z => nf (t.own a z), ?_⟩
  cases z : F a with
  | none => rfl
  | some w =>
    rcases t.fro a w z with y | y
    · rw [f.fro] at y; cases y
    · exact absurd y nf
/-- behind the block -/
theorem back_rel {F2 H2 : Hp} {ι2 : List Addr} {s2 : S} (R : Rel K F ι s σ H) (t : Step F ι (wp s vs) (wipe σ vs) H F2 ι2 (wp s2 vs) (wipe σ vs) H2) (R2 : Rel K F2 ι2 (wp s2 vs) (wipe σ vs) H2) (hl : s2.env.length = s.env.length) (od : ∀ i, i ∉ vs → OD s.env i → OD s2.env i) :
    Rel K F2 ι2 { s2 with env := unwipe s.env s2.env vs } σ H2 ∧ EStep F ι s σ H F2 ι2 { s2 with env := unwipe s.env s2.env vs } H2 := by
  -- a slot of the result: an old one, or one of the block's
  have sl : ∀ {i : Nat} {x : Slot}, (unwipe s.env s2.env vs)[i]? = some (some x) → (i ∈ vs ∧ s.env[i]? = some (some x)) ∨ (i ∉ vs ∧ (wipeE s2.env vs)[i]? = some (some x) ∧ (wipe σ vs)[i]? = σ[i]?) := fun {i x} e => by
    by_cases hi : i ∈ vs
    · by_cases hn : i < s.env.length
      · rw [unwipe_in hl.symm hn hi] at e
        exact .inl ⟨hi, e⟩
      · rw [List.getElem?_eq_none (by rw [unwipe_len]; omega)] at e
        cases e
    · rw [unwipe_get hi] at e
      exact .inr ⟨hi, by rw [wipeE_get hi]; exact e, wipe_get hi⟩
  have far : ∀ {i a}, i ∈ vs → OwnAt s σ i a → ∃ u x, s.env[i]? = some (some (.own x)) ∧ RObj K F x u ∧ Far F ι (wp s vs) (wipe σ vs) H a u := fun {i a} hi h => by
    obtain ⟨⟨x, e⟩, e2⟩ := h
    obtain ⟨v, e3, b, u, rfl, hu, ru, f⟩ := R.env i _ e
    rw [e2] at e3
    cases e3
    refine ⟨u, x, e, ru, hu, fun z => ?_, f⟩
    rcases z with ⟨j, z⟩ | ⟨k, z⟩
    · obtain ⟨z1, z2⟩ := wipe_own z
      exact z2 (R.oo i j a ⟨⟨x, e⟩, e2⟩ z1 ▸ hi)
    · exact R.ol i k a ⟨⟨x, e⟩, e2⟩ z
  have ow : ∀ {i a}, OwnAt { s2 with env := unwipe s.env s2.env vs } σ i a → (i ∈ vs ∧ OwnAt s σ i a) ∨ (i ∉ vs ∧ OwnAt (wp s2 vs) (wipe σ vs) i a) := fun {i a} ⟨⟨x, e⟩, e2⟩ => by
    rcases sl e with ⟨h1, h2⟩ | ⟨h1, h2, h3⟩
    · exact .inl ⟨h1, ⟨x, h2⟩, e2⟩
    · exact .inr ⟨h1, ⟨x, h2⟩, by rw [h3]; exact e2⟩
  have apart : ∀ {i a}, i ∈ vs → OwnAt s σ i a → Owned (wp s2 vs) (wipe σ vs) ι2 a → False := fun {i a} hi h z => by
    obtain ⟨u, x, _, _, f⟩ := far hi h
    exact (f.step t).own z
  refine ⟨⟨R2.sub, fun i x e => ?_, R2.mem, R2.len, by rw [unwipe_len, hl]; exact R.elen, fun i j a h h2 => ?_, fun i k a h h2 => ?_, R2.ll⟩, ⟨⟨t.ff, t.ii, fun a o e n => t.keep a o e fun z => n (wipe_owned z), fun a h => ?_, fun a o e => ?_⟩, fun i h => ?_⟩⟩
  · rcases sl e with ⟨h1, h2⟩ | ⟨h1, h2, h3⟩
    · obtain ⟨v, e3, r⟩ := R.env i x h2
      refine ⟨v, e3, ?_⟩
      cases x with
      | d x => exact RD.mono t.ff r
      | ref k => obtain ⟨b, e4, e5⟩ := r; exact ⟨b, pre_get t.ii e4, e5⟩
      | own x =>
        obtain ⟨b, u, rfl, hu, ru, f⟩ := r
        obtain ⟨u2, x2, e4, ru2, fa⟩ := far (a := b) h1 ⟨⟨x, h2⟩, e3⟩
        have := fa.step t
        have e6 := fa.at_
        rw [hu] at e6
        cases e6
        exact ⟨b, u, rfl, this.at_, ru.mono t.ff, this.fro⟩
    · obtain ⟨v, e3, r⟩ := R2.env i x h2
      exact ⟨v, by rw [← h3]; exact e3, r⟩
  · rcases ow h with ⟨h1, o1⟩ | ⟨h1, o1⟩
    · rcases ow h2 with ⟨h3, o2⟩ | ⟨h3, o2⟩
      · exact R.oo i j a o1 o2
      · exact (apart h1 o1 (.inl ⟨j, o2⟩)).elim
    · rcases ow h2 with ⟨h3, o2⟩ | ⟨h3, o2⟩
      · exact (apart h3 o2 (.inl ⟨i, o1⟩)).elim
      · exact R2.oo i j a o1 o2
  · rcases ow h with ⟨h1, o1⟩ | ⟨h1, o1⟩
    · exact apart h1 o1 (.inr ⟨k, h2⟩)
    · exact R2.ol i k a o1 h2
  · have fr : ∀ {a}, Fresh (wp s vs) (wipe σ vs) ι H a → Fresh s σ ι H a := fun {a} h => h.imp wipe_owned id
    rcases h with ⟨i, h⟩ | ⟨k, h⟩
    · rcases ow h with ⟨h1, o1⟩ | ⟨h1, o1⟩
      · exact .inl (.inl ⟨i, o1⟩)
      · exact fr (t.own a (.inl ⟨i, o1⟩))
    · exact fr (t.own a (.inr ⟨k, h⟩))
  · rcases t.fro a o e with z | z
    · exact .inl z
    · exact .inr (z.imp wipe_owned id)
  · by_cases hi : i ∈ vs
    · have hn : i < s.env.length := by
        rcases h with ⟨x, h⟩ | ⟨x, h⟩ <;> exact (List.getElem?_eq_some_iff.mp h).1
      rcases h with ⟨x, h⟩ | ⟨x, h⟩
      · exact .inl ⟨x, by rw [unwipe_in hl.symm hn hi]; exact h⟩
      · exact .inr ⟨x, by rw [unwipe_in hl.symm hn hi]; exact h⟩
    · rcases od i hi h with ⟨x, h⟩ | ⟨x, h⟩
      · exact .inl ⟨x, by rw [unwipe_get hi]; exact h⟩
      · exact .inr ⟨x, by rw [unwipe_get hi]; exact h⟩
end
end Ev

set_option Elab.async false
set_option linter.all false
set_option autoImplicit false
set_option maxHeartbeats 1000000
/-! Ev, part W: list comprehensions; pairs; extend. -/
namespace Ev
variable [ClsTab]
open PySem PySem.Spec PyProof.Rows L2
abbrev WF : WX := fun _ _ _ _ => False
section
variable {X : Cx} {T : CT} {W : WX} {pos : Pos} {elt tg iter : Expr} {ifs : List Expr} {scope : Scope} {own : List (Str × Nat)} {mi : EM (List Ev.D)} {mc : EM Bool} {me : EM Out} {tgt : Tg}
theorem t_yes : PTs X [] (tB X.K T W yes) := ⟨fun pins s σ H Q I ⟨F, ι, s0, R, A⟩ => pts_nil.run pins s σ H Q I (A F ι H true (.refl ..) R rfl)⟩
omit [ClsTab] in
theorem back_owned {s s2 : S} {σ : L2.St} {ι2 : List Addr} {vs : List Nat} {a : Addr} (hl : s2.env.length = s.env.length) (h : Owned { s2 with env := unwipe s.env s2.env vs } σ ι2 a) : (∃ i, OwnAt s σ i a) ∨ Owned (wp s2 vs) (wipe σ vs) ι2 a := by
  rcases h with ⟨i, ⟨x, e⟩, e2⟩ | ⟨k, h⟩
  · by_cases hi : i ∈ vs
    · by_cases hn : i < s.env.length
      · simp only [unwipe_in hl.symm hn hi] at e
        exact .inl ⟨i, ⟨x, e⟩, e2⟩
      · simp only at e
        rw [List.getElem?_eq_none (by rw [unwipe_len]; omega)] at e
        cases e
    · simp only [unwipe_get hi] at e
      exact .inr (.inl ⟨i, ⟨x, by rw [wipeE_get hi]; exact e⟩, by rw [wipe_get hi]; exact e2⟩)
  · exact .inr (.inr ⟨k, h⟩)
theorem lc_imp {σ : L2.St} {H : Hp} {Q : VK} (inn : ∀ i ∈ tgt.slots, i ∈ own.map (·.2)) (h : tE X.K T W (lc (own.map (·.2)) tgt mi mc me) σ H Q) : tLc (tI X.K T W mi) (tgt.g X.K) (tB X.K T WF mc) (tE X.K T WF me) (own.map (·.2)) σ H Q := by
  generalize hvs : own.map (·.2) = vs at *
  obtain ⟨F, ι, s, R, A⟩ := h
  refine ⟨F, ι, s, R, A.bind0 (R1 := RIt X.K) fun ds s1 F1 i1 H1 J _ t1 R1 st A1 C hC => ?_⟩
  have st : Steps X.K F1 J ds := st
  obtain ⟨ds', e1, A1⟩ := A1.pass
  split at e1 <;> first | (cases e1; done) | skip
  rename_i few
  cases e1
  cases hl : lcLoop vs tgt mc me ds [] s1 with
  | bad => simp only [hl] at A1; exact A1.elim
  | exc x s2 => simp only [hl] at A1; exact A1.elim
  | ok ys sf =>
    simp only [hl] at A1
    have R0 : Rel X.K F1 i1 (wp s1 vs) (wipe σ vs) H1 := wipe_rel R1
    have nC : ∀ {s : S} {σ : L2.St} {F : Hp} {ι : List Addr} (_ : Rel X.K F ι s σ H1), ¬ Owned s σ ι C := fun R z => by
      obtain ⟨o, q⟩ := Owned.there R z
      rw [hC] at q
      cases q
    refine ⟨fun i m H2 => m = ds.length - i ∧ i ≤ ds.length ∧ ∃ F2 i2 s2 acc ws, Same F1 F2 ∧ Rel X.K F2 i2 (wp s2 vs) (wipe σ vs) H2 ∧ Step F1 i1 (wp s1 vs) (wipe σ vs) H1 F2 i2 (wp s2 vs) (wipe σ vs) H2 ∧ Far F2 i2 (wp s2 vs) (wipe σ vs) H2 C (.lst ws) ∧ RDs X.K F2 acc ws ∧ acc.length ≤ i ∧ s2.env.length = s1.env.length ∧ (∀ i, i ∉ vs → OD s1.env i → OD s2.env i) ∧ lcLoop vs tgt mc me (ds.drop i) acc s2 = .ok ys sf,
      ⟨ds.length, by simp, Nat.zero_le _, F1, i1, s1, [], [], .refl _, free_write R0 (R1.sub.free hC) (nC R0), free_step (Step.refl ..) hC, ⟨upd_same, nC R0, R1.sub.free hC⟩, .nil, Nat.zero_le _, rfl, fun _ _ h => h, by simpa using hl⟩, ?_⟩
    rintro i m H2 ⟨rfl, hi, F2, i2, s2, acc, ws, ff, R2, t2, far, rws, la, hlen, od, eq⟩
    obtain ⟨z1, z2⟩ := st i F2 H2 ff R2.sub
    by_cases hlt : i < ds.length
    · obtain ⟨go, yl⟩ := z2 ds[i] (by simp [hlt])
      refine .inr ⟨go, fun H3 => ∃ F3 i3 s3 acc ws, Same F1 F3 ∧ Rel X.K F3 i3 (wp s3 vs) (wipe σ vs) H3 ∧ Step F1 i1 (wp s1 vs) (wipe σ vs) H1 F3 i3 (wp s3 vs) (wipe σ vs) H3 ∧ Far F3 i3 (wp s3 vs) (wipe σ vs) H3 C (.lst ws) ∧ RDs X.K F3 acc ws ∧ acc.length ≤ i + 1 ∧ s3.env.length = s1.env.length ∧ (∀ i, i ∉ vs → OD s1.env i → OD s3.env i) ∧ lcLoop vs tgt mc me (ds.drop (i + 1)) acc s3 = .ok ys sf,
        fun H3 ⟨F3, i3, s3, acc, ws, a1, a2, a3, a4, a5, a9, a6, a7, a8⟩ => ⟨_, by omega, rfl, by omega, F3, i3, s3, acc, ws, a1, a2, a3, a4, a5, a9, a6, a7, a8⟩, fun x H3 y => ?_⟩
      obtain ⟨F3, m3, rx⟩ := yl x H3 y
      rw [List.drop_eq_getElem_cons hlt] at eq
      simp only [lcLoop] at eq
      have R3 := R2.more m3
      have e3 : EStep F2 i2 (wp s2 vs) (wipe σ vs) H2 F3 i2 (wp s2 vs) H3 := EStep.more m3
      have t3 := t2.trans e3.toStep
      have far3 := far.step e3.toStep
      cases hp : tgt.put ds[i] (wipeE s2.env vs) with
      | none =>
        rw [hp] at eq
        cases eq
      | some e =>
        rw [hp] at eq
        simp only at eq
        obtain ⟨pl, pg⟩ := put_get hp
        refine tg_put2 R3 (Step.refl F3 i2 (wp s2 vs) (wipe σ vs) H3) rx hp fun σ4 l4 g4 R4 t4 => ?_
        have w4 : wipe σ4 vs = wipe σ vs := by
          have := wipe_ext (σ := σ4) (τ := wipe σ vs) (vs := vs) l4 fun i hi => g4 i fun z => hi (inn i z)
          rw [this]
          exact wipe_ext (wipe_length _ _) fun i hi => wipe_get hi
        refine ⟨w4, F3, i2, _, R4, ?_⟩
        have far4 := far3.step t4
        -- the test
        simp only [EM.bind] at eq
        cases hc : mc { s2 with env := e } with
        | bad => rw [hc] at eq; cases eq
        | exc x s5 => rw [hc] at eq; cases eq
        | ok b s5 =>
          rw [hc] at eq
          simp only at eq
          intro F5 i5 H5 b' t5 R5 eb
          cases eb
          have far5 := far4.step t5.toStep
          have len5 : ∀ {s : S} {F : Hp} {ι : List Addr} {H : Hp}, Rel X.K F ι s σ4 H → s.env.length = s1.env.length := fun R => by rw [R.elen, l4, wipe_length, ← R1.elen]
          have od4 : ∀ i, i ∉ vs → OD s1.env i → OD e i := fun i hi h => by
            have := od i hi h
            rcases this with ⟨x, h⟩ | ⟨x, h⟩
            · exact .inl ⟨x, by rw [pg i (fun z => hi (inn i z)), wipeE_get hi]; exact h⟩
            · exact .inr ⟨x, by rw [pg i (fun z => hi (inn i z)), wipeE_get hi]; exact h⟩
          -- the end of a turn
          have fin : ∀ {F6 H6 : Hp} {i6 : List Addr} {s6 : S} {acc' : List Ev.D} {ws' : List V}, Rel X.K F6 i6 s6 σ4 H6 → Step F3 i2 { s2 with env := e } σ4 H3 F6 i6 s6 σ4 H6 → Same F3 F6 → (∀ i, OD e i → OD s6.env i) → Far F6 i6 s6 σ4 H6 C (.lst ws) → RDs X.K F6 acc' ws' → acc'.length ≤ i + 1 → lcLoop vs tgt mc me (ds.drop (i + 1)) acc' s6 = .ok ys sf →
              ∃ F3 i3 s3 acc ws, Same F1 F3 ∧ Rel X.K F3 i3 (wp s3 vs) (wipe σ vs) (upd H6 C (.lst ws')) ∧ Step F1 i1 (wp s1 vs) (wipe σ vs) H1 F3 i3 (wp s3 vs) (wipe σ vs) (upd H6 C (.lst ws')) ∧ Far F3 i3 (wp s3 vs) (wipe σ vs) (upd H6 C (.lst ws')) C (.lst ws) ∧ RDs X.K F3 acc ws ∧ acc.length ≤ i + 1 ∧ s3.env.length = s1.env.length ∧ (∀ i, i ∉ vs → OD s1.env i → OD s3.env i) ∧ lcLoop vs tgt mc me (ds.drop (i + 1)) acc s3 = .ok ys sf := fun {F6 H6 i6 s6 acc' ws'} R6 t6 f6 o6 far6 rws' la' eq' => by
            have Rw : Rel X.K F6 i6 (wp s6 vs) (wipe σ vs) H6 := by
              rw [← w4]
              exact wipe_rel R6
            have nw : ¬ Owned (wp s6 vs) (wipe σ vs) i6 C := fun z => far6.own (by
              rw [← w4] at z
              exact wipe_owned z)
            have tw : Step F1 i1 (wp s1 vs) (wipe σ vs) H1 F6 i6 (wp s6 vs) (wipe σ vs) H6 := by
              have := wipe_step (vs := vs) ((t3.trans t4).trans t6)
              rw [w4] at this
              exact this
            exact ⟨F6, i6, s6, acc', ws', (ff.trans m3.ff).trans f6, free_write Rw far6.fro nw, free_step tw hC, ⟨upd_same, nw, far6.fro⟩, rws', la', len5 R6, fun i hi h => o6 i (od4 i hi h), eq'⟩
          cases b with
          | false =>
            simp only [Bool.false_eq_true, if_false] at eq ⊢
            have e0 : upd H5 C (.lst ws) = H5 := by
              funext b
              by_cases hb : b = C
              · subst hb
                rw [upd_same, far5.at_]
              · rw [upd_ne hb]
            have := fin R5 t5.toStep t5.ff t5.od far5 ((rws.mono m3.ff).mono t5.ff) (by omega) eq
            rw [e0] at this
            exact this
          | true =>
            simp only [if_true, EM.bind] at eq ⊢
            refine ⟨F5, i5, s5, R5, ?_⟩
            cases he : me s5 with
            | bad => rw [he] at eq; cases eq
            | exc x s6 => rw [he] at eq; cases eq
            | ok o s6 =>
              rw [he] at eq
              simp only at eq
              intro F6 i6 H6 v t6 R6 r6
              cases hk : keep o s6 with
              | bad => rw [hk] at eq; cases eq
              | exc x s7 => exact absurd hk keep_exc
              | ok d s7 =>
                rw [hk] at eq
                simp only at eq
                obtain ⟨F7, t7, R7, rd⟩ := keep_ok R6 t6 r6 hk
                have far7 := far5.step t7.toStep
                have lw : ws.length < sizeLine := by
                  rw [← rws.length]
                  exact lim_lt (by omega)
                exact ⟨ws, far7.at_, lw, fin R7 (t5.toStep.trans t7.toStep) (t5.ff.trans t7.ff) (fun i h => t7.od i (t5.od i h)) far7 ((((rws.mono m3.ff).mono t5.ff).mono t7.ff).append (.cons rd .nil)) (by rw [List.length_append, List.length_singleton]; omega) eq⟩
    · have e : i = ds.length := by omega
      subst e
      rw [List.drop_length] at eq
      cases eq
      obtain ⟨R5, t5⟩ := back_rel R1 t2 R2 hlen od
      have nE : ¬ Owned { sf with env := unwipe s1.env sf.env vs } σ i2 C := fun z => by
        rcases back_owned hlen z with ⟨i, q⟩ | q
        · exact nC R1 (.inl ⟨i, q⟩)
        · exact far.own q
      exact .inl ⟨z1 (Nat.le_refl _), A1 F2 i2 H2 (.ref C) (t1.trans t5) R5 ⟨C, _, rfl, far.at_, ⟨ws, rfl, rws⟩, far.fro, nE, t1.toStep.back (.inr hC)⟩⟩
/-- [elt for tg in iter if c], as a value -/
theorem e_lc (hc : X.calm = true) (hN : X.N.Nodup) (inn : ∀ i ∈ tgt.slots, i ∈ own.map (·.2)) (hi : PI X tg iter (tI X.K T W mi)) (ok : BlkOk X.N X.env.scope scope own)
    (hg : ∀ (s : Shared) (H : Hp) (C : Addr) (cl : List (Str × Addr)) (fp : List Addr), PG (X.blk s H scope (compEnvC scope cl C X.env) fp) tg (tgt.g X.K)) (ht : ∀ (s : Shared) (H : Hp) (C : Addr) (cl : List (Str × Addr)) (fp : List Addr), PTs (X.blk s H scope (compEnvC scope cl C X.env) fp) ifs (tB X.K T WF mc))
    (he : ∀ (s : Shared) (H : Hp) (C : Addr) (cl : List (Str × Addr)) (fp : List Addr), PE (X.blk s H scope (compEnvC scope cl C X.env) fp) elt (tE X.K T WF me)) (hs : ∀ x, foldedSetIterable iter X.env x = pure x) :
    PE X (.ListComp elt [⟨tg, iter, ifs, 0⟩] scope pos) (tE X.K T W (lc (own.map (·.2)) tgt mi mc me)) :=
  (pe_lc hc hN hi ok hg ht he hs).imp fun _ _ _ h => lc_imp inn h
theorem s_setLc {i : Nat} {y : Str} {py spos : Pos} (hc : X.calm = true) (hN : X.N.Nodup) (hy : X.N[i]? = some y) (hyl : X.env.scope.names.lookup y = some .local) (hsw : swapsWith (.ListComp elt [⟨tg, iter, ifs, 0⟩] scope pos) (some (.Name y py)) spos.line X.env = pure true)
    (inn : ∀ i ∈ tgt.slots, i ∈ own.map (·.2)) (hi : PI X tg iter (tI X.K T W mi)) (ok : BlkOk X.N X.env.scope scope own)
    (hg : ∀ (s : Shared) (H : Hp) (C : Addr) (cl : List (Str × Addr)) (fp : List Addr), PG (X.blk s H scope (compEnvC scope cl C X.env) fp) tg (tgt.g X.K)) (ht : ∀ (s : Shared) (H : Hp) (C : Addr) (cl : List (Str × Addr)) (fp : List Addr), PTs (X.blk s H scope (compEnvC scope cl C X.env) fp) ifs (tB X.K T WF mc))
    (he : ∀ (s : Shared) (H : Hp) (C : Addr) (cl : List (Str × Addr)) (fp : List Addr), PE (X.blk s H scope (compEnvC scope cl C X.env) fp) elt (tE X.K T WF me)) (hs : ∀ x, foldedSetIterable iter X.env x = pure x) :
    PS X (.Assign [.Name y py] (.ListComp elt [⟨tg, iter, ifs, 0⟩] scope pos) spos) (tS X.K T W (sSet i (lc (own.map (·.2)) tgt mi mc me))) :=
  (ps_setLc hc hN hy hyl hsw hi ok hg ht he hs).imp fun D σ H ⟨F, ι, s, R, A⟩ => lc_imp inn ⟨F, ι, s, R, A.lift (.refl ..) fun o s1 F1 i1 H1 v _ t R1 r1 A1 => store_aft A1 R1 t.toStep r1 fun _ h => h⟩
/-! extend -/
theorem e_ext {o e : Expr} {apos cpos : Pos} {mo m : EM Out} (ho : PE X o (tE X.K T W mo)) (ha : PE X e (tE X.K T W m)) (hbase : attributeBase o "extend" X.env (eval o X.env) = eval o X.env)
    (hfew : ((backTo cpos (starEach [e] X.env)).all (fun x => !x.1) && (backToKw cpos (keywordEach [] X.env)).all (fun x => x.1.isSome) && decide ([e].length + ([] : List Keyword).length + (if ([] : List Keyword).isEmpty then 0 else 1) < 30)) = true)
    (hline : (apos.endLine == cpos.line) = true) (hs : starEach [e] X.env = (false, eval e X.env) :: starEach [] X.env) : PE X (.Call (.Attribute o "extend" apos) [e] [] cpos) (tE X.K T W (ext mo m)) :=
  (pe_bm F.plainAttrs_list F.slot_list_extend F.type_list_extend (show MtR X "list.extend" rExtend from mt_extend) ho (pa_cons ha pa_nil hs) hbase hfew hline hs rfl).imp fun σ H Q ⟨F, ι, s, R, A⟩ => by
    refine ⟨F, ι, s, R, A.bind0 fun o1 s1 F1 i1 H1 v _ t1 R1 r1 A1 => ?_⟩
    obtain ⟨d, e1, A2⟩ := A1.get
    obtain ⟨xs0, e2, A3⟩ := A2.pass
    cases d <;> first | (cases e2; done) | skip
    obtain ⟨a, ws, rfl, hw, ra⟩ := (r1.view R1 e1).lst R1.sub
    refine ⟨.inl ⟨rfl, ws, .of hw⟩, F1, i1, s1, R1, A3.bind1 t1 fun y s3 F3 i3 H3 vy t3 R3 ry A4 => ?_⟩
    obtain ⟨d, e3, A5⟩ := A4.get
    obtain ⟨xs, e4, A6⟩ := A5.pass
    obtain ⟨d2, e5, A7⟩ := A6.get
    obtain ⟨ys, e6, A8⟩ := A7.pass
    obtain ⟨r, e7, A9⟩ := A8.pass
    cases d <;> first | (cases e4; done) | skip
    cases e4
    cases d2 <;> first | (cases e6; done) | skip
    cases e6
    split at e7 <;> first | (cases e7; done) | skip
    rename_i hl
    cases e7
    obtain ⟨b, us, rfl, hu, rb⟩ := (ry.view R3 e5).lst R3.sub
    have r3 := r1.step t3
    obtain ⟨a', x, y2, u, s4, ea, ex, ey, hu2, ru, hput, A10⟩ := A9.put R3 r3
    cases ea
    rw [e3] at ex
    cases ex
    cases ey
    obtain ⟨ws3, rfl, rw3⟩ := ru
    refine ⟨a, b, ws3, us, rfl, rfl, hu2, hu, by rw [← rw3.length, ← rb.length]; exact lim_line (Nat.le_of_lt hl), ?_⟩
    obtain ⟨R4, t4⟩ := hput (.lst (ws3 ++ us)) ⟨_, rfl, rw3.append rb⟩
    exact A10 F3 i3 _ .non ((t1.trans t3).trans t4) R4 .non
end
end Ev

set_option Elab.async false
set_option linter.all false
set_option autoImplicit false
set_option maxHeartbeats 1000000
/-! Ev, part Wa: comprehensions with two fors. -/
namespace Ev
variable [ClsTab]
open PySem PySem.Spec PyProof.Rows L2
section
variable {K : PySem.W.Frag} {T : CT} {vs : List Nat} {tgt : Tg} {mc : EM Bool} {me : EM Out} {Fb Hb F1 H1 : Hp} {ib i1 : List Addr} {sb s1 sf : S} {gb σ : L2.St} {C : Addr} {J : It} {ds acc0 ys : List Ev.D} {ws0 : List V} {Nx : Hp → Prop}
/-- the turns of one walk, the list at C being made -/
theorem turns_ok (inn : ∀ i ∈ tgt.slots, i ∈ vs) (hC : Hb C = none) (R1 : Rel K F1 i1 s1 σ H1) (t1 : Step Fb ib sb gb Hb F1 i1 (wp s1 vs) (wipe σ vs) H1) (far1 : Far F1 i1 s1 σ H1 C (.lst ws0)) (rws1 : RDs K F1 acc0 ws0) (st : Steps K F1 J ds) (few : acc0.length + ds.length < LIM)
    (hl : lcLoop vs tgt mc me ds acc0 s1 = .ok ys sf)
    (fin0 : ∀ F2 i2 H2 ws, Same F1 F2 → Rel K F2 i2 (wp sf vs) (wipe σ vs) H2 → Step Fb ib sb gb Hb F2 i2 (wp sf vs) (wipe σ vs) H2 → Far F2 i2 (wp sf vs) (wipe σ vs) H2 C (.lst ws) → RDs K F2 ys ws → sf.env.length = s1.env.length → (∀ i, i ∉ vs → OD s1.env i → OD sf.env i) → Nx H2) :
    ∃ W1 : Nat → Nat → Hp → Prop, (∃ m, W1 0 m H1) ∧ ∀ j k H, W1 j k H → (J.stop j H ∧ Nx H) ∨ (J.go j H ∧ ∃ Nx1 : Hp → Prop, (∀ H', Nx1 H' → ∃ k', k' < k ∧ W1 (j + 1) k' H') ∧ ∀ x H', J.yld j H x H' → tgt.g K x (wipe σ vs) H' fun σ3 H5 => wipe σ3 vs = wipe σ vs ∧ tB K T WF mc σ3 H5 fun b H6 =>
      if b = true then tE K T WF me σ3 H6 fun y H7 => ∃ acc, H7 C = some (.lst acc) ∧ acc.length < sizeLine ∧ Nx1 (upd H7 C (.lst (acc ++ [y]))) else Nx1 H6) := by
    have nw0 : ¬ Owned (wp s1 vs) (wipe σ vs) i1 C := fun z => far1.own (wipe_owned z)
    refine ⟨fun i m H2 => m = ds.length - i ∧ i ≤ ds.length ∧ ∃ F2 i2 s2 acc ws, Same F1 F2 ∧ Rel K F2 i2 (wp s2 vs) (wipe σ vs) H2 ∧ Step Fb ib sb gb Hb F2 i2 (wp s2 vs) (wipe σ vs) H2 ∧ Far F2 i2 (wp s2 vs) (wipe σ vs) H2 C (.lst ws) ∧ RDs K F2 acc ws ∧ acc.length ≤ acc0.length + i ∧ s2.env.length = s1.env.length ∧ (∀ i, i ∉ vs → OD s1.env i → OD s2.env i) ∧ lcLoop vs tgt mc me (ds.drop i) acc s2 = .ok ys sf,
      ⟨ds.length, by simp, Nat.zero_le _, F1, i1, s1, acc0, ws0, .refl _, wipe_rel R1, t1, ⟨far1.at_, nw0, far1.fro⟩, rws1, Nat.le_refl _, rfl, fun _ _ h => h, by simpa using hl⟩, ?_⟩
    rintro i m H2 ⟨rfl, hi, F2, i2, s2, acc, ws, ff, R2, t2, far, rws, la, hlen, od, eq⟩
    obtain ⟨z1, z2⟩ := st i F2 H2 ff R2.sub
    by_cases hlt : i < ds.length
    · obtain ⟨go, yl⟩ := z2 ds[i] (by simp [hlt])
      refine .inr ⟨go, fun H3 => ∃ F3 i3 s3 acc ws, Same F1 F3 ∧ Rel K F3 i3 (wp s3 vs) (wipe σ vs) H3 ∧ Step Fb ib sb gb Hb F3 i3 (wp s3 vs) (wipe σ vs) H3 ∧ Far F3 i3 (wp s3 vs) (wipe σ vs) H3 C (.lst ws) ∧ RDs K F3 acc ws ∧ acc.length ≤ acc0.length + (i + 1) ∧ s3.env.length = s1.env.length ∧ (∀ i, i ∉ vs → OD s1.env i → OD s3.env i) ∧ lcLoop vs tgt mc me (ds.drop (i + 1)) acc s3 = .ok ys sf,
        fun H3 ⟨F3, i3, s3, acc, ws, a1, a2, a3, a4, a5, a9, a6, a7, a8⟩ => ⟨_, by omega, rfl, by omega, F3, i3, s3, acc, ws, a1, a2, a3, a4, a5, a9, a6, a7, a8⟩, fun x H3 y => ?_⟩
      obtain ⟨F3, m3, rx⟩ := yl x H3 y
      rw [List.drop_eq_getElem_cons hlt] at eq
      simp only [lcLoop] at eq
      have R3 := R2.more m3
      have e3 : EStep F2 i2 (wp s2 vs) (wipe σ vs) H2 F3 i2 (wp s2 vs) H3 := EStep.more m3
      have t3 := t2.trans e3.toStep
      have far3 := far.step e3.toStep
      cases hp : tgt.put ds[i] (wipeE s2.env vs) with
      | none =>
        rw [hp] at eq
        cases eq
      | some e =>
        rw [hp] at eq
        simp only at eq
        obtain ⟨pl, pg⟩ := put_get hp
        refine tg_put2 R3 (Step.refl F3 i2 (wp s2 vs) (wipe σ vs) H3) rx hp fun σ4 l4 g4 R4 t4 => ?_
        have w4 : wipe σ4 vs = wipe σ vs := by
          have := wipe_ext (σ := σ4) (τ := wipe σ vs) (vs := vs) l4 fun i hi => g4 i fun z => hi (inn i z)
          rw [this]
          exact wipe_ext (wipe_length _ _) fun i hi => wipe_get hi
        refine ⟨w4, F3, i2, _, R4, ?_⟩
        have far4 := far3.step t4
        -- the test
        simp only [EM.bind] at eq
        cases hc : mc { s2 with env := e } with
        | bad => rw [hc] at eq; cases eq
        | exc x s5 => rw [hc] at eq; cases eq
        | ok b s5 =>
          rw [hc] at eq
          simp only at eq
          intro F5 i5 H5 b' t5 R5 eb
          cases eb
          have far5 := far4.step t5.toStep
          have len5 : ∀ {s : S} {F : Hp} {ι : List Addr} {H : Hp}, Rel K F ι s σ4 H → s.env.length = s1.env.length := fun R => by rw [R.elen, l4, wipe_length, ← R1.elen]
          have od4 : ∀ i, i ∉ vs → OD s1.env i → OD e i := fun i hi h => by
            have := od i hi h
            rcases this with ⟨x, h⟩ | ⟨x, h⟩
            · exact .inl ⟨x, by rw [pg i (fun z => hi (inn i z)), wipeE_get hi]; exact h⟩
            · exact .inr ⟨x, by rw [pg i (fun z => hi (inn i z)), wipeE_get hi]; exact h⟩
          -- the end of a turn
          have fin : ∀ {F6 H6 : Hp} {i6 : List Addr} {s6 : S} {acc' : List Ev.D} {ws' : List V}, Rel K F6 i6 s6 σ4 H6 → Step F3 i2 { s2 with env := e } σ4 H3 F6 i6 s6 σ4 H6 → Same F3 F6 → (∀ i, OD e i → OD s6.env i) → Far F6 i6 s6 σ4 H6 C (.lst ws) → RDs K F6 acc' ws' → acc'.length ≤ acc0.length + (i + 1) → lcLoop vs tgt mc me (ds.drop (i + 1)) acc' s6 = .ok ys sf →
              ∃ F3 i3 s3 acc ws, Same F1 F3 ∧ Rel K F3 i3 (wp s3 vs) (wipe σ vs) (upd H6 C (.lst ws')) ∧ Step Fb ib sb gb Hb F3 i3 (wp s3 vs) (wipe σ vs) (upd H6 C (.lst ws')) ∧ Far F3 i3 (wp s3 vs) (wipe σ vs) (upd H6 C (.lst ws')) C (.lst ws) ∧ RDs K F3 acc ws ∧ acc.length ≤ acc0.length + (i + 1) ∧ s3.env.length = s1.env.length ∧ (∀ i, i ∉ vs → OD s1.env i → OD s3.env i) ∧ lcLoop vs tgt mc me (ds.drop (i + 1)) acc s3 = .ok ys sf := fun {F6 H6 i6 s6 acc' ws'} R6 t6 f6 o6 far6 rws' la' eq' => by
            have Rw : Rel K F6 i6 (wp s6 vs) (wipe σ vs) H6 := by
              rw [← w4]
              exact wipe_rel R6
            have nw : ¬ Owned (wp s6 vs) (wipe σ vs) i6 C := fun z => far6.own (by
              rw [← w4] at z
              exact wipe_owned z)
            have tw : Step Fb ib sb gb Hb F6 i6 (wp s6 vs) (wipe σ vs) H6 := by
              have := wipe_step (vs := vs) ((t3.trans t4).trans t6)
              rw [w4] at this
              exact this
            exact ⟨F6, i6, s6, acc', ws', (ff.trans m3.ff).trans f6, free_write Rw far6.fro nw, free_step tw hC, ⟨upd_same, nw, far6.fro⟩, rws', la', len5 R6, fun i hi h => o6 i (od4 i hi h), eq'⟩
          cases b with
          | false =>
            simp only [Bool.false_eq_true, if_false] at eq ⊢
            have e0 : upd H5 C (.lst ws) = H5 := by
              funext b
              by_cases hb : b = C
              · subst hb
                rw [upd_same, far5.at_]
              · rw [upd_ne hb]
            have := fin R5 t5.toStep t5.ff t5.od far5 ((rws.mono m3.ff).mono t5.ff) (by omega) eq
            rw [e0] at this
            exact this
          | true =>
            simp only [if_true, EM.bind] at eq ⊢
            refine ⟨F5, i5, s5, R5, ?_⟩
            cases he : me s5 with
            | bad => rw [he] at eq; cases eq
            | exc x s6 => rw [he] at eq; cases eq
            | ok o s6 =>
              rw [he] at eq
              simp only at eq
              intro F6 i6 H6 v t6 R6 r6
              cases hk : keep o s6 with
              | bad => rw [hk] at eq; cases eq
              | exc x s7 => exact absurd hk keep_exc
              | ok d s7 =>
                rw [hk] at eq
                simp only at eq
                obtain ⟨F7, t7, R7, rd⟩ := keep_ok R6 t6 r6 hk
                have far7 := far5.step t7.toStep
                have lw : ws.length < sizeLine := by
                  rw [← rws.length]
                  exact lim_lt (by omega)
                exact ⟨ws, far7.at_, lw, fin R7 (t5.toStep.trans t7.toStep) (t5.ff.trans t7.ff) (fun i h => t7.od i (t5.od i h)) far7 ((((rws.mono m3.ff).mono t5.ff).mono t7.ff).append (.cons rd .nil)) (by rw [List.length_append, List.length_singleton]; omega) eq⟩
    · have e : i = ds.length := by omega
      subst e
      rw [List.drop_length] at eq
      cases eq
      exact .inl ⟨z1 (Nat.le_refl _), fin0 F2 i2 H2 ws ff R2 t2 far rws hlen od⟩
end
def lc2Loop (vs vs1 : List Nat) (tg : Tg) (c : EM Bool) (it1 : EM (List Ev.D)) (tg1 : Tg) (c1 : EM Bool) (el : EM Out) : List Ev.D → List Ev.D → EM (List Ev.D)
  | [], acc => .pure acc
  | x :: xs, acc => fun s => match tg.put x (wipeE s.env vs) with
    | none => .bad
    | some e => (c.bind fun b => if b = true then it1.bind fun ys => (opt (if acc.length + ys.length < LIM then some ys else none)).bind fun ys => (lcLoop vs1 tg1 c1 el ys acc).bind fun acc' => lc2Loop vs vs1 tg c it1 tg1 c1 el xs acc' else lc2Loop vs vs1 tg c it1 tg1 c1 el xs acc) { s with env := e }
/-- [el for tg in it if c for tg1 in it1 if c1] -/
def lc2 (vs vs1 : List Nat) (tg : Tg) (it : EM (List Ev.D)) (c : EM Bool) (tg1 : Tg) (it1 : EM (List Ev.D)) (c1 : EM Bool) (el : EM Out) : EM Out := it.bind fun xs => fun s =>
  match lc2Loop vs vs1 tg c it1 tg1 c1 el xs [] s with
  | .ok ys s' => .ok (.new (.lst ys)) { s' with env := unwipe s.env s'.env vs }
  | _ => .bad
omit [ClsTab] in
theorem wipeE_none {e : Slots} {i : Nat} (hi : i < e.length) : ∀ {vs : List Nat}, i ∈ vs → (wipeE e vs)[i]? = some none
  | [], h => by cases h
  | v :: vs, h => by
    rw [wipeE, set_get]
    by_cases hv : v = i
    · rw [if_pos hv, if_pos (by rw [wipeE_len]; omega)]
    · rw [if_neg hv]
      rcases List.mem_cons.mp h with z | z
      · exact absurd z.symm hv
      · exact wipeE_none hi z
omit [ClsTab] in
theorem wipeE_ext {σ τ : Slots} {vs : List Nat} (hl : σ.length = τ.length) (h : ∀ i, i ∉ vs → σ[i]? = τ[i]?) : wipeE σ vs = wipeE τ vs := by
  apply List.ext_getElem?
  intro i
  by_cases hi : i ∈ vs
  · by_cases hn : i < σ.length
    · rw [wipeE_none hn hi, wipeE_none (by omega) hi]
    · rw [List.getElem?_eq_none (by rw [wipeE_len]; omega), List.getElem?_eq_none (by rw [wipeE_len]; omega)]
  · rw [wipeE_get hi, wipeE_get hi, h i hi]
section
variable {X : Cx} {T : CT} {W : WX} {pos : Pos} {elt tg iter tg1 iter1 : Expr} {ifs ifs1 : List Expr} {scope : Scope} {own : List (Str × Nat)} {vs1 : List Nat} {mi mi1 : EM (List Ev.D)} {mc mc1 : EM Bool} {me : EM Out} {tgt tgt1 : Tg}
theorem lc2_imp {σ : L2.St} {H : Hp} {Q : VK} (inn : ∀ i ∈ tgt.slots, i ∈ own.map (·.2)) (inn1 : ∀ i ∈ tgt1.slots, i ∈ vs1) (sub : ∀ i ∈ vs1, i ∈ own.map (·.2)) (h : tE X.K T W (lc2 (own.map (·.2)) vs1 tgt mi mc tgt1 mi1 mc1 me) σ H Q) :
    tLc2 (tI X.K T W mi) (tgt.g X.K) (tB X.K T WF mc) (tI X.K T WF mi1) (tgt1.g X.K) (tB X.K T WF mc1) (tE X.K T WF me) (own.map (·.2)) vs1 σ H Q := by
  generalize hvs : own.map (·.2) = vs at *
  obtain ⟨F, ι, s, R, A⟩ := h
  refine ⟨F, ι, s, R, A.bind0 (R1 := RIt X.K) fun ds s1 F1 i1 H1 J _ t1 R1 st A1 C hC => ?_⟩
  have st : Steps X.K F1 J ds := st
  cases hl : lc2Loop vs vs1 tgt mc mi1 tgt1 mc1 me ds [] s1 with
  | bad => simp only [hl] at A1; exact A1.elim
  | exc x s2 => simp only [hl] at A1; exact A1.elim
  | ok ys sf =>
    simp only [hl] at A1
    have R0 : Rel X.K F1 i1 (wp s1 vs) (wipe σ vs) H1 := wipe_rel R1
    have nC : ∀ {s : S} {σ : L2.St} {F : Hp} {ι : List Addr} (_ : Rel X.K F ι s σ H1), ¬ Owned s σ ι C := fun R z => by
      obtain ⟨o, q⟩ := Owned.there R z
      rw [hC] at q
      cases q
    refine ⟨fun i m H2 => m = ds.length - i ∧ i ≤ ds.length ∧ ∃ F2 i2 s2 acc ws, Same F1 F2 ∧ Rel X.K F2 i2 (wp s2 vs) (wipe σ vs) H2 ∧ Step F1 i1 (wp s1 vs) (wipe σ vs) H1 F2 i2 (wp s2 vs) (wipe σ vs) H2 ∧ Far F2 i2 (wp s2 vs) (wipe σ vs) H2 C (.lst ws) ∧ RDs X.K F2 acc ws ∧ s2.env.length = s1.env.length ∧ (∀ i, i ∉ vs → OD s1.env i → OD s2.env i) ∧ lc2Loop vs vs1 tgt mc mi1 tgt1 mc1 me (ds.drop i) acc s2 = .ok ys sf,
      ⟨ds.length, by simp, Nat.zero_le _, F1, i1, s1, [], [], .refl _, free_write R0 (R1.sub.free hC) (nC R0), free_step (Step.refl ..) hC, ⟨upd_same, nC R0, R1.sub.free hC⟩, .nil, rfl, fun _ _ h => h, by simpa using hl⟩, ?_⟩
    rintro i m H2 ⟨rfl, hi, F2, i2, s2, acc, ws, ff, R2, t2, far, rws, hlen, od, eq⟩
    obtain ⟨z1, z2⟩ := st i F2 H2 ff R2.sub
    by_cases hlt : i < ds.length
    · obtain ⟨go, yl⟩ := z2 ds[i] (by simp [hlt])
      refine .inr ⟨go, fun H3 => ∃ F3 i3 s3 acc ws, Same F1 F3 ∧ Rel X.K F3 i3 (wp s3 vs) (wipe σ vs) H3 ∧ Step F1 i1 (wp s1 vs) (wipe σ vs) H1 F3 i3 (wp s3 vs) (wipe σ vs) H3 ∧ Far F3 i3 (wp s3 vs) (wipe σ vs) H3 C (.lst ws) ∧ RDs X.K F3 acc ws ∧ s3.env.length = s1.env.length ∧ (∀ i, i ∉ vs → OD s1.env i → OD s3.env i) ∧ lc2Loop vs vs1 tgt mc mi1 tgt1 mc1 me (ds.drop (i + 1)) acc s3 = .ok ys sf,
        fun H3 ⟨F3, i3, s3, acc, ws, a1, a2, a3, a4, a5, a6, a7, a8⟩ => ⟨_, by omega, rfl, by omega, F3, i3, s3, acc, ws, a1, a2, a3, a4, a5, a6, a7, a8⟩, fun x H3 y => ?_⟩
      obtain ⟨F3, m3, rx⟩ := yl x H3 y
      rw [List.drop_eq_getElem_cons hlt] at eq
      simp only [lc2Loop] at eq
      have R3 := R2.more m3
      have e3 : EStep F2 i2 (wp s2 vs) (wipe σ vs) H2 F3 i2 (wp s2 vs) H3 := EStep.more m3
      have t3 := t2.trans e3.toStep
      have far3 := far.step e3.toStep
      cases hp : tgt.put ds[i] (wipeE s2.env vs) with
      | none =>
        rw [hp] at eq
        cases eq
      | some e =>
        rw [hp] at eq
        simp only at eq
        obtain ⟨pl, pg⟩ := put_get hp
        refine tg_put2 R3 (Step.refl F3 i2 (wp s2 vs) (wipe σ vs) H3) rx hp fun σ4 l4 g4 R4 t4 => ?_
        have w4 : wipe σ4 vs = wipe σ vs := by
          have := wipe_ext (σ := σ4) (τ := wipe σ vs) (vs := vs) l4 fun i hi => g4 i fun z => hi (inn i z)
          rw [this]
          exact wipe_ext (wipe_length _ _) fun i hi => wipe_get hi
        refine ⟨w4, F3, i2, _, R4, ?_⟩
        have far4 := far3.step t4
        -- the test
        simp only [EM.bind] at eq
        cases hc : mc { s2 with env := e } with
        | bad => rw [hc] at eq; cases eq
        | exc x s5 => rw [hc] at eq; cases eq
        | ok b s5 =>
          rw [hc] at eq
          simp only at eq
          intro F5 i5 H5 b' t5 R5 eb
          cases eb
          have far5 := far4.step t5.toStep
          have len5 : ∀ {s : S} {F : Hp} {ι : List Addr} {H : Hp}, Rel X.K F ι s σ4 H → s.env.length = s1.env.length := fun R => by rw [R.elen, l4, wipe_length, ← R1.elen]
          have od4 : ∀ i, i ∉ vs → OD s1.env i → OD e i := fun i hi h => by
            have := od i hi h
            rcases this with ⟨x, h⟩ | ⟨x, h⟩
            · exact .inl ⟨x, by rw [pg i (fun z => hi (inn i z)), wipeE_get hi]; exact h⟩
            · exact .inr ⟨x, by rw [pg i (fun z => hi (inn i z)), wipeE_get hi]; exact h⟩
          cases b with
          | false =>
            simp only [Bool.false_eq_true, if_false] at eq ⊢
            have Rw : Rel X.K F5 i5 (wp s5 vs) (wipe σ vs) H5 := by
              rw [← w4]
              exact wipe_rel R5
            have tw : Step F1 i1 (wp s1 vs) (wipe σ vs) H1 F5 i5 (wp s5 vs) (wipe σ vs) H5 := by
              have := wipe_step (vs := vs) ((t3.trans t4).trans t5.toStep)
              rw [w4] at this
              exact this
            exact ⟨F5, i5, s5, acc, ws, (ff.trans m3.ff).trans t5.ff, Rw, tw, ⟨far5.at_, fun z => far5.own (by rw [← w4] at z; exact wipe_owned z), far5.fro⟩, (rws.mono m3.ff).mono t5.ff, len5 R5, fun i hi h => t5.od i (od4 i hi h), eq⟩
          | true =>
            simp only [if_true, EM.bind] at eq ⊢
            refine ⟨F5, i5, s5, R5, ?_⟩
            cases hm : mi1 s5 with
            | bad => rw [hm] at eq; cases eq
            | exc x s6 => rw [hm] at eq; cases eq
            | ok ds1 s6 =>
              rw [hm] at eq
              simp only at eq
              intro F6 i6 H6 J1 t6 R6 st1
              have st1 : Steps X.K F6 J1 ds1 := st1
              have far6 := far5.step t6.toStep
              by_cases few : acc.length + ds1.length < LIM
              · rw [if_pos few] at eq
                simp only [Ev.opt, EM.pure] at eq
                cases hin : lcLoop vs1 tgt1 mc1 me ds1 acc s6 with
                | bad => rw [hin] at eq; cases eq
                | exc x s7 => rw [hin] at eq; cases eq
                | ok acc' s7 =>
                  rw [hin] at eq
                  simp only at eq
                  refine turns_ok inn1 hC R6 (wipe_step (((t3.trans t4).trans t5.toStep).trans t6.toStep)) far6 (((rws.mono m3.ff).mono t5.ff).mono t6.ff) st1 few hin fun F7 i7 H7 ws7 f7 R7 t7 far7 rws7 len7 od7 => ?_
                  have ww : wp (wp s7 vs1) vs = wp s7 vs := by
                    show (S.mk _ _) = S.mk _ _
                    rw [wipeE_ext (vs := vs) (wipeE_len s7.env vs1) fun i hi => wipeE_get fun z => hi (sub i z)]
                  have ws4 : wipe (wipe σ4 vs1) vs = wipe σ vs := by
                    rw [← w4]
                    exact wipe_ext (wipe_length _ _) fun i hi => wipe_get fun z => hi (sub i z)
                  have Rw : Rel X.K F7 i7 (wp s7 vs) (wipe σ vs) H7 := by
                    have := wipe_rel (vs := vs) R7
                    rw [ww, ws4] at this
                    exact this
                  have tw : Step F1 i1 (wp s1 vs) (wipe σ vs) H1 F7 i7 (wp s7 vs) (wipe σ vs) H7 := by
                    have := wipe_step (vs := vs) t7
                    rw [ww, ws4] at this
                    exact this
                  refine ⟨F7, i7, s7, acc', ws7, ((ff.trans m3.ff).trans (t5.ff.trans t6.ff)).trans f7, Rw, tw, ⟨far7.at_, fun z => far7.own ?_, far7.fro⟩, rws7, len7.trans (len5 R6), fun i hi h => od7 i (fun z => hi (sub i z)) (t6.od i (t5.od i (od4 i hi h))), eq⟩
                  rw [← ww, ← ws4] at z
                  exact wipe_owned z
              · rw [if_neg few] at eq
                cases eq
    · have e : i = ds.length := by omega
      subst e
      rw [List.drop_length] at eq
      cases eq
      obtain ⟨R5, t5⟩ := back_rel R1 t2 R2 hlen od
      have nE : ¬ Owned { sf with env := unwipe s1.env sf.env vs } σ i2 C := fun z => by
        rcases back_owned hlen z with ⟨i, q⟩ | q
        · exact nC R1 (.inl ⟨i, q⟩)
        · exact far.own q
      exact .inl ⟨z1 (Nat.le_refl _), A1 F2 i2 H2 (.ref C) (t1.trans t5) R5 ⟨C, _, rfl, far.at_, ⟨ws, rfl, rws⟩, far.fro, nE, t1.toStep.back (.inr hC)⟩⟩
/-- as a value -/
theorem e_lc2 (hc : X.calm = true) (hN : X.N.Nodup) (inn : ∀ i ∈ tgt.slots, i ∈ own.map (·.2)) (inn1 : ∀ i ∈ tgt1.slots, i ∈ vs1) (sub : ∀ i ∈ vs1, i ∈ own.map (·.2)) (hi : PI X tg iter (tI X.K T W mi)) (ok : BlkOk X.N X.env.scope scope own)
    (hg : ∀ (s : Shared) (H : Hp) (C : Addr) (cl : List (Str × Addr)) (fp : List Addr), PG (X.blk s H scope (compEnvC scope cl C X.env) fp) tg (tgt.g X.K)) (ht : ∀ (s : Shared) (H : Hp) (C : Addr) (cl : List (Str × Addr)) (fp : List Addr), PTs (X.blk s H scope (compEnvC scope cl C X.env) fp) ifs (tB X.K T WF mc))
    (hi1 : ∀ (s : Shared) (H : Hp) (C : Addr) (cl : List (Str × Addr)) (fp : List Addr), PI (X.blk s H scope (compEnvC scope cl C X.env) fp) tg1 iter1 (tI X.K T WF mi1))
    (hg1 : ∀ (s : Shared) (H : Hp) (C : Addr) (cl : List (Str × Addr)) (fp : List Addr), PG (X.blk s H scope (compEnvC scope cl C X.env) fp) tg1 (tgt1.g X.K)) (ht1 : ∀ (s : Shared) (H : Hp) (C : Addr) (cl : List (Str × Addr)) (fp : List Addr), PTs (X.blk s H scope (compEnvC scope cl C X.env) fp) ifs1 (tB X.K T WF mc1))
    (he : ∀ (s : Shared) (H : Hp) (C : Addr) (cl : List (Str × Addr)) (fp : List Addr), PE (X.blk s H scope (compEnvC scope cl C X.env) fp) elt (tE X.K T WF me)) (hs : ∀ x, foldedSetIterable iter X.env x = pure x) (hs1 : ∀ env x, foldedSetIterable iter1 env x = pure x) :
    PE X (.ListComp elt [⟨tg, iter, ifs, 0⟩, ⟨tg1, iter1, ifs1, 0⟩] scope pos) (tE X.K T W (lc2 (own.map (·.2)) vs1 tgt mi mc tgt1 mi1 mc1 me)) :=
  (pe_lc2 hc hN hi ok sub hg ht hi1 hg1 ht1 he hs hs1).imp fun _ _ _ h => lc2_imp inn inn1 sub h
end
end Ev

set_option Elab.async false
set_option linter.all false
set_option autoImplicit false
set_option maxHeartbeats 1000000
/-! Ev, part Sa: a set's table, for masks up to 2047. -/
namespace Ev
open PySem PySem.Spec PyProof.Rows L2
def Msk (m : Nat) : Prop := m = 7 ∨ m = 31 ∨ m = 127 ∨ m = 511 ∨ m = 2047
theorem jump_inj {m x y : Nat} (hm : Msk m) (hx : x ≤ m) (hy : y ≤ m) (e : (x * 5 + 1) % (m + 1) = (y * 5 + 1) % (m + 1)) : x = y := by
  rcases hm with rfl | rfl | rfl | rfl | rfl <;> omega
/-- n jumps from x on, none from 0 -/
def noZero (m : Nat) : Nat → Nat → Bool
  | 0, _ => true
  | n + 1, x => (x != 0) && noZero m n ((x * 5 + 1) % (m + 1))
theorem noZero_at {m : Nat} : ∀ (n x : Nat), noZero m n x = true → ∀ k, k < n → lcgI m x k ≠ 0
  | 0, _, _, k, hk => absurd hk (Nat.not_lt_zero _)
  | n + 1, x, h, k, hk => by
    simp only [noZero, Bool.and_eq_true, bne_iff_ne] at h
    cases k with
    | zero => exact h.1
    | succ k =>
      have key : ∀ k, lcgI m x (k + 1) = lcgI m ((x * 5 + 1) % (m + 1)) k := fun k => by
        induction k with
        | zero => rfl
        | succ k ih => show (lcgI m x (k + 1) * 5 + 1) % (m + 1) = _; rw [ih]; rfl
      rw [key]
      exact noZero_at n _ h.2 k (Nat.lt_of_succ_lt_succ hk)
theorem noZero_msk {m : Nat} (hm : Msk m) : noZero m m 1 = true := by
  rcases hm with rfl | rfl | rfl | rfl | rfl <;> decide +kernel
theorem lcgN_one {m : Nat} (hm : Msk m) (k : Nat) : lcgN m (k + 1) = lcgI m 1 k := by
  have h1 : lcgN m 1 = 1 := by rcases hm with rfl | rfl | rfl | rfl | rfl <;> rfl
  have := lcgN_add m 1 k
  rw [h1, Nat.add_comm 1 k] at this
  exact this.symm
theorem lcgN_ne {m : Nat} (hm : Msk m) {k : Nat} (h0 : 0 < k) (hk : k ≤ m) : lcgN m k ≠ 0 := by
  obtain ⟨j, rfl⟩ : ∃ j, k = j + 1 := ⟨k - 1, by omega⟩
  rw [lcgN_one hm]
  exact noZero_at m 1 (noZero_msk hm) j hk
theorem lcgN_le {m : Nat} : ∀ k, lcgN m k ≤ m
  | 0 => Nat.zero_le _
  | k + 1 => Nat.le_of_lt_succ (Nat.mod_lt _ (Nat.succ_pos _))
theorem lcgN_inj {m : Nat} (hm : Msk m) : ∀ a b, a < b → b ≤ m → lcgN m a ≠ lcgN m b
  | 0, b, h, hb, e => lcgN_ne hm h hb e.symm
  | a + 1, b, h, hb, e => by
    obtain ⟨c, rfl⟩ : ∃ c, b = c + 1 := ⟨b - 1, by omega⟩
    exact lcgN_inj hm a c (by omega) (by omega) (jump_inj hm (lcgN_le a) (lcgN_le c) e)
theorem lcgN_all {m : Nat} (hm : Msk m) {j : Nat} (hj : j ≤ m) : ∃ k, k ≤ m ∧ lcgN m k = j := by
  by_cases hex : j ∈ (List.range (m + 1)).map (lcgN m)
  · obtain ⟨k, hk, e⟩ := List.mem_map.mp hex
    exact ⟨k, Nat.le_of_lt_succ (List.mem_range.mp hk), e⟩
  · exfalso
    have nd : ((List.range (m + 1)).map (lcgN m)).Nodup := by
      refine List.pairwise_map.mpr (List.Pairwise.imp_of_mem (fun {a b} ha hb h => ?_) (List.pairwise_lt_range (n := m + 1)))
      exact lcgN_inj hm a b h (Nat.le_of_lt_succ (List.mem_range.mp hb))
    have := nat_nodup_len (j :: (List.range (m + 1)).map (lcgN m)) (List.range (m + 1)) (List.nodup_cons.mpr ⟨hex, nd⟩) fun x hx => by
      rcases List.mem_cons.mp hx with rfl | hx
      · exact List.mem_range.mpr (Nat.lt_succ_of_le hj)
      · obtain ⟨k, _, rfl⟩ := List.mem_map.mp hx
        exact List.mem_range.mpr (Nat.lt_succ_of_le (lcgN_le k))
    simp at this
    omega
theorem lcgN_back {m : Nat} (hm : Msk m) : lcgN m (m + 1) = 0 := by
  obtain ⟨k, hk, e⟩ := lcgN_all hm (j := lcgN m (m + 1)) (lcgN_le _)
  cases k with
  | zero => exact e.symm
  | succ k =>
    exact absurd (jump_inj hm (lcgN_le k) (lcgN_le m) e) (lcgN_inj hm k m (by omega) (Nat.le_refl _))
theorem lcgI_from {m : Nat} (hm : Msk m) {i j : Nat} (hi : i ≤ m) (hj : j ≤ m) : ∃ k, k ≤ m ∧ lcgI m i k = j := by
  obtain ⟨a, ha, rfl⟩ := lcgN_all hm hi
  obtain ⟨b, hb, rfl⟩ := lcgN_all hm hj
  have per : ∀ k, lcgN m (m + 1 + k) = lcgN m k := fun k => by
    induction k with
    | zero => exact lcgN_back hm
    | succ k ih => show (lcgN m (m + 1 + k) * 5 + 1) % (m + 1) = _; rw [ih]; rfl
  by_cases c : a ≤ b
  · exact ⟨b - a, by omega, by rw [lcgN_add, show a + (b - a) = b by omega]⟩
  · exact ⟨b + (m + 1) - a, by omega, by rw [lcgN_add, show a + (b + (m + 1) - a) = m + 1 + b by omega, per]⟩
theorem meets_run {m : Nat} (hm : Msk m) (h : Int) {j : Nat} (hj : j ≤ m) : ∃ n, n ≤ m + 12 ∧ runI m (SetTable.bits h) n = j := by
  obtain ⟨k, hk, e⟩ := lcgI_from hm (runI_le m (SetTable.bits h) 12) hj
  exact ⟨12 + k, by omega, (runI_tail (bits_lt h) k).trans e⟩
theorem meets {m : Nat} (hm : Msk m) (h : Int) {j : Nat} (hj : j ≤ m) : ∃ k, k < 10 * SetTable.turns m ∧ way m h k = j := by
  obtain ⟨n, hn, e⟩ := meets_run hm h hj
  obtain ⟨k, hk, e2⟩ := run_nth m (SetTable.bits h) n
  refine ⟨k, by unfold SetTable.turns; omega, ?_⟩
  show (nth m _ k).j = j
  rw [e2]
  exact e
theorem way_in (m : Nat) (h : Int) (k : Nat) : way m h k ≤ m := by
  have hb : SetTable.bits h % (m + 1) ≤ m := Nat.le_of_lt_succ (Nat.mod_lt _ (Nat.succ_pos _))
  have h0 : (runAt m (SetTable.bits h % (m + 1)) (SetTable.bits h)).j + (runAt m (SetTable.bits h % (m + 1)) (SetTable.bits h)).more ≤ m := by
    have := runEnd_bd hb
    show SetTable.bits h % (m + 1) + (SetTable.runEnd m _ - _) ≤ m
    omega
  have := nth_in k _ h0
  show (nth m _ k).j ≤ m
  omega
/-- what a way comes to first, outside of some places -/
theorem way_first {m : Nat} (hm : Msk m) (ps : List Nat) (hl : ps.length ≤ m) (h : Int) : ∃ K, K < 10 * SetTable.turns m ∧ way m h K ∉ ps ∧ ∀ k, k < K → way m h k ∈ ps := by
  obtain ⟨j, hj, hn⟩ := st_missing ps (m + 1) (by omega)
  obtain ⟨k, hk, e⟩ := meets hm h (Nat.le_of_lt_succ hj)
  obtain ⟨K, h1, h2, h3⟩ := st_least (p := fun k => way m h k ∉ ps) k (by show way m h k ∉ ps; rw [e]; exact hn)
  exact ⟨K, by omega, h2, fun k' hk' => Classical.byContradiction fun c => h3 k' hk' c⟩
/-- each thing sits where its way leads past taken places alone -/
def Sits (m : Nat) (ps : List Nat) (h : Int) (j : Nat) : Prop := ∃ k, way m h k = j ∧ ∀ k', k' < k → way m h k' ∈ ps
structure Tb (t : SetTable) (hs : List Int) : Prop where
  ris : Ris t.place.toList
  dm : t.dummies = #[]
  sz : t.place.size = hs.length
  mok : Msk t.mask
  bd : ∀ x ∈ t.place.toList, x ≤ t.mask
  on : ∀ (i : Nat) (h : Int) (j : Nat), hs[i]? = some h → t.place.toList[i]? = some j → Sits t.mask t.place.toList h j
section
variable {t : SetTable} {hs : List Int}
theorem Sits.before {m : Nat} {ps : List Nat} {h : Int} {K j : Nat} (s : Sits m ps h j) (hj : j ∈ ps) (hK : way m h K ∉ ps) : ∃ k, k < K ∧ way m h k = j := by
  obtain ⟨k, e, b⟩ := s
  refine ⟨k, Nat.lt_of_not_le fun c => ?_, e⟩
  rcases Nat.lt_or_eq_of_le c with c | c
  · exact hK (b K c)
  · exact hK (by rw [c, e]; exact hj)
theorem Sits.more {m : Nat} {ps qs : List Nat} {h : Int} {j : Nat} (s : Sits m ps h j) (e : ∀ x, x ∈ ps → x ∈ qs) : Sits m qs h j := by
  obtain ⟨k, e1, b⟩ := s
  exact ⟨k, e1, fun k' hk' => e _ (b k' hk')⟩
/-- one more, at the first free place of its way -/
theorem Tb.add (T : Tb t hs) {h : Int} {K p : Nat} {t1 : SetTable} (hK : way t.mask h K ∉ t.place.toList) (hb : ∀ k, k < K → way t.mask h k ∈ t.place.toList) (e : t.put (way t.mask h K) = (t1, p)) :
    p ≤ hs.length ∧ Tb t1 (hs.take p ++ h :: hs.drop p) ∧ t1.mask = t.mask ∧ t1.led = t.led ∧ t1.plain = t.plain ∧ t1.fill = hs.length + 1 := by
  have ep : p = SetTable.below t.place (way t.mask h K) := (congrArg Prod.snd e).symm
  have et : t1 = (t.put (way t.mask h K)).1 := (congrArg Prod.fst e).symm
  have c1 := (below_cut T.ris (way t.mask h K)).1
  rw [← ep] at c1
  have hl : t.place.toList.length = hs.length := by rw [Array.length_toList]; exact T.sz
  have hp : p ≤ hs.length := by rw [← T.sz]; exact c1
  have hpl : p ≤ t.place.toList.length := by rw [hl]; exact hp
  have pl : t1.place.toList = t.place.toList.take p ++ way t.mask h K :: t.place.toList.drop p := by rw [et, put_place, ← ep]
  have hd : t1.dummies = #[] := by rw [et]; exact put_dm T.dm _
  have hm : t1.mask = t.mask := by rw [et]; rfl
  have sz1 : t1.place.size = hs.length + 1 := by rw [← Array.length_toList, pl, len_ins _ hpl, hl]
  have up : ∀ x, x ∈ t.place.toList → x ∈ t1.place.toList := fun x hx => by rw [pl]; exact mem_ins.2 (.inr hx)
  have np : t.place[SetTable.below t.place (way t.mask h K)]? ≠ some (way t.mask h K) := fun z => hK (List.mem_of_getElem? (by rw [Array.getElem?_toList]; exact z))
  refine ⟨hp, ⟨?_, hd, ?_, by rw [hm]; exact T.mok, ?_, ?_⟩, hm, by rw [et]; rfl, by rw [et]; rfl, ?_⟩
  · rw [et]
    exact ris_insert T.ris np
  · rw [sz1, len_ins _ hp]
  · intro x hx
    rw [pl] at hx
    rw [hm]
    rcases mem_ins.1 hx with rfl | z
    · exact way_in _ _ _
    · exact T.bd x z
  · intro i h' j' h1 h2
    rw [hm]
    rw [pl, tins_get _ hpl] at h2
    rw [tins_get _ hp] at h1
    split at h1
    · rename_i c
      rw [if_pos c] at h2
      exact (T.on i h' j' h1 h2).more up
    · rename_i c
      rw [if_neg c] at h2
      split at h1
      · rename_i d
        rw [if_pos d] at h2
        cases h1
        cases h2
        exact ⟨K, rfl, fun k' hk' => up _ (hb k' hk')⟩
      · rename_i d
        rw [if_neg d] at h2
        exact (T.on (i - 1) h' j' h1 h2).more up
  · show t1.place.size + t1.dummies.size = _
    rw [sz1, hd]
    rfl
end
/-! ### laid anew -/
/-- the places that are taken -/
def taken (m : Nat) (ow : Array (Option Nat)) : List Nat := (List.range (m + 1)).filter fun j => (oAt ow j).isSome
theorem mem_taken {m : Nat} {ow : Array (Option Nat)} {j : Nat} : j ∈ taken m ow ↔ j ≤ m ∧ oAt ow j ≠ none := by
  unfold taken
  rw [List.mem_filter, List.mem_range, Option.isSome_iff_ne_none, Nat.lt_succ_iff]
structure Lays (m : Nat) (hs : List Int) (ow : Array (Option Nat)) : Prop where
  sz : ow.size = m + 1
  len : (taken m ow).length = hs.length
  at_ : ∀ j k, j ≤ m → oAt ow j = some k → ∃ h, hs[k]? = some h ∧ Sits m (taken m ow) h j
  all : ∀ k, k < hs.length → ∃ j, j ≤ m ∧ oAt ow j = some k
theorem Lays.nil (m : Nat) : Lays m [] (Array.replicate (m + 1) none) := by
  have e : taken m (Array.replicate (m + 1) none) = [] := List.eq_nil_iff_forall_not_mem.mpr fun j hj => (mem_taken.mp hj).2 (oAt_init (mem_taken.mp hj).1)
  exact ⟨by simp, (congrArg List.length e), fun j k hj z => (by rw [oAt_init hj] at z; cases z), fun k hk => absurd hk (Nat.not_lt_zero _)⟩
theorem Lays.next {m : Nat} (hm : Msk m) {hs : List Int} {ow : Array (Option Nat)} (W : Lays m hs ow) (hl : hs.length ≤ m) (h : Int) :
    ∃ j, SetTable.layClean.free m ow (SetTable.turns m) (SetTable.bits h % (m + 1)) (SetTable.bits h) = some j ∧ Lays m (hs ++ [h]) (ow.setIfInBounds j (some hs.length)) := by
  obtain ⟨j0, h0, hn0⟩ := st_missing (taken m ow) (m + 1) (by rw [W.len]; omega)
  have hj0 : j0 ≤ m := Nat.le_of_lt_succ h0
  obtain ⟨n, hn, en⟩ := meets_run hm h hj0
  have hw : way m h (off m (SetTable.bits h % (m + 1)) (SetTable.bits h) n) = j0 := by
    show (nth m (runAt m _ _) (off m _ _ n)).j = j0
    rw [nth_off, itL_run]
    exact en
  obtain ⟨K, k1, k2, k3⟩ := st_least (p := fun k => way m h k ∉ taken m ow) (off m (SetTable.bits h % (m + 1)) (SetTable.bits h) n) (by show way m h _ ∉ _; rw [hw]; exact hn0)
  have k3 : ∀ k, k < K → way m h k ∈ taken m ow := fun k hk => Classical.byContradiction fun c => k3 k hk c
  have hjm := way_in m h K
  have hfree : oAt ow (way m h K) = none := Classical.byContradiction fun c => k2 (mem_taken.mpr ⟨hjm, c⟩)
  have hjs : way m h K < ow.size := by rw [W.sz]; exact Nat.lt_succ_of_le hjm
  have self := oAt_set_self (some hs.length) hjs
  have same : ∀ i, i ≠ way m h K → oAt (ow.setIfInBounds (way m h K) (some hs.length)) i = oAt ow i := fun i c => oAt_set_ne _ c
  have tk : ∀ x, x ∈ taken m (ow.setIfInBounds (way m h K) (some hs.length)) ↔ x = way m h K ∨ x ∈ taken m ow := fun x => by
    rw [mem_taken, mem_taken]
    by_cases c : x = way m h K
    · rw [c, self]
      exact ⟨fun _ => .inl rfl, fun _ => ⟨hjm, by simp⟩⟩
    · rw [same x c]
      exact ⟨fun z => .inr z, fun z => z.resolve_left c⟩
  refine ⟨way m h K, ?_, by rw [Array.size_setIfInBounds]; exact W.sz, ?_, fun j k hj e => ?_, fun k hk => ?_⟩
  · refine free_spec m ow (SetTable.turns m) n _ _ K (by unfold SetTable.turns; omega) k1 (fun k hk => ?_) ?_
    · have := (mem_taken.mp (k3 k hk)).2
      show (oAt ow (way m h k)).isNone = false
      cases z : oAt ow (way m h k) with
      | none => exact absurd z this
      | some _ => rfl
    · show (oAt ow (way m h K)).isNone = true
      rw [hfree]
      rfl
  · have nd : ∀ o, (taken m o).Nodup := fun o => List.nodup_range.filter _
    have p : (taken m (ow.setIfInBounds (way m h K) (some hs.length))).Perm (way m h K :: taken m ow) :=
      (List.perm_ext_iff_of_nodup (nd _) (List.nodup_cons.mpr ⟨k2, nd _⟩)).mpr fun x => by rw [tk, List.mem_cons]
    rw [p.length_eq, List.length_cons, W.len, List.length_append]
    rfl
  · by_cases c : j = way m h K
    · rw [c, self] at e
      cases e
      refine ⟨h, by simp, K, c.symm, fun k' hk' => (tk _).mpr (.inr (k3 k' hk'))⟩
    · rw [same j c] at e
      obtain ⟨h', a1, a2⟩ := W.at_ j k hj e
      refine ⟨h', ?_, a2.more fun x hx => (tk x).mpr (.inr hx)⟩
      rw [List.getElem?_append_left (List.getElem?_eq_some_iff.mp a1).1]
      exact a1
  · by_cases c : k < hs.length
    · obtain ⟨j, hj, e⟩ := W.all k c
      refine ⟨j, hj, ?_⟩
      rw [same j fun z => by rw [z, hfree] at e; cases e]
      exact e
    · have : k = hs.length := by
        rw [List.length_append, List.length_singleton] at hk
        omega
      rw [this]
      exact ⟨way m h K, hjm, self⟩
theorem lays_all {m : Nat} (hm : Msk m) : ∀ (rest done : List Int) (ow : Array (Option Nat)), Lays m done ow → done.length + rest.length ≤ m →
    ∃ ow', rest.foldl (stepF m) (some (ow, done.length)) = some (ow', (done ++ rest).length) ∧ Lays m (done ++ rest) ow'
  | [], done, ow, W, _ => ⟨ow, by simp, by simpa using W⟩
  | h :: rest, done, ow, W, hl => by
    simp only [List.length_cons] at hl
    obtain ⟨j, e, W'⟩ := W.next hm (by omega) h
    obtain ⟨ow', f, W2⟩ := lays_all hm rest (done ++ [h]) _ W' (by simp; omega)
    rw [List.append_assoc] at f W2
    refine ⟨ow', ?_, W2⟩
    rw [List.foldl_cons, stepF_some e]
    simpa using f
/-- a table laid anew has all, each found again -/
theorem anew_ok (t : SetTable) {hs : Array Int} {wanted m : Nat} (hw : SetTable.sizeAbove wanted = m + 1) (hm : Msk m) (hn : hs.size ≤ m) :
    ∃ t' order, t.relaid hs wanted = some (t', order) ∧ order.toList.Perm (List.range hs.size) ∧ Tb t' (order.toList.map fun i => hs.getD i 0) ∧ t'.mask = m ∧ t'.led = t.led ∧ t'.plain = t.plain := by
  obtain ⟨ow, f, W⟩ := lays_all hm hs.toList [] _ (Lays.nil m) (by simp; exact hn)
  rw [List.nil_append] at f W
  have hw : SetTable.sizeAbove wanted - 1 = m := by omega
  have lc : SetTable.layClean m hs = some ow := by
    rw [layClean_eq]
    show Option.map _ (hs.toList.foldl (stepF m) (some (Array.replicate (m + 1) none, ([] : List Int).length))) = _
    rw [f]
    rfl
  have hr : t.relaid hs wanted = some (tabOf t m ow, ((liveOf m ow).map (·.2)).toArray) := by
    rw [relaid_eq, hw, lc]
    rfl
  have hfst : (liveOf m ow).map (·.1) = taken m ow := by
    unfold liveOf taken
    have key : ∀ l : List Nat, (∀ x ∈ l, x < m + 1) → (l.filterMap fun j => (ow.getD j none).map (j, ·)).map (·.1) = l.filter fun j => (oAt ow j).isSome := by
      intro l
      induction l with
      | nil => intro _; rfl
      | cons x l ih =>
        intro hx
        have hx0 := hx x List.mem_cons_self
        rw [List.filterMap_cons, List.filter_cons, oAt_none (by rw [W.sz]; exact hx0)]
        cases z : oAt ow x with
        | none => simpa using ih fun y hy => hx y (List.mem_cons_of_mem _ hy)
        | some k =>
          simp only [Option.map_some, List.map_cons, Option.isSome_some, if_true]
          rw [ih fun y hy => hx y (List.mem_cons_of_mem _ hy)]
    exact key _ fun x hx => List.mem_range.mp hx
  have hlen : (liveOf m ow).length = hs.size := by
    have := congrArg List.length hfst
    rw [List.length_map, W.len] at this
    simpa using this
  refine ⟨tabOf t m ow, _, hr, ?_, ⟨?_, rfl, ?_, hm, ?_, ?_⟩, rfl, rfl, rfl⟩
  · refine perm_range hs.size _ (by simpa using hlen) fun k hk => ?_
    obtain ⟨j, b1, b2⟩ := W.all k (by simpa using hk)
    exact List.mem_map.mpr ⟨(j, k), (mem_live W.sz).2 ⟨b1, b2⟩, rfl⟩
  · show Ris ((liveOf m ow).map (·.1))
    rw [hfst]
    exact (List.pairwise_lt_range (n := m + 1)).filter _
  · simp [tabOf]
  · intro x hx
    have hx : x ∈ (liveOf m ow).map (·.1) := hx
    rw [hfst] at hx
    exact (mem_taken.mp hx).1
  · intro i h j h1 h2
    have h2 : ((liveOf m ow).map (·.1))[i]? = some j := h2
    have h1 : (((liveOf m ow).map (·.2)).map fun i => hs.getD i 0)[i]? = some h := h1
    show Sits m ((liveOf m ow).map (·.1)) h j
    rw [hfst]
    simp only [List.getElem?_map] at h1 h2
    cases hq : (liveOf m ow)[i]? with
    | none => rw [hq] at h2; cases h2
    | some q =>
      obtain ⟨y, k⟩ := q
      rw [hq] at h1 h2
      simp only [Option.map_some, Option.some.injEq] at h1 h2
      subst h2
      obtain ⟨b1, b2⟩ := (mem_live W.sz).1 (List.mem_of_getElem? hq)
      obtain ⟨h0, a1, a2⟩ := W.at_ y k b1 b2
      have : hs.getD k 0 = h0 := by
        rw [Array.getD_eq_getD_getElem?, ← Array.getElem?_toList, a1]
        rfl
      rw [← h1, this]
      exact a2
end Ev

set_option Elab.async false
set_option linter.all false
set_option autoImplicit false
set_option maxHeartbeats 2000000
set_option maxRecDepth 100000
/-! Ev, part Sb: sets whose members are ints and texts, or tuples of such to any depth. -/
namespace Ev
variable [ClsTab]
open PySem PySem.Spec PyProof.Rows L2
abbrev NK := NestedKey
omit [ClsTab] in
theorem perm_pull {α β : Type} (f : α → β) {l1 l2 : List β} (h : l1.Perm l2) : ∀ L : List α, l1 = L.map f → ∃ L' : List α, l2 = L'.map f ∧ L'.Perm L := by
  induction h with
  | nil => intro L e; exact ⟨L, e, .refl _⟩
  | cons x h ih =>
    intro L e
    cases L with
    | nil => cases e
    | cons a L =>
      simp only [List.map_cons, List.cons.injEq] at e
      obtain ⟨L', e', p⟩ := ih L e.2
      exact ⟨a :: L', by rw [List.map_cons, ← e.1, e'], p.cons a⟩
  | swap x y l =>
    intro L e
    match L, e with
    | a :: b :: L, e =>
      simp only [List.map_cons, List.cons.injEq] at e
      exact ⟨b :: a :: L, by simp [e.1, e.2.1, e.2.2], .swap a b L⟩
  | trans h1 h2 ih1 ih2 =>
    intro L e
    obtain ⟨L1, e1, p1⟩ := ih1 L e
    obtain ⟨L2, e2, p2⟩ := ih2 L1 e1
    exact ⟨L2, e2, p2.trans p1⟩
def leafK : Key → NK
  | .inl i => .num i
  | .inr x => .text x
omit [ClsTab] in
theorem leafK_inj {a b : Key} (h : leafK a = leafK b) : a = b := by
  cases a <;> cases b <;> first | (cases h; rfl) | cases h
/-- leaves are looked for one by one, tuples through the table -/
inductive Kd where
  | leaf | tup
abbrev Mb := Value × NK
def Kd.Of : Kd → Mb → Prop
  | .leaf, p => ∃ k, p.2 = leafK k ∧ keyIs k p.1 = true
  | .tup, p => ∃ ks b, p.2 = .tup ks ∧ p.1 = .ref b
def rowsN (w : World) (L : List Mb) : List (Int × Value) := L.map fun p => (p.2.hash w, p.1)
abbrev hashN (w : World) (L : List Mb) : List Int := L.map fun p => p.2.hash w
def MGood (h : Heap) (p : Mb) : Prop := NestedIs h p.2 p.1 ∧ p.2.depth ≤ 8
abbrev MANY : Nat := 1200
abbrev Ledw (w : World) (t : SetTable) : Prop := w.params.followText "set-order" = true ∨ t.led = true
structure SetB (w : World) (o : Obj) (kd : Kd) (L : List Mb) (es : Array (Int × Value)) (ep : Nat) (t : SetTable) : Prop where
  ex : o.ExactSet
  dt : o.data = .set es ep t
  rw_ : es.toList = rowsN w L
  fit : t.fits es.size = true
  ris : Ris t.place.toList
  led : Ledw w t
  tb : kd = .tup → Tb t (hashN w L) ∧ L.length * 5 < t.mask * 3
structure SetN (w : World) (h : Heap) (a : Addr) (kd : Kd) (L : List Mb) : Prop where
  ob : ∃ o es ep t, h.get? a = some o ∧ SetB w o kd L es ep t
  nd : (L.map (·.2)).Nodup
  good : ∀ p ∈ L, MGood h p
  of_ : ∀ p ∈ L, kd.Of p
  few : L.length < MANY
omit [ClsTab] in
theorem rows_len {w : World} {L : List Mb} {es : Array (Int × Value)} (h : es.toList = rowsN w L) : es.size = L.length := by
  have := congrArg List.length h
  simpa [rowsN] using this
omit [ClsTab] in
theorem rows_at {w : World} {L : List Mb} {es : Array (Int × Value)} (h : es.toList = rowsN w L) {i : Nat} {p : Mb} (hp : L[i]? = some p) : es[i]? = some (p.2.hash w, p.1) := by
  rw [← Array.getElem?_toList, h]
  unfold rowsN
  rw [List.getElem?_map, hp]
  rfl
section
variable {P : Program} {w : World} {A : Around} {E : Value → Shared → Prop} {s : Shared} {a : Addr} {kd : Kd} {L : List Mb}
omit [ClsTab] in
theorem MGood.at {h h' : Heap} {p : Mb} (g : MGood h p) (k : ∀ b o, h.get? b = some o → h'.get? b = some o) : MGood h' p := ⟨NestedIs.at (fun b o _ _ e _ => k b o e) _ _ g.1, g.2⟩
omit [ClsTab] in
theorem MGood.same {h h' : Heap} {p : Mb} {o : Obj} {es : Array (Int × Value)} {ep : Nat} {t : SetTable} (g : MGood h p) (ho : h.get? a = some o) (hd : o.data = .set es ep t) (sb : Heap.SameBut a h h') : MGood h' p := by
  refine ⟨NestedIs.at (fun b ob vs n e d => ?_) _ _ g.1, g.2⟩
  rw [sb.2 b fun z => by
    rw [z, ho] at e
    cases e
    rw [hd] at d
    cases d]
  exact e
omit [ClsTab] in
theorem SetN.at {h h' : Heap} (S : SetN w h a kd L) (k : ∀ b o, h.get? b = some o → h'.get? b = some o) : SetN w h' a kd L := by
  obtain ⟨o, es, ep, t, ho, B⟩ := S.ob
  exact ⟨⟨o, es, ep, t, k a o ho, B⟩, S.nd, fun p hp => (S.good p hp).at k, S.of_, S.few⟩
omit [ClsTab] in
theorem gw_no {t : SetTable} (hm : Msk t.mask) : ¬ t.gaveWay = true := by
  unfold SetTable.gaveWay
  rw [beq_iff_eq]
  rcases hm with e | e | e | e | e <;> rw [e] <;> decide

/-! ### small questions asked of members -/
omit [ClsTab] in
theorem ofClass_no : ∀ (k : NK) (v : Value) (n : Nat) (s : Shared) (A : Around) (Q : Bool → Shared → Prop), NestedIs s.heap k v → k.depth ≤ n → Q false s → wpAny (model P w) A (ofAClassStatement n v) Q E s
  | .none, v, n, s, A, Q, h, _, q => by cases h; cases n <;> exact wpAny_pure q
  | .num i, v, n, s, A, Q, h, _, q => by cases h <;> (cases n <;> exact wpAny_pure q)
  | .text x, v, n, s, A, Q, h, _, q => by cases h; cases n <;> exact wpAny_pure q
  | .tup ks, v, 0, s, A, Q, h, hn, q => by simp [NestedKey.depth] at hn
  | .tup ks, v, n + 1, s, A, Q, h, hn, q => by
    cases h with
    | tup ho hc hd hi =>
      rename_i b o vs m
      unfold ofAClassStatement
      refine wpAny_bind (wpAny_typeOf ⟨o, ho, hc⟩ ?_)
      dsimp only
      refine wpAny_bind (wpAny_pure ?_)
      simp only [Bool.not_true, Bool.false_eq_true, if_false]
      refine wpAny_bind (wpAny_seqItems ho hd ?_)
      dsimp only
      refine wpAny_bind ?_
      show wpAny _ _ (forIn vs _ _) _ _ s
      rw [← Array.forIn_toList]
      have key : ∀ v ∈ vs.toList, ∀ A Q, Q false s → wpAny (model P w) A (ofAClassStatement n v) Q E s := all ks vs.toList n s hi (by simp only [NestedKey.depth] at hn; omega)
      refine wpAny_forIn_list _ (fun rest r s' => r.1 = none ∧ s' = s ∧ ∀ v ∈ rest, v ∈ vs.toList) _ ?_ ?_ _ _ ⟨rfl, rfl, fun _ h => h⟩
      · rintro v rest r s' ⟨hr, rfl, ha⟩
        refine wpAny_bind (key v (ha v List.mem_cons_self) _ _ ?_)
        simp only [Bool.false_eq_true, if_false]
        exact wpAny_pure ⟨rfl, rfl, fun u hu => ha u (List.mem_cons_of_mem _ hu)⟩
      · rintro ⟨r1, r2⟩ s' ⟨hr, rfl, _⟩
        simp only at hr
        subst hr
        exact wpAny_pure q
where
  all : ∀ (ks : List NK) (vs : List Value) (n : Nat) (s : Shared), NestedAll s.heap ks vs → NestedKey.depthAll ks ≤ n → ∀ v ∈ vs, ∀ A (Q : Bool → Shared → Prop), Q false s → wpAny (model P w) A (ofAClassStatement n v) Q E s
    | [], _, n, s, h, _, v, hv, A, Q, q => by cases h; cases hv
    | k :: ks, _, n, s, h, hn, v, hv, A, Q, q => by
      cases h with
      | cons h1 h2 =>
        simp only [NestedKey.depthAll] at hn
        rcases List.mem_cons.mp hv with rfl | hv
        · exact ofClass_no k _ n s A Q h1 (by omega) q
        · exact all ks _ n s h2 (by omega) v hv A Q q
omit [ClsTab] in
theorem byValue_some : ∀ (k : NK) (v : Value) (n : Nat) (s : Shared) (A : Around) (Q : Bool → Shared → Prop), NestedIs s.heap k v → (∀ b, Q b s) → wpAny (model P w) A (hashByValue n v) Q E s
  | .none, v, n, s, A, Q, h, q => by cases h; cases n <;> exact wpAny_pure (q _)
  | .num i, v, n, s, A, Q, h, q => by cases h <;> (cases n <;> exact wpAny_pure (q _))
  | .text x, v, n, s, A, Q, h, q => by cases h; cases n <;> exact wpAny_pure (q _)
  | .tup ks, v, 0, s, A, Q, h, q => by
    cases h
    exact wpAny_pure (q _)
  | .tup ks, v, n + 1, s, A, Q, h, q => by
    cases h with
    | tup ho hc hd hi =>
      rename_i b o vs m
      unfold hashByValue
      refine wpAny_bind (wpAny_specialOf (T := "tuple") ⟨o, ho, hc⟩ F.slot_tuple_hash.lookup ?_)
      show wpAny _ _ (seqItems? (.ref b) >>= _) _ _ s
      refine wpAny_bind (wpAny_seqItems ho hd ?_)
      refine wpAny_bind ?_
      show wpAny _ _ (forIn vs _ _) _ _ s
      rw [← Array.forIn_toList]
      have key : ∀ v ∈ vs.toList, ∀ A (Q : Bool → Shared → Prop), (∀ b, Q b s) → wpAny (model P w) A (hashByValue n v) Q E s := all ks vs.toList n s hi
      refine wpAny_forIn_list _ (fun rest r s' => r.1 = none ∧ s' = s ∧ ∀ v ∈ rest, v ∈ vs.toList) _ ?_ ?_ _ _ ⟨rfl, rfl, fun _ h => h⟩
      · rintro v rest r s' ⟨hr, rfl, ha⟩
        refine wpAny_bind (key v (ha v List.mem_cons_self) _ _ fun c => ?_)
        cases c
        · simp only [Bool.not_false, if_true]
          exact wpAny_pure (wpAny_pure (q _))
        · simp only [Bool.not_true, Bool.false_eq_true, if_false]
          exact wpAny_pure ⟨rfl, rfl, fun u hu => ha u (List.mem_cons_of_mem _ hu)⟩
      · rintro ⟨r1, r2⟩ s' ⟨hr, rfl, _⟩
        simp only at hr
        subst hr
        exact wpAny_pure (q _)
where
  all : ∀ (ks : List NK) (vs : List Value) (n : Nat) (s : Shared), NestedAll s.heap ks vs → ∀ v ∈ vs, ∀ A (Q : Bool → Shared → Prop), (∀ b, Q b s) → wpAny (model P w) A (hashByValue n v) Q E s
    | [], _, n, s, h, v, hv, A, Q, q => by cases h; cases hv
    | k :: ks, _, n, s, h, v, hv, A, Q, q => by
      cases h with
      | cons h1 h2 =>
        rcases List.mem_cons.mp hv with rfl | hv
        · exact byValue_some k _ n s A Q h1 q
        · exact all ks _ n s h2 v hv A Q q
omit [ClsTab] in
theorem unseen {x : NK} {b : Addr} (hx : MGood s.heap (.ref b, x)) {ys : List Value} (hy : ∀ y ∈ ys, ∃ k c, y = Value.ref c ∧ MGood s.heap (y, k)) {Q : Bool → Shared → Prop} (q : Q false s) : wpAny (model P w) A (searchCouldBeSeen (.ref b) ys) Q E s := by
  unfold searchCouldBeSeen
  refine wpAny_bind ?_
  refine wpAny_forIn_list _ (fun rest r s' => r.1 = none ∧ s' = s ∧ ∀ y ∈ rest, ∃ k c, y = Value.ref c ∧ MGood s.heap (y, k)) _ ?_ ?_ _ _ ⟨rfl, rfl, hy⟩
  · rintro v rest r s' ⟨hr, rfl, ha⟩
    obtain ⟨k, c, rfl, hk⟩ := ha v List.mem_cons_self
    have ha' : ∀ y ∈ rest, ∃ k c, y = Value.ref c ∧ MGood s'.heap (y, k) := fun u hu => ha u (List.mem_cons_of_mem _ hu)
    dsimp only
    by_cases hv : (b == c || (carriedByValue (.ref b) && carriedByValue (.ref c))) = true
    · refine wp_if_pos hv ?_
      exact wpAny_pure ⟨rfl, rfl, ha'⟩
    · refine wp_if_neg hv ?_
      refine wpAny_bind (quiet_key _ _ 8 _ hx.1 hx.2 _ _ _ ?_)
      simp only [Bool.not_true, Bool.false_eq_true, if_false]
      refine wpAny_bind (quiet_key _ _ 8 _ hk.1 hk.2 _ _ _ ?_)
      simp only [Bool.not_true, Bool.false_eq_true, if_false]
      refine wpAny_bind (ofClass_no _ _ 8 _ _ _ hx.1 hx.2 ?_)
      simp only [Bool.false_eq_true, if_false]
      refine wpAny_bind (ofClass_no _ _ 8 _ _ _ hk.1 hk.2 ?_)
      simp only [Bool.false_eq_true, if_false]
      exact wpAny_pure ⟨rfl, rfl, ha'⟩
  · rintro ⟨r1, r2⟩ s' ⟨hr, rfl, _⟩
    simp only at hr
    subst hr
    exact wpAny_pure q
end
end Ev

set_option Elab.async false
set_option linter.all false
set_option autoImplicit false
set_option maxHeartbeats 2000000
set_option maxRecDepth 100000
/-! Ev, part Sc: a member is put in. -/
namespace Ev
variable [ClsTab]
open PySem PySem.Spec PyProof.Rows L2
section
variable {P : Program} {w : World} {A : Around} {E : Value → Shared → Prop} {s : Shared} {a : Addr} {kd : Kd} {L : List Mb}
omit [ClsTab] in
theorem leaf_hash (P : Program) (w : World) (k : Key) : (leafK k).hash w = (mixKind P w).hash k := by cases k <;> rfl
omit [ClsTab] in
theorem leaf_scan {k : Key} {v : Value} (h : keyIs k v = true) : v.scannable = true := by
  rcases keyIs_shape h with ⟨i, t, rfl, rfl⟩ | ⟨x, t, rfl, rfl⟩ <;> rfl
omit [ClsTab] in
theorem leaf_mgood {h : Heap} {k : Key} {v : Value} (e : keyIs k v = true) : MGood h (v, leafK k) := by
  rcases keyIs_shape e with ⟨i, t, rfl, rfl⟩ | ⟨x, t, rfl, rfl⟩
  · exact ⟨.int i t, Nat.zero_le _⟩
  · exact ⟨.text x t, Nat.zero_le _⟩
omit [ClsTab] in
theorem leaf_elems (P : Program) (w : World) {es : List (Int × Value)} (he : es = rowsN w L) (ho : ∀ p ∈ L, Kd.leaf.Of p) : ElemsOf (mixKind P w) es := fun e h => by
  rw [he] at h
  obtain ⟨p, hp, rfl⟩ := List.mem_map.mp h
  obtain ⟨k, e1, e2⟩ := ho p hp
  exact ⟨⟨k, e2, by rw [e1]; exact leaf_hash P w k⟩, leaf_scan e2⟩
omit [ClsTab] in
theorem many_scan {n : Nat} (h : n < MANY) : n < scanBound := by
  unfold scanBound
  have : n < 1200 := h
  omega
omit [ClsTab] in
/-- what follows where a leaf is new -/
theorem leaf_tail {g : Bool → Sem Unit} (hg : ∀ (b : Bool) (s₁ : Shared) (Q' : Unit → Shared → Prop), Q' () s₁ → wpAny (model P w) A (g b) Q' E s₁)
    {o : Obj} {es : Array (Int × Value)} {ep : Nat} {t : SetTable} (ho : s.heap.get? a = some o) (hex : o.ExactSet) (hd : o.data = .set es ep t) {es1 : Array (Int × Value)} {t2 : SetTable} {L1 : List Mb}
    (e1 : es1.toList = rowsN w L1) (nd : (L1.map (·.2)).Nodup) (good : ∀ h, ∀ p ∈ L1, MGood h p) (of_ : ∀ p ∈ L1, Kd.leaf.Of p) (few : L1.length < MANY) (hf : t2.fits es1.size = true) (hr : Ris t2.place.toList) (hl : Ledw w t2) {dm : Bool} {R : Option Bool → Shared → Prop}
    (hR : ∀ h' L', Heap.SameBut a s.heap h' → SetN w h' a .leaf L' → L'.Perm L1 → R (some true) { s with heap := h' }) :
    wpAny (model P w) A (do
        storeSet a es1 t2
        if (!dm && t2.tooFull) = true then do
            g (relayAll t2 es1 (SetTable.grown es1.size)).2.2
            storeSet a (relayAll t2 es1 (SetTable.grown es1.size)).1 (relayAll t2 es1 (SetTable.grown es1.size)).2.1
            pure (some true)
          else pure (some true)) R E s := by
  have hb := many_scan few
  have hz := rows_len e1
  refine wpAny_bind (wpAny_storeSet_of ho hd ?_ (fits_of_scanBound (by rw [hz]; exact hb)))
  have ho1 := store_at (es' := es1) (t' := t2) ho hd
  have sb1 := Heap.SameBut.update s.heap a (Obj.putSet es1 t2)
  split
  · have pm := relayAll_perm t2 es1 (SetTable.grown es1.size)
    have f3 := relayAll_fits t2 es1 (SetTable.grown es1.size)
    have r3 := relayAll_ris t2 es1 (SetTable.grown es1.size)
    have l3 := relayAll_led t2 es1 (SetTable.grown es1.size)
    generalize relayAll t2 es1 (SetTable.grown es1.size) = Z at pm f3 r3 l3 ⊢
    obtain ⟨es2, t3, gave⟩ := Z
    dsimp only at pm f3 r3 l3 ⊢
    obtain ⟨L2, e2, p2⟩ := perm_pull _ pm.symm L1 e1
    have hz2 : es2.size = L2.length := rows_len e2
    refine wpAny_bind (hg _ _ _ ?_)
    refine wpAny_bind (wpAny_storeSet_of ho1 rfl ?_ (fits_of_scanBound (by rw [hz2, p2.length_eq]; exact hb)))
    have ho2 := store_at (es' := es2) (t' := t3) ho1 rfl
    refine wpAny_pure (hR _ L2 (sb1.trans (Heap.SameBut.update _ a _)) ⟨⟨_, es2, _, t3, ho2, hex, rfl, e2, f3, r3, hl.imp id fun z => by rw [l3]; exact z, nofun⟩, (p2.map _).nodup_iff.mpr nd, fun p hp => good _ p (p2.mem_iff.mp hp), fun p hp => of_ p (p2.mem_iff.mp hp), by rw [p2.length_eq]; exact few⟩ p2)
  · exact wpAny_pure (hR _ L1 sb1 ⟨⟨_, es1, _, t2, ho1, hex, rfl, e1, hf, hr, hl, nofun⟩, nd, good _, of_, few⟩ (.refl _))
omit [ClsTab] in
theorem add_leaf (S : SetN w s.heap a .leaf L) {k : Key} {v : Value} (hk : keyIs k v = true) (room : L.length + 1 < MANY) {Q : Bool → Shared → Prop}
    (hQ : ∀ b h' L', Heap.SameBut a s.heap h' → SetN w h' a .leaf L' → (leafK k ∈ L.map (·.2) → L' = L) → (leafK k ∉ L.map (·.2) → L'.Perm ((v, leafK k) :: L)) → Q b { s with heap := h' }) :
    wpAny (model P w) A (setAddHashed a v ((leafK k).hash w)) Q E s := by
  obtain ⟨⟨o, es, ep, t, ho, B⟩, nd, good, of_, few⟩ := id S
  have hel := leaf_elems P w B.rw_ of_
  have hkey : (mixKind P w).is k v = true := hk
  have hsc := leaf_scan hk
  have hz := rows_len B.rw_
  have mem_of : (∃ e ∈ es.toList, (mixKind P w).is k e.2 = true) ↔ leafK k ∈ L.map (·.2) := by
    rw [B.rw_]
    constructor
    · rintro ⟨e, he, q⟩
      obtain ⟨p, hp, rfl⟩ := List.mem_map.mp he
      obtain ⟨k', e1, e2⟩ := of_ p hp
      have : k' = k := (mixKind P w).inj _ _ _ e2 q
      subst this
      exact List.mem_map.mpr ⟨p, hp, e1⟩
    · intro h
      obtain ⟨p, hp, e0⟩ := List.mem_map.mp h
      obtain ⟨k', e1, e2⟩ := of_ p hp
      have : k' = k := leafK_inj (e1.symm.trans e0)
      subst this
      exact ⟨_, List.mem_map.mpr ⟨p, hp, rfl⟩, e2⟩
  rw [leaf_hash P w k]
  unfold setAddHashed setAddHashedIn
  refine wpAny_holding (wpAny_bind (wpAny_setState_of ho B.dt B.fit ?_))
  dsimp only
  rw [byScan_of hsc (by rw [hz]; exact many_scan few) hel]
  simp only [↓reduceIte]
  unfold setAddByScan
  refine wpAny_bind ?_
  refine wpAny_bind (wpAny_rule ?_)
  refine wpAny_bind (wpAny_setScan_of hkey ho B.dt B.fit hel ?_)
  cases hfi : List.findIdx? (fun e => (mixKind P w).is k e.2) es.toList with
  | some j =>
    dsimp only
    obtain ⟨hj, pj, _⟩ := List.findIdx?_eq_some_iff_getElem.mp hfi
    have hm := mem_of.mp ⟨_, List.getElem_mem hj, pj⟩
    exact wpAny_pure (wpAny_pure (hQ false s.heap L (Heap.SameBut.refl a s.heap) S (fun _ => rfl) fun z => absurd hm z))
  | none =>
    dsimp only
    have hm : leafK k ∉ L.map (·.2) := fun z => by
      obtain ⟨e, he, q⟩ := mem_of.mpr z
      rw [List.findIdx?_eq_none_iff.mp hfi e he] at q
      cases q
    have hgw : ∀ (b : Bool) {s₁ : Shared} {Q' : Unit → Shared → Prop}, Q' () s₁ → wpAny (model P w) A (match b with | true => rule "set.scan.the-table-gave-way" | false => pure ()) Q' E s₁ :=
      fun b s₁ Q' q => by cases b <;> first | exact wpAny_pure q | exact wpAny_rule q
    have pm := layNew_perm t es ((mixKind P w).hash k) v
    have f1 := layNew_fits t es ((mixKind P w).hash k) v
    have r1 := layNew_ris t es ((mixKind P w).hash k) v B.ris
    have l1 := layNew_led t es ((mixKind P w).hash k) v
    generalize layNew t es ((mixKind P w).hash k) v = Z at pm f1 r1 l1 ⊢
    obtain ⟨es1, t1, dm, gave⟩ := Z
    dsimp only at pm f1 r1 l1 ⊢
    rw [Array.toList_push] at pm
    have pc : es1.toList.Perm (rowsN w ((v, leafK k) :: L)) := by
      refine pm.trans ((List.perm_append_singleton _ _).trans ?_)
      rw [B.rw_, ← leaf_hash P w k]
      exact .refl _
    obtain ⟨L1, e1, p1⟩ := perm_pull _ pc.symm _ rfl
    have hled : Ledw w t1 := B.led.imp id fun z => by rw [l1]; exact z
    have nd1 : (L1.map (·.2)).Nodup := (p1.map _).nodup_iff.mpr (by rw [List.map_cons]; exact List.nodup_cons.mpr ⟨hm, nd⟩)
    have of1 : ∀ p ∈ L1, Kd.leaf.Of p := fun p hp => by
      rcases List.mem_cons.mp (p1.mem_iff.mp hp) with rfl | hp
      · exact ⟨k, rfl, hk⟩
      · exact of_ p hp
    have good1 : ∀ h, ∀ p ∈ L1, MGood h p := fun h p hp => by
      obtain ⟨k', e1, e2⟩ := of1 p hp
      obtain ⟨v', k2⟩ := p
      dsimp only at e1 e2
      subst e1
      exact leaf_mgood e2
    have few1 : L1.length < MANY := by rw [p1.length_eq]; exact room
    refine wpAny_bind (hgw _ ?_)
    split
    · refine wpAny_bind ?_
      rw [hashByValue_scannable 8 hsc]
      refine wpAny_pure ?_
      refine leaf_tail ?_ ho B.ex B.dt e1 nd1 good1 of1 few1 ?_ ?_ ?_ ?_
      · intro b s₁ Q' q; cases b <;> first | exact wpAny_pure q | exact wpAny_rule q
      · first | (split <;> first | exact f1 | exact SetTable.fits_plain_off f1) | exact f1
      · first | (split <;> exact r1) | exact r1
      · first | (split <;> exact hled) | exact hled
      · intro h' L' sb S' p'; dsimp only; exact wpAny_pure (hQ true h' L' sb S' (fun z => absurd z hm) fun _ => p'.trans p1)
    · refine wpAny_bind (wpAny_pure ?_)
      simp only [↓reduceIte]
      refine leaf_tail ?_ ho B.ex B.dt e1 nd1 good1 of1 few1 f1 r1 hled ?_
      · intro b s₁ Q' q; cases b <;> first | exact wpAny_pure q | exact wpAny_rule q
      · intro h' L' sb S' p'; dsimp only; exact wpAny_pure (hQ true h' L' sb S' (fun z => absurd z hm) fun _ => p'.trans p1)

/-! ### tuples: the search through the table -/
abbrev prb (m : Nat) (h : Int) (c : Nat) : SetTable.Probe := nth m (runAt m (SetTable.bits h % (m + 1)) (SetTable.bits h)) c
omit [ClsTab] in
theorem prb_dummy (m : Nat) (h : Int) (c : Nat) : (prb m h c).dummy = none := by
  have key : ∀ (n : Nat) (p : SetTable.Probe), p.dummy = none → (nth m p n).dummy = none := by
    intro n
    induction n with
    | zero => exact fun p h => h
    | succ n ih =>
      intro p h
      refine ih _ ?_
      unfold adv
      split <;> exact h
  exact key c _ rfl
omit [ClsTab] in
theorem prb_on (m : Nat) (h : Int) (c q : Nat) : nth m (prb m h c) q = prb m h (c + q) := (nth_add m c _ q).symm
omit [ClsTab] in
theorem find_tup (S : SetN w s.heap a .tup L) {b : Addr} {k : NK} (hk : MGood s.heap (.ref b, k)) (hu : A.units + 8 < cLine) {K : Nat} {o : Obj} {es : Array (Int × Value)} {ep : Nat} {t : SetTable} (ho : s.heap.get? a = some o) (B : SetB w o .tup L es ep t)
    (hKf : K < 10 * SetTable.turns t.mask) (hK : way t.mask (k.hash w) K ∉ t.place.toList) (hKb : ∀ c, c < K → way t.mask (k.hash w) c ∈ t.place.toList) {Q : SetFound → Shared → Prop}
    (hin : k ∈ L.map (·.2) → Q (.there none) s) (hout : k ∉ L.map (·.2) → Q (.free (way t.mask (k.hash w) K) false) s) :
    ∀ (f c : Nat) (st : Option SetTable.Probe), st.getD (t.probeStart (k.hash w)) = prb t.mask (k.hash w) c → c ≤ K → K - c < f →
      (∀ (i : Nat) p, L[i]? = some p → p.2 = k → ∃ c', c ≤ c' ∧ c' < K ∧ t.place.toList[i]? = some (way t.mask (k.hash w) c')) →
      wpAny (model P w) A (setSearchFrom a (.ref b) (k.hash w) true f st) Q E s
  | 0, c, st, _, _, hf, _ => absurd hf (Nat.not_lt_zero _)
  | f + 1, c, st, hst, hc, hf, left => by
    obtain ⟨T, _⟩ := B.tb rfl
    rw [setSearchFrom_succ]
    refine wpAny_bind (wpAny_setState_of ho B.dt B.fit ?_)
    dsimp only
    refine wp_if_neg (gw_no T.mok) ?_
    try refine wpAny_bind (wpAny_pure ?_)
    have onw : ∀ q, (nth t.mask (prb t.mask (k.hash w) c) q).j = way t.mask (k.hash w) (c + q) := fun q => by rw [prb_on]
    have hat : ∀ (i : Nat) p, L[i]? = some p → (es[i]?.map (·.1)).getD 0 = p.2.hash w := fun i p hp => by rw [rows_at B.rw_ hp]; rfl
    have spec := go_spec t T.ris T.dm (fun i => (es[i]?.map (·.1)).getD 0) (k.hash w) (10 * SetTable.turns t.mask) (K - c) (prb t.mask (k.hash w) c) (prb_dummy _ _ _) (by omega)
      (fun q hq => by rw [onw]; exact hKb (c + q) (by omega)) (by rw [onw, show c + (K - c) = K by omega]; exact hK)
    rcases spec with ⟨q, i, hq, hi, hh, hno, hpr⟩ | ⟨hno, hpr⟩
    · have hpr : t.probe (fun i => (es[i]?.map (·.1)).getD 0) (k.hash w) (st.getD (t.probeStart (k.hash w))) = some (.candidate (way t.mask (k.hash w) (c + q)) i (prb t.mask (k.hash w) (c + (q + 1)))) := by
        rw [hst, ← onw, ← prb_on]
        exact hpr
      rw [hpr]
      dsimp only
      rw [onw] at hi
      have hil : i < L.length := by
        have h1 := (List.getElem?_eq_some_iff.mp hi).1
        have h2 := T.sz
        rw [Array.length_toList, h2] at h1
        simpa using h1
      obtain ⟨p, hp⟩ : ∃ p, L[i]? = some p := ⟨_, List.getElem?_eq_getElem hil⟩
      have pm : p ∈ L := List.mem_of_getElem? hp
      obtain ⟨ks, bp, ek, ev⟩ := S.of_ p pm
      have gp := S.good p pm
      have rest : wpAny (model P w) A (searchRest a (.ref b) (k.hash w) true f es t (way t.mask (k.hash w) (c + q)) i (prb t.mask (k.hash w) (c + (q + 1)))) Q E s := by
        unfold searchRest
        rw [rows_at B.rw_ hp]
        dsimp only
        refine wpAny_bind (wpAny_holding (eqAt_key p.2 k _ s _ _ gp.1 hk.1 (by have := gp.2; have := Nat.min_le_left p.2.depth k.depth; omega) _ _ _ _ ?_))
        refine wpAny_bind (wpAny_setState_of ho B.dt B.fit ?_)
        dsimp only
        by_cases hkk : p.2 = k
        · refine wp_if_pos (by rw [hkk, NestedKey.beq_self]; rfl) (wpAny_pure (hin (List.mem_map.mpr ⟨p, pm, hkk⟩)))
        · have hb : NestedKey.beq p.2 k = false := by
            cases z : NestedKey.beq p.2 k with
            | false => rfl
            | true => exact absurd (NestedKey.eq_of_beq _ _ z) hkk
          refine wp_if_neg (by rw [hb]; decide) ?_
          try refine wpAny_bind (wpAny_pure ?_)
          rw [sameMem]
          dsimp only
          have hsl : t.slot (way t.mask (k.hash w) (c + q)) = .live i := slot_live T.ris hi
          simp only [if_true, hsl, rows_at B.rw_ hp]
          rw [ev]
          refine wpAny_bind (wpAny_isSame_ref_self (wpAny_bind (wpAny_pure ?_)))
          simp only [if_true]
          refine wp_if_neg (by rw [hb]; decide) ?_
          refine find_tup S hk hu ho B hKf hK hKb hin hout f (c + (q + 1)) _ rfl (by omega) (by omega) fun i0 p0 h0 hk0 => ?_
          obtain ⟨c', a1, a2, a3⟩ := left i0 p0 h0 hk0
          refine ⟨c', ?_, a2, a3⟩
          rcases Nat.lt_trichotomy c' (c + q) with z | z | z
          · exfalso
            refine hno (c' - c) i0 (by omega) (by rw [onw, show c + (c' - c) = c' by omega]; exact a3) ?_
            exact (hat i0 p0 h0).trans (by rw [hk0])
          · exfalso
            rw [z] at a3
            have s0 := slot_live T.ris a3
            rw [hsl] at s0
            cases s0
            rw [hp] at h0
            cases h0
            exact hkk hk0
          · omega
      by_cases hl : t.led = true
      · refine wp_if_neg (by simp [hl]) ?_
        try refine wpAny_bind (wpAny_pure ?_)
        exact rest
      · refine wp_if_pos (by simp [hl]) ?_
        refine wpAny_bind (unseen hk (fun y hy => ?_) ?_)
        · obtain ⟨e, he, rfl⟩ := List.mem_map.mp hy
          have he : e ∈ es.toList := by
            have : e ∈ es ∧ e.1 = k.hash w := by simpa using he
            simpa using this.1
          rw [B.rw_] at he
          obtain ⟨p2, hp2, rfl⟩ := List.mem_map.mp he
          obtain ⟨ks2, b2, e1, e2⟩ := S.of_ p2 hp2
          exact ⟨p2.2, b2, e2, S.good p2 hp2⟩
        · refine wp_if_neg (by decide) ?_
          try refine wpAny_bind (wpAny_pure ?_)
          exact rest
    · have hpr : t.probe (fun i => (es[i]?.map (·.1)).getD 0) (k.hash w) (st.getD (t.probeStart (k.hash w))) = some (.empty (way t.mask (k.hash w) K) none) := by
        have e2 : way t.mask (k.hash w) K = (nth t.mask (prb t.mask (k.hash w) c) (K - c)).j := by rw [onw, show c + (K - c) = K by omega]
        rw [hst, e2]
        exact hpr
      rw [hpr]
      dsimp only
      refine wpAny_pure (hout fun hm => ?_)
      obtain ⟨p0, h0, hk0⟩ := List.mem_map.mp hm
      obtain ⟨i0, hi0, e0⟩ := List.getElem_of_mem h0
      have h00 : L[i0]? = some p0 := by rw [List.getElem?_eq_getElem hi0, e0]
      obtain ⟨c', a1, a2, a3⟩ := left i0 p0 h00 hk0
      refine hno (c' - c) i0 (by omega) (by rw [onw, show c + (c' - c) = c' by omega]; exact a3) ?_
      exact (hat i0 p0 h00).trans (by rw [hk0])
end
end Ev

set_option Elab.async false
set_option linter.all false
set_option autoImplicit false
set_option maxHeartbeats 2000000
set_option maxRecDepth 100000
/-! Ev, part Sd: a tuple is put in; set(..). -/
namespace Ev
variable [ClsTab]
open PySem PySem.Spec PyProof.Rows L2
section
variable {P : Program} {w : World} {A : Around} {E : Value → Shared → Prop} {s : Shared} {a : Addr} {kd : Kd} {L : List Mb}
theorem search_tup (S : SetN w s.heap a .tup L) {b : Addr} {k : NK} (hk : MGood s.heap (.ref b, k)) (hu : A.units + 8 < cLine) {o : Obj} {es : Array (Int × Value)} {ep : Nat} {t : SetTable} (ho : s.heap.get? a = some o) (B : SetB w o .tup L es ep t) {Q : SetFound → Shared → Prop}
    (hin : k ∈ L.map (·.2) → Q (.there none) s)
    (hout : ∀ K, k ∉ L.map (·.2) → way t.mask (k.hash w) K ∉ t.place.toList → (∀ c, c < K → way t.mask (k.hash w) c ∈ t.place.toList) → Q (.free (way t.mask (k.hash w) K) false) s) :
    wpAny (model P w) A (setSearch a (.ref b) (k.hash w) true) Q E s := by
  obtain ⟨T, room⟩ := B.tb rfl
  have hl : t.place.toList.length = L.length := by rw [Array.length_toList, T.sz, List.length_map]
  obtain ⟨K, hKf, hK, hKb⟩ := way_first T.mok t.place.toList (by rw [hl]; omega) (k.hash w)
  have big : K < 100000 := by
    have : 10 * SetTable.turns t.mask ≤ 20620 := by
      unfold SetTable.turns
      rcases T.mok with e | e | e | e | e <;> omega
    omega
  unfold setSearch
  refine find_tup S hk hu ho B hKf hK hKb hin (fun hn => hout K hn hK hKb) 100000 0 none rfl (Nat.zero_le _) (by omega) fun i p hp e => ?_
  have hi : (hashN w L)[i]? = some (k.hash w) := by rw [List.getElem?_map, hp, ← e]; rfl
  have hil : i < t.place.toList.length := by rw [hl]; exact (List.getElem?_eq_some_iff.mp hp).1
  have hj := List.getElem?_eq_getElem hil
  obtain ⟨c, hc, ec⟩ := (T.on i _ _ hi hj).before (List.mem_of_getElem? hj) hK
  exact ⟨c, Nat.zero_le _, hc, by rw [ec]; exact hj⟩
/-- the sizes at which a table is laid anew, and the next -/
def nextM : Nat → Nat
  | 7 => 31 | 31 => 127 | 127 => 511 | _ => 2047
def fullAt : Nat → Nat
  | 7 => 5 | 31 => 19 | 127 => 77 | _ => 307
omit [ClsTab] in
theorem grow_at : ∀ m, m = 7 ∨ m = 31 ∨ m = 127 ∨ m = 511 → SetTable.sizeAbove (SetTable.grown (fullAt m)) = nextM m + 1 ∧ Msk (nextM m) := by
  rintro m (rfl | rfl | rfl | rfl)
  · exact ⟨by decide +kernel, .inr (.inl rfl)⟩
  · exact ⟨by decide +kernel, .inr (.inr (.inl rfl))⟩
  · exact ⟨by decide +kernel, .inr (.inr (.inr (.inl rfl)))⟩
  · exact ⟨by decide +kernel, .inr (.inr (.inr (.inr rfl)))⟩
omit [ClsTab] in
theorem full_msk {m n : Nat} (hm : Msk m) (room : n * 5 < m * 3) (full : (n + 1) * 5 ≥ m * 3) (few : n + 1 < MANY) : (m = 7 ∨ m = 31 ∨ m = 127 ∨ m = 511) ∧ n + 1 = fullAt m := by
  have few : n + 1 < 1200 := few
  rcases hm with rfl | rfl | rfl | rfl | rfl
  · exact ⟨.inl rfl, by show n + 1 = 5; omega⟩
  · exact ⟨.inr (.inl rfl), by show n + 1 = 19; omega⟩
  · exact ⟨.inr (.inr (.inl rfl)), by show n + 1 = 77; omega⟩
  · exact ⟨.inr (.inr (.inr rfl)), by show n + 1 = 307; omega⟩
  · omega
omit [ClsTab] in
theorem next_room {m n : Nat} (h : m = 7 ∨ m = 31 ∨ m = 127 ∨ m = 511) (e : n = fullAt m) : n * 5 < nextM m * 3 ∧ n ≤ nextM m ∧ n ≤ m ∧ nextM m < 4000 := by
  subst e
  rcases h with rfl | rfl | rfl | rfl <;> decide
omit [ClsTab] in
theorem relay_tup {o : Obj} {es : Array (Int × Value)} {ep : Nat} {t : SetTable} (ho : s.heap.get? a = some o) (hex : o.ExactSet) (hd : o.data = .set es ep t) (hr : es.toList = rowsN w L) (hf : t.fits es.size = true)
    (nd : (L.map (·.2)).Nodup) (good : ∀ p ∈ L, MGood s.heap p) (of_ : ∀ p ∈ L, Kd.tup.Of p) (led : Ledw w t) (few : L.length < MANY) {m : Nat} (hm : m = 7 ∨ m = 31 ∨ m = 127 ∨ m = 511) (hn : L.length = fullAt m) {Q : Unit → Shared → Prop}
    (hQ : ∀ h' L', Heap.SameBut a s.heap h' → SetN w h' a .tup L' → L'.Perm L → Q () { s with heap := h' }) : wpAny (model P w) A (setRelay a (SetTable.grown L.length)) Q E s := by
  have hz := rows_len hr
  obtain ⟨g1, g2⟩ := grow_at m hm
  obtain ⟨n1, n2, n3, n4⟩ := next_room hm hn
  rw [← hn] at g1
  obtain ⟨t', order, e, hp, T, em, el, _⟩ := anew_ok t (hs := es.map (·.1)) (wanted := SetTable.grown L.length) g1 g2 (by rw [Array.size_map, hz]; exact n2)
  rw [Array.size_map, hz] at hp
  have pe : (order.filterMap (es[·]?)).toList.Perm es.toList := by
    rw [Array.toList_filterMap]
    refine (hp.filterMap _).trans ?_
    rw [← hz, filterMap_getElem?_range]
  obtain ⟨L2, r1, r2⟩ := perm_pull _ pe.symm L hr
  have hz2 : (order.filterMap (es[·]?)).size = es.size := by rw [← Array.length_toList, pe.length_eq, Array.length_toList]
  have hh : (order.toList.map fun i => (es.map (·.1)).getD i 0) = hashN w L2 := by
    have h1 : hashN w L2 = (order.filterMap (es[·]?)).toList.map (·.1) := by
      rw [r1, List.map_map]
      rfl
    rw [h1, Array.toList_filterMap]
    have key : ∀ l : List Nat, (∀ i ∈ l, i < es.size) → (l.map fun i => (es.map (·.1)).getD i 0) = (l.filterMap (es[·]?)).map (·.1) := by
      intro l
      induction l with
      | nil => intro _; rfl
      | cons i l ih =>
        intro hl
        have hi := hl i List.mem_cons_self
        rw [List.filterMap_cons_some (Array.getElem?_eq_getElem hi), List.map_cons, List.map_cons, ih fun j hj => hl j (List.mem_cons_of_mem _ hj)]
        congr 1
        simp [Array.getD_eq_getD_getElem?, hi]
    exact key _ fun i hi => by rw [hz]; exact List.mem_range.mp (hp.mem_iff.mp hi)
  rw [hh] at T
  rw [setRelay_eq]
  refine wpAny_bind (wpAny_setState_of ho hd hf ?_)
  dsimp only
  refine wp_if_neg (by rw [g1, sizeLine_eq]; omega) ?_
  try refine wpAny_bind (wpAny_pure ?_)
  rw [e]
  dsimp only
  refine wpAny_bind ?_
  refine wp_if_neg (by rw [hz2]; simp) ?_
  try refine wpAny_bind (wpAny_pure ?_)
  refine wpAny_pure ?_
  dsimp only
  have f2 : t'.fits (order.filterMap (es[·]?)).size = true := by
    unfold SetTable.fits SetTable.fill
    have := T.sz
    rw [List.length_map, r2.length_eq] at this
    rw [T.dm, hz2, hz, Bool.and_eq_true, beq_iff_eq, decide_eq_true_eq, this, em]
    exact ⟨rfl, n2⟩
  refine wpAny_storeSet_of ho hd ?_ (by rw [hz2, hz, sizeLine_eq]; have : L.length < 1200 := few; omega)
  have sb : Heap.SameBut a s.heap (s.heap.update a (Obj.putSet (order.filterMap (es[·]?)) t')) := Heap.SameBut.update ..
  refine hQ _ L2 sb ⟨⟨_, _, _, t', store_at ho hd, ⟨hex.1, hex.2.1, hex.2.2⟩, rfl, r1, f2, T.ris, by rw [Ledw, el]; exact led, fun _ => ⟨T, by rw [r2.length_eq, em]; exact n1⟩⟩, (r2.map _).nodup_iff.mpr nd, fun p hp => (good p (r2.mem_iff.mp hp)).same ho hd sb, fun p hp => of_ p (r2.mem_iff.mp hp), by rw [r2.length_eq]; exact few⟩ r2
omit [ClsTab] in
theorem wp_pull {α : Type} {M : Model} {c : Prop} [Decidable c] {x y : Sem α} {β : Type} {f : α → Sem β} {Q : β → Shared → Prop} (h1 : c → wpAny M A (x >>= f) Q E s) (h2 : ¬ c → wpAny M A (y >>= f) Q E s) : wpAny M A ((if c then x else y) >>= f) Q E s := by
  split
  · exact h1 ‹_›
  · exact h2 ‹_›
theorem add_tup (S : SetN w s.heap a .tup L) {b : Addr} {ks : List NK} (hk : MGood s.heap (.ref b, .tup ks)) (hu : A.units + 8 < cLine) (room : L.length + 1 < MANY) {Q : Bool → Shared → Prop}
    (hQ : ∀ c h' L', Heap.SameBut a s.heap h' → SetN w h' a .tup L' → (NestedKey.tup ks ∈ L.map (·.2) → L' = L) → (NestedKey.tup ks ∉ L.map (·.2) → L'.Perm ((.ref b, .tup ks) :: L)) → Q c { s with heap := h' }) :
    wpAny (model P w) A (setAddHashed a (.ref b) ((NestedKey.tup ks).hash w)) Q E s := by
  obtain ⟨⟨o, es, ep, t, ho, B⟩, nd, good, of_, few⟩ := id S
  obtain ⟨T, hroom⟩ := B.tb rfl
  have hz := rows_len B.rw_
  generalize hkk : NestedKey.tup ks = k at hk hQ ⊢
  unfold setAddHashed
  refine wpAny_holding ?_
  rw [show (100000 : Nat) = 99999 + 1 from rfl, setAddHashedIn_succ]
  refine wpAny_bind (wpAny_setState_of ho B.dt B.fit ?_)
  dsimp only
  refine wp_if_neg (by simp [byScan, Value.scannable]) ?_
  try refine wpAny_bind (wpAny_pure ?_)
  refine wpAny_bind (search_tup S hk hu ho B (fun hm => ?_) fun K hm hK hb => ?_)
  · dsimp only
    exact wpAny_pure (hQ false s.heap L (Heap.SameBut.refl a s.heap) S (fun _ => rfl) fun z => absurd hm z)
  · dsimp only
    refine wpAny_bind (wpAny_setState_of ho B.dt B.fit ?_)
    dsimp only
    obtain ⟨t1, p, ept⟩ : ∃ t1 p, t.put (way t.mask (k.hash w) K) = (t1, p) := ⟨_, _, rfl⟩
    obtain ⟨q1, q2, q3, q4, q5, q6⟩ := T.add hK hb ept
    rw [List.length_map] at q1 q6
    rw [ept]
    dsimp only
    have pin : (SetTable.insertAt es p (k.hash w, Value.ref b)).toList = rowsN w (L.take p ++ (.ref b, k) :: L.drop p) := by
      rw [SetTable.toList_insertAt, B.rw_]
      unfold rowsN
      rw [List.map_append, List.map_cons, List.map_take, List.map_drop]
    have hsh : (hashN w L).take p ++ k.hash w :: (hashN w L).drop p = hashN w (L.take p ++ (.ref b, k) :: L.drop p) := by
      unfold hashN
      rw [List.map_append, List.map_cons, List.map_take, List.map_drop]
    rw [hsh] at q2
    have pm := put_perm L p (Value.ref b, k)
    generalize SetTable.insertAt es p (k.hash w, Value.ref b) = es1 at pin ⊢
    generalize L.take p ++ (Value.ref b, k) :: L.drop p = L1 at pin pm q2
    have hz1 := rows_len pin
    have hl1 : L1.length = L.length + 1 := pm.length_eq
    have nd1 : (L1.map (·.2)).Nodup := (pm.map _).nodup_iff.mpr (by rw [List.map_cons]; exact List.nodup_cons.mpr ⟨hm, nd⟩)
    have of1 : ∀ p ∈ L1, Kd.tup.Of p := fun q hq => by
      rcases List.mem_cons.mp (pm.mem_iff.mp hq) with rfl | hq
      · exact ⟨ks, b, hkk.symm, rfl⟩
      · exact of_ q hq
    have led1 : Ledw w t1 := by rw [Ledw, q4]; exact B.led
    -- what follows, the table being t2, like t1
    have go : ∀ t2 : SetTable, t2.mask = t1.mask → t2.place = t1.place → t2.dummies = t1.dummies → t2.led = t1.led → wpAny (model P w) A (do
        storeSet a es1 t2
        if (!false && t2.tooFull) = true then setRelay a (SetTable.grown (es.size + 1))
        return true) Q E s := by
      intro t2 f1 f2 f3 f4
      have T2 : Tb t2 (hashN w L1) := ⟨by rw [f2]; exact q2.ris, by rw [f3]; exact q2.dm, by rw [f2]; exact q2.sz, by rw [f1]; exact q2.mok, by rw [f1, f2]; exact q2.bd, by rw [f1, f2]; exact q2.on⟩
      have fill2 : t2.fill = L.length + 1 := by
        unfold SetTable.fill
        rw [f2, f3]
        exact q6
      have fit2 : t2.fits es1.size = true := by
        unfold SetTable.fits
        rw [fill2, f2, hz1, hl1, f1, q3, Bool.and_eq_true, beq_iff_eq, decide_eq_true_eq]
        have := q2.sz
        rw [List.length_map, hl1] at this
        exact ⟨this, by omega⟩
      have led2 : Ledw w t2 := by rw [Ledw, f4]; exact led1
      refine wpAny_bind (wpAny_storeSet_of ho B.dt ?_ (by rw [hz1, hl1, sizeLine_eq]; have : L.length + 1 < 1200 := room; omega))
      have sb : Heap.SameBut a s.heap (s.heap.update a (Obj.putSet es1 t2)) := Heap.SameBut.update ..
      have ho1 := store_at (es' := es1) (t' := t2) ho B.dt
      have good1 : ∀ p ∈ L1, MGood (s.heap.update a (Obj.putSet es1 t2)) p := fun q hq => by
        rcases List.mem_cons.mp (pm.mem_iff.mp hq) with rfl | hq
        · exact hk.same ho B.dt sb
        · exact (good q hq).same ho B.dt sb
      have full_iff : t2.tooFull = true ↔ (L.length + 1) * 5 ≥ t.mask * 3 := by
        unfold SetTable.tooFull
        rw [decide_eq_true_eq, fill2, f1, q3]
      by_cases hfu : t2.tooFull = true
      · obtain ⟨m1, m2⟩ := full_msk T.mok hroom (full_iff.mp hfu) room
        have fin : wpAny (model P w) A (setRelay a (SetTable.grown (es.size + 1))) (fun _ s' => wpAny (model P w) A (pure true) Q E s') E { s with heap := s.heap.update a (Obj.putSet es1 t2) } := by
          rw [hz, ← hl1]
          refine relay_tup (s := { s with heap := s.heap.update a (Obj.putSet es1 t2) }) ho1 ⟨B.ex.1, B.ex.2.1, B.ex.2.2⟩ rfl pin fit2 nd1 good1 of1 led2 (by rw [hl1]; exact room) m1 (by rw [hl1]; exact m2) ?_
          intro h2 L2 sb2 S2 p2
          exact wpAny_pure (hQ true h2 L2 (sb.trans sb2) S2 (fun z => absurd z hm) fun _ => p2.trans pm)
        first
          | (refine wpAny_bind ?_; exact wp_if_pos (by simp [hfu]) fin)
          | exact wp_if_pos (by simp [hfu]) (wpAny_bind fin)
      · have fin : Q true { s with heap := s.heap.update a (Obj.putSet es1 t2) } := by
          refine hQ true _ L1 sb ⟨⟨_, es1, _, t2, ho1, ⟨B.ex.1, B.ex.2.1, B.ex.2.2⟩, rfl, pin, fit2, T2.ris, led2, fun _ => ⟨T2, ?_⟩⟩, nd1, good1, of1, by rw [hl1]; exact room⟩ (fun z => absurd z hm) fun _ => pm
          rw [hl1, f1, q3]
          exact Nat.lt_of_not_le fun z => hfu (full_iff.mpr z)
        first
          | (refine wpAny_bind ?_; exact wp_if_neg (by simp [hfu]) (wpAny_pure (wpAny_pure fin)))
          | exact wp_if_neg (by simp [hfu]) (wpAny_pure fin)
    by_cases hpl : t1.plain = true
    · first
        | (refine wpAny_bind ?_; refine wp_if_pos hpl ?_; refine byValue_some _ _ 8 _ _ _ hk.1 fun c => ?_)
        | refine wp_if_pos hpl (wpAny_bind (byValue_some _ _ 8 _ _ _ hk.1 fun c => ?_))
      cases c
      · exact go { t1 with plain := false } rfl rfl rfl rfl
      · exact go t1 rfl rfl rfl rfl
    · first
        | (refine wpAny_bind ?_; refine wp_if_neg hpl ?_; refine wpAny_pure ?_)
        | refine wp_if_neg hpl (wpAny_bind (wpAny_pure ?_))
      exact go t1 rfl rfl rfl rfl
end
end Ev

set_option Elab.async false
set_option linter.all false
set_option autoImplicit false
set_option maxHeartbeats 4000000
set_option maxRecDepth 100000
/-! Ev, part Se: set(xs), len(set), the members of a set. -/
namespace Ev
variable [ClsTab]
open PySem PySem.Spec PyProof.Rows L2
/-- what a set has of some things, one after the other -/
structure Has (ks : List Mb) (L : List Mb) : Prop where
  sub : ∀ p ∈ L, p ∈ ks
  all : ∀ p ∈ ks, p.2 ∈ L.map (·.2)
  len : L.length ≤ ks.length
theorem Has.nil : Has [] [] := ⟨fun _ h => h, fun _ h => (by cases h), Nat.le_refl _⟩
theorem Has.next {ks L L' : List Mb} {x : Mb} (g : Has ks L) (h1 : x.2 ∈ L.map (·.2) → L' = L) (h2 : x.2 ∉ L.map (·.2) → L'.Perm (x :: L)) : Has (ks ++ [x]) L' := by
  by_cases c : x.2 ∈ L.map (·.2)
  · rw [h1 c]
    refine ⟨fun p hp => List.mem_append_left _ (g.sub p hp), fun p hp => ?_, by have := g.len; simp; omega⟩
    rcases List.mem_append.mp hp with z | z
    · exact g.all p z
    · rw [List.mem_singleton.mp z]; exact c
  · have pm := h2 c
    refine ⟨fun p hp => ?_, fun p hp => ?_, by rw [pm.length_eq]; have := g.len; simp; omega⟩
    · rcases List.mem_cons.mp (pm.mem_iff.mp hp) with rfl | z
      · simp
      · exact List.mem_append_left _ (g.sub p z)
    · rw [(pm.map (·.2)).mem_iff, List.map_cons]
      rcases List.mem_append.mp hp with z | z
      · exact List.mem_cons_of_mem _ (g.all p z)
      · rw [List.mem_singleton.mp z]; exact List.mem_cons_self
section
variable {P : Program} {w : World} {A : Around} {E : Value → Shared → Prop} {s : Shared} {kd : Kd}
/-- one more member -/
theorem add_any {a : Addr} {L : List Mb} (S : SetN w s.heap a kd L) {x : Mb} (hk : MGood s.heap x) (ho : kd.Of x) (hu : A.units + 8 < cLine) (room : L.length + 1 < MANY) {Q : Bool → Shared → Prop}
    (hQ : ∀ b h' tk L', s.toks ≤ tk → Heap.SameBut a s.heap h' → SetN w h' a kd L' → (x.2 ∈ L.map (·.2) → L' = L) → (x.2 ∉ L.map (·.2) → L'.Perm (x :: L)) → Q b { s with heap := h', toks := tk }) :
    wpAny (model P w) A (setAdd a x.1) Q E s := by
  unfold setAdd
  refine wpAny_holding (wpAny_bind (pyHash_key x.2 x.1 A s _ hk.1 (by have := hk.2; omega) ?_))
  obtain ⟨v, k⟩ := x
  cases kd with
  | leaf =>
    obtain ⟨k', e1, e2⟩ := ho
    dsimp only at e1 e2
    subst e1
    exact add_leaf (s := { s with toks := s.toks + (leafK k').draws }) S e2 room fun b h' L' sb S' c1 c2 => hQ b h' _ L' (Nat.le_add_right _ _) sb S' c1 c2
  | tup =>
    obtain ⟨ks, b, e1, e2⟩ := ho
    dsimp only at e1 e2
    subst e1 e2
    exact add_tup (s := { s with toks := s.toks + (NestedKey.tup ks).draws }) S hk hu room fun c h' L' sb S' c1 c2 => hQ c h' _ L' (Nat.le_add_right _ _) sb S' c1 c2
/-- a new set -/
theorem setN_new {h : Heap} {a : Addr} (kd : Kd) (ho : h.get? a = some { cls := .type "set", dict := none, data := .set #[] 0 (.fresh 0 0 (!w.params.followText "set-order")) }) : SetN w h a kd [] := by
  have led : Ledw w (.fresh 0 0 (!w.params.followText "set-order")) := by
    show _ ∨ (!w.params.followText "set-order") = true
    cases w.params.followText "set-order"
    · exact .inr rfl
    · exact .inl rfl
  refine ⟨⟨_, #[], 0, _, ho, ⟨rfl, rfl, rfl⟩, rfl, rfl, rfl, List.Pairwise.nil, led, fun _ => ⟨⟨List.Pairwise.nil, rfl, rfl, .inl rfl, fun x hx => (by cases hx), fun i h j hi => (by simp [hashN] at hi)⟩, (show 0 * 5 < 7 * 3 by decide)⟩⟩, List.nodup_nil, fun p hp => (by cases hp), fun p hp => (by cases hp), by decide⟩
/-- the turns of set(..) -/
theorem set_turns {I : Addr} {fp wr : List Addr} {G : Array GenState → Array GenState → Prop} {n : Nat} {Pv : Nat → Value → Prop} {St : Nat → Shared → Prop} {R : Result → Shared → Prop}
    (W : WalksS P w A.in1 I fp wr G n Pv St) (S : Addr) (hSf : S ∉ fp) (ks : List Mb) (hn : n = ks.length) (few : ks.length < MANY) (hval : ∀ i v, Pv i v → ∃ p, ks[i]? = some p ∧ v = p.1)
    (h0 : Heap) (hk : ∀ p ∈ ks, MGood h0 p) (hof : ∀ p ∈ ks, kd.Of p) (hS0 : h0.get? S = none) (hw0 : ∀ b ∈ wr, h0.get? b = none) (hu : A.in1.units + 8 < cLine) :
    ∀ (m i : Nat) (s : Shared), n - i = m → i ≤ n → St i s → (∀ b o, h0.get? b = some o → s.heap.get? b = some o) → (∃ L, SetN w s.heap S kd L ∧ Has (ks.take i) L) →
      (∀ s' L, Moved (S :: wr) G s s' → SetN w s'.heap S kd L → Has ks L → (∀ b o, h0.get? b = some o → s'.heap.get? b = some o) → R (.ok (.ret .none)) s') →
      codeAny (model P w) A (.builtin "set.update.loop" ⟨[.ref S, .ref I], []⟩) R s := by
  have hSw : S ∉ wr := fun h => hSf (W.sub _ h)
  have keepM : ∀ {s s' : Shared}, Moved wr G s s' → (∀ b o, h0.get? b = some o → s.heap.get? b = some o) → ∀ b o, h0.get? b = some o → s'.heap.get? b = some o := fun hm hkp b o e =>
    hm.heap b o (fun hb => by rw [hw0 b hb] at e; cases e) (hkp b o e)
  have stay : ∀ {s s' : Shared} {L : List Mb} {i : Nat}, Moved wr G s s' → (∀ b o, h0.get? b = some o → s'.heap.get? b = some o) → SetN w s.heap S kd L → Has (ks.take i) L → SetN w s'.heap S kd L := by
    intro s s' L i hm hkp hS g
    obtain ⟨o, es, ep, t, ho, B⟩ := hS.ob
    exact ⟨⟨o, es, ep, t, hm.heap S o hSw ho, B⟩, hS.nd, fun p hp => (hk p (List.mem_of_mem_take (g.sub p hp))).at hkp, hS.of_, hS.few⟩
  intro m
  induction m with
  | zero =>
    intro i s hm hi hst hkp ⟨L, hS, g⟩ hR
    have hin : i = n := by omega
    subst hin
    refine codeAny_builtin F.entry_set_update_loop ?_
    rw [Around.under_plainId F.plain_set_update_loop _]
    show wpAny _ A.in1 (pyNext (.ref I) >>= _) _ _ s
    refine wpAny_bind (W.done s _ _ hst fun s' hmv => ?_)
    show wpAny _ A.in1 (ret Value.none) _ _ s'
    have hkp' := keepM hmv hkp
    have hS' := stay hmv hkp' hS g
    rw [hn, List.take_length] at g
    exact wpAny_pure (hR s' L (hmv.mono fun b hb => List.mem_cons_of_mem _ hb) hS' g hkp')
  | succ m ih =>
    intro i s hm hi hst hkp ⟨L, hS, g⟩ hR
    have hlt : i < n := by omega
    refine codeAny_builtin F.entry_set_update_loop ?_
    rw [Around.under_plainId F.plain_set_update_loop _]
    show wpAny _ A.in1 (pyNext (.ref I) >>= _) _ _ s
    refine wpAny_bind (W.item i s _ _ hlt hst fun v s' hP hst' hmv => ?_)
    obtain ⟨p, hp, rfl⟩ := hval i v hP
    have hkp' := keepM hmv hkp
    have hS' := stay hmv hkp' hS g
    have pm : p ∈ ks := List.mem_of_getElem? hp
    show wpAny _ A.in1 (holding [p.1] (setAdd S p.1) >>= _) _ _ s'
    refine wpAny_bind (wpAny_holding (add_any hS' ((hk p pm).at hkp') (hof p pm) hu (by have := g.len; rw [List.length_take] at this; omega) fun b h' tk L' ht hsb hS2 c1 c2 => ?_))
    have g' : Has (ks.take (i + 1)) L' := by
      rw [List.take_succ, hp]
      exact g.next c1 c2
    have hkp2 : ∀ b o, h0.get? b = some o → h'.get? b = some o := fun b o e => (hsb.2 b (fun z => by rw [z, hS0] at e; cases e)).trans (hkp' b o e)
    refine wpAny_pure ⟨plainId_quiet F.plain_set_update_loop _, ih (i + 1) _ (by omega) hlt (W.frame _ s' _ _ hst' ht fun b hb o e => ?_) hkp2 ⟨L', hS2, g'⟩ fun s'' L2 hm'' hS'' g'' hkp'' => ?_⟩
    · rw [hsb.2 b (fun h : b = S => hSf (by rw [← h]; exact hb))]; exact e
    · refine hR s'' L2 (Moved.trans W.gtrans ((hmv.mono fun b hb => List.mem_cons_of_mem _ hb).then_heap ht fun b o hb e => ?_) hm'') hS'' g'' hkp''
      rw [hsb.2 b (fun h : b = S => hb (by rw [h]; exact List.mem_cons_self))]; exact e
abbrev emptySet (w : World) : Obj := { cls := .type "set", dict := none, data := .set #[] 0 (.fresh 0 0 (!w.params.followText "set-order")) }
theorem none_of {h : Heap} {b : Addr} (hb : h.objs.size ≤ b) : h.get? b = none := by
  cases q : h.get? b with
  | none => rfl
  | some o => exact absurd (Nat.lt_of_lt_of_le (Heap.lt_size q) hb) (Nat.lt_irrefl _)
/-- set(xs), xs a list or a tuple -/
theorem call_setN {l : Addr} {items : Array Value} {c : String} (hc : c = "list" ∨ c = "tuple") (ks : List Mb) {Q : Value → Shared → Prop} (hh : A.handled = none)
    (hl : ∃ o n, s.heap.get? l = some o ∧ o.cls = .type c ∧ o.data = .seq items n) (hit : items.toList = ks.map (·.1))
    (hk : ∀ p ∈ ks, MGood s.heap p) (hof : ∀ p ∈ ks, kd.Of p) (few : ks.length < MANY) (hu : A.units + 20 < cLine)
    (h : ∀ (h' : Heap) (tk : Nat) L, SetN w h' s.heap.objs.size kd L → Has ks L → (∀ b o, s.heap.get? b = some o → h'.get? b = some o) → Q (.ref s.heap.objs.size) { s with heap := h', toks := tk }) :
    wpAny (model P w) A (PySem.call (.type "set") [.ref l]) Q E s := by
  have hisz : items.size = ks.length := by
    have q := congrArg List.length hit
    rw [Array.length_toList, List.length_map] at q
    exact q
  obtain ⟨c0, tl, hmro⟩ := F.called_set.mro
  have hmade := F.called_set.made
  have hsub := F.called_set.sub
  refine wpAny_call (codeAny_of_tree ?_)
  show wpAny _ _ (callAny (.type "set") _) _ _ _
  refine wpAny_pure ⟨Code.quiet_builtin _ (by decide +kernel), codeAny_builtin F.entry_type_call ?_⟩
  rw [Around.under_plain (weight_type_call_type "set" [.ref l] []) rfl]
  have h1 := F.called_set.notType
  have h2 := F.called_set.canCreate
  have hct := F.typeCall_set_1 (.ref l)
  repeat (any_goals (first | assumption | wp_step))
  refine codeAny_mono (code_set_led1 (.ref l) (E := E) (Q₁ := fun obj s₁ => obj = .ref s.heap.objs.size ∧ s₁ = { s with heap := s.heap.push (emptySet w) }) ⟨rfl, rfl⟩) fun r s₁ hr => ?_
  cases r with
  | error e => exact hr
  | ok fl =>
    cases fl with
    | ret obj =>
      obtain ⟨rfl, rfl⟩ := hr
      have hS : (s.heap.push (emptySet w)).get? s.heap.objs.size = some (emptySet w) := Heap.get?_push_size _ rfl
      have hT : Shared.TypeIs { s with heap := s.heap.push (emptySet w) } (.ref s.heap.objs.size) "set" := ⟨_, hS, rfl⟩
      have hli := F.called_set.init.lookup
      have hbi := F.called_set.init.bind (.ref s.heap.objs.size)
      repeat (any_goals (first | assumption | wp_step))
      refine codeAny_mono (codeAny_call_builtin (R := wants (fun r s₂ => r = .none ∧ ∃ h' tk L, s₂ = { s with heap := h', toks := tk } ∧ SetN w h' s.heap.objs.size kd L ∧ Has ks L ∧
          (∀ b o, s.heap.get? b = some o → h'.get? b = some o)) E) F.called_set.init.plain F.entry_set_init (check_set_init_1 hT ?_)) fun r₂ s₂ hr₂ => ?_
      · obtain ⟨ol, nl, hol, hcl, hdl⟩ := hl
        obtain ⟨ocls, odict, odata, oslots⟩ := ol
        simp only at hcl hdl
        subst hcl; subst hdl
        have hh3 : A.in1.in1.in1.handled = none := by simp [hh]
        rcases hc with rfl | rfl
        · have hol' : (s.heap.push (emptySet w)).get? l = some { cls := .type "list", dict := odict, data := .seq items nl, slots := oslots } := Heap.get?_push_of_some _ hol
          have hsls := F.sub_list_set
          have hslf := F.sub_list_frozenset
          have hne : (Value.type "list" == Value.type "dict") = false := by decide
          have hl1 : (s.heap.push (emptySet w)).IsList l items := ⟨_, hol', rfl, nl, rfl⟩
          unfold Builtin.«set.__init__» noKeywords Builtin.Frozenset.updateFrom
          generalize hPI : pyIter = PI
          wp_walk
          subst hPI
          have hlS : l < s.heap.objs.size := Heap.lt_size hol
          have hneI : l ≠ (s.heap.push (emptySet w)).objs.size := by
            rw [Heap.size_push]; exact Nat.ne_of_lt (Nat.lt_succ_of_lt hlS)
          have hSf : s.heap.objs.size ∉ [(s.heap.push (emptySet w)).objs.size, l] := by
            rw [Heap.size_push]; simp only [List.mem_cons, List.mem_singleton, List.not_mem_nil, or_false, not_or]
            exact ⟨Nat.ne_of_lt (Nat.lt_succ_self _), Nat.ne_of_gt hlS⟩
          have hval : ∀ (i : Nat) (v : Value), items[i]? = some v → ∃ p, ks[i]? = some p ∧ v = p.1 := fun i v hv => by
            have q : items.toList[i]? = some v := by rw [Array.getElem?_toList]; exact hv
            rw [hit, List.getElem?_map] at q
            cases hq : ks[i]? with
            | none => rw [hq] at q; cases q
            | some p =>
              rw [hq] at q
              exact ⟨p, rfl, (Option.some.inj q).symm⟩
          have fin : ∀ (s' : Shared) (L : List Mb) (wr : List Addr) (s1 : Shared), Moved wr (fun a b => b = a) s1 s' → s1.gens = s.gens → s1.drawn = s.drawn → s1.os = s.os → SetN w s'.heap s.heap.objs.size kd L → Has ks L → (∀ b o, s.heap.get? b = some o → s'.heap.get? b = some o) →
              ∃ h' tk L, s' = { s with heap := h', toks := tk } ∧ SetN w h' s.heap.objs.size kd L ∧ Has ks L ∧ ∀ b o, s.heap.get? b = some o → h'.get? b = some o := by
            intro s' L wr s1 hm g d o hS' g' hkp
            obtain ⟨h', g2, d', tk', os'⟩ := s'
            exact ⟨h', tk', L, by
              have e1 := hm.gens
              have e2 := hm.drawn
              have e3 := hm.os
              simp only at e1 e2 e3
              rw [g] at e1
              rw [d] at e2
              rw [o] at e3
              subst e1 e2 e3
              rfl, hS', g', hkp⟩
          refine wpAny_pyIter_list hl1 ?_
          refine wpAny_bind (wpAny_runValue ?_)
          refine set_turns ((Walks.list hh3 _ l hneI items).toS) s.heap.objs.size
            hSf ks hisz few hval s.heap hk hof (none_of (Nat.le_refl _)) (fun b hb => none_of (by
              rw [List.mem_singleton.mp hb, Heap.size_push]
              exact Nat.le_succ _)) (by show A.units + 1 + 1 + 1 + 8 < cLine; omega) (items.size - 0) 0 _ (by omega) (Nat.zero_le _)
            ⟨⟨_, Heap.get?_push_size _ rfl, rfl, rfl⟩, (hl1.push _)⟩ (fun b o e => Heap.get?_push_of_some _ (Heap.get?_push_of_some _ e)) ?hS0 ?hR
          case hS0 => exact ⟨[], setN_new kd (Heap.get?_push_of_some _ hS), Has.nil⟩
          case hR =>
            intro s' L hm hS' g' hkp
            show wpAny _ _ _ _ _ _
            refine wpAny_pure ?_
            show wpAny _ _ (ret Value.none) _ _ _
            exact wpAny_pure ⟨rfl, fin s' L _ _ hm rfl rfl rfl hS' g' hkp⟩
        · have hol' : (s.heap.push (emptySet w)).get? l = some { cls := .type "tuple", dict := odict, data := .seq items nl, slots := oslots } := Heap.get?_push_of_some _ hol
          have hsls := F.sub_tuple_set
          have hslf := F.sub_tuple_frozenset
          have hne : (Value.type "tuple" == Value.type "dict") = false := by decide
          have hl1 : (s.heap.push (emptySet w)).IsTuple l items := ⟨_, hol', rfl, nl, rfl⟩
          unfold Builtin.«set.__init__» noKeywords Builtin.Frozenset.updateFrom
          generalize hPI : pyIter = PI
          wp_walk
          subst hPI
          have hlS : l < s.heap.objs.size := Heap.lt_size hol
          have hneI : l ≠ (s.heap.push (emptySet w)).objs.size := by
            rw [Heap.size_push]; exact Nat.ne_of_lt (Nat.lt_succ_of_lt hlS)
          have hSf : s.heap.objs.size ∉ [(s.heap.push (emptySet w)).objs.size, l] := by
            rw [Heap.size_push]; simp only [List.mem_cons, List.mem_singleton, List.not_mem_nil, or_false, not_or]
            exact ⟨Nat.ne_of_lt (Nat.lt_succ_self _), Nat.ne_of_gt hlS⟩
          have hval : ∀ (i : Nat) (v : Value), items[i]? = some v → ∃ p, ks[i]? = some p ∧ v = p.1 := fun i v hv => by
            have q : items.toList[i]? = some v := by rw [Array.getElem?_toList]; exact hv
            rw [hit, List.getElem?_map] at q
            cases hq : ks[i]? with
            | none => rw [hq] at q; cases q
            | some p =>
              rw [hq] at q
              exact ⟨p, rfl, (Option.some.inj q).symm⟩
          have fin : ∀ (s' : Shared) (L : List Mb) (wr : List Addr) (s1 : Shared), Moved wr (fun a b => b = a) s1 s' → s1.gens = s.gens → s1.drawn = s.drawn → s1.os = s.os → SetN w s'.heap s.heap.objs.size kd L → Has ks L → (∀ b o, s.heap.get? b = some o → s'.heap.get? b = some o) →
              ∃ h' tk L, s' = { s with heap := h', toks := tk } ∧ SetN w h' s.heap.objs.size kd L ∧ Has ks L ∧ ∀ b o, s.heap.get? b = some o → h'.get? b = some o := by
            intro s' L wr s1 hm g d o hS' g' hkp
            obtain ⟨h', g2, d', tk', os'⟩ := s'
            exact ⟨h', tk', L, by
              have e1 := hm.gens
              have e2 := hm.drawn
              have e3 := hm.os
              simp only at e1 e2 e3
              rw [g] at e1
              rw [d] at e2
              rw [o] at e3
              subst e1 e2 e3
              rfl, hS', g', hkp⟩
          refine wpAny_pyIter_tuple hl1 ?_
          refine wpAny_bind (wpAny_runValue ?_)
          refine set_turns ((Walks.tuple hh3 _ l hneI items).toS) s.heap.objs.size
            hSf ks hisz few hval s.heap hk hof (none_of (Nat.le_refl _)) (fun b hb => none_of (by
              rw [List.mem_singleton.mp hb, Heap.size_push]
              exact Nat.le_succ _)) (by show A.units + 1 + 1 + 1 + 8 < cLine; omega) (items.size - 0) 0 _ (by omega) (Nat.zero_le _)
            ⟨⟨_, Heap.get?_push_size _ rfl, rfl, rfl⟩, (hl1.push _)⟩ (fun b o e => Heap.get?_push_of_some _ (Heap.get?_push_of_some _ e)) ?hS0 ?hR
          case hS0 => exact ⟨[], setN_new kd (Heap.get?_push_of_some _ hS), Has.nil⟩
          case hR =>
            intro s' L hm hS' g' hkp
            show wpAny _ _ _ _ _ _
            refine wpAny_pure ?_
            show wpAny _ _ (ret Value.none) _ _ _
            exact wpAny_pure ⟨rfl, fin s' L _ _ hm rfl rfl rfl hS' g' hkp⟩
      · cases r₂ with
        | error e => exact hr₂
        | ok fl₂ =>
          cases fl₂ with
          | ret r =>
            obtain ⟨rfl, h', tk, L, rfl, hS', g', hk'⟩ := hr₂
            repeat (any_goals (first | assumption | wp_step))
            exact h _ _ _ hS' g' hk'
          | _ => exact hr₂.elim
    | _ => exact hr.elim
end
end Ev

set_option Elab.async false
set_option linter.all false
set_option autoImplicit false
set_option maxHeartbeats 2000000
/-! Ev, part Sf: sorted(set(xs)), len(set(xs)) on trees. -/
namespace Ev

open PySem PySem.Spec PyProof.Rows L2
/-! ### trees that are members of sets -/
mutual
def D.nk : D → Option NK
  | .int i => some (.num i)
  | .str x => some (.text x)
  | .tup xs => (D.nks xs).map .tup
  | .non | .bl _ | .lst _ | .dct _ _ | .set _ | .ins _ _ _ | .err _ _ | .lz _ => none
def D.nks : List D → Option (List NK)
  | [] => some []
  | x :: xs => x.nk.bind fun k => (D.nks xs).map (k :: ·)
end
mutual
def ofNK : NK → D
  | .none => .non
  | .num i => .int i
  | .text x => .str x
  | .tup ks => .tup (ofNKs ks)
def ofNKs : List NK → List D
  | [] => []
  | k :: ks => ofNK k :: ofNKs ks
end
theorem ofNKs_map : ∀ ks : List NK, ofNKs ks = ks.map ofNK
  | [] => rfl
  | k :: ks => by rw [ofNKs, ofNKs_map ks, List.map_cons]
mutual
theorem nk_of : ∀ {x : D} {k : NK}, x.nk = some k → ofNK k = x
  | .int i, k, h => by simp only [D.nk, Option.some.injEq] at h; subst h; rfl
  | .str x, k, h => by simp only [D.nk, Option.some.injEq] at h; subst h; rfl
  | .tup xs, k, h => by
    simp only [D.nk, Option.map_eq_some_iff] at h
    obtain ⟨ks, h1, rfl⟩ := h
    rw [ofNK, nks_of h1]
  | .non, k, h => by simp [D.nk] at h
  | .bl _, k, h => by simp [D.nk] at h
  | .lst _, k, h => by simp [D.nk] at h
  | .dct _ _, k, h => by simp [D.nk] at h
  | .set _, k, h => by simp [D.nk] at h
  | .ins _ _ _, k, h => by simp [D.nk] at h
  | .err _ _, k, h => by simp [D.nk] at h
  | .lz _, k, h => by simp [D.nk] at h
theorem nks_of : ∀ {xs : List D} {ks : List NK}, D.nks xs = some ks → ofNKs ks = xs
  | [], ks, h => by simp only [D.nks, Option.some.injEq] at h; subst h; rfl
  | x :: xs, ks, h => by
    simp only [D.nks, Option.bind_eq_some_iff, Option.map_eq_some_iff] at h
    obtain ⟨k, h1, ks', h2, rfl⟩ := h
    rw [ofNKs, nk_of h1, nks_of h2]
end
def NK.leaf : NK → Bool
  | .num _ | .text _ => true
  | _ => false
def NK.tp : NK → Bool
  | .tup _ => true
  | _ => false
/-- each once -/
def dedup : List NK → List NK
  | [] => []
  | k :: ks => k :: (dedup ks).filter fun x => !NestedKey.beq x k
theorem nbeq_ne {x k : NK} : (!NestedKey.beq x k) = true ↔ x ≠ k := by
  rw [Bool.not_eq_true', ← NestedKey.decide_eq]
  simp
theorem mem_dedup : ∀ {ks : List NK} {x : NK}, x ∈ dedup ks ↔ x ∈ ks
  | [], x => by simp [dedup]
  | k :: ks, x => by
    simp only [dedup, List.mem_cons, List.mem_filter, mem_dedup (ks := ks), nbeq_ne]
    by_cases h : x = k
    · simp [h]
    · simp [h]
theorem nodup_dedup : ∀ ks : List NK, (dedup ks).Nodup
  | [] => List.nodup_nil
  | k :: ks => by
    refine List.nodup_cons.mpr ⟨fun h => ?_, (nodup_dedup ks).filter _⟩
    exact nbeq_ne.mp (List.mem_filter.mp h).2 rfl
theorem dedup_len (ks : List NK) : (dedup ks).length ≤ ks.length := by
  induction ks with
  | nil => exact Nat.le_refl _
  | cons k ks ih =>
    exact Nat.succ_le_succ (Nat.le_trans (List.length_filter_le _ _) ih)
def okSet (ks : List NK) : Bool := (ks.all NK.leaf || ks.all NK.tp) && ks.all (fun k => decide (k.depth ≤ 8)) && decide (ks.length < MANY)
def sortSetG : List D → Option Out
  | [u] => (items u).bind fun xs => (D.nks xs).bind fun ks => if okSet ks = true ∧ sortable ((dedup ks).map ofNK) = true then some (.new (.lst (sortD ((dedup ks).map ofNK)))) else none
  | _ => none
def lenSetG : List D → Option Out
  | [u] => (items u).bind fun xs => (D.nks xs).bind fun ks => if okSet ks = true then some (.d (.int (dedup ks).length)) else none
  | _ => none
def biG (f : List D → Option Out) (es : List (EM Out)) : EM Out := (args es).bind fun xs => (gets xs).bind fun us => opt (f us)
def sortSet (e : EM Out) : EM Out := biG sortSetG [e]
def lenSet (e : EM Out) : EM Out := biG lenSetG [e]

/-! ### their order -/
mutual
theorem nk_eqv : ∀ (a b : NK), PyData.eqv (ofNK a).py (ofNK b).py = true → (∃ x, x = a ∧ a.depth < 0 → False) → a = b
  | .none, b, h, _ => by cases b <;> simp_all [ofNK, D.py, PyData.eqv]
  | .num i, b, h, _ => by cases b <;> simp_all [ofNK, D.py, PyData.eqv]
  | .text x, b, h, _ => by cases b <;> simp_all [ofNK, D.py, PyData.eqv]
  | .tup ks, b, h, _ => by
    cases b with
    | tup ls =>
      simp only [ofNK, D.py, PyData.eqv] at h
      rw [nks_eqv ks ls h]
    | _ => simp [ofNK, D.py, PyData.eqv] at h
theorem nks_eqv : ∀ (as bs : List NK), PyData.eqvAll (D.pys (ofNKs as)) (D.pys (ofNKs bs)) = true → as = bs
  | [], [], _ => rfl
  | [], _ :: _, h => by simp [ofNKs, D.pys, PyData.eqvAll] at h
  | _ :: _, [], h => by simp [ofNKs, D.pys, PyData.eqvAll] at h
  | a :: as, b :: bs, h => by
    simp only [ofNKs, D.pys, PyData.eqvAll, Bool.and_eq_true] at h
    rw [nk_eqv a b h.1 ⟨a, fun h => Nat.not_lt_zero _ h.2⟩, nks_eqv as bs h.2]
end
abbrev leD' (a b : D) : Bool := !PySem.W.dataLt b.py a.py
theorem leD_total (a b : D) : (leD' a b || leD' b a) = true := by
  show (!PySem.W.dataLt b.py a.py || !PySem.W.dataLt a.py b.py) = true
  cases h1 : PySem.W.dataLt b.py a.py with
  | false => rfl
  | true =>
    cases h2 : PySem.W.dataLt a.py b.py with
    | false => rfl
    | true =>
      have := lex_trans (O := itemOrd) _ _ _ h1 h2
      rw [lex_irrefl] at this
      cases this
theorem leD_trans (a b c : D) (h1 : leD' a b = true) (h2 : leD' b c = true) : leD' a c = true := by
  simp only [leD', Bool.not_eq_true'] at h1 h2 ⊢
  cases h : PySem.W.dataLt c.py a.py with
  | false => rfl
  | true =>
    rcases lex_negTrans (O := itemOrd) _ (PySem.W.keyToks b.py) _ h with z | z
    · rw [← h2]; exact z.symm
    · rw [← h1]; exact z.symm
theorem leD_anti {a b : D} (hal : PySem.W.alike a.py b.py = true) (h1 : leD' a b = true) (h2 : leD' b a = true) : PyData.eqv a.py b.py = true := by
  simp only [leD', Bool.not_eq_true'] at h1 h2
  have e := lex_total (O := itemOrd) _ _ h2 h1
  cases h : PyData.eqv a.py b.py with
  | true => rfl
  | false =>
    exfalso
    have key := (PySem.W.toks_eqv a.py b.py hal).2 h
    have k1 := key [] [.inl 0]
    have k2 := key [] []
    rw [e] at k1 k2
    rw [PySem.W.lex_pre] at k1 k2
    rw [← k2] at k1
    revert k1
    decide
theorem sort_one {as bs : List NK} (p : as.Perm bs) (hal : ∀ x ∈ as, ∀ y ∈ as, PySem.W.alike (ofNK x).py (ofNK y).py = true) : sortD (as.map ofNK) = sortD (bs.map ofNK) := by
  have p1 : (sortD (as.map ofNK)).Perm (as.map ofNK) := List.mergeSort_perm _ _
  have p2 : (sortD (bs.map ofNK)).Perm (bs.map ofNK) := List.mergeSort_perm _ _
  refine ((p1.trans (p.map ofNK)).trans p2.symm).eq_of_pairwise (le := fun a b => leD' a b = true) (fun a b ha hb h1 h2 => ?_) (List.pairwise_mergeSort leD_trans leD_total _) (List.pairwise_mergeSort leD_trans leD_total _)
  obtain ⟨x, hx, rfl⟩ := List.mem_map.mp (p1.mem_iff.mp ha)
  obtain ⟨y, hy, rfl⟩ := List.mem_map.mp (p2.mem_iff.mp hb)
  rw [nk_eqv x y (leD_anti (hal x hx y (p.mem_iff.mpr hy)) h1 h2) ⟨x, fun h => Nat.not_lt_zero _ h.2⟩]
end Ev

set_option Elab.async false
set_option linter.all false
set_option autoImplicit false
set_option maxHeartbeats 2000000
/-! Ev, part Sg: sorted(set(xs)), len(set(xs)) as expressions. -/
namespace Ev
variable [ClsTab]
open PySem PySem.Spec PyProof.Rows L2
/-- the set at a, its members apart -/
def SetN0 (w : World) (h : Heap) (a : Addr) (kd : Kd) (L : List Mb) : Prop :=
  (∃ o es ep t, h.get? a = some o ∧ SetB w o kd L es ep t) ∧ (L.map (·.2)).Nodup ∧ (∀ p ∈ L, kd.Of p) ∧ L.length < MANY
def SetNO (w : World) (a : Addr) (kd : Kd) (L : List Mb) : HO := .ext fun h => SetN0 w h a kd L
omit [ClsTab] in
theorem setNO_new {P : Program} {w : World} {H : Hp} {h : Heap} {a : Addr} {kd : Kd} {L : List Mb} (R : SetN0 w h a kd L) : ObjOk P w H h a (SetNO w a kd L) := by
  have ⟨⟨o, es, ep, t, ho, B⟩, q⟩ := R
  refine ⟨R, ⟨o, ho⟩, fun h1 h2 p k => ?_⟩
  obtain ⟨⟨o', es', ep', t', ho', B'⟩, q'⟩ := p
  exact ⟨⟨o', es', ep', t', k o' ho', B'⟩, q'⟩
section
variable {X : Cx} {pins : List (Addr × Obj)} {σ : L2.St} {H F : Hp} {s : Shared}
mutual
theorem nested_of (I : Inv X pins σ H s) (sb : Same F H) : ∀ (k : NK) (v : V) (u : Value), (k.leaf || k.tp) = true → RD X.K F (ofNK k) v → RelV v u → NestedIs s.heap k u
  | .none, v, u, h, _, _ => by simp [NK.leaf, NK.tp] at h
  | .num i, v, u, _, r, q => by
    simp only [ofNK] at r
    cases r
    obtain ⟨t, rfl⟩ := q
    exact .int i t
  | .text x, v, u, _, r, q => by
    simp only [ofNK] at r
    cases r
    obtain ⟨t, rfl⟩ := q
    exact .text x t
  | .tup ks, v, u, _, r, q => by
    simp only [ofNK] at r
    cases r with
    | tup hq rs =>
      cases q
      obtain ⟨its, rv, ⟨o, ho, hc, n, hd⟩, _⟩ := I.tuple (Same.seqT sb hq)
      exact .tup ho hc hd (by simpa using nested_all I sb ks _ _ rs rv)
theorem nested_all (I : Inv X pins σ H s) (sb : Same F H) : ∀ (ks : List NK) (vs : List V) (us : List Value), RDs X.K F (ofNKs ks) vs → Vals vs us → NestedAll s.heap ks us
  | [], vs, us, r, q => by
    simp only [ofNKs] at r
    cases r
    cases q
    exact .nil
  | k :: ks, vs, us, r, q => by
    simp only [ofNKs] at r
    cases r with
    | cons r rs =>
      cases q with
      | cons q qs =>
        refine .cons (nested_any I sb k _ _ r q) (nested_all I sb ks _ _ rs qs)
theorem nested_any (I : Inv X pins σ H s) (sb : Same F H) : ∀ (k : NK) (v : V) (u : Value), RD X.K F (ofNK k) v → RelV v u → NestedIs s.heap k u
  | .none, v, u, r, q => by
    simp only [ofNK] at r
    cases r
    cases q
    exact .none
  | .num i, v, u, r, q => nested_of I sb (.num i) v u rfl r q
  | .text x, v, u, r, q => nested_of I sb (.text x) v u rfl r q
  | .tup ks, v, u, r, q => nested_of I sb (.tup ks) v u rfl r q
end
/-- the members told with their keys -/
theorem members_of : ∀ {ks : List NK} {vs : List V} {us : List Value}, RDs X.K F (ks.map ofNK) vs → Vals vs us → ∃ L : List Mb, us = L.map (·.1) ∧ ks = L.map (·.2) ∧ ∀ p ∈ L, RU X.K F p.1 (ofNK p.2)
  | [], _, _, .nil, .nil => ⟨[], rfl, rfl, fun _ h => (by cases h)⟩
  | k :: ks, _, _, .cons r rs, .cons q qs => by
    obtain ⟨L, e1, e2, h⟩ := members_of rs qs
    refine ⟨(_, k) :: L, by rw [List.map_cons, ← e1], by rw [List.map_cons, ← e2], fun p hp => ?_⟩
    rcases List.mem_cons.mp hp with rfl | hp
    · exact ⟨_, q, r⟩
    · exact h p hp
theorem mgood_of (I : Inv X pins σ H s) (sb : Same F H) {p : Mb} (r : RU X.K F p.1 (ofNK p.2)) (hd : p.2.depth ≤ 8) : MGood s.heap p := by
  obtain ⟨v, q, r⟩ := r
  exact ⟨nested_any I sb _ _ _ r q, hd⟩
theorem of_leaf {p : Mb} (hl : p.2.leaf = true) (r : RU X.K F p.1 (ofNK p.2)) : Kd.leaf.Of p := by
  obtain ⟨u, k⟩ := p
  obtain ⟨v, q, r⟩ := r
  dsimp only at hl r q ⊢
  cases k with
  | num i =>
    simp only [ofNK] at r
    cases r
    obtain ⟨t, rfl⟩ := q
    exact ⟨.inl i, rfl, keyIs_int i t⟩
  | text x =>
    simp only [ofNK] at r
    cases r
    obtain ⟨t, rfl⟩ := q
    exact ⟨.inr x, rfl, keyIs_str x t⟩
  | _ => cases hl
theorem of_tp {p : Mb} (hl : p.2.tp = true) (r : RU X.K F p.1 (ofNK p.2)) : Kd.tup.Of p := by
  obtain ⟨u, k⟩ := p
  obtain ⟨v, q, r⟩ := r
  dsimp only at hl r q ⊢
  cases k with
  | tup ks =>
    simp only [ofNK] at r
    cases r
    cases q
    exact ⟨ks, _, rfl, rfl⟩
  | _ => cases hl
end
section
variable {X : Cx} {T : CT} {W : WX}
/-- what a made set is -/
def IsSet (K : PySem.W.Frag) (F : Hp) (ks : List NK) (L : List Mb) : Prop := (L.map (·.2)).Perm (dedup ks) ∧ ∀ p ∈ L, RU K F p.1 (ofNK p.2) ∧ p.2.depth ≤ 8
def rSetN (K : PySem.W.Frag) (w : World) : List V → Hp → VK → Prop := fun vs H Q => ∃ F u xs ks v, Same F H ∧ vs = [v] ∧ View K F H u v ∧ items u = some xs ∧ D.nks xs = some ks ∧ okSet ks = true ∧
  ∀ a kd L, H a = none → IsSet K F ks L → Q (.ref a) (upd H a (SetNO w a kd L))
theorem k_setN (hc : X.calm = true) (hu : X.A.units + 100 < cLine) : CallR X (.type "set") (rSetN X.K X.w) := by
  intro pins s σ H vs us Q I r hh
  obtain ⟨F, d, xs, ks, v, sb, rfl, vw, hi, hk, ok, q⟩ := hh
  obtain ⟨u, rfl, rx⟩ := vals1 r
  -- the things walked
  have got : ∃ (l : Addr) (its : List Value) (ws : List V) (c : String), u = .ref l ∧ (c = "list" ∨ c = "tuple") ∧ (∃ o n, s.heap.get? l = some o ∧ o.cls = .type c ∧ o.data = .seq its.toArray n) ∧ Vals ws its ∧ RDs X.K F xs ws := by
    unfold items at hi
    split at hi <;> first | (cases hi; done) | skip
    · cases hi
      obtain ⟨a, ws, rfl, ha, ra⟩ := vw.tup sb
      cases rx
      obtain ⟨its, rv, ⟨o, ho, hcl, n, hd⟩, _⟩ := I.tuple ha
      exact ⟨a, its, ws, "tuple", rfl, .inr rfl, ⟨o, n, ho, hcl, hd⟩, rv, ra⟩
    · cases hi
      obtain ⟨a, ws, rfl, ha, ra⟩ := vw.lst sb
      cases rx
      obtain ⟨its, rv, pl, _⟩ := I.list (.of ha)
      obtain ⟨o, ho, hcl, n, hd⟩ := pl.isList
      exact ⟨a, its, ws, "list", rfl, .inl rfl, ⟨o, n, ho, hcl, hd⟩, rv, ra⟩
  obtain ⟨l, its, ws, c, rfl, hcl, hl, rv, ra⟩ := got
  rw [← nks_of hk, ofNKs_map] at ra
  obtain ⟨L, e1, e2, hL⟩ := members_of ra rv
  unfold okSet at ok
  simp only [Bool.and_eq_true, Bool.or_eq_true, decide_eq_true_eq] at ok
  obtain ⟨⟨kind, dep⟩, few⟩ := ok
  have dp : ∀ p ∈ L, p.2.depth ≤ 8 := fun p hp => of_decide_eq_true (List.all_eq_true.mp dep p.2 (by rw [e2]; exact List.mem_map.mpr ⟨p, hp, rfl⟩))
  have good : ∀ p ∈ L, MGood s.heap p := fun p hp => mgood_of I sb (hL p hp) (dp p hp)
  have fewL : L.length < MANY := by
    have := congrArg List.length e2
    rw [List.length_map] at this
    rw [← this]
    exact few
  have hn : H s.heap.objs.size = none := I.hok.fresh (Nat.le_refl _)
  have go : ∀ kd : Kd, (∀ p ∈ L, kd.Of p) → wpAny (model X.prog X.w) X.A (PySem.call (.type "set") [.ref l]) (EP X pins σ Q) X.xe s := fun kd hof => by
    refine call_setN (kd := kd) hcl L (I.ok.hd hc) hl (by simpa using e1) good hof fewL (by omega) fun h' tk L' S hs k => ?_
    refine ⟨.ref s.heap.objs.size, upd H s.heap.objs.size (SetNO X.w s.heap.objs.size kd L'), I.laid (t' := tk) k (Nat.le_refl _) (setNO_new ⟨S.ob, S.nd, S.of_, S.few⟩), rfl, q _ kd L' hn ⟨?_, fun p hp => ⟨hL p (hs.sub p hp), dp p (hs.sub p hp)⟩⟩⟩
    refine (List.perm_ext_iff_of_nodup S.nd (nodup_dedup ks)).mpr fun x => ?_
    rw [mem_dedup, e2]
    constructor
    · intro h
      obtain ⟨p, hp, rfl⟩ := List.mem_map.mp h
      exact List.mem_map.mpr ⟨p, hs.sub p hp, rfl⟩
    · intro h
      obtain ⟨p, hp, rfl⟩ := List.mem_map.mp h
      exact hs.all p hp
  rcases kind with kind | kind
  · exact go .leaf fun p hp => of_leaf (List.all_eq_true.mp kind p.2 (by rw [e2]; exact List.mem_map.mpr ⟨p, hp, rfl⟩)) (hL p hp)
  · exact go .tup fun p hp => of_tp (List.all_eq_true.mp kind p.2 (by rw [e2]; exact List.mem_map.mpr ⟨p, hp, rfl⟩)) (hL p hp)
def rLenN (w : World) : List V → Hp → VK → Prop := fun vs H Q => ∃ a kd L, vs = [.ref a] ∧ H a = some (SetNO w a kd L) ∧ Q (.int L.length) H
theorem k_lenN : CallR X (.builtin "len") (rLenN X.w) := by
  intro pins s σ H vs us Q I r hh
  obtain ⟨a, kd, L, rfl, ha, q⟩ := hh
  rw [Vals.ref1 r]
  obtain ⟨⟨o, es, ep, t, ho, B⟩, nd, of_, few⟩ := (I.hok a _ ha).1
  have hz := rows_len B.rw_
  have few : L.length < 1200 := few
  refine call_len_set ho B.ex B.dt B.fit (by rw [hz]; omega) ?_
  rw [hz]
  exact ⟨.int L.length, H, I.tok _, ⟨_, rfl⟩, q⟩
def rSortN (K : PySem.W.Frag) (w : World) : List V → Hp → VK → Prop := fun vs H Q => ∃ F a kd ks L, Same F H ∧ vs = [.ref a] ∧ H a = some (SetNO w a kd L) ∧ IsSet K F ks L ∧ sortable ((dedup ks).map ofNK) = true ∧
  Gives K F H (.new (.lst (sortD ((dedup ks).map ofNK)))) Q
theorem reads_mem {pins : List (Addr × Obj)} {σ : L2.St} {H F : Hp} {s : Shared} (I : Inv X pins σ H s) (sb : Same F H) : ∀ {L : List Mb}, (∀ p ∈ L, RU X.K F p.1 (ofNK p.2) ∧ (ofNK p.2).flat 60 = true) →
    PySem.W.EachIs (RU X.K F) (L.map (·.1)) (L.map fun p => ofNK p.2) ∧ PySem.W.EachIs (fun u b => ∃ as, Reads s.heap u (D.py b) as) (L.map (·.1)) (L.map fun p => ofNK p.2)
  | [], _ => ⟨.nil, .nil⟩
  | p :: L, h => by
    obtain ⟨h1, h2⟩ := reads_mem I sb fun q hq => h q (List.mem_cons_of_mem _ hq)
    obtain ⟨⟨v, q, r⟩, hf⟩ := h p List.mem_cons_self
    exact ⟨.cons ⟨v, q, r⟩ h1, .cons (Dp.reads I _ _ _ (r.dp sb hf) q) h2⟩
theorem k_sortN (hc : X.calm = true) (hu : X.A.units + 100 < cLine) : CallR X (.builtin "sorted") (rSortN X.K X.w) := by
  intro pins s σ H vs us Q I r hh
  obtain ⟨F, a, kd, ks, L, sb, rfl, ha, ⟨pm, hL⟩, hs, gv⟩ := hh
  rw [Vals.ref1 r]
  obtain ⟨⟨o, es, ep, t, ho, B⟩, nd, of_, few⟩ := (I.hok a _ ha).1
  have hz := rows_len B.rw_
  have few : L.length < 1200 := few
  have hs0 := hs
  unfold sortable at hs
  simp only [Bool.and_eq_true, Bool.or_eq_true] at hs
  obtain ⟨⟨hf, hal⟩, hk⟩ := hs
  -- what is true of the members
  have mem : ∀ L1 : List Mb, L1.Perm L → ∀ b, b ∈ L1.map (fun p => ofNK p.2) → b ∈ (dedup ks).map ofNK := fun L1 p1 b hb => by
    obtain ⟨p, hp, rfl⟩ := List.mem_map.mp hb
    exact List.mem_map.mpr ⟨p.2, pm.mem_iff.mp (List.mem_map.mpr ⟨p, p1.mem_iff.mp hp, rfl⟩), rfl⟩
  have sorts : ∀ L1 : List Mb, L1.Perm L → sortD (L1.map fun p => ofNK p.2) = sortD ((dedup ks).map ofNK) := fun L1 p1 => by
    have e : (L1.map fun p => ofNK p.2) = (L1.map (·.2)).map ofNK := by rw [List.map_map]; rfl
    rw [e]
    refine (sort_one ((p1.map _).trans pm).symm fun x hx y hy => ?_).symm
    exact List.all_eq_true.mp (List.all_eq_true.mp hal _ (List.mem_map.mpr ⟨x, hx, rfl⟩)) _ (List.mem_map.mpr ⟨y, hy, rfl⟩)
  refine Calls.call_function_entry kind_sorted plain_sorted entry_sorted (args_sorted1 _) ?_
  unfold Builtin.«sorted»
  refine wpAny_bind (m := checkCount "sorted" 1 1 _) (wpAny_pure ?_)
  refine wpAny_bind (collect_set (A := X.A.in1) (I.ok.hd hc) ⟨o, ho, B.ex.1, B.dt⟩ B.fit (by rw [hz]; unfold scanBound; omega) B.ris B.led fun s1 out k1 hz1 g1 o1 p1 => ?_)
  have p2 : out.Perm (L.map (·.1)) := by
    refine p1.trans ?_
    rw [B.rw_]
    unfold rowsN
    rw [List.map_map]
    exact .refl _
  obtain ⟨L1, e1, pL⟩ := perm_pull _ p2.symm L rfl
  have len1 : L1.length = L.length := pL.length_eq
  have I1 : Inv X pins σ H s1 := I.call' (ch := []) o1 (Un.kept k1) (I.hok.kept k1) (by rw [g1]; exact I.bare) fun b z => absurd z (by simp)
  obtain ⟨m1, m2⟩ := reads_mem I1 sb (L := L1) fun p hp => ⟨(hL p (pL.mem_iff.mp hp)).1, flats_all hf _ (mem L1 pL _ (List.mem_map.mpr ⟨p, hp, rfl⟩))⟩
  rw [← e1] at m1 m2
  have hl : (L1.map fun p => ofNK p.2).length ≤ sizeLine := by rw [List.length_map, len1, sizeLine_eq]; omega
  refine wpAny_bind (wpAny_newList ?_ (by rw [m1.length]; exact hl))
  have at0 : (s1.heap.push { cls := .type "list", data := .seq out.toArray }).get? s1.heap.objs.size = some (seqObj "list" out.toArray 0) := Heap.get?_push_size _ rfl
  have k2 : ∀ b o, s1.heap.get? b = some o → (s1.heap.push { cls := .type "list", data := .seq out.toArray }).get? b = some o := fun b o q => Heap.get?_push_of_some _ q
  refine wpAny_bind (wpAny_holding (PySem.W.list_sort_data (s := { s1 with heap := s1.heap.push { cls := .type "list", data := .seq out.toArray } }) (bs := L1.map fun p => ofNK p.2) (enc := D.py) at0 m1 ?_ ?_ ?_ hl ?_ fun out2 hl2 ho2 => ?_))
  · refine m2.mono fun u b ⟨as, r⟩ => ⟨as, PyProof.Rows.Reads.keeps k2 r, fun hm => ?_⟩
    exact absurd (reads_lt r _ hm) (Nat.lt_irrefl _)
  · intro d hd d' hd'
    obtain ⟨b, hb, rfl⟩ := List.mem_map.mp hd
    obtain ⟨b', hb', rfl⟩ := List.mem_map.mp hd'
    exact List.all_eq_true.mp (List.all_eq_true.mp hal b (mem L1 pL b hb)) b' (mem L1 pL b' hb')
  · rcases hk with hk | hk
    · refine .inl fun d hd => ?_
      obtain ⟨b, hb, rfl⟩ := List.mem_map.mp hd
      have := List.all_eq_true.mp hk b (mem L1 pL b hb)
      split at this
      · simp only [D.py, D.pys]
        exact ⟨_, _, rfl⟩
      · cases this
    · refine .inr fun d hd => ?_
      obtain ⟨b, hb, rfl⟩ := List.mem_map.mp hd
      have h1 := List.all_eq_true.mp hk b (mem L1 pL b hb)
      have h2 := flats_all hf b (mem L1 pL b hb)
      cases b <;> first | (simp at h1; done) | (simp [D.py]; done) | (simp [D.flat] at h2; done)
  · intro b hb
    have := flat_depth (flats_all hf b (mem L1 pL b hb))
    show X.A.units + 1 + 1 + _ < _
    omega
  · obtain ⟨ep2, he⟩ := sortedHeap_at (vs := out) (out := out2.toArray) at0
    obtain ⟨ws, r1, r2⟩ := of_each ho2
    have r1 : RDs X.K F (sortD ((dedup ks).map ofNK)) ws := by
      rw [← sorts L1 pL]
      exact r1
    have lw : ws.length ≤ sizeLine := by
      rw [r2.length, hl2]
      exact hl
    have hn : H s1.heap.objs.size = none := I1.hok.fresh (Nat.le_refl _)
    have new : ObjOk X.prog X.w (upd H s1.heap.objs.size (.lst ws)) (sortedHeap (s1.heap.push { cls := .type "list", data := .seq out.toArray }) s1.heap.objs.size out out2.toArray) s1.heap.objs.size (.lst ws) := ⟨lw, _, ep2, r2, he⟩
    have k3 : ∀ b o, s1.heap.get? b = some o → (sortedHeap (s1.heap.push { cls := .type "list", data := .seq out.toArray }) s1.heap.objs.size out out2.toArray).get? b = some o := fun b o q => by
      have lt : b < s1.heap.objs.size := Heap.lt_size q
      rw [sortedHeap_old (Nat.ne_of_lt lt) (Nat.lt_of_lt_of_le lt (by rw [Heap.size_push]; exact Nat.le_succ _))]
      exact Heap.get?_push_of_some _ q
    refine wpAny_pure ⟨_, rfl, .ref _, _, I1.call' (ch := []) rfl (Un.laid k3 (Nat.le_refl _) hn) (I1.hok.laid k3 (Nat.le_refl _) new) I1.bare fun b z => absurd z (by simp), rfl, give_lst sb gv r1 hn⟩
end
end Ev

set_option Elab.async false
set_option linter.all false
set_option autoImplicit false
set_option maxHeartbeats 2000000
/-! Ev, part Sh: the rules. -/
namespace Ev
variable [ClsTab]
open PySem PySem.Spec PyProof.Rows L2
section
variable {X : Cx} {T : CT} {W : WX}
omit [ClsTab] in
theorem sortSet_inv {ds : List D} {o : Out} (h : sortSetG ds = some o) : ∃ u xs ks, ds = [u] ∧ items u = some xs ∧ D.nks xs = some ks ∧ okSet ks = true ∧ sortable ((dedup ks).map ofNK) = true ∧ o = .new (.lst (sortD ((dedup ks).map ofNK))) := by
  unfold sortSetG at h
  split at h <;> first | (cases h; done) | skip
  obtain ⟨xs, h1, h2⟩ := Option.bind_eq_some_iff.mp h
  obtain ⟨ks, h3, h4⟩ := Option.bind_eq_some_iff.mp h2
  split at h4 <;> first | (cases h4; done) | skip
  rename_i hh
  cases h4
  exact ⟨_, xs, ks, rfl, h1, h3, hh.1, hh.2, rfl⟩
omit [ClsTab] in
theorem lenSet_inv {ds : List D} {o : Out} (h : lenSetG ds = some o) : ∃ u xs ks, ds = [u] ∧ items u = some xs ∧ D.nks xs = some ks ∧ okSet ks = true ∧ o = .d (.int (dedup ks).length) := by
  unfold lenSetG at h
  split at h <;> first | (cases h; done) | skip
  obtain ⟨xs, h1, h2⟩ := Option.bind_eq_some_iff.mp h
  obtain ⟨ks, h3, h4⟩ := Option.bind_eq_some_iff.mp h2
  split at h4 <;> first | (cases h4; done) | skip
  rename_i hh
  cases h4
  exact ⟨_, xs, ks, rfl, h1, h3, hh, rfl⟩
omit [ClsTab] in
theorem set_boot : bootBuiltins ("set" : Str) = some (.type "set") := by decide +kernel
omit [ClsTab] in
theorem sorted_boot : bootBuiltins ("sorted" : Str) = some (.builtin "sorted") := by decide +kernel
omit [ClsTab] in
theorem len_boot : bootBuiltins ("len" : Str) = some (.builtin "len") := by decide +kernel
theorem e_set (hc : X.calm = true) (hu : X.A.units + 100 < cLine) (gt : Gl X "set") (mt : X.mg "set" = none) {e : Expr} {m : EM Out} {p2 p3 : Pos} (ha : PA X [e] (tM X.K T W (ROs X.K) (args [m]))) (hs : starEach [e] X.env = (false, eval e X.env) :: starEach [] X.env) :
    PE X (.Call (.Name "set" p2) [e] [] p3) (tCB (rSetN X.K X.w) (tM X.K T W (ROs X.K) (args [m]))) :=
  pe_callTy (k_setN hc hu) gt mt set_boot ha (by decide) (by decide) hs (by rfl)
theorem gives_past {K : PySem.W.Frag} {F H : Hp} {z : D} {Q : VK} {a : Addr} {u : HO} (sb : Same F H) (g : Gives K F H (.new z) Q) (n : H a = none) : Gives K F (upd H a u) (.new z) Q := by
  intro F' H' b w m nb hb fb r
  have sm : Same H (upd H a u) := same_upd n
  refine g F' H' b w ⟨m.ff, sm.trans m.hh, m.sub, fun c o e => ?_⟩ ?_ hb fb r
  · rcases m.fro c o e with h | h
    · exact .inl h
    · right
      cases q : H c with
      | none => rfl
      | some x => rw [sm _ _ q] at h; cases h
  · cases q : H b with
    | none => rfl
    | some x => rw [sm _ _ q] at nb; cases nb
theorem gives_pastD {K : PySem.W.Frag} {F H : Hp} {z : D} {Q : VK} {a : Addr} {u : HO} (sb : Same F H) (g : Gives K F H (.d z) Q) (n : H a = none) : Gives K F (upd H a u) (.d z) Q := by
  intro F' H' v m r
  have sm : Same H (upd H a u) := same_upd n
  refine g F' H' v ⟨m.ff, sm.trans m.hh, m.sub, fun c o e => ?_⟩ r
  rcases m.fro c o e with h | h
  · exact .inl h
  · right
    cases q : H c with
    | none => rfl
    | some x => rw [sm _ _ q] at h; cases h
theorem e_sortSet (hc : X.calm = true) (hu : X.A.units + 100 < cLine) (gs : Gl X "sorted") (ms : X.mg "sorted" = none) (gt : Gl X "set") (mt : X.mg "set" = none) {e : Expr} {m : EM Out} {p p2 p3 pos : Pos} (ha : PA X [e] (tM X.K T W (ROs X.K) (args [m])))
    (hs : starEach [e] X.env = (false, eval e X.env) :: starEach [] X.env) : PE X (.Call (.Name "sorted" p) [.Call (.Name "set" p2) [e] [] p3] [] pos) (tE X.K T W (sortSet m)) :=
  (pe_callB (k_sortN hc hu) gs ms sorted_boot (pa_cons (e_set hc hu gt mt ha hs) pa_nil) (by decide) (by decide)).imp fun σ H Q h => by
    obtain ⟨F, ι, s, R, A⟩ := bi_imp (fun ds o g => by obtain ⟨_, _, _, _, _, _, _, _, rfl⟩ := sortSet_inv g; trivial) h
    refine ⟨F, ι, s, R, A.mono fun vs H1 ⟨F1, ds, o, sb, vw, g, gv⟩ => ?_⟩
    obtain ⟨u, xs, ks, rfl, h1, h2, h3, h4, rfl⟩ := sortSet_inv g
    obtain ⟨v, rfl, v1⟩ := vw.one
    refine ⟨F1, u, xs, ks, v, sb, rfl, v1, h1, h2, h3, fun a kd L n hL => ?_⟩
    exact ⟨F1, a, kd, ks, L, sb.trans (same_upd n), rfl, upd_same, hL, h4, gives_past sb gv n⟩
theorem e_lenSet (hc : X.calm = true) (hu : X.A.units + 100 < cLine) (gs : Gl X "len") (ms : X.mg "len" = none) (gt : Gl X "set") (mt : X.mg "set" = none) {e : Expr} {m : EM Out} {p p2 p3 pos : Pos} (ha : PA X [e] (tM X.K T W (ROs X.K) (args [m])))
    (hs : starEach [e] X.env = (false, eval e X.env) :: starEach [] X.env) : PE X (.Call (.Name "len" p) [.Call (.Name "set" p2) [e] [] p3] [] pos) (tE X.K T W (lenSet m)) :=
  (pe_callB k_lenN gs ms len_boot (pa_cons (e_set hc hu gt mt ha hs) pa_nil) (by decide) (by decide)).imp fun σ H Q h => by
    obtain ⟨F, ι, s, R, A⟩ := bi_imp (fun ds o g => by obtain ⟨_, _, _, _, _, _, _, rfl⟩ := lenSet_inv g; trivial) h
    refine ⟨F, ι, s, R, A.mono fun vs H1 ⟨F1, ds, o, sb, vw, g, gv⟩ => ?_⟩
    obtain ⟨u, xs, ks, rfl, h1, h2, h3, rfl⟩ := lenSet_inv g
    obtain ⟨v, rfl, v1⟩ := vw.one
    refine ⟨F1, u, xs, ks, v, sb, rfl, v1, h1, h2, h3, fun a kd L n hL => ?_⟩
    refine ⟨a, kd, L, rfl, upd_same, ?_⟩
    have e : L.length = (dedup ks).length := by
      have := hL.1.length_eq
      rwa [List.length_map] at this
    rw [e]
    exact give_d (sb.trans (same_upd n)) (gives_pastD sb gv n) (.int _)
end
end Ev

set_option Elab.async false
set_option linter.all false
set_option autoImplicit false
set_option maxHeartbeats 1000000
/-! Ev, part Y: pairs stored. -/
namespace Ev
variable [ClsTab]
open PySem PySem.Spec PyProof.Rows L2
section
variable {K : PySem.W.Frag} {T : CT} {W : WX} {F H F0 H0 : Hp} {ι i0 : List Addr} {s s0 : S} {σ g0 : L2.St}
theorem fix_ok {Fr : Addr → Prop} {o o' : Out} {v : V} {s1 : S} (R : Rel K F ι s σ H) (r : ROut K Fr F ι s σ H o v) (e : fixO o s = .ok o' s1) : ∃ F1, EStep F ι s σ H F1 ι s1 H ∧ Rel K F1 ι s1 σ H ∧ ROut K Fr F1 ι s1 σ H o' v ∧ (∀ i, o' ≠ .own i) ∧ (∀ x, o' = .new x → o = .new x) := by
  cases o with
  | d x => cases e; exact ⟨F, .refl .., R, r, nofun, nofun⟩
  | ref k => cases e; exact ⟨F, .refl .., R, r, nofun, nofun⟩
  | new x => cases e; exact ⟨F, .refl .., R, r, nofun, fun _ h => h⟩
  | own i =>
    simp only [fixO, EM.bind] at e
    cases hk : keep (.own i) s with
    | bad => rw [hk] at e; cases e
    | exc x s2 => exact absurd hk keep_exc
    | ok d s2 =>
      rw [hk] at e
      cases e
      have r' : ROut K (Fresh s σ ι H) F ι s σ H (.own i) v := r
      obtain ⟨F1, t1, R1, rd⟩ := keep_ok R (.refl ..) r' hk
      exact ⟨F1, t1, R1, rd, nofun, nofun⟩
theorem fix_exc {o : Out} {s s1 : S} {x : Exc} : fixO o s ≠ .exc x s1 := fun e => by
  cases o with
  | own i =>
    simp only [fixO, EM.bind] at e
    cases hk : keep (.own i) s with
    | bad => rw [hk] at e; cases e
    | exc x s2 => exact keep_exc hk
    | ok d s2 => rw [hk] at e; cases e
  | _ => cases e
theorem set_owned {i : Nat} {x : Slot} {v : V} {a : Addr} (h : Owned { s with env := s.env.set i (some x) } (σ.set i (some v)) ι a) : Owned s σ ι a ∨ ((∃ y, x = .own y) ∧ v = .ref a) := by
  rcases h with ⟨j, ⟨y, q⟩, q2⟩ | ⟨k, h⟩
  · simp only [set_get] at q q2
    by_cases hj : i = j
    · rw [if_pos hj] at q q2
      split at q <;> cases q
      split at q2 <;> cases q2
      exact .inr ⟨⟨_, rfl⟩, rfl⟩
    · rw [if_neg hj] at q q2
      exact .inl (.inl ⟨j, ⟨y, q⟩, q2⟩)
  · exact .inl (.inr ⟨k, h⟩)
end
section
variable {X : Cx} {T : CT} {W : WX} {pos : Pos}
theorem s_par {i j : Nat} {x y : Str} {a b : Expr} {ma mb : EM Out} {px py pt : Pos} {kt k2 pt2} (hc : X.calm = true) (hN : X.N.Nodup) (hi : X.N[i]? = some x) (hj : X.N[j]? = some y) (hij : i ≠ j) (hx : X.env.scope.names.lookup x = some .local) (hy : X.env.scope.names.lookup y = some .local)
    (ha : PE X a (tE X.K T W ma)) (hb : PE X b (tE X.K T W mb)) (hs1 : starEach [a, b] X.env = (false, eval a X.env) :: starEach [b] X.env) (hs2 : starEach [b] X.env = (false, eval b X.env) :: starEach [] X.env)
    (hw : swappedStores [.Tuple [.Name x px, .Name y py] kt pt] (.Tuple [a, b] k2 pt2) X.env = pure (some [x, y])) (hs : swapsWithSole [.Tuple [.Name x px, .Name y py] kt pt] (.Tuple [a, b] k2 pt2) pos.line X.env = pure false) :
    PS X (.Assign [.Tuple [.Name x px, .Name y py] kt pt] (.Tuple [a, b] k2 pt2) pos) (tS X.K T W (sPar i j ma mb)) :=
  (ps_par hc hN hi hj hij hx hy (pa_cons ha (pa_cons hb pa_nil hs2) hs1) hw hs).imp fun D σ H ⟨F, ι, s, R, A⟩ => ⟨F, ι, s, R, A.lift (.refl ..) fun o1 s1 F1 i1 H1 v _ t1 R1 r1 A1 => ⟨F1, i1, s1, R1, A1.lift t1.toStep fun o2 s2 F2 i2 H2 w _ t2 R2 r2 A2 => by
    refine ⟨v, w, rfl, ?_⟩
    have r12 := r1.step t2
    unfold Ev.lift at A2
    cases e1 : fixO o1 s2 with
    | bad => rw [e1] at A2; exact A2.elim
    | exc z s3 => exact absurd e1 fix_exc
    | ok p s3 =>
      rw [e1] at A2
      simp only at A2
      obtain ⟨F3, t3, R3, rp, np, wp⟩ := fix_ok R2 r12 e1
      have r23 := r2.step t3
      cases e2 : fixO o2 s3 with
      | bad => rw [e2] at A2; exact A2.elim
      | exc z s4 => exact absurd e2 fix_exc
      | ok q s4 =>
        rw [e2] at A2
        simp only at A2
        obtain ⟨F4, t4, R4, rq, nq, wq⟩ := fix_ok R3 r23 e2
        have rp4 := rp.step t4
        have t04 := ((t1.toStep.es t2).es t3).es t4
        -- the second store, the first being done
        have two : ∀ {sl : Slot}, RSlot X.K F4 i2 H2 sl v → FreshOr (Fresh s σ ι H) s4 σ i2 sl v → ((∃ z, sl = .own z) → ∃ z, p = .new z) → AftS X.K T W F ι s σ H (store j q { s4 with env := s4.env.set i (some sl) }) D → D.nx ((σ.set i (some v)).set j (some w)) H2 := fun {sl} rs fr hp A3 => by
          obtain ⟨R5, t5⟩ := set_slot (i := i) R4 t04 rs fr
          refine store_aft (Fr := Fresh s1 σ i1 H1) A3 R5 t5 ?_ fun a h => t1.toStep.back h
          cases q with
          | d z => exact rq
          | ref k => exact rq
          | own k => exact absurd rfl (nq k)
          | new z =>
            obtain ⟨b, u, rfl, hu, ru, f, n, frb⟩ := rq
            refine ⟨b, u, rfl, hu, ru, f, fun ow => ?_, frb⟩
            rcases set_owned ow with ow | ⟨h1, rfl⟩
            · exact n ow
            · obtain ⟨z2, rfl⟩ := hp h1
              have := wp z2 rfl
              subst this
              obtain ⟨b2, u2, e3, hu2, _, _, n2, _⟩ := r1
              cases e3
              rcases frb with h | h
              · exact n2 h
              · rw [hu2] at h
                cases h
        cases p with
        | own k => exact absurd rfl (np k)
        | d z => exact two (sl := .d z) rp4 trivial (fun ⟨_, h⟩ => nomatch h) A2
        | ref k => exact two (sl := .ref k) rp4 trivial (fun ⟨_, h⟩ => nomatch h) A2
        | new z =>
          obtain ⟨b, u, rfl, hu, ru, f, n, frb⟩ := rp4
          exact two (sl := .own z) ⟨b, u, rfl, hu, ru, f⟩ (fun c e => by cases e; exact ⟨n, frb⟩) (fun _ => ⟨z, rfl⟩) A2⟩⟩
end
end Ev

set_option Elab.async false
set_option linter.all false
set_option autoImplicit false
set_option maxHeartbeats 1000000
/-! Ev, part Ya: a pair stored by way of a tuple; what is new stays the slot's own. -/
namespace Ev
variable [ClsTab]
open PySem PySem.Spec PyProof.Rows L2
section
variable {X : Cx} {T : CT} {W : WX} {pos : Pos}
theorem s_parT {i j : Nat} {te a b : Expr} {ma mb : EM Out} {k2 pt2} (hg : PG X te ((Tg.many [i, j]).g X.K)) (hij : i ≠ j)
    (ha : PE X a (tE X.K T W ma)) (hb : PE X b (tE X.K T W mb)) (hs1 : starEach [a, b] X.env = (false, eval a X.env) :: starEach [b] X.env) (hs2 : starEach [b] X.env = (false, eval b X.env) :: starEach [] X.env)
    (hs : swapsWithSole [te] (.Tuple [a, b] k2 pt2) pos.line X.env = pure false) (hw : swappedStores [te] (.Tuple [a, b] k2 pt2) X.env = pure none) (h1 : (assignEach [te] X.env).map (·.2) = [assign te X.env]) :
    PS X (.Assign [te] (.Tuple [a, b] k2 pt2) pos) (tS X.K T W (sPar i j ma mb)) :=
  (ps_asg (pe_tup (pa_cons ha (pa_cons hb pa_nil hs2) hs1)) hg hs hw h1).imp fun D σ H ⟨F, ι, s, R, A⟩ => ⟨F, ι, s, R, A.lift (.refl ..) fun o1 s1 F1 i1 H1 v _ t1 R1 r1 A1 => ⟨F1, i1, s1, R1, A1.lift t1.toStep fun o2 s2 F2 i2 H2 w _ t2 R2 r2 A2 => by
    refine ⟨(by decide : 2 ≤ sizeLine), fun p np => ?_⟩
    have mo : More F2 H2 F2 (upd H2 p (.tup [v, w])) := More.one R2.sub np
    refine ⟨p, [v, w], rfl, .inl (.of upd_same), rfl, v, [w], rfl, ?_⟩
    show ∃ v' vr, [w] = v' :: vr ∧ _
    refine ⟨w, [], rfl, ?_⟩
    show [] = [] ∧ D.nx ((σ.set i (some v)).set j (some w)) (upd H2 p (.tup [v, w]))
    refine ⟨rfl, ?_⟩
    have t2 := t2.trans (.more mo)
    have r2 := r2.step (.more mo)
    have R2 := R2.more mo
    generalize upd H2 p (.tup [v, w]) = H2 at t2 r2 R2
    have r12 := r1.step t2
    unfold Ev.lift at A2
    cases e1 : fixO o1 s2 with
    | bad => rw [e1] at A2; exact A2.elim
    | exc z s3 => exact absurd e1 fix_exc
    | ok p s3 =>
      rw [e1] at A2
      simp only at A2
      obtain ⟨F3, t3, R3, rp, np, wp⟩ := fix_ok R2 r12 e1
      have r23 := r2.step t3
      cases e2 : fixO o2 s3 with
      | bad => rw [e2] at A2; exact A2.elim
      | exc z s4 => exact absurd e2 fix_exc
      | ok q s4 =>
        rw [e2] at A2
        simp only at A2
        obtain ⟨F4, t4, R4, rq, nq, wq⟩ := fix_ok R3 r23 e2
        have rp4 := rp.step t4
        have t04 := ((t1.toStep.es t2).es t3).es t4
        -- the second store, the first being done
        have two : ∀ {sl : Slot}, RSlot X.K F4 i2 H2 sl v → FreshOr (Fresh s σ ι H) s4 σ i2 sl v → ((∃ z, sl = .own z) → ∃ z, p = .new z) → AftS X.K T W F ι s σ H (store j q { s4 with env := s4.env.set i (some sl) }) D → D.nx ((σ.set i (some v)).set j (some w)) H2 := fun {sl} rs fr hp A3 => by
          obtain ⟨R5, t5⟩ := set_slot (i := i) R4 t04 rs fr
          refine store_aft (Fr := Fresh s1 σ i1 H1) A3 R5 t5 ?_ fun a h => t1.toStep.back h
          cases q with
          | d z => exact rq
          | ref k => exact rq
          | own k => exact absurd rfl (nq k)
          | new z =>
            obtain ⟨b, u, rfl, hu, ru, f, n, frb⟩ := rq
            refine ⟨b, u, rfl, hu, ru, f, fun ow => ?_, frb⟩
            rcases set_owned ow with ow | ⟨h1, rfl⟩
            · exact n ow
            · obtain ⟨z2, rfl⟩ := hp h1
              have := wp z2 rfl
              subst this
              obtain ⟨b2, u2, e3, hu2, _, _, n2, _⟩ := r1
              cases e3
              rcases frb with h | h
              · exact n2 h
              · rw [hu2] at h
                cases h
        cases p with
        | own k => exact absurd rfl (np k)
        | d z => exact two (sl := .d z) rp4 trivial (fun ⟨_, h⟩ => nomatch h) A2
        | ref k => exact two (sl := .ref k) rp4 trivial (fun ⟨_, h⟩ => nomatch h) A2
        | new z =>
          obtain ⟨b, u, rfl, hu, ru, f, n, frb⟩ := rp4
          exact two (sl := .own z) ⟨b, u, rfl, hu, ru, f⟩ (fun c e => by cases e; exact ⟨n, frb⟩) (fun _ => ⟨z, rfl⟩) A2⟩⟩
end
end Ev

set_option Elab.async false
set_option linter.all false
set_option autoImplicit false
set_option maxHeartbeats 1000000
/-! Ev, part X: from the given text to the evaluator. -/
namespace Ev
variable [ClsTab]
open PySem PySem.Spec PyProof.Rows L2
/-- what is known of the names at some place of the text -/
structure CC where
  N : List Str
  names : List (Str × NameKind)
  st : Str → Bool
  cel : Nat → Bool
  free : List Str
  fns : Str → Nat → Option (Nat × List Ev.D)
  bor : List Str
  kfn : Str → Nat → Str → Option Nat
  lnd : List Str
  con : Str → Option Ev.D := fun _ => none
  fls : Str → List Nat := fun _ => []
  mth : Str → Nat → List (Nat × Nat) := fun _ _ => []
  mkc : Str → Nat → Option (Nat × Nat) := fun _ _ => none
  its : List (Nat × Str) := []
  lens : List (Nat × Nat) := []
def ixOf : List Str → Str → Option Nat
  | [], _ => none
  | y :: ys, x => if x = y then some 0 else (ixOf ys x).map (· + 1)
def CC.vis (Γ : CC) (x : Str) : Bool := match Γ.names.lookup x with
  | some .local | some .cell | some .free => true
  | _ => false
def CC.glo (Γ : CC) (x : Str) : Bool := match Γ.names.lookup x with
  | some .globalImplicit => true
  | _ => false
def CC.gl (Γ : CC) (x : Str) : Bool := Γ.glo x && decide (x ∈ Γ.free)
def notStar : Expr → Bool
  | .Starred .. => false
  | _ => true
def opOf : Operator → Option BOp
  | .Add => some .add | .Sub => some .sub | .Mult => some .mul | .FloorDiv => some .fdiv | .Mod => some .mod | .Pow => some .pow
  | _ => none
def copOf : CmpOp → COp
  | .Eq => .eq | .NotEq => .ne | .Lt => .lt | .LtE => .le | .Gt => .gt | .GtE => .ge | .Is => .is | .IsNot => .isnt | .In => .isin | .NotIn => .notin
def biOf (x : Str) (n : Nat) : Option Bi :=
  if n = 2 then (if x = Bi.max2.name then some .max2 else if x = Bi.min2.name then some .min2 else none)
  else if n = 1 then [Bi.len, .abs, .int, .list, .tuple, .sorted, .all, .any, .sum, .max, .min, .repr].find? fun f => decide (x = f.name)
  else none
def tyOf (x : Str) : Option Ty := [Ty.int, .str, .bool, .tuple, .list, .dict].find? fun f => decide (x = f.name)
def mtOf (x : Str) (n : Nat) : Option Mt :=
  if n = 0 then [Mt.pop, .clear].find? fun f => decide (x = f.name)
  else if n = 1 then [Mt.append, .popAt].find? fun f => decide (x = f.name)
  else if n = 2 then [Mt.insert].find? fun f => decide (x = f.name)
  else none
def CC.tg (Γ : CC) : Expr → Option Tg
  | .Name x _ => if Γ.st x = true then (ixOf Γ.N x).map .one else none
  | .Tuple es _ _ => (names es).map .many
  | _ => none
where
  names : List Expr → Option (List Nat)
    | [] => some []
    | .Name x _ :: r => if Γ.st x = true then (ixOf Γ.N x).bind fun i => (names r).map (i :: ·) else none
    | _ :: _ => none
/-- the names of a comprehension's block -/
def relN (sc : Scope) (names : List (Str × NameKind)) : List (Str × NameKind) := sc.names.map fun (n, k) => if (k == .free && names.lookup n == some .cell) then (n, .cell) else (n, k)
def ownOf (N : List Str) : List (Str × NameKind) → List (Str × Nat)
  | [] => []
  | (x, .local) :: r | (x, .cell) :: r => match ixOf N x with
    | some i => (x, i) :: ownOf N r
    | none => ownOf N r
  | _ :: r => ownOf N r
def CC.blk (Γ : CC) (sc : Scope) : CC := { Γ with
  names := relN sc Γ.names
  st := fun x => match (relN sc Γ.names).lookup x with
    | some .local => true
    | some .cell => sc.names.lookup x == some .cell
    | _ => false }
/-- what Python has, asked of what may be an instance -/
def biX (Γ : CC) (C : Call) (f : Bi) (ms : List (EM Out)) : EM Out := if Γ.its.isEmpty = true then bi f ms else match f, ms with
  | .len, [m] => lenI C Γ.lens m
  | .list, [m] => listI C Γ.lens Γ.its m
  | f, ms => bi f ms
def seqX (its : List (Nat × Str)) (m : EM Out) : EM (List Ev.D) := if its.isEmpty = true then seqE m else seqI its m
structure Rec where
  e : CC → Expr → Option (Call → EM Out)
  b : CC → Expr → Option (Call → EM Bool)
section
variable (r : Rec) (Γ : CC)
/-- a display's items -/
def elsC : List Expr → Option (Call → List (Bool × EM Out))
  | [] => some fun _ => []
  | .Starred e _ :: es => (r.e Γ e).bind fun m => (elsC es).bind fun ms => some fun C => (true, m C) :: ms C
  | e :: es => (r.e Γ e).bind fun m => (elsC es).bind fun ms => some fun C => (false, m C) :: ms C
/-- arguments, none with a star -/
def argC : List Expr → Option (Call → List (EM Out))
  | [] => some fun _ => []
  | e :: es => if notStar e = true then (r.e Γ e).bind fun m => (argC es).bind fun ms => some fun C => m C :: ms C else none
def endC : Option Expr → Option (Call → Option (EM Out))
  | none => some fun _ => none
  | some e => (r.e Γ e).bind fun m => some fun C => some (m C)
def tysC : List Expr → Option (List (Ty × Pos))
  | [] => some []
  | .Name x p :: es => (tyOf x).bind fun t => if Γ.gl x = true then (tysC es).map ((t, p) :: ·) else none
  | _ :: _ => none
/-- isinstance -/
def isaC : List Expr → Option (Call → EM Out)
  | [e, .Name x _] => if Γ.gl "isinstance" = true ∧ notStar e = true then (tyOf x).bind fun t => if Γ.gl x = true then (r.e Γ e).bind fun m => some fun C => isa (m C) [t] else none else none
  | [e, .Tuple es _ _] => if Γ.gl "isinstance" = true ∧ notStar e = true then (tysC Γ es).bind fun ts => if ts.length ≤ 6 then (r.e Γ e).bind fun m => some fun C => isa (m C) (ts.map (·.1)) else none else none
  | _ => none
/-- the argument of sorted(set(e)), len(set(e)) -/
def setArg : List Expr → Option Expr
  | [.Call (.Name y _) [e] [] _] => if y = "set" then some e else none
  | _ => none
def setC (x : Str) (e : Expr) : Option (Call → EM Out) := if Γ.gl x = true ∧ Γ.gl "set" = true ∧ notStar e = true then (r.e Γ e).bind fun m =>
    if x = "sorted" then some fun C => sortSet (m C) else if x = "len" then some fun C => lenSet (m C) else none
  else none
/-- f(..) -/
def callC (x : Str) (es : List Expr) : Option (Call → EM Out) := match Γ.mkc x es.length with
  | some q => if Γ.glo x = true ∧ es.isEmpty = false then (argC r Γ es).bind fun ms => some fun C => mkI C q.1 q.2 (ms C) else none
  | none => if x = "isinstance" then isaC r Γ es else match setArg es with
  | some e => setC r Γ x e
  | none => match biOf x es.length with
  | some f => if Γ.gl x = true then (argC r Γ es).bind fun ms => some fun C => biX Γ C f (ms C) else none
  | none => if Γ.glo x = true then (Γ.fns x es.length).bind fun fd => (argC r Γ es).bind fun ms => if x ∈ Γ.bor ∧ fd.2.isEmpty = true then some fun C => callB C fd.1 (ms C) else if x ∈ Γ.lnd ∧ fd.2.isEmpty = true then some fun C => callP C fd.1 (ms C) else some fun C => Ev.call C fd.1 (ms C) fd.2 else none
/-- f(.., k=e) -/
def kwC (x : Str) (es : List Expr) (nm : Str) (k : Expr) : Option (Call → EM Out) :=
  if x = "max" ∧ nm = "default" then (match es with
    | [e] => if Γ.gl x = true ∧ notStar e = true then (r.e Γ e).bind fun m => (r.e Γ k).bind fun mk => some fun C => maxDf (m C) (mk C) else none
    | _ => none)
  else if Γ.glo x = true then (Γ.kfn x es.length nm).bind fun fi => (argC r Γ es).bind fun ms => (r.e Γ k).bind fun mk => some fun C => Ev.call C fi (ms C ++ [mk C]) [] else none
def isObjE : Expr → Bool
  | .Name .. | .Subscript .. => true
  | _ => false
/-- o.m(..) -/
def methC (o : Expr) (x : Str) (es : List Expr) : Option (Call → EM Out) := if (Γ.mth x es.length).isEmpty = false then
    (if isRecv o = true ∧ es.length < 20 then (r.e Γ o).bind fun mo => (argC r Γ es).bind fun ms => some fun C => callM C (Γ.mth x es.length) x (mo C) (ms C) else none)
  else if isObjE o = true ∧ es.length < 20 then (r.e Γ o).bind fun mo => (argC r Γ es).bind fun ms =>
    if x = "extend" then (match es with
      | [e] => (r.e Γ e).bind fun m => some fun C => ext (mo C) (m C)
      | _ => none)
    else (mtOf x es.length).bind fun f => some fun C => mt f (mo C) (ms C) else none
/-- what is walked -/
def iterC (tg : Expr) : Expr → Option (Call → EM (List Ev.D))
  | .Set .. => none
  | .Call (.Name x p) es [] pos => match tg with
    | .Tuple _ _ _ => (match es with
      | [a] => if x = "enumerate" then (if Γ.gl x = true ∧ notStar a = true then (r.e Γ a).bind fun m => some fun C => enumE (m C) else none) else gen (.Call (.Name x p) es [] pos)
      | [a, b] => if x = "zip" then (if Γ.gl x = true ∧ notStar a = true ∧ notStar b = true then (r.e Γ a).bind fun m => (r.e Γ b).bind fun n => some fun C => zipE (m C) (n C) else none) else gen (.Call (.Name x p) es [] pos)
      | _ => gen (.Call (.Name x p) es [] pos))
    | _ => (match es with
      | [a] => if x = "range" then (if Γ.gl x = true ∧ notStar a = true then (r.e Γ a).bind fun m => some fun C => rng1 (m C) else none) else gen (.Call (.Name x p) es [] pos)
      | [a, b] => if x = "range" then (if Γ.gl x = true ∧ notStar a = true ∧ notStar b = true then (r.e Γ a).bind fun m => (r.e Γ b).bind fun n => some fun C => rng2 (m C) (n C) else none) else gen (.Call (.Name x p) es [] pos)
      | _ => gen (.Call (.Name x p) es [] pos))
  | e => gen e
where gen (e : Expr) : Option (Call → EM (List Ev.D)) := (r.e Γ e).bind fun m => some fun C => seqX Γ.its (m C)
def ifsC : List Expr → Option (Call → EM Bool)
  | [] => some fun _ => yes
  | [c] => r.b Γ c
  | _ => none
def isSet : Expr → Bool
  | .Set .. => true
  | _ => false
def lcC (elt tg iter : Expr) (ifs : List Expr) (sc : Scope) : Option (Call → EM Out) := if blkC Γ.N { sc with names := Γ.names } sc (ownOf Γ.N sc.names) = true ∧ isSet iter = false then
    (iterC r Γ tg iter).bind fun mi => ((Γ.blk sc).tg tg).bind fun t => if (t.slots.all fun i => decide (i ∈ (ownOf Γ.N sc.names).map (·.2))) = true then
      (ifsC r (Γ.blk sc) ifs).bind fun mc => (r.e (Γ.blk sc) elt).bind fun me => some fun C => lc ((ownOf Γ.N sc.names).map (·.2)) t (mi C) (mc C) (me C) else none else none
/-- two fors -/
def lc2C (elt tg iter : Expr) (ifs : List Expr) (tg1 iter1 : Expr) (ifs1 : List Expr) (sc : Scope) : Option (Call → EM Out) := if blkC Γ.N { sc with names := Γ.names } sc (ownOf Γ.N sc.names) = true ∧ isSet iter = false ∧ isSet iter1 = false then
    (iterC r Γ tg iter).bind fun mi => ((Γ.blk sc).tg tg).bind fun t => ((Γ.blk sc).tg tg1).bind fun t1 => if (t.slots.all fun i => decide (i ∈ (ownOf Γ.N sc.names).map (·.2))) = true ∧ (t1.slots.all fun i => decide (i ∈ (ownOf Γ.N sc.names).map (·.2))) = true then
      (ifsC r (Γ.blk sc) ifs).bind fun mc => (iterC r (Γ.blk sc) tg1 iter1).bind fun mi1 => (ifsC r (Γ.blk sc) ifs1).bind fun mc1 => (r.e (Γ.blk sc) elt).bind fun me => some fun C => lc2 ((ownOf Γ.N sc.names).map (·.2)) t1.slots t (mi C) (mc C) t1 (mi1 C) (mc1 C) (me C) else none else none
def stepE : Expr → Option (Call → EM Out)
  | .Constant (.int i) _ _ => some fun _ => lit (.int i)
  | .Constant (.str x) _ _ => if PyData.strOk x = true then some fun _ => lit (.str x) else none
  | .Constant (.bool b) _ _ => some fun _ => lit (.bl b)
  | .Constant .none _ _ => some fun _ => lit .non
  | .Name x _ => if Γ.vis x = true ∧ (x == ("__debug__" : Str)) = false ∧ (x == ("__classdict__" : Str)) = false then (ixOf Γ.N x).bind fun i => some fun _ => var i else if Γ.glo x = true ∧ (x == ("__debug__" : Str)) = false then (Γ.con x).bind fun d => some fun _ => lit d else none
  | .Attribute e nm _ => if isRecv e = true then (r.e Γ e).bind fun m => some fun C => fld nm (Γ.fls nm) (m C) else none
  | .BinOp a op b _ => (opOf op).bind fun o => (r.e Γ a).bind fun ma => (r.e Γ b).bind fun mb => some fun C => bin o (ma C) (mb C)
  | .UnaryOp .Not a _ => (r.e Γ a).bind fun m => some fun C => nt (tst (m C))
  | .UnaryOp .USub a _ => (r.e Γ a).bind fun m => some fun C => neg (m C)
  | .Compare a [op] [b] _ => if isSet b = true then none else (r.e Γ a).bind fun ma => (r.e Γ b).bind fun mb => some fun C => cmp (copOf op) (ma C) (mb C)
  | .Compare a [op, op'] [b, c] _ => if isSet c = true then none else (r.e Γ a).bind fun ma => (r.e Γ b).bind fun mb => (r.e Γ c).bind fun mc => some fun C => chn (copOf op) (copOf op') (ma C) (mb C) (mc C)
  | .BoolOp _ [a] _ => r.e Γ a
  | .BoolOp .And (a :: b :: es) p => (r.e Γ a).bind fun ma => (r.e Γ (.BoolOp .And (b :: es) p)).bind fun mb => some fun C => andE (ma C) (mb C)
  | .BoolOp .Or (a :: b :: es) p => (r.e Γ a).bind fun ma => (r.e Γ (.BoolOp .Or (b :: es) p)).bind fun mb => some fun C => orE (ma C) (mb C)
  | .IfExp c a b _ => (r.b Γ c).bind fun mc => (r.e Γ a).bind fun ma => (r.e Γ b).bind fun mb => some fun C => iteE (mc C) (ma C) (mb C)
  | .Tuple es _ _ => (elsC r Γ es).bind fun ms => some fun C => tupE (ms C)
  | .List es _ => (elsC r Γ es).bind fun ms => some fun C => lstE (ms C)
  | .Subscript a (.Slice lo hi none _) _ => (r.e Γ a).bind fun ma => (endC r Γ lo).bind fun ml => (endC r Γ hi).bind fun mh => some fun C => cut (ma C) (ml C) (mh C)
  | .Subscript a b _ => (match b with
    | .Slice .. => none
    | _ => (r.e Γ a).bind fun ma => (r.e Γ b).bind fun mb => some fun C => idx (ma C) (mb C))
  | .Call (.Name x _) es [] _ => callC r Γ x es
  | .Call (.Name x _) (e :: es) [⟨some nm, k, _⟩] _ => kwC r Γ x (e :: es) nm k
  | .Call (.Attribute o x ap) es [] p => if (ap.endLine == p.line) = true then methC r Γ o x es else none
  | .ListComp elt [⟨tg, iter, ifs, 0⟩] sc _ => lcC r Γ elt tg iter ifs sc
  | .ListComp elt [⟨tg, iter, ifs, 0⟩, ⟨tg1, iter1, ifs1, 0⟩] sc _ => lc2C r Γ elt tg iter ifs tg1 iter1 ifs1 sc
  | _ => none
def plainTest : Expr → Bool
  | .Name .. | .Call .. | .Subscript .. => true
  | _ => false
def stepB : Expr → Option (Call → EM Bool)
  | .UnaryOp .Not a _ => (r.b Γ a).bind fun m => some fun C => ntB (m C)
  | .Compare a [op] [b] _ => if isSet b = true then none else (r.e Γ a).bind fun ma => (r.e Γ b).bind fun mb => some fun C => cmpB (copOf op) (ma C) (mb C)
  | .Compare a [op, op'] [b, c] _ => if isSet c = true then none else (r.e Γ a).bind fun ma => (r.e Γ b).bind fun mb => (r.e Γ c).bind fun mc => some fun C => chnB (copOf op) (copOf op') (ma C) (mb C) (mc C)
  | .BoolOp .And [a] _ => r.b Γ a
  | .BoolOp .Or [a] _ => r.b Γ a
  | .BoolOp .And (a :: b :: es) p => (r.b Γ a).bind fun ma => (r.b Γ (.BoolOp .And (b :: es) p)).bind fun mb => some fun C => andB (ma C) (mb C)
  | .BoolOp .Or (a :: b :: es) p => (r.b Γ a).bind fun ma => (r.b Γ (.BoolOp .Or (b :: es) p)).bind fun mb => some fun C => orB (ma C) (mb C)
  | e => if plainTest e = true then (r.e Γ e).bind fun m => some fun C => tst (m C) else none
end
def rec_ : Nat → Rec
  | 0 => ⟨fun _ _ => none, fun _ _ => none⟩
  | n + 1 => ⟨fun Γ => stepE (rec_ n) Γ, fun Γ => stepB (rec_ n) Γ⟩
/-! statements -/
section
variable (r : Rec) (Γ : CC) (q : List Stmt → Option (Call → SM))
def isLcE : Expr → Bool
  | .ListComp .. | .SetComp .. | .DictComp .. => true
  | _ => false
def parOk : List Expr → List Expr → Bool
  | [.Name x p, .Name y p2], [a, b] => decide (Γ.names.lookup x = some .local) && decide (Γ.names.lookup y = some .local) && (p.line == p2.line) && decide (x ≠ y) && notStar a && notStar b && !([a, b].all (foldedForSure 8)) && !([a, b].all (constantsAlone 8))
  | _, _ => false
/-- one of the names is no plain local -/
def hasCell (ts : List Expr) : Bool := ts.any fun
  | .Name x _ => !decide (Γ.names.lookup x = some .local)
  | _ => false
/-- a new list is among two -/
def newOne : List Expr → Bool
  | [.List .., _] | [_, .List ..] | [.ListComp .., _] | [_, .ListComp ..] => true
  | _ => false
/-- no swap and no list comprehension is stored at once -/
def noSwap (x : Str) (sp : Pos) : Expr → Bool
  | .ListComp _ _ s p => !(decide (Γ.names.lookup x = some .local) && (sp.line == p.line) && !(s.names.any fun (n, k) => n == x && (k == .local || k == .cell)))
  | .SetComp .. | .DictComp .. => false
  | _ => true
/-- a statement that is not reached -/
def sBad : SM := fun _ => .bad
def stepS : Stmt → Option (Call → SM)
  | .Pass _ => some fun _ => skip
  | .Expr (.Constant (.str _) _ _) _ => some fun _ => skip
  | .Expr e _ => if isLcE e = true then none else (r.e Γ e).bind fun m => some fun C => sExpr (m C)
  | .Return none _ => some fun _ => sRetN
  | .Return (some e) _ => (r.e Γ e).bind fun m => some fun C => sRet (m C)
  | .Break _ => some fun _ => sBrk
  | .Raise .. => some fun _ => sBad
  | .Continue _ => some fun _ => sCont
  | .If c a b _ => (r.b Γ c).bind fun mc => (q a).bind fun ma => (q b).bind fun mb => some fun C => sIf (mc C) (ma C) (mb C)
  | .Assign [.Name x p] e _ => if Γ.st x = true then (ixOf Γ.N x).bind fun i => (r.e Γ e).bind fun m =>
      if noSwap Γ x p e = true then some fun C => if Γ.cel i = true then sCel i (m C) else sSet i (m C)
      else (match e with
        | .ListComp elt [⟨tg, iter, ifs, 0⟩] sc _ => if Γ.cel i = true then none else (lcC r Γ elt tg iter ifs sc).bind fun m => some fun C => sSet i (m C)
        | _ => none) else none
  | .Assign [.Tuple ts k tp] e p => (match e with
    | .Tuple es _ _ => if parOk Γ ts es = true then (match ts, es with
      | [.Name x _, .Name y _], [a, b] => (ixOf Γ.N x).bind fun i => (ixOf Γ.N y).bind fun j => (r.e Γ a).bind fun ma => (r.e Γ b).bind fun mb => if i = j then none else some fun C => sPar i j (ma C) (mb C)
      | _, _ => none)
      else if hasCell Γ ts = true then if newOne es = true then (Γ.tg (.Tuple ts k tp)).bind fun t => (match t, es with
        | .many [i, j], [a, b] => if i ≠ j ∧ notStar a = true ∧ notStar b = true then (r.e Γ a).bind fun ma => (r.e Γ b).bind fun mb => some fun C => sPar i j (ma C) (mb C) else none
        | _, _ => none)
      else (Γ.tg (.Tuple ts k tp)).bind fun t => (elsC r Γ es).bind fun ms => some fun C => sUnp t (tupE (ms C)) else none
    | _ => if isLcE e = true then none else (Γ.tg (.Tuple ts k tp)).bind fun t => (r.e Γ e).bind fun m => some fun C => sUnp t (m C))
  | .Assign [.Attribute o nm _] e _ => if isLcE e = true then none else (r.e Γ o).bind fun mo => (r.e Γ e).bind fun m => some fun C => sFldE nm (Γ.fls nm) (mo C) (m C)
  | .Assign [.Subscript o i _] e _ => if isLcE e = true then none else (match i with
    | .Slice .. => none
    | _ => (r.e Γ o).bind fun mo => (r.e Γ i).bind fun mi => (r.e Γ e).bind fun m => some fun C => sPut (mo C) (mi C) (m C))
  | .AugAssign (.Name x _) op e _ => if Γ.st x = true then (opOf op).bind fun o => (ixOf Γ.N x).bind fun i => (r.e Γ e).bind fun m => some fun C => sAug o i (m C) else none
  | .AugAssign (.Subscript o i _) op e _ => (match i with
    | .Slice .. => none
    | _ => (opOf op).bind fun op => (r.e Γ o).bind fun mo => (r.e Γ i).bind fun mi => (r.e Γ e).bind fun m => some fun C => sAugI op (mo C) (mi C) (m C))
  | .For tg iter body [] _ => if isSet iter = true then none else (iterC r Γ tg iter).bind fun mi => (Γ.tg tg).bind fun t => (q body).bind fun mb => some fun C => sFor t (mi C) (mb C)
  | .While (.Constant (.bool true) _ _) [.Pass _] [] _ => some fun _ => sBad
  | .While c body [] _ => (r.b Γ c).bind fun mc => (q body).bind fun mb => some fun C => sWhile (mc C) (mb C)
  | _ => none
end
def seqC (r : Rec) (Γ : CC) : Nat → List Stmt → Option (Call → SM)
  | _, [] => some fun _ => skip
  | 0, _ :: _ => none
  | n + 1, st :: r2 => (stepS r Γ (seqC r Γ n) st).bind fun m => (seqC r Γ n r2).bind fun ms => some fun C => seq (m C) (ms C)
end Ev

set_option Elab.async false
set_option linter.all false
set_option autoImplicit false
set_option maxHeartbeats 1000000
/-! Ev, part Z: the compiled text is right. -/
namespace Ev
variable [ClsTab]
open PySem PySem.Spec PyProof.Rows L2
/-- what stands behind a name that is called -/
def Callable (X : Cx) (C : Call) (T : CT) (x : Str) (k fi : Nat) (dd : List Ev.D) : Prop := ∃ (f : Addr) (fd : FuncData) (ps : List Str) (m : Nat) (ds : List Value) (dvs : List V) (n : Nat), X.mg x = some (.ref f) ∧ PySem.W.keepIn X.K (.ref f) = true ∧ FnG X.prog X.w X.K X.mg X.base m f fd ps (spF X.K T C fi n) ∧ Room m X.A ∧
  Binds X.K fd ps ds ∧ Vals dvs ds ∧ (∀ F, RDs X.K F dd dvs) ∧ (∀ us s, us.length ≠ n → C fi us s = .bad) ∧ (x == ("__debug__" : Str)) = false
/-- what stands behind a name that is called with a keyword -/
def CallableK (X : Cx) (C : Call) (T : CT) (x : Str) (k : Nat) (nm : Str) (fi : Nat) : Prop := ∃ (f : Addr) (fd : FuncData) (ps : List Str) (m : Nat) (n : Nat), X.mg x = some (.ref f) ∧ PySem.W.keepIn X.K (.ref f) = true ∧ FnG X.prog X.w X.K X.mg X.base m f fd ps (spF X.K T C fi n) ∧ Room m X.A ∧
  KBn X.K fd ps k [nm] (fun us ws => us ++ ws) (fun vs zs => vs ++ zs) ∧ (∀ us s, us.length ≠ n → C fi us s = .bad) ∧ (x == ("__debug__" : Str)) = false
structure Good (X : Cx) (Γ : CC) (C : Call) (T : CT) : Prop where
  names : X.env.scope.names = Γ.names
  kind : X.env.scope.kind = .function
  N : X.N = Γ.N
  nd : Γ.N.Nodup
  calm : X.calm = true
  gd : X.A.guards = some []
  un : X.A.units + 100 < cLine
  st : ∀ x, Γ.st x = true → Loc X.env.scope x ∧ (X.fn x = true ∨ X.env.scope.names.lookup x = some .local)
  free : ∀ x ∈ Γ.free, X.mg x = none
  fns : ∀ x k fi dd, Γ.fns x k = some (fi, dd) → Callable X C T x k fi dd
  kfn : ∀ x k nm fi, Γ.kfn x k nm = some fi → CallableK X C T x k nm fi
  con : ∀ x d, Γ.con x = some d → ∃ u v, X.mg x = some u ∧ L2.RelV v u ∧ ∀ F, RD X.K F d v
  fls : ∀ nm, ClsF X.K nm (Γ.fls nm)
  mth : ∀ nm k, MethF X C T nm (Γ.mth nm k)
  mkc : ∀ y k c fi, Γ.mkc y k = some (c, fi) → MakeF X C T y c fi
  its : IterL X Γ.its
  lens : DunL X C T "__len__" Γ.lens
omit [ClsTab] in
theorem ixOf_get : ∀ {N : List Str} {x : Str} {i : Nat}, ixOf N x = some i → N[i]? = some x
  | [], _, _, h => by cases h
  | y :: ys, x, i, h => by
    unfold ixOf at h
    split at h
    · rename_i e
      cases h
      rw [e]
      rfl
    · obtain ⟨j, hj, rfl⟩ := Option.map_eq_some_iff.mp h
      simpa using ixOf_get hj
section
variable {X : Cx} {Γ : CC} {C : Call} {T : CT} {W : WX}
theorem Good.vis (G : Good X Γ C T) {x : Str} (h : Γ.vis x = true) : Vis X.env.scope x := by
  unfold CC.vis at h
  unfold Vis
  rw [G.names]
  split at h <;> first | (cases h; done) | simp_all
theorem Good.glo (G : Good X Γ C T) {x : Str} (h : Γ.glo x = true) : Gl X x := by
  unfold CC.glo at h
  show X.env.scope.names.lookup x = _
  rw [G.names]
  split at h
  · assumption
  · cases h
theorem Good.gl (G : Good X Γ C T) {x : Str} (h : Γ.gl x = true) : Gl X x ∧ X.mg x = none := by
  unfold CC.gl at h
  rw [Bool.and_eq_true] at h
  exact ⟨G.glo h.1, G.free x (of_decide_eq_true h.2)⟩
omit [ClsTab] in
theorem star_of {e : Expr} {es : List Expr} {env : Env} (h : notStar e = true) : starEach (e :: es) env = (false, eval e env) :: starEach es env := by
  cases e <;> first | rfl | cases h
omit [ClsTab] in
theorem find_dec {α : Type} {p : α → Prop} [DecidablePred p] {l : List α} {a : α} (h : l.find? (fun a => decide (p a)) = some a) : p a := by
  have := List.find?_some h
  simpa using this
theorem bi_of {x : Str} {n : Nat} {f : Bi} (h : biOf x n = some f) : x = f.name := by
  unfold biOf at h
  split at h
  · split at h
    · cases h; assumption
    · split at h
      · cases h; assumption
      · cases h
  · split at h
    · exact find_dec (p := fun f : Bi => x = f.name) h
    · cases h
theorem ty_of {x : Str} {f : Ty} (h : tyOf x = some f) : x = f.name := find_dec (p := fun f : Ty => x = f.name) h
theorem mt_of {x : Str} {n : Nat} {f : Mt} (h : mtOf x n = some f) : x = f.name := by
  unfold mtOf at h
  split at h
  · exact find_dec (p := fun f : Mt => x = f.name) h
  · split at h
    · exact find_dec (p := fun f : Mt => x = f.name) h
    · split at h
      · exact find_dec (p := fun f : Mt => x = f.name) h
      · cases h
def SoundE (r : Rec) (T : CT) : Prop := ∀ (X : Cx) (Γ : CC) (C : Call) (W : WX), Good X Γ C T → Takes X W → ∀ e m, r.e Γ e = some m → PE X e (tE X.K T W (m C))
def isBool : Expr → Bool
  | .BoolOp .. => true
  | _ => false
def SoundB (r : Rec) (T : CT) : Prop := ∀ (X : Cx) (Γ : CC) (C : Call) (W : WX), Good X Γ C T → Takes X W → ∀ e m, r.b Γ e = some m → PT X e (tB X.K T W (m C)) ∧ (isBool e = true → PW X e (tB X.K T W (m C)))
variable {r : Rec}
theorem els_ok (hE : SoundE r T) (G : Good X Γ C T) (tk : Takes X W) : ∀ {es : List Expr} {m : Call → List (Bool × EM Out)}, elsC r Γ es = some m → PA X es (tM X.K T W (RDL X.K) (els (m C)))
  | [], m, h => by
    cases h
    exact a_nil
  | e :: es, m, h => by
    by_cases hs : notStar e = true
    · have h2 : (r.e Γ e).bind (fun m => (elsC r Γ es).bind fun ms => some fun C => (false, m C) :: ms C) = some m := by
        cases e <;> first | exact h | cases hs
      obtain ⟨me, h3, h4⟩ := Option.bind_eq_some_iff.mp h2
      obtain ⟨ms, h5, h6⟩ := Option.bind_eq_some_iff.mp h4
      cases h6
      exact a_cons (hE X Γ C W G tk _ _ h3) (els_ok hE G tk h5) (star_of hs)
    · cases e <;> first | exact absurd rfl hs | skip
      obtain ⟨me, h3, h4⟩ := Option.bind_eq_some_iff.mp (show (r.e Γ _).bind _ = some m from h)
      obtain ⟨ms, h5, h6⟩ := Option.bind_eq_some_iff.mp h4
      cases h6
      exact a_star (hE X Γ C W G tk _ _ h3) (els_ok hE G tk h5)
/-- arguments in all three ways -/
theorem arg_ok (hE : SoundE r T) (G : Good X Γ C T) (tk : Takes X W) : ∀ {es : List Expr} {m : Call → List (EM Out)}, argC r Γ es = some m → (PA X es (tM X.K T W (ROs X.K) (args (m C))) ∧ PA X es (tM X.K T W (RDL X.K) (keeps (m C))) ∧ PA X es (tM X.K T W (RVls X.K) (passes (m C)))) ∧ ∀ e es', es = e :: es' → starEach es X.env = (false, eval e X.env) :: starEach es' X.env ∧ ∀ pos, (backTo pos (starEach es' X.env)).any (·.1) = false
  | [], m, h => by
    cases h
    exact ⟨⟨g_nil, h_nil, v_nil⟩, nofun⟩
  | e :: es, m, h => by
    unfold argC at h
    split at h <;> first | (cases h; done) | skip
    rename_i hs
    obtain ⟨me, h3, h4⟩ := Option.bind_eq_some_iff.mp h
    obtain ⟨ms, h5, h6⟩ := Option.bind_eq_some_iff.mp h4
    cases h6
    have he := hE X Γ C W G tk _ _ h3
    obtain ⟨⟨i1, i2, i3⟩, i4⟩ := arg_ok hE G tk h5
    refine ⟨⟨g_cons he i1 (star_of hs), h_cons he i2 (star_of hs), v_cons he i3 (star_of hs)⟩, fun e2 es2 q => ?_⟩
    cases q
    refine ⟨star_of hs, fun pos => ?_⟩
    cases es with
    | nil => rfl
    | cons a as =>
      obtain ⟨j1, j2⟩ := i4 a as rfl
      rw [j1]
      show (false || (backTo pos (starEach as X.env)).any (·.1)) = false
      rw [j2 pos]
      rfl
omit [ClsTab] in
theorem arg_all {es : List Expr} {pos : Pos} {env : Env} (h : ∀ e es', es = e :: es' → starEach es env = (false, eval e env) :: starEach es' env ∧ ∀ pos, (backTo pos (starEach es' env)).any (·.1) = false) : (backTo pos (starEach es env)).all (fun x => !x.1) = true := by
  cases es with
  | nil => rfl
  | cons a as =>
    obtain ⟨h1, h2⟩ := h a as rfl
    rw [h1]
    show (!false && (backTo pos (starEach as env)).all (fun x => !x.1)) = true
    have := h2 pos
    rw [Bool.not_false, Bool.true_and, List.all_eq_not_any_not]
    simpa using this
theorem end_ok (hE : SoundE r T) (G : Good X Γ C T) (tk : Takes X W) {o : Option Expr} {m : Call → Option (EM Out)} (h : endC r Γ o = some m) : PO X o (tM X.K T W RI (ends (m C))) := by
  cases o with
  | none => cases h; exact p_none
  | some e =>
    obtain ⟨me, h3, h4⟩ := Option.bind_eq_some_iff.mp h
    cases h4
    exact p_some (hE X Γ C W G tk _ _ h3)
theorem tys_ok (G : Good X Γ C T) : ∀ {es : List Expr} {ts : List (Ty × Pos)}, tysC Γ es = some ts → es = List.zipWith (fun t p => Expr.Name t.name p) (ts.map (·.1)) (ts.map (·.2)) ∧ ∀ t ∈ ts.map (·.1), Gl X t.name ∧ X.mg t.name = none
  | [], ts, h => by
    cases h
    exact ⟨rfl, nofun⟩
  | .Name x p :: es, ts, h => by
    obtain ⟨t, h1, h2⟩ := Option.bind_eq_some_iff.mp (show (tyOf x).bind _ = some ts from h)
    split at h2 <;> first | (cases h2; done) | skip
    rename_i hg
    obtain ⟨ts2, h3, rfl⟩ := Option.map_eq_some_iff.mp h2
    obtain ⟨i1, i2⟩ := tys_ok G h3
    have ex := ty_of h1
    subst ex
    refine ⟨by rw [i1]; simp, fun t' ht => ?_⟩
    rw [List.map_cons] at ht
    rcases List.mem_cons.mp ht with rfl | ht
    · exact G.gl hg
    · exact i2 t' ht
theorem isa_ok (hE : SoundE r T) (G : Good X Γ C T) (tk : Takes X W) {es : List Expr} {p pos : Pos} {m : Call → EM Out} (h : isaC r Γ es = some m) : PE X (.Call (.Name "isinstance" p) es [] pos) (tE X.K T W (m C)) := by
  unfold isaC at h
  split at h
  · split at h <;> first | (cases h; done) | skip
    rename_i hg
    obtain ⟨t, h1, h2⟩ := Option.bind_eq_some_iff.mp h
    split at h2 <;> first | (cases h2; done) | skip
    rename_i hg2
    obtain ⟨me, h3, h4⟩ := Option.bind_eq_some_iff.mp h2
    cases h4
    have ex := ty_of h1
    subst ex
    exact e_isa (G.gl hg.1).1 (G.gl hg.1).2 t (G.gl hg2).1 (G.gl hg2).2 (hE X Γ C W G tk _ _ h3) (star_of hg.2)
  · split at h <;> first | (cases h; done) | skip
    rename_i hg
    obtain ⟨ts, h1, h2⟩ := Option.bind_eq_some_iff.mp h
    split at h2 <;> first | (cases h2; done) | skip
    rename_i hl
    obtain ⟨me, h3, h4⟩ := Option.bind_eq_some_iff.mp h2
    cases h4
    obtain ⟨i1, i2⟩ := tys_ok G h1
    rw [i1]
    exact e_isaT (G.gl hg.1).1 (G.gl hg.1).2 (by simp) (by simpa using hl) i2 (hE X Γ C W G tk _ _ h3) (star_of hg.2)
  · cases h
omit [ClsTab] in
theorem set_arg {es : List Expr} {e : Expr} (h : setArg es = some e) : ∃ p q, es = [.Call (.Name "set" p) [e] [] q] := by
  unfold setArg at h
  split at h <;> first | (cases h; done) | skip
  split at h <;> first | (cases h; done) | skip
  rename_i hy
  subst hy
  cases h
  exact ⟨_, _, rfl⟩
theorem set_ok (hE : SoundE r T) (G : Good X Γ C T) (tk : Takes X W) {x : Str} {es : List Expr} {e : Expr} {p pos : Pos} {m : Call → EM Out} (ha : setArg es = some e) (h : setC r Γ x e = some m) : PE X (.Call (.Name x p) es [] pos) (tE X.K T W (m C)) := by
  obtain ⟨p2, p3, rfl⟩ := set_arg ha
  unfold setC at h
  split at h <;> first | (cases h; done) | skip
  rename_i hg
  obtain ⟨hg1, hg2, hs⟩ := hg
  obtain ⟨me, h1, h2⟩ := Option.bind_eq_some_iff.mp h
  have one : PA X [e] (tM X.K T W (ROs X.K) (args [me C])) := (arg_ok (C := C) (es := [e]) (m := fun C => [me C]) hE G tk (by
    simp only [argC, hs, if_true, h1, Option.bind_some])).1.1
  split at h2
  · rename_i hx
    subst hx
    cases h2
    exact e_sortSet G.calm G.un (G.gl hg1).1 (G.gl hg1).2 (G.gl hg2).1 (G.gl hg2).2 one (star_of hs)
  · split at h2 <;> first | (cases h2; done) | skip
    rename_i hx
    subst hx
    cases h2
    exact e_lenSet G.calm G.un (G.gl hg1).1 (G.gl hg1).2 (G.gl hg2).1 (G.gl hg2).2 one (star_of hs)
theorem argC_len : ∀ {es : List Expr} {ms : Call → List (EM Out)}, argC r Γ es = some ms → ∀ C, (ms C).length = es.length
  | [], ms, h, C => by
    cases h
    rfl
  | e :: es, ms, h, C => by
    unfold argC at h
    split at h <;> first | (cases h; done) | skip
    obtain ⟨m, h1, h2⟩ := Option.bind_eq_some_iff.mp h
    obtain ⟨ms', h3, h4⟩ := Option.bind_eq_some_iff.mp h2
    cases h4
    simp [argC_len h3 C]
theorem call_ok (hE : SoundE r T) (G : Good X Γ C T) (tk : Takes X W) {x : Str} {es : List Expr} {p pos : Pos} {m : Call → EM Out} (h : callC r Γ x es = some m) : PE X (.Call (.Name x p) es [] pos) (tE X.K T W (m C)) := by
  unfold callC at h
  split at h
  · rename_i q hq
    obtain ⟨c, fi⟩ := q
    split at h <;> first | (cases h; done) | skip
    rename_i hg
    obtain ⟨ms, h3, h4⟩ := Option.bind_eq_some_iff.mp h
    cases h4
    obtain ⟨⟨_, _, i3⟩, i4⟩ := arg_ok (C := C) hE G tk h3
    cases es with
    | nil => exact absurd hg.2 (by simp)
    | cons e es =>
      obtain ⟨j1, j2⟩ := i4 e es rfl
      exact e_new (G.mkc _ _ _ _ hq) G.gd (G.glo hg.1) tk i3 j1 (j2 pos)
  split at h
  · rename_i ex
    subst ex
    exact isa_ok hE G tk h
  · split at h
    · rename_i e he
      exact set_ok hE G tk he h
    split at h
    · rename_i f hf
      split at h <;> first | (cases h; done) | skip
      rename_i hg
      obtain ⟨ms, h3, h4⟩ := Option.bind_eq_some_iff.mp h
      cases h4
      have ex := bi_of hf
      subst ex
      obtain ⟨⟨i1, _, _⟩, i4⟩ := arg_ok hE G tk h3
      cases es with
      | nil => cases hf
      | cons e es =>
        obtain ⟨j1, j2⟩ := i4 e es rfl
        have old := e_bi (T := T) (W := W) G.calm G.gd G.un f (G.gl hg).1 (G.gl hg).2 i1 j1 (j2 pos) (p := p)
        unfold biX
        split
        · exact old
        · have len := argC_len h3 C
          dsimp only
          generalize ms C = mc at i1 old len ⊢
          split
          · rename_i m
            cases es with
            | cons _ _ => simp at len
            | nil => exact e_lenI G.lens.f G.gd G.un G.calm (G.gl hg).1 (G.gl hg).2 i1 j1
          · rename_i m
            cases es with
            | cons _ _ => simp at len
            | nil => exact e_listI G.lens G.its G.gd G.un G.calm (G.gl hg).1 (G.gl hg).2 i1 j1
          · exact old
    · split at h <;> first | (cases h; done) | skip
      rename_i hg
      obtain ⟨⟨fi, dd⟩, h1, h2⟩ := Option.bind_eq_some_iff.mp h
      obtain ⟨ms, h3, h4⟩ := Option.bind_eq_some_iff.mp h2
      obtain ⟨f, fd, ps, mm, ds, dvs, n, c1, c2, c3, c4, c5, c6, c7, c8, c9⟩ := G.fns _ _ _ _ h1
      obtain ⟨⟨i1, _, i3⟩, i4⟩ := arg_ok (C := C) hE G tk h3
      split at h4
      · rename_i hb
        cases h4
        have hdd : dd = [] := List.isEmpty_iff.mp hb.2
        subst hdd
        have hdv : dvs = [] := by
          have := c7 fun _ => none
          cases this
          rfl
        subst hdv
        cases es with
        | nil =>
          cases h3
          exact (c3.call0 c4 G.gd (G.glo hg) c1 c2 c5 c6 tk c9).imp fun σ H Q q => callB_nil (callB_imp c8 q)
        | cons e es =>
          obtain ⟨j1, j2⟩ := i4 e es rfl
          exact (c3.call c4 G.gd (G.glo hg) c1 c2 c5 c6 tk i1 c9 j1 (j2 pos)).imp fun σ H Q q => callB_imp c8 q
      split at h4
      · rename_i hb
        cases h4
        have hdd : dd = [] := List.isEmpty_iff.mp hb.2
        subst hdd
        have hdv : dvs = [] := by
          have := c7 fun _ => none
          cases this
          rfl
        subst hdv
        cases es with
        | nil =>
          cases h3
          exact (c3.call0 c4 G.gd (G.glo hg) c1 c2 c5 c6 tk c9).imp fun σ H Q q => callB_nil (callP_imp c8 q)
        | cons e es =>
          obtain ⟨j1, j2⟩ := i4 e es rfl
          exact (c3.call c4 G.gd (G.glo hg) c1 c2 c5 c6 tk i1 c9 j1 (j2 pos)).imp fun σ H Q q => callP_imp c8 q
      cases h4
      cases es with
      | nil =>
        cases h3
        exact (c3.call0 c4 G.gd (G.glo hg) c1 c2 c5 c6 tk c9).imp fun σ H Q q => call_nil (call_imp c7 c8 q)
      | cons e es =>
        obtain ⟨j1, j2⟩ := i4 e es rfl
        exact (c3.call c4 G.gd (G.glo hg) c1 c2 c5 c6 tk i3 c9 j1 (j2 pos)).imp fun σ H Q q => call_imp c7 c8 q
theorem kw_ok (hE : SoundE r T) (G : Good X Γ C T) (tk : Takes X W) {x nm : Str} {e k : Expr} {es : List Expr} {p kp pos : Pos} {m : Call → EM Out} (h : kwC r Γ x (e :: es) nm k = some m) : PE X (.Call (.Name x p) (e :: es) [⟨some nm, k, kp⟩] pos) (tE X.K T W (m C)) := by
  unfold kwC at h
  split at h
  · rename_i ex
    obtain ⟨rfl, rfl⟩ := ex
    split at h <;> first | (cases h; done) | skip
    rename_i e' he
    cases he
    split at h <;> first | (cases h; done) | skip
    rename_i hg
    obtain ⟨me, h1, h2⟩ := Option.bind_eq_some_iff.mp h
    obtain ⟨mk, h3, h4⟩ := Option.bind_eq_some_iff.mp h2
    cases h4
    exact e_maxd G.calm (G.gl hg.1).1 (G.gl hg.1).2 (hE X Γ C W G tk _ _ h1) (hE X Γ C W G tk _ _ h3) (star_of hg.2)
  · split at h <;> first | (cases h; done) | skip
    rename_i hg
    obtain ⟨fi, h1, h2⟩ := Option.bind_eq_some_iff.mp h
    obtain ⟨ms, h3, h4⟩ := Option.bind_eq_some_iff.mp h2
    obtain ⟨mk, h5, h6⟩ := Option.bind_eq_some_iff.mp h4
    cases h6
    obtain ⟨f, fd, ps, mm, n, c1, c2, c3, c4, c5, c6, c7⟩ := G.kfn _ _ _ _ h1
    obtain ⟨⟨_, _, i3⟩, i4⟩ := arg_ok (C := C) hE G tk h3
    obtain ⟨j1, j2⟩ := i4 e es rfl
    have j3 : (backTo pos (starEach (e :: es) X.env)).any (·.1) = false := by
      rw [j1]
      show (false || (backTo pos (starEach es X.env)).any (·.1)) = false
      rw [j2 pos]
      rfl
    refine (c3.callK c4 G.gd (G.glo hg) c1 c2 c5 tk i3 (k_one (nm := some nm) (kpos := kp) (hE X Γ C W G tk _ _ h5)) rfl rfl c7 j1 (by rw [j3]; rfl)).imp fun σ H Q q => ?_
    have := callK_imp c6 q
    rw [argC_len h3 C] at this
    exact this
end
end Ev

set_option Elab.async false
set_option linter.all false
set_option autoImplicit false
set_option maxHeartbeats 1000000
/-! Ev, part 1: the compiled expressions are right. -/
namespace Ev
variable [ClsTab]
open PySem PySem.Spec PyProof.Rows L2
section
variable {X : Cx} {Γ : CC} {C : Call} {T : CT} {W : WX} {r : Rec}
omit [ClsTab] in
theorem base_of {o : Expr} {x : Str} {env : Env} (h : isObjE o = true) : attributeBase o x env (eval o env) = eval o env := by
  cases o <;> first | rfl | cases h
theorem meth_ok (hE : SoundE r T) (G : Good X Γ C T) (tk : Takes X W) {o : Expr} {x : Str} {es : List Expr} {apos pos : Pos} {m : Call → EM Out} (hl : (apos.endLine == pos.line) = true) (h : methC r Γ o x es = some m) : PE X (.Call (.Attribute o x apos) es [] pos) (tE X.K T W (m C)) := by
  unfold methC at h
  split at h
  · split at h <;> first | (cases h; done) | skip
    rename_i hg
    obtain ⟨mo, h1, h2⟩ := Option.bind_eq_some_iff.mp h
    obtain ⟨ms, h3, h4⟩ := Option.bind_eq_some_iff.mp h2
    cases h4
    have ho := hE X Γ C W G tk _ _ h1
    obtain ⟨⟨_, _, i3⟩, i4⟩ := arg_ok (C := C) hE G tk h3
    have few : ((backTo pos (starEach es X.env)).all (fun x => !x.1) && (backToKw pos (keywordEach [] X.env)).all (fun x => x.1.isSome) && decide (es.length + ([] : List Keyword).length + (if ([] : List Keyword).isEmpty then 0 else 1) < 30)) = true := by
      rw [arg_all i4]
      have : es.length < 30 := by omega
      simp [keywordEach, backToKw, this]
    cases es with
    | nil =>
      cases h3
      exact e_meth0 (G.mth _ _) G.gd tk ho (mtree (base_recv hg.1) few hl)
    | cons e es =>
      obtain ⟨j1, j2⟩ := i4 e es rfl
      exact e_meth (G.mth _ _) G.gd tk ho i3 j1 (j2 pos) (mtree (base_recv hg.1) few hl)
  split at h <;> first | (cases h; done) | skip
  rename_i hg
  obtain ⟨mo, h1, h2⟩ := Option.bind_eq_some_iff.mp h
  obtain ⟨ms, h3, h4⟩ := Option.bind_eq_some_iff.mp h2
  have ho := hE X Γ C W G tk _ _ h1
  obtain ⟨⟨_, i2, _⟩, i4⟩ := arg_ok (C := C) hE G tk h3
  have few : ((backTo pos (starEach es X.env)).all (fun x => !x.1) && (backToKw pos (keywordEach [] X.env)).all (fun x => x.1.isSome) && decide (es.length + ([] : List Keyword).length + (if ([] : List Keyword).isEmpty then 0 else 1) < 30)) = true := by
    rw [arg_all i4]
    have : es.length < 30 := by omega
    simp [keywordEach, backToKw, this]
  split at h4
  · rename_i ex
    subst ex
    split at h4 <;> first | (cases h4; done) | skip
    obtain ⟨me, h5, h6⟩ := Option.bind_eq_some_iff.mp h4
    cases h6
    obtain ⟨j1, _⟩ := i4 _ [] rfl
    exact e_ext ho (hE X Γ C W G tk _ _ h5) (base_of hg.1) few hl j1
  · obtain ⟨f, h5, h6⟩ := Option.bind_eq_some_iff.mp h4
    cases h6
    have ex := mt_of h5
    subst ex
    cases es with
    | nil =>
      cases h3
      exact e_mt0 f ho (base_of hg.1) hl
    | cons e es =>
      obtain ⟨j1, j2⟩ := i4 e es rfl
      exact e_mt f ho i2 (base_of hg.1) few hl j1 (j2 pos)
theorem gen_ok (hE : SoundE r T) (G : Good X Γ C T) (tk : Takes X W) {tg e : Expr} {m : Call → EM (List Ev.D)} (h : iterC.gen r Γ e = some m) : PI X tg e (tI X.K T W (m C)) := by
  obtain ⟨me, h1, h2⟩ := Option.bind_eq_some_iff.mp (show (r.e Γ e).bind _ = some m from h)
  cases h2
  have he := hE X Γ C W G tk _ _ h1
  unfold seqX
  split
  · exact i_seq he
  · exact i_seqI G.its.f G.gd he
theorem one_arg {a : Expr} {ma : EM Out} (hs : notStar a = true) (ha : PE X a (tE X.K T W ma)) : PA X [a] (tM X.K T W (RDL X.K) (keeps [ma])) := h_cons ha h_nil (star_of hs)
theorem two_arg {a b : Expr} {ma mb : EM Out} (hs : notStar a = true) (hs2 : notStar b = true) (ha : PE X a (tE X.K T W ma)) (hb : PE X b (tE X.K T W mb)) : PA X [a, b] (tM X.K T W (RDL X.K) (keeps [ma, mb])) := h_cons ha (one_arg hs2 hb) (star_of hs)
theorem iter_ok (hE : SoundE r T) (G : Good X Γ C T) (tk : Takes X W) {tg e : Expr} {m : Call → EM (List Ev.D)} (h : iterC r Γ tg e = some m) : PI X tg e (tI X.K T W (m C)) := by
  unfold iterC at h
  split at h
  · cases h
  · split at h
    · split at h
      · split at h
        · rename_i ex
          subst ex
          split at h <;> first | (cases h; done) | skip
          rename_i hg
          obtain ⟨me, h1, h2⟩ := Option.bind_eq_some_iff.mp h
          cases h2
          exact i_enum (G.gl hg.1).1 (G.gl hg.1).2 (one_arg hg.2 (hE X Γ C W G tk _ _ h1)) (star_of hg.2)
        · exact gen_ok hE G tk h
      · split at h
        · rename_i ex
          subst ex
          split at h <;> first | (cases h; done) | skip
          rename_i hg
          obtain ⟨me, h1, h2⟩ := Option.bind_eq_some_iff.mp h
          obtain ⟨mb, h3, h4⟩ := Option.bind_eq_some_iff.mp h2
          cases h4
          refine i_zip (G.gl hg.1).1 (G.gl hg.1).2 (two_arg hg.2.1 hg.2.2 (hE X Γ C W G tk _ _ h1) (hE X Γ C W G tk _ _ h3)) (star_of hg.2.1) ?_
          rw [star_of hg.2.2]
          rfl
        · exact gen_ok hE G tk h
      · exact gen_ok hE G tk h
    · split at h
      · split at h
        · rename_i ex
          subst ex
          split at h <;> first | (cases h; done) | skip
          rename_i hg
          obtain ⟨me, h1, h2⟩ := Option.bind_eq_some_iff.mp h
          cases h2
          exact i_rng1 (G.gl hg.1).1 (G.gl hg.1).2 (one_arg hg.2 (hE X Γ C W G tk _ _ h1)) (star_of hg.2)
        · exact gen_ok hE G tk h
      · split at h
        · rename_i ex
          subst ex
          split at h <;> first | (cases h; done) | skip
          rename_i hg
          obtain ⟨me, h1, h2⟩ := Option.bind_eq_some_iff.mp h
          obtain ⟨mb, h3, h4⟩ := Option.bind_eq_some_iff.mp h2
          cases h4
          exact i_rng2 (G.gl hg.1).1 (G.gl hg.1).2 (two_arg hg.2.1 hg.2.2 (hE X Γ C W G tk _ _ h1) (hE X Γ C W G tk _ _ h3)) (by rw [star_of hg.2.1, star_of hg.2.2]; rfl) (by rw [star_of hg.2.2]; rfl)
        · exact gen_ok hE G tk h
      · exact gen_ok hE G tk h
  · exact gen_ok hE G tk h
omit [ClsTab] in
theorem fold_of {e : Expr} {env : Env} (h : isSet e = false) : ∀ x, foldedSetIterable e env x = pure x := by
  intro x
  cases e <;> first | rfl | cases h
/-! targets -/
theorem name_ok (G : Good X Γ C T) {x : Str} {p : Pos} {i : Nat} (hs : Γ.st x = true) (hi : ixOf Γ.N x = some i) : PG X (.Name x p) (gName i) := by
  obtain ⟨h1, h2⟩ := G.st x hs
  exact pg_name (by rw [G.N]; exact G.nd) (by rw [G.N]; exact ixOf_get hi) h1 h2
theorem names_ok (G : Good X Γ C T) : ∀ {es : List Expr} {is : List Nat}, CC.tg.names Γ es = some is → PGs X es (gAll is) ∧ (assignEach es X.env).length = is.length ∧ (assignEach es X.env).findIdx? (·.1) = none
  | [], is, h => by
    cases h
    exact ⟨pgs_nil, rfl, rfl⟩
  | .Name x p :: es, is, h => by
    unfold CC.tg.names at h
    split at h <;> first | (cases h; done) | skip
    rename_i hs
    obtain ⟨i, h1, h2⟩ := Option.bind_eq_some_iff.mp h
    obtain ⟨js, h3, rfl⟩ := Option.map_eq_some_iff.mp h2
    obtain ⟨i1, i2, i3⟩ := names_ok G h3
    refine ⟨pgs_cons (name_ok G hs h1) i1 rfl, ?_, ?_⟩
    · show (assignEach es X.env).length + 1 = js.length + 1
      rw [i2]
    · show ((false, assign (.Name x p) X.env) :: assignEach es X.env).findIdx? (·.1) = none
      rw [List.findIdx?_cons]
      simp only [Bool.false_eq_true, if_false]
      rw [i3]
      rfl
theorem tg_ok (G : Good X Γ C T) {e : Expr} {t : Tg} (h : Γ.tg e = some t) : PG X e (t.g X.K) := by
  unfold CC.tg at h
  split at h
  · split at h <;> first | (cases h; done) | skip
    rename_i hs
    obtain ⟨i, h1, rfl⟩ := Option.map_eq_some_iff.mp h
    exact name_ok G hs h1
  · obtain ⟨is, h1, rfl⟩ := Option.map_eq_some_iff.mp h
    obtain ⟨i1, i2, i3⟩ := names_ok G h1
    exact pg_tup G.calm i1 i2 i3
  · cases h
/-! a comprehension's block -/
theorem blk_good (G : Good X Γ C T) {sc : Scope} {s : Shared} {H : Hp} {cl : List (Str × Addr)} {fp : List Addr} {L : Addr} (hk : sc.kind = .function) : Good (X.blk s H sc (compEnvC sc cl L X.env) fp) (Γ.blk sc) C T := by
  have hn : (compEnvC sc cl L X.env).scope.names = relN sc Γ.names := by
    show (relabel sc X.env).names = _
    unfold relabel relN
    show List.map _ _ = List.map _ _
    refine List.map_congr_left fun y _ => ?_
    obtain ⟨n, k⟩ := y
    show (if (k == .free && X.env.scope.kind == .function && X.env.scope.names.lookup n == some .cell) = true then _ else _) = _
    rw [G.kind, G.names]
    have e : ((ScopeKind.function == ScopeKind.function) : Bool) = true := by decide
    rw [e, Bool.and_true]
  refine ⟨hn, hk, G.N, G.nd, G.calm, G.gd, G.un, fun x hx => ?_, G.free, fun x k fi dd h => G.fns x k fi dd h, fun x k nm fi h => G.kfn x k nm fi h, fun x d h => G.con x d h, fun nm => G.fls nm, fun nm k => G.mth nm k, fun y k c fi h => G.mkc y k c fi h, G.its, G.lens⟩
  have hx : (match (relN sc Γ.names).lookup x with
    | some .local => true
    | some .cell => sc.names.lookup x == some .cell
    | _ => false) = true := hx
  unfold L2.Loc
  show (((compEnvC sc cl L X.env).scope.names.lookup x = some .local ∨ _) ∧ ((sc.names.lookup x == some .cell) = true ∨ (compEnvC sc cl L X.env).scope.names.lookup x = some .local))
  rw [hn]
  split at hx
  · rename_i e
    exact ⟨.inl e, .inr e⟩
  · rename_i e
    exact ⟨.inr e, .inl hx⟩
  · cases hx
omit [ClsTab] in
theorem takes_wf {X : Cx} : Takes X WF := fun u s' ⟨_, _, _, _, _, _, _, _, _, _, _, _, _, _, _, _, w⟩ => w.elim
theorem ifs_ok (hB : SoundB r T) (G : Good X Γ C T) (tk : Takes X W) {es : List Expr} {m : Call → EM Bool} (h : ifsC r Γ es = some m) : PTs X es (tB X.K T W (m C)) := by
  unfold ifsC at h
  split at h
  · cases h; exact t_yes
  · exact pts_one (hB X Γ C W G tk _ _ h).1
  · cases h
omit [ClsTab] in
theorem blk_of {N : List Str} {sc sc2 scope : Scope} {own : List (Str × Nat)} (e : sc.names = sc2.names) (h : BlkOk N sc scope own) : BlkOk N sc2 scope own := ⟨h.kind, h.uniq, h.ix, fun y hy q => by rw [← e]; exact h.free y hy q, h.own⟩
omit [ClsTab] in
theorem plain_ix {b : Expr} (h : ∀ lo hi st p, b ≠ .Slice lo hi st p) : PlainIx b := by
  intro o i
  cases b <;> first | rfl | exact absurd rfl (h _ _ _ _)
omit [ClsTab] in
theorem bOf_op {op : Operator} {o : BOp} (h : opOf op = some o) : op = bOf o := by
  cases op <;> first | (cases h; rfl) | cases h
omit [ClsTab] in
theorem cOf_op (op : CmpOp) : op = cOf (copOf op) := by cases op <;> rfl
omit [ClsTab] in
theorem mark_of {b : Expr} {op : CmpOp} (h : ¬ isSet b = true) : behindInMarks op b = false := by
  cases b <;> first | rfl | exact absurd rfl h
theorem lc_parts (hE : SoundE r T) (hB : SoundB r T) (G : Good X Γ C T) (tk : Takes X W) {elt tg iter : Expr} {ifs : List Expr} {sc : Scope} {m : Call → EM Out} (h : lcC r Γ elt tg iter ifs sc = some m) :
    ∃ (mi : Call → EM (List Ev.D)) (t : Tg) (mc : Call → EM Bool) (me : Call → EM Out), m = (fun C => lc ((ownOf Γ.N sc.names).map (·.2)) t (mi C) (mc C) (me C)) ∧ BlkOk X.N X.env.scope sc (ownOf Γ.N sc.names) ∧ (∀ i ∈ t.slots, i ∈ (ownOf Γ.N sc.names).map (·.2)) ∧ PI X tg iter (tI X.K T W (mi C)) ∧
      (∀ (s : Shared) (H : Hp) (L : Addr) (cl : List (Str × Addr)) (fp : List Addr), PG (X.blk s H sc (compEnvC sc cl L X.env) fp) tg (t.g X.K)) ∧
      (∀ (s : Shared) (H : Hp) (L : Addr) (cl : List (Str × Addr)) (fp : List Addr), PTs (X.blk s H sc (compEnvC sc cl L X.env) fp) ifs (tB X.K T WF (mc C))) ∧
      (∀ (s : Shared) (H : Hp) (L : Addr) (cl : List (Str × Addr)) (fp : List Addr), PE (X.blk s H sc (compEnvC sc cl L X.env) fp) elt (tE X.K T WF (me C))) ∧ ∀ x, foldedSetIterable iter X.env x = pure x := by
  unfold lcC at h
  split at h <;> first | (cases h; done) | skip
  rename_i hg
  obtain ⟨mi, h1, h2⟩ := Option.bind_eq_some_iff.mp h
  obtain ⟨t, h3, h4⟩ := Option.bind_eq_some_iff.mp h2
  split at h4 <;> first | (cases h4; done) | skip
  rename_i hin
  obtain ⟨mc, h5, h6⟩ := Option.bind_eq_some_iff.mp h4
  obtain ⟨me, h7, h8⟩ := Option.bind_eq_some_iff.mp h6
  cases h8
  have ok := blkOk_by hg.1
  refine ⟨mi, t, mc, me, rfl, by rw [G.N]; exact blk_of (by exact G.names.symm) ok, fun i hi => of_decide_eq_true (List.all_eq_true.mp hin i hi), iter_ok hE G tk h1, fun s H L cl fp => tg_ok (blk_good G ok.kind) h3, fun s H L cl fp => ifs_ok hB (blk_good G ok.kind) takes_wf h5, fun s H L cl fp => hE _ _ C WF (blk_good G ok.kind) takes_wf _ _ h7, fold_of hg.2⟩
theorem lc2_ok (hE : SoundE r T) (hB : SoundB r T) (G : Good X Γ C T) (tk : Takes X W) {elt tg iter tg1 iter1 : Expr} {ifs ifs1 : List Expr} {sc : Scope} {pos : Pos} {m : Call → EM Out} (h : lc2C r Γ elt tg iter ifs tg1 iter1 ifs1 sc = some m) :
    PE X (.ListComp elt [⟨tg, iter, ifs, 0⟩, ⟨tg1, iter1, ifs1, 0⟩] sc pos) (tE X.K T W (m C)) := by
  unfold lc2C at h
  split at h <;> first | (cases h; done) | skip
  rename_i hg
  obtain ⟨mi, h1, h2⟩ := Option.bind_eq_some_iff.mp h
  obtain ⟨t, h3, h4⟩ := Option.bind_eq_some_iff.mp h2
  obtain ⟨t1, h5, h6⟩ := Option.bind_eq_some_iff.mp h4
  split at h6 <;> first | (cases h6; done) | skip
  rename_i hin
  obtain ⟨mc, h7, h8⟩ := Option.bind_eq_some_iff.mp h6
  obtain ⟨mi1, h9, h10⟩ := Option.bind_eq_some_iff.mp h8
  obtain ⟨mc1, h11, h12⟩ := Option.bind_eq_some_iff.mp h10
  obtain ⟨me, h13, h14⟩ := Option.bind_eq_some_iff.mp h12
  cases h14
  have ok := blkOk_by hg.1
  exact e_lc2 G.calm (by rw [G.N]; exact G.nd) (fun i hi => of_decide_eq_true (List.all_eq_true.mp hin.1 i hi)) (fun i hi => hi) (fun i hi => of_decide_eq_true (List.all_eq_true.mp hin.2 i hi)) (iter_ok hE G tk h1) (by rw [G.N]; exact blk_of (by exact G.names.symm) ok)
    (fun s H L cl fp => tg_ok (blk_good G ok.kind) h3) (fun s H L cl fp => ifs_ok hB (blk_good G ok.kind) takes_wf h7) (fun s H L cl fp => iter_ok hE (blk_good G ok.kind) takes_wf h9) (fun s H L cl fp => tg_ok (blk_good G ok.kind) h5) (fun s H L cl fp => ifs_ok hB (blk_good G ok.kind) takes_wf h11)
    (fun s H L cl fp => hE _ _ C WF (blk_good G ok.kind) takes_wf _ _ h13) (fold_of hg.2.1) fun env => fold_of hg.2.2
/-! the steps -/
theorem stepE_ok (hE : SoundE r T) (hB : SoundB r T) : ∀ (X : Cx) (Γ : CC) (C : Call) (W : WX), Good X Γ C T → Takes X W → ∀ e m, stepE r Γ e = some m → PE X e (tE X.K T W (m C)) := by
  intro X Γ C W G tk e m h
  have he := fun {e m} (h : r.e Γ e = some m) => hE X Γ C W G tk e m h
  have hb := fun {e m} (h : r.b Γ e = some m) => (hB X Γ C W G tk e m h).1
  unfold stepE at h
  split at h
  · cases h; exact e_lit pe_int fun _ => .int _
  · split at h <;> first | (cases h; done) | skip
    rename_i hs
    cases h
    exact e_lit pe_str fun _ => .str _ hs
  · cases h; exact e_lit pe_bl fun _ => .bl _
  · cases h; exact e_lit pe_non fun _ => .non
  · split at h
    · rename_i hg
      obtain ⟨i, h1, h2⟩ := Option.bind_eq_some_iff.mp h
      cases h2
      exact e_var (by rw [G.N]; exact ixOf_get h1) (G.vis hg.1) hg.2.1 hg.2.2
    · split at h <;> first | (cases h; done) | skip
      rename_i hg
      obtain ⟨d, h1, h2⟩ := Option.bind_eq_some_iff.mp h
      cases h2
      obtain ⟨u, v, k1, k2, k3⟩ := G.con _ _ h1
      exact e_con (G.glo hg.1) k1 k2 hg.2 k3
  · split at h <;> first | (cases h; done) | skip
    rename_i hg
    obtain ⟨ma, h1, h2⟩ := Option.bind_eq_some_iff.mp h
    cases h2
    exact e_fld (G.fls _) (he h1) (base_recv hg)
  · obtain ⟨o, h1, h2⟩ := Option.bind_eq_some_iff.mp h
    obtain ⟨ma, h3, h4⟩ := Option.bind_eq_some_iff.mp h2
    obtain ⟨mb, h5, h6⟩ := Option.bind_eq_some_iff.mp h4
    cases h6
    have eo := bOf_op h1
    subst eo
    exact e_bin (o_all o) (he h3) (he h5)
  · obtain ⟨ma, h3, h4⟩ := Option.bind_eq_some_iff.mp h
    cases h4
    exact e_not (he h3)
  · obtain ⟨ma, h3, h4⟩ := Option.bind_eq_some_iff.mp h
    cases h4
    exact e_neg (he h3)
  · rename_i a op b p
    split at h <;> first | (cases h; done) | skip
    rename_i hs
    obtain ⟨ma, h3, h4⟩ := Option.bind_eq_some_iff.mp h
    obtain ⟨mb, h5, h6⟩ := Option.bind_eq_some_iff.mp h4
    cases h6
    have := e_cmp (pos := p) G.un (op := copOf op) (mark_of hs) (he h3) (he h5)
    rw [← cOf_op] at this
    exact this
  · rename_i a op op' b c p
    split at h <;> first | (cases h; done) | skip
    rename_i hs
    obtain ⟨ma, h3, h4⟩ := Option.bind_eq_some_iff.mp h
    obtain ⟨mb, h5, h6⟩ := Option.bind_eq_some_iff.mp h4
    obtain ⟨mc, h7, h8⟩ := Option.bind_eq_some_iff.mp h6
    cases h8
    have := e_chn (pos := p) G.un (op := copOf op) (op' := copOf op') (mark_of hs) (he h3) (he h5) (he h7)
    rw [← cOf_op, ← cOf_op] at this
    exact this
  · exact e_one (he h)
  · obtain ⟨ma, h3, h4⟩ := Option.bind_eq_some_iff.mp h
    obtain ⟨mb, h5, h6⟩ := Option.bind_eq_some_iff.mp h4
    cases h6
    exact e_and (he h3) (he h5)
  · obtain ⟨ma, h3, h4⟩ := Option.bind_eq_some_iff.mp h
    obtain ⟨mb, h5, h6⟩ := Option.bind_eq_some_iff.mp h4
    cases h6
    exact e_or (he h3) (he h5)
  · obtain ⟨mc, h1, h2⟩ := Option.bind_eq_some_iff.mp h
    obtain ⟨ma, h3, h4⟩ := Option.bind_eq_some_iff.mp h2
    obtain ⟨mb, h5, h6⟩ := Option.bind_eq_some_iff.mp h4
    cases h6
    exact e_ite (hb h1) (he h3) (he h5)
  · obtain ⟨ms, h3, h4⟩ := Option.bind_eq_some_iff.mp h
    cases h4
    exact e_tup (els_ok hE G tk h3)
  · obtain ⟨ms, h3, h4⟩ := Option.bind_eq_some_iff.mp h
    cases h4
    exact e_lst (els_ok hE G tk h3)
  · obtain ⟨ma, h3, h4⟩ := Option.bind_eq_some_iff.mp h
    obtain ⟨ml, h5, h6⟩ := Option.bind_eq_some_iff.mp h4
    obtain ⟨mh, h7, h8⟩ := Option.bind_eq_some_iff.mp h6
    cases h8
    exact e_cut (he h3) (end_ok hE G tk h5) (end_ok hE G tk h7)
  · split at h
    · cases h
    · rename_i b hb2 hb3
      obtain ⟨ma, h3, h4⟩ := Option.bind_eq_some_iff.mp h
      obtain ⟨mb, h5, h6⟩ := Option.bind_eq_some_iff.mp h4
      cases h6
      exact e_idx (plain_ix fun lo hi st p z => hb3 _ _ _ _ z) (he h3) (he h5)
  · exact call_ok hE G tk h
  · exact kw_ok hE G tk h
  · split at h <;> first | (cases h; done) | skip
    rename_i hl
    exact meth_ok hE G tk hl h
  · obtain ⟨mi, t, mc, me, rfl, ok, hin, h1, h2, h3, h4, h5⟩ := lc_parts hE hB G tk h
    exact e_lc G.calm (by rw [G.N]; exact G.nd) hin h1 ok h2 h3 h4 h5
  · exact lc2_ok hE hB G tk h
  · cases h
omit [ClsTab] in
theorem test_of {e : Expr} {env : Env} (h : plainTest e = true) : ∀ whole, isTrue e env whole = (do let v ← whole; standAt e.pos; holding [v] (truthy v)) := by
  intro whole
  cases e <;> first | rfl | cases h
theorem stepB_ok (hE : SoundE r T) (hB : SoundB r T) : ∀ (X : Cx) (Γ : CC) (C : Call) (W : WX), Good X Γ C T → Takes X W → ∀ e m, stepB r Γ e = some m → PT X e (tB X.K T W (m C)) ∧ (isBool e = true → PW X e (tB X.K T W (m C))) := by
  intro X Γ C W G tk e m h
  have he := fun {e m} (h : r.e Γ e = some m) => hE X Γ C W G tk e m h
  have hb := fun {e m} (h : r.b Γ e = some m) => hB X Γ C W G tk e m h
  have pw : ∀ {e : Expr} {t : TT}, PW X e t → PT X e t ∧ (isBool e = true → PW X e t) := fun h => ⟨h.pt, fun _ => h⟩
  unfold stepB at h
  split at h
  · obtain ⟨ma, h3, h4⟩ := Option.bind_eq_some_iff.mp h
    cases h4
    exact ⟨b_not (hb h3).1, nofun⟩
  · rename_i a op b p
    split at h <;> first | (cases h; done) | skip
    rename_i hs
    obtain ⟨ma, h3, h4⟩ := Option.bind_eq_some_iff.mp h
    obtain ⟨mb, h5, h6⟩ := Option.bind_eq_some_iff.mp h4
    cases h6
    have := b_cmp (pos := p) G.un (op := copOf op) (mark_of hs) (he h3) (he h5)
    rw [← cOf_op] at this
    exact ⟨this, nofun⟩
  · rename_i a op op' b c p
    split at h <;> first | (cases h; done) | skip
    rename_i hs
    obtain ⟨ma, h3, h4⟩ := Option.bind_eq_some_iff.mp h
    obtain ⟨mb, h5, h6⟩ := Option.bind_eq_some_iff.mp h4
    obtain ⟨mc, h7, h8⟩ := Option.bind_eq_some_iff.mp h6
    cases h8
    have := b_chn (pos := p) G.un (op := copOf op) (op' := copOf op') (mark_of hs) (he h3) (he h5) (he h7)
    rw [← cOf_op, ← cOf_op] at this
    exact ⟨this, nofun⟩
  · exact pw (w_and1 (hb h).1)
  · exact pw (w_or1 (hb h).1)
  · obtain ⟨ma, h3, h4⟩ := Option.bind_eq_some_iff.mp h
    obtain ⟨mb, h5, h6⟩ := Option.bind_eq_some_iff.mp h4
    cases h6
    exact pw (w_and (hb h3).1 ((hb h5).2 rfl))
  · obtain ⟨ma, h3, h4⟩ := Option.bind_eq_some_iff.mp h
    obtain ⟨mb, h5, h6⟩ := Option.bind_eq_some_iff.mp h4
    cases h6
    exact pw (w_or (hb h3).1 ((hb h5).2 rfl))
  · split at h <;> first | (cases h; done) | skip
    rename_i hp
    obtain ⟨ma, h3, h4⟩ := Option.bind_eq_some_iff.mp h
    cases h4
    refine ⟨b_tst (he h3) (test_of hp), fun z => ?_⟩
    cases e <;> first | (cases z; done) | cases hp
end
theorem rec_ok (T : CT) : ∀ n, SoundE (rec_ n) T ∧ SoundB (rec_ n) T
  | 0 => ⟨fun X Γ C W G tk e m h => (by cases (show (none : Option (Call → EM Out)) = some m from h)), fun X Γ C W G tk e m h => (by cases (show (none : Option (Call → EM Bool)) = some m from h))⟩
  | n + 1 => ⟨fun X Γ C W G tk e m h => stepE_ok (rec_ok T n).1 (rec_ok T n).2 X Γ C W G tk e m h, fun X Γ C W G tk e m h => stepB_ok (rec_ok T n).1 (rec_ok T n).2 X Γ C W G tk e m h⟩
end Ev

set_option Elab.async false
set_option linter.all false
set_option autoImplicit false
set_option maxHeartbeats 1000000
/-! Ev, part 2: the compiled statements are right; the compiled defs. -/
namespace Ev
variable [ClsTab]
open PySem PySem.Spec PyProof.Rows L2
section
variable {X : Cx} {Γ : CC} {C : Call} {T : CT} {W : WX} {r : Rec}
omit [ClsTab] in
theorem swap_no {e : Expr} {t : Option Expr} {l : Nat} {env : Env} (h : ¬ isLcE e = true) : swapsWith e t l env = pure false := by
  cases e <;> first | rfl | exact absurd rfl h
theorem swap_sole {e t : Expr} {l : Nat} {env : Env} (h : ¬ isLcE e = true) : swapsWithSole [t] e l env = pure false := swap_no (t := some t) h
omit [ClsTab] in
theorem lk_beq (o : Option NameKind) : (o == some .local) = decide (o = some .local) := by
  cases o with
  | none => rfl
  | some k => cases k <;> decide
theorem swap_name (G : Good X Γ C T) {e : Expr} {x : Str} {p : Pos} {l : Nat} (h : noSwap Γ x p e = true) : swapsWith e (some (.Name x p)) l X.env = pure false := by
  cases e <;> first | rfl | (cases h; done) | skip
  rename_i elt gens s q
  have h : (!(decide (Γ.names.lookup x = some .local) && (p.line == q.line) && !(s.names.any fun (n, k) => n == x && (k == .local || k == .cell)))) = true := h
  show (pure (X.env.blockKind == .function && X.env.kindOf x == some .local && p.line == q.line && !(s.names.any fun (n, k) => n == x && (k == .local || k == .cell))) : Sem Bool) = pure false
  congr 1
  have hk : (X.env.kindOf x == some .local) = decide (Γ.names.lookup x = some .local) := by
    show (X.env.scope.names.lookup x == some .local) = _
    rw [G.names]
    exact lk_beq _
  rw [hk]
  rw [Bool.not_eq_true'] at h
  cases hb : (X.env.blockKind == ScopeKind.function)
  · rfl
  · rw [Bool.true_and]
    exact h
theorem swap_yes (G : Good X Γ C T) {elt : Expr} {gens : List Comprehension} {s : Scope} {x : Str} {p q : Pos} {l : Nat} (h : ¬ noSwap Γ x p (.ListComp elt gens s q) = true) : X.env.scope.names.lookup x = some .local ∧ swapsWith (.ListComp elt gens s q) (some (.Name x p)) l X.env = pure true := by
  have h2 : (decide (Γ.names.lookup x = some .local) && (p.line == q.line) && !(s.names.any fun (n, k) => n == x && (k == .local || k == .cell))) = true := by
    cases hb : (decide (Γ.names.lookup x = some .local) && (p.line == q.line) && !(s.names.any fun (n, k) => n == x && (k == .local || k == .cell)))
    · exact absurd (show (!(decide (Γ.names.lookup x = some .local) && (p.line == q.line) && !(s.names.any fun (n, k) => n == x && (k == .local || k == .cell)))) = true by rw [hb]; rfl) h
    · rfl
  have hx : Γ.names.lookup x = some .local := by
    simp only [Bool.and_eq_true] at h2
    exact of_decide_eq_true h2.1.1
  refine ⟨by rw [G.names]; exact hx, ?_⟩
  show (pure (X.env.blockKind == .function && X.env.kindOf x == some .local && p.line == q.line && !(s.names.any fun (n, k) => n == x && (k == .local || k == .cell))) : Sem Bool) = pure true
  congr 1
  have hk : (X.env.kindOf x == some .local) = decide (Γ.names.lookup x = some .local) := by
    show (X.env.scope.names.lookup x == some .local) = _
    rw [G.names]
    exact lk_beq _
  have hb : (X.env.blockKind == ScopeKind.function) = true := by
    unfold Env.blockKind
    rw [G.kind]
    rfl
  rw [hk, hb, Bool.true_and]
  exact h2
omit [ClsTab] in
theorem stores_no {ts : List Expr} {k : Nat} {tp : Pos} {e : Expr} {env : Env} (h : ∀ es k p, e ≠ .Tuple es k p) : swappedStores [.Tuple ts k tp] e env = pure none := by
  cases e <;> first | rfl | exact absurd rfl (h _ _ _)
theorem par_of (G : Good X Γ C T) {x y : Str} {px py tp p2 : Pos} {a b : Expr} {k k2 : Nat} (h : parOk Γ [.Name x px, .Name y py] [a, b] = true) : X.env.scope.names.lookup x = some .local ∧ X.env.scope.names.lookup y = some .local ∧ x ≠ y ∧ notStar a = true ∧ notStar b = true ∧
    swappedStores [.Tuple [.Name x px, .Name y py] k tp] (.Tuple [a, b] k2 p2) X.env = pure (some [x, y]) := by
  unfold parOk at h
  simp only [Bool.and_eq_true, Bool.not_eq_true', decide_eq_true_eq] at h
  obtain ⟨⟨⟨⟨⟨⟨⟨h1, h2⟩, h3⟩, h4⟩, h5⟩, h6⟩, h7⟩, h8⟩ := h
  refine ⟨by rw [G.names]; exact h1, by rw [G.names]; exact h2, h4, h5, h6, ?_⟩
  have hb : (X.env.blockKind != ScopeKind.function) = false := by
    unfold Env.blockKind
    rw [G.kind]
    rfl
  have hx : (X.env.kindOf x == some NameKind.local) = true := by
    show (X.env.scope.names.lookup x == some .local) = _
    rw [G.names, h1]
    rfl
  have hy : (X.env.kindOf y == some NameKind.local) = true := by
    show (X.env.scope.names.lookup y == some .local) = _
    rw [G.names, h2]
    rfl
  have hs : ([a, b].any fun | .Starred .. => true | _ => false) = false := by
    cases a <;> first | (cases h5; done) | (cases b <;> first | (cases h6; done) | rfl)
  have hl : (py.line == px.line) = true := by
    rw [beq_iff_eq] at h3 ⊢
    exact h3.symm
  have e1 : [x, y].eraseDups = [x, y] := by
    rw [List.eraseDups_cons, List.filter_cons]
    have : (!(y == x)) = true := by simpa using fun z => h4 z.symm
    rw [if_pos this, List.filter_nil, List.eraseDups_cons, List.filter_nil, List.eraseDups_nil]
  unfold swappedStores
  simp only [List.length_cons, List.length_nil]
  have e2 : ([Expr.Name x px, Expr.Name y py].filterMap fun
    | .Name id pos => if (X.env.kindOf id == some .local && pos.line == px.line) = true then some id else none
    | _ => none) = [x, y] := by
    simp only [List.filterMap_cons, List.filterMap_nil, hx, hy, hl, beq_self_eq_true, Bool.and_self, if_true]
  refine (if_neg (by rw [hb]; decide)).trans ((if_neg fun z => absurd (hs.symm.trans z) (by decide)).trans ?_)
  have key : ∀ ns : List Str, ns = [x, y] → (if (ns.length != 0 + 1 + 1 || ns.eraseDups.length != ns.length) = true then (pure none : Sem (Option (List Str)))
      else if [a, b].all (foldedForSure 8) = true then pure none else if [a, b].all (constantsAlone 8) = true then (do unsupported "assign.tuple-of-constant-expressions:order-of-the-stores"; pure (some ns)) else pure (some ns)) = pure (some [x, y]) := by
    rintro ns rfl
    rw [e1, h7, h8]
    rfl
  exact key _ e2
theorem stores_cell (G : Good X Γ C T) {ts : List Expr} {k : Nat} {tp : Pos} {e : Expr} (h : hasCell Γ ts = true) : swappedStores [.Tuple ts k tp] e X.env = pure none := by
  obtain ⟨t, ht, hx⟩ := List.any_eq_true.mp h
  split at hx <;> first | (cases hx; done) | skip
  rename_i x p
  have hx : ¬ Γ.names.lookup x = some .local := by simpa using hx
  have hk : ∀ l, (X.env.kindOf x == some NameKind.local && p.line == l) = false := fun l => by
    have : (X.env.kindOf x == some NameKind.local) = false := by
      show (X.env.scope.names.lookup x == some .local) = _
      rw [G.names, lk_beq]
      exact decide_eq_false hx
    rw [this, Bool.false_and]
  have hl : ∀ l, (ts.filterMap fun
    | .Name id pos => if (X.env.kindOf id == some .local && pos.line == l) = true then some id else none
    | _ => none).length ≠ ts.length := fun l => by
    clear h
    induction ts with
    | nil => cases ht
    | cons a ts ih =>
      rcases List.mem_cons.mp ht with rfl | ht
      · rw [List.filterMap_cons]
        simp only [hk, Bool.false_eq_true, if_false]
        have := List.length_filterMap_le (fun
          | .Name id pos => if (X.env.kindOf id == some .local && pos.line == l) = true then some id else none
          | _ => none) ts
        simp only [List.length_cons]
        omega
      · have := ih ht
        have h2 := List.length_filterMap_le (fun
          | .Name id pos => if (X.env.kindOf id == some .local && pos.line == l) = true then some id else none
          | _ => none) ts
        rw [List.filterMap_cons]
        split <;> simp only [List.length_cons] <;> omega
  have key : ∀ (vs : List Expr), swappedStores [.Tuple ts k tp] (.Tuple vs k tp) X.env = pure none := by
    intro vs
    unfold swappedStores
    simp only
    split
    · rfl
    · split
      · rfl
      · have := hl ((ts.head?.map (·.pos.line)).getD 0)
        rw [if_pos]
        rw [Bool.or_eq_true]
        left
        rw [bne_iff_ne]
        exact this
  cases e <;> first | rfl | exact key _
omit [ClsTab] in
theorem assign_sub {o i : Expr} {p : Pos} {env : Env} (h : ∀ lo hi st p, i ≠ .Slice lo hi st p) : ∀ v, assign (.Subscript o i p) env v = (do
      let ov ← holding [v] (eval o env)
      let iv ← holding [v, ov] (eval i env)
      standAt p
      holding [v, ov, iv] (setItem ov iv v)
      release [v, ov, iv] []) := by
  intro v
  cases i <;> first | rfl | exact absurd rfl (h _ _ _ _)
omit [ClsTab] in
theorem aug_sub {i : Expr} (h : ∀ lo hi st p, i ≠ .Slice lo hi st p) : ∀ ov iv new, augStore i ov iv new = (do holding [new, ov, iv] (setItem ov iv new); release [new, ov, iv] []; pure .next) := by
  intro ov iv new
  cases i <;> first | rfl | exact absurd rfl (h _ _ _ _)
omit [ClsTab] in
theorem sub_stores {o i e : Expr} {p : Pos} {env : Env} : swappedStores [.Subscript o i p] e env = pure none := by
  cases e <;> rfl
theorem stepS_ok {n : Nat} {q : List Stmt → Option (Call → SM)} (hq : ∀ sts m, q sts = some m → PSs X sts (tS X.K T W (m C))) (G : Good X Γ C T) (tk : Takes X W) (hp : PassesOwn (model X.prog X.w) X.A X.env X.xe) :
    ∀ st m, stepS (rec_ n) Γ q st = some m → PS X st (tS X.K T W (m C)) := by
  intro st m h
  have hE := (rec_ok T n).1
  have hB := (rec_ok T n).2
  have he := fun {e m} (h : (rec_ n).e Γ e = some m) => hE X Γ C W G tk e m h
  have hb := fun {e m} (h : (rec_ n).b Γ e = some m) => (hB X Γ C W G tk e m h).1
  have nd : X.N.Nodup := by rw [G.N]; exact G.nd
  have ix : ∀ {x : Str} {i : Nat}, ixOf Γ.N x = some i → X.N[i]? = some x := fun h => by rw [G.N]; exact ixOf_get h
  unfold stepS at h
  split at h
  · cases h; exact s_pass
  · cases h; exact s_doc
  · split at h <;> first | (cases h; done) | skip
    rename_i hl
    obtain ⟨me, h1, h2⟩ := Option.bind_eq_some_iff.mp h
    cases h2
    exact s_expr (he h1) (swap_no hl)
  · cases h; exact s_retN
  · obtain ⟨me, h1, h2⟩ := Option.bind_eq_some_iff.mp h
    cases h2
    exact s_ret (he h1)
  · cases h; exact s_brk
  · cases h; exact ⟨fun pins s σ H D I ⟨F, ι, s', R, A⟩ => A.elim⟩
  · cases h; exact s_cont
  · obtain ⟨mc, h1, h2⟩ := Option.bind_eq_some_iff.mp h
    obtain ⟨ma, h3, h4⟩ := Option.bind_eq_some_iff.mp h2
    obtain ⟨mb, h5, h6⟩ := Option.bind_eq_some_iff.mp h4
    cases h6
    exact s_if (hb h1) (hq _ _ h3) (hq _ _ h5)
  · split at h <;> first | (cases h; done) | skip
    rename_i hs
    obtain ⟨i, h1, h2⟩ := Option.bind_eq_some_iff.mp h
    obtain ⟨me, h3, h4⟩ := Option.bind_eq_some_iff.mp h2
    obtain ⟨g1, g2⟩ := G.st _ hs
    split at h4
    · rename_i hn
      cases h4
      by_cases hc : Γ.cel i = true
      · simp only [hc, if_true]
        exact s_cel nd (ix h1) g1 (he h3) (swap_name G hn) g2
      · simp only [hc, if_false]
        exact s_set nd (ix h1) g1 (he h3) (swap_name G hn) g2
    · rename_i hn
      split at h4 <;> first | (cases h4; done) | skip
      split at h4 <;> first | (cases h4; done) | skip
      obtain ⟨ml, h5, h6⟩ := Option.bind_eq_some_iff.mp h4
      cases h6
      obtain ⟨mi, t, mc, mm, rfl, ok, hin, k1, k2, k3, k4, k5⟩ := lc_parts hE hB G tk h5
      obtain ⟨y1, y2⟩ := swap_yes G (l := _) hn
      exact s_setLc G.calm nd (ix h1) y1 y2 hin k1 ok k2 k3 k4 k5
  · split at h
    · split at h <;> first | (cases h; done) | skip
      rename_i hpar
      split at h <;> first | (cases h; done) | skip
      obtain ⟨i, h1, h2⟩ := Option.bind_eq_some_iff.mp h
      obtain ⟨j, h3, h4⟩ := Option.bind_eq_some_iff.mp h2
      obtain ⟨ma, h5, h6⟩ := Option.bind_eq_some_iff.mp h4
      obtain ⟨mb, h7, h8⟩ := Option.bind_eq_some_iff.mp h6
      split at h8 <;> first | (cases h8; done) | skip
      rename_i hij
      cases h8
      obtain ⟨p1, p2, p3, p4, p5, p6⟩ := par_of G hpar
      exact s_par G.calm nd (ix h1) (ix h3) hij p1 p2 (he h5) (he h7) (star_of p4) (star_of p5) p6 rfl
      · split at h <;> first | (cases h; done) | skip
        rename_i hcell
        split at h
        · obtain ⟨t, h1, h2⟩ := Option.bind_eq_some_iff.mp h
          split at h2 <;> first | (cases h2; done) | skip
          split at h2 <;> first | (cases h2; done) | skip
          rename_i hh
          obtain ⟨ma, h5, h6⟩ := Option.bind_eq_some_iff.mp h2
          obtain ⟨mb, h7, h8⟩ := Option.bind_eq_some_iff.mp h6
          cases h8
          exact s_parT (tg_ok G h1) hh.1 (he h5) (he h7) (star_of hh.2.1) (star_of hh.2.2) rfl (stores_cell G hcell) rfl
        obtain ⟨t, h1, h2⟩ := Option.bind_eq_some_iff.mp h
        obtain ⟨ms, h3, h4⟩ := Option.bind_eq_some_iff.mp h2
        cases h4
        exact s_unp (tg_ok G h1) (e_tup (els_ok hE G tk h3)) rfl (stores_cell G hcell) rfl
    · rename_i e hne
      split at h <;> first | (cases h; done) | skip
      rename_i hl
      obtain ⟨t, h1, h2⟩ := Option.bind_eq_some_iff.mp h
      obtain ⟨me, h3, h4⟩ := Option.bind_eq_some_iff.mp h2
      cases h4
      exact s_unp (tg_ok G h1) (he h3) (swap_sole hl) (stores_no fun es k p z => hne _ _ _ z) rfl
  · split at h <;> first | (cases h; done) | skip
    rename_i hl
    obtain ⟨mo, h1, h2⟩ := Option.bind_eq_some_iff.mp h
    obtain ⟨me, h3, h4⟩ := Option.bind_eq_some_iff.mp h2
    cases h4
    exact s_fld (G.fls _) (he h1) (he h3) (swap_no hl)
  · split at h <;> first | (cases h; done) | skip
    rename_i hl
    split at h
    · cases h
    · rename_i i hi
      obtain ⟨mo, h1, h2⟩ := Option.bind_eq_some_iff.mp h
      obtain ⟨mi, h3, h4⟩ := Option.bind_eq_some_iff.mp h2
      obtain ⟨me, h5, h6⟩ := Option.bind_eq_some_iff.mp h4
      cases h6
      exact s_put (he h1) (he h3) (he h5) (swap_sole hl) sub_stores rfl (assign_sub fun lo hi2 st p z => hi _ _ _ _ z)
  · split at h <;> first | (cases h; done) | skip
    rename_i hs
    obtain ⟨o, h1, h2⟩ := Option.bind_eq_some_iff.mp h
    obtain ⟨i, h3, h4⟩ := Option.bind_eq_some_iff.mp h2
    obtain ⟨me, h5, h6⟩ := Option.bind_eq_some_iff.mp h4
    cases h6
    obtain ⟨g1, g2⟩ := G.st _ hs
    have eo := bOf_op h1
    subst eo
    exact s_aug nd (ix h3) g1 (he h5) g2
  · split at h
    · cases h
    · rename_i i hi
      obtain ⟨op, h1, h2⟩ := Option.bind_eq_some_iff.mp h
      obtain ⟨mo, h3, h4⟩ := Option.bind_eq_some_iff.mp h2
      obtain ⟨mi, h5, h6⟩ := Option.bind_eq_some_iff.mp h4
      obtain ⟨me, h7, h8⟩ := Option.bind_eq_some_iff.mp h6
      cases h8
      have eo := bOf_op h1
      subst eo
      exact s_augI (he h3) (he h5) (he h7) (aug_sub fun lo hi2 st p z => hi _ _ _ _ z)
  · split at h <;> first | (cases h; done) | skip
    rename_i hs
    obtain ⟨mi, h1, h2⟩ := Option.bind_eq_some_iff.mp h
    obtain ⟨t, h3, h4⟩ := Option.bind_eq_some_iff.mp h2
    obtain ⟨mb, h5, h6⟩ := Option.bind_eq_some_iff.mp h4
    cases h6
    exact s_for hp G.calm (iter_ok hE G tk h1) (tg_ok G h3) (hq _ _ h5) (fold_of (by simpa using hs))
  · cases h; exact ⟨fun pins s σ H D I ⟨F, ι, s', R, A⟩ => A.elim⟩
  · obtain ⟨mc, h1, h2⟩ := Option.bind_eq_some_iff.mp h
    obtain ⟨mb, h5, h6⟩ := Option.bind_eq_some_iff.mp h2
    cases h6
    exact s_while hp (hb h1) (hq _ _ h5)
  · cases h
theorem seq_ok {n : Nat} (G : Good X Γ C T) (tk : Takes X W) (hp : PassesOwn (model X.prog X.w) X.A X.env X.xe) : ∀ k sts m, seqC (rec_ n) Γ k sts = some m → PSs X sts (tS X.K T W (m C))
  | k, [], m, h => by
    cases k <;> (cases h; exact s_nil)
  | 0, _ :: _, m, h => by cases h
  | k + 1, st :: sts, m, h => by
    obtain ⟨ma, h1, h2⟩ := Option.bind_eq_some_iff.mp (show (stepS (rec_ n) Γ (seqC (rec_ n) Γ k) st).bind _ = some m from h)
    obtain ⟨mb, h3, h4⟩ := Option.bind_eq_some_iff.mp h2
    cases h4
    exact s_cons (stepS_ok (fun sts m h => seq_ok G tk hp k sts m h) G tk hp st ma h1) (seq_ok G tk hp k sts mb h3)
end
end Ev

set_option Elab.async false
set_option linter.all false
set_option autoImplicit false
set_option maxHeartbeats 1000000
/-! Ev, part 3: a program's defs; a law's end. -/
namespace Ev
variable [ClsTab]
open PySem PySem.Spec PyProof.Rows L2
/-! ### how parameters are bound -/
omit [ClsTab] in
/-- all are given, the last by its name -/
theorem bindsK {K : PySem.W.Frag} {x qual : Str} {params : Arguments} {body : List Stmt} {scope : Scope} {kws : List (Str × V)} {f : Addr} {fd : FuncData} {ps : List Str} {n : Nat} {nm : Str} (F : FunD K x qual params body scope [] kws f fd)
    (h : ∀ (kV doc pm : Value) (an : Option Addr) (cdv ct : Value) (us : List Value) (w : Value), us.length = n → bindArgs (PySem.W.fnOf x qual params body scope .none kV doc pm an cdv ct) ⟨us, [(nm, w)]⟩ = pure (ps.zip (us ++ [w]))) :
    KBn K fd ps n [nm] (fun us ws => us ++ ws) (fun vs zs => vs ++ zs) := by
  obtain ⟨oc, od, dV, kV, doc, pm, an, cdv, ct, osl, rfl, lk, hcd, hD, hK⟩ := F.ex
  rcases hD with ⟨_, rfl⟩ | ⟨e, _⟩
  · refine ⟨fun s us ws X h1 h2 => ?_, fun r1 r2 => r1.append r2⟩
    match ws, h2 with
    | [w], _ => exact .of_eq (h kV doc pm an cdv ct us w h1)
  · exact absurd rfl e
theorem binds_none {K : PySem.W.Frag} {fd : FuncData} {ps : List Str} (h : Binds K fd ps []) : ∃ ds dvs, Vals dvs ds ∧ (∀ F, RDs K F [] dvs) ∧ Binds K fd ps ds := ⟨[], [], .nil, fun _ => .nil, h⟩
/-! ### a table of defs -/
structure DRow where
  name : Str
  st : Stmt
  ps : List Str
  N : List Str
  cel : List Nat := []
  bor : List Str := []
  kwn : List (Str × Ev.D) := []
  lnd : List Str := []
  qual : Str := name
  cls : Option (Nat × Str) := none
  obj : Bool := false
/-- a class: its name, its instances' fields, the field that a walk goes through -/
structure CRow where
  name : Str
  flds : List Str
  iter : Option Str
/-- all that stands behind a law's top -/
structure Tab where
  rows : List DRow
  free : List Str
  crows : List CRow := []
  con : List (Str × Ev.D) := []
def Tab.mth (t : Tab) (nm : Str) (k : Nat) : List (Nat × Nat) := t.rows.zipIdx.filterMap fun p => match p.1.cls with
  | some (c, m) => if m = nm ∧ p.1.ps.length = k + 1 ∧ p.1.kwn.isEmpty = true then some (c, p.2) else none
  | none => none
def Tab.its (t : Tab) : List (Nat × Str) := t.crows.zipIdx.filterMap fun p => p.1.iter.map fun fl => (p.2, fl)
def DRow.cc (t : Tab) (d : DRow) : CC where
  N := d.N
  names := (defScope d.st).names
  st := fun x => match (defScope d.st).names.lookup x with
    | some .local | some .cell => true
    | _ => false
  cel := fun i => decide (i ∈ d.cel)
  free := t.free
  fns := fun x k => (t.rows.findIdx? fun d => decide (x = d.name ∧ d.cls = none ∧ d.ps.length = k + d.kwn.length)).bind fun i => (t.rows[i]?).map fun d => (i, d.kwn.map (·.2))
  bor := d.bor
  lnd := d.lnd
  kfn := fun x k nm => t.rows.findIdx? fun d => decide (x = d.name ∧ d.cls = none ∧ d.ps.length = k + 1 ∧ d.kwn.map (·.1) = [nm])
  con := fun x => t.con.lookup x
  fls := fun nm => t.crows.zipIdx.filterMap fun p => if nm ∈ p.1.flds then some p.2 else none
  mth := t.mth
  mkc := fun y k => (t.crows.findIdx? fun r => decide (y = r.name)).bind fun c => (t.rows.findIdx? fun d => decide (d.cls = some (c, ("__init__" : Str)) ∧ d.ps.length = k + 1 ∧ d.kwn.isEmpty = true)).map fun i => (c, i)
  its := if d.obj = true then t.its else []
  lens := t.mth "__len__" 0
def DRow.comp (t : Tab) (fuel : Nat) (d : DRow) : Option (Call → SM) := seqC (rec_ fuel) (d.cc t) fuel (defBody d.st)
/-- the table as the evaluator takes it -/
def prog (rows : List DRow) (bodies : List (Call → SM)) : Nat → Option Def := fun i => match rows[i]?, bodies[i]? with
  | some d, some b => some ⟨d.N.length, d.ps.length, b⟩
  | _, _ => none
/-- each def as it stands behind the top -/
structure DOk (K : PySem.W.Frag) (mg : Str → Option Value) (d : DRow) (f : Addr) (fd : FuncData) : Prop where
  fn : ∃ kws, FunD K d.name d.qual (defArgs d.st) (defBody d.st) (defScope d.st) [] kws f fd
  at_ : d.cls = none → mg d.name = some (.ref f)
  meth : ∀ c m, d.cls = some (c, m) → ∀ C, ClsTab.at_ c = some C → Meth K C m f
  bind : ∃ ds dvs, Vals dvs ds ∧ (∀ F, RDs K F (d.kwn.map (·.2)) dvs) ∧ Binds K fd d.ps ds
  kbind : ∀ k nm, d.kwn.map (·.1) = [nm] → d.ps.length = k + 1 → KBn K fd d.ps k [nm] (fun us ws => us ++ ws) (fun vs zs => vs ++ zs)
  scope : FnScope d.N d.ps (defScope d.st)
  dbg : (d.name == ("__debug__" : Str)) = false
/-- an __iter__ that gives a field's iterator -/
structure ItOk (K : PySem.W.Frag) (C : Addr) (fl : Str) : Prop where
  ex : ∃ (f : Addr) (fd : FuncData) (x qual sf : Str) (params : Arguments) (scope : Scope) (kws : List (Str × V)) (p1 p2 p3 p4 p5 : Pos), Meth K C "__iter__" f ∧ FunD K x qual params [.Return (some (.Call (.Name "iter" p1) [.Attribute (.Name sf p2) fl p3] [] p4)) p5] scope [] kws f fd ∧
    FnScope [sf] [sf] scope ∧ scope.names.lookup ("iter" : Str) = some .globalImplicit ∧ (scope.names.lookup sf = some .local ∨ scope.names.lookup sf = some .cell) ∧ (sf == ("__debug__" : Str)) = false ∧ (sf == ("__classdict__" : Str)) = false ∧ sf ≠ "super" ∧ Binds K fd [sf] []
/-- each class as it stands behind the top -/
structure COk (K : PySem.W.Frag) (mg : Str → Option Value) (c : Nat) (r : CRow) : Prop where
  ex : ∃ C f, ClsTab.at_ c = some C ∧ mg r.name = some (.ref C) ∧ L2.Cls K C ∧ (∀ nm ∈ r.flds, NoAttr K C nm) ∧ Mk K C f ∧ (r.name == ("__debug__" : Str)) = false ∧ ∀ fl, r.iter = some fl → fl ∈ r.flds ∧ ItOk K C fl
theorem all2_len {α β : Type} {R : α → β → Prop} {as : List α} {bs : List β} (h : All2 R as bs) : as.length = bs.length := All2.len h
theorem lookup_zipIdx {α β : Type} {g : α → Nat → Option (Nat × β)} {l : List α} {c : Nat} {b : β} (h : (l.zipIdx.filterMap fun p => g p.1 p.2).lookup c = some b) : ∃ i a, l[i]? = some a ∧ g a i = some (c, b) := by
  have : (c, b) ∈ l.zipIdx.filterMap fun p => g p.1 p.2 := by
    generalize l.zipIdx.filterMap (fun p => g p.1 p.2) = L at h
    induction L with
    | nil => cases h
    | cons p L ih =>
      obtain ⟨x, y⟩ := p
      rw [List.lookup_cons] at h
      split at h
      · rename_i e
        cases h
        rw [beq_iff_eq.mp e]
        exact List.mem_cons_self
      · exact List.mem_cons_of_mem _ (ih h)
  obtain ⟨p, hp, hg⟩ := List.mem_filterMap.mp this
  obtain ⟨a, i⟩ := p
  have := List.mem_zipIdx hp
  refine ⟨i, a, ?_, hg⟩
  rw [List.mem_iff_getElem?] at hp
  obtain ⟨k, hk⟩ := hp
  rw [List.getElem?_zipIdx] at hk
  obtain ⟨x, hx, e⟩ := Option.map_eq_some_iff.mp hk
  cases e
  simpa using hx
theorem mem_zipIdx {α : Type} {g : α → Nat → Option Nat} {l : List α} {c : Nat} (h : c ∈ l.zipIdx.filterMap fun p => g p.1 p.2) : ∃ i a, l[i]? = some a ∧ g a i = some c := by
  obtain ⟨p, hp, hg⟩ := List.mem_filterMap.mp h
  obtain ⟨a, i⟩ := p
  refine ⟨i, a, ?_, hg⟩
  rw [List.mem_iff_getElem?] at hp
  obtain ⟨k, hk⟩ := hp
  rw [List.getElem?_zipIdx] at hk
  obtain ⟨x, hx, e⟩ := Option.map_eq_some_iff.mp hk
  cases e
  simpa using hx
section
variable {P : Program} {w : World} {K : PySem.W.Frag} {mg : Str → Option Value} {base : Heap} {t : Tab} {bodies : List (Call → SM)} {fuel : Nat}
theorem run_many {Pr : Nat → Option Def} {k i : Nat} {d : Def} (h : Pr i = some d) {us : List Vl} {s : S} (hn : us.length ≠ d.ps) : run Pr k i us s = .bad := by
  cases k with
  | zero => rfl
  | succ k =>
    simp only [run, h]
    rw [if_neg fun z => hn z.1]
/-- what the table's facts are -/
structure TOk (K : PySem.W.Frag) (mg : Str → Option Value) (t : Tab) (bodies : List (Call → SM)) (fuel : Nat) : Prop where
  rows : ∀ (i : Nat) (d : DRow), t.rows[i]? = some d → ∃ f fd b, DOk K mg d f fd ∧ bodies[i]? = some b ∧ d.comp t fuel = some b
  free : ∀ x ∈ t.free, mg x = none
  cls : ∀ (c : Nat) (r : CRow), t.crows[c]? = some r → COk K mg c r
  one : ∀ (c : Nat) (C : Addr), ClsTab.at_ c = some C → ∃ r, t.crows[c]? = some r
  con : ∀ x d, t.con.lookup x = some d → ∃ u v, mg x = some u ∧ L2.RelV v u ∧ ∀ F, RD K F d v
  iter : t.crows ≠ [] → mg "iter" = none
/-- all defs keep their promises, at every depth of calls -/
theorem prog_ok (ok : TOk K mg t bodies fuel) (T : CT) :
    ∀ (k i : Nat) (d : DRow) (f : Addr) (fd : FuncData), t.rows[i]? = some d → DOk K mg d f fd → FnG P w K mg base (4 * k) f fd d.ps (spF K T (run (prog t.rows bodies) k) i d.ps.length)
  | 0, i, d, f, fd, _, D => ⟨fun vs H Q E h => h.1, fun B below st H ar us vs Q E ⟨_, _, _, _, _, _, _, _, z⟩ => z.elim⟩
  | k + 1, i, d, f, fd, hi, D => by
    obtain ⟨_, _, b, _, hb, hc⟩ := ok.rows i d hi
    have hP : prog t.rows bodies i = some ⟨d.N.length, d.ps.length, b⟩ := by
      unfold prog
      rw [hi, hb]
    have hle : d.ps.length ≤ d.N.length := by
      have := congrArg List.length D.scope.pre
      rw [List.length_take] at this
      omega
    obtain ⟨kws, Dfn⟩ := D.fn
    refine FnG.up (m := 4 * k + 3 + 1) (FnG.by_body (n := 4 * k + 3) Dfn D.scope (fun vs H Q E h => h.1) fun cdv B below st H vs Q E hr hg h => ?_) (by omega)
    obtain ⟨hl, F0, ι, s, σ, us, R, r2, A⟩ := h
    have ul : us.length = d.ps.length := r2.len.trans hl
    simp only [run, hP] at A
    rw [if_pos ⟨ul, hle⟩] at A
    -- a row by its number, as it is called
    have row : ∀ (j : Nat) (e : DRow), t.rows[j]? = some e → ∃ f2 fd2, DOk K mg e f2 fd2 ∧ FnG P w K mg base (4 * k) f2 fd2 e.ps (spF K T (run (prog t.rows bodies) k) j e.ps.length) ∧ ∀ us s, us.length ≠ e.ps.length → run (prog t.rows bodies) k j us s = .bad := fun j e he => by
      obtain ⟨f2, fd2, b2, D2, hb2, _⟩ := ok.rows j e he
      have hP2 : prog t.rows bodies j = some ⟨e.N.length, e.ps.length, b2⟩ := by
        unfold prog
        rw [he, hb2]
      exact ⟨f2, fd2, D2, prog_ok ok T k j e f2 fd2 he D2, fun us s hn => run_many hP2 hn⟩
    have plain : ∀ {e : DRow} {f2 : Addr} {fd2 : FuncData}, DOk K mg e f2 fd2 → e.kwn.isEmpty = true → Binds K fd2 e.ps [] := fun {e f2 fd2} D2 hk => by
      obtain ⟨ds, dvs, v1, v2, v3⟩ := D2.bind
      rw [List.isEmpty_iff.mp hk] at v2
      cases v2 fun _ => none
      cases v1
      exact v3
    have meth : ∀ (nm : Str) (j c fi : Nat), (t.mth nm j).lookup c = some fi → ∀ C, ClsTab.at_ c = some C → L2.Cls K C ∧ ∃ (f : Addr) (fd : FuncData) (ps : List Str) (n : Nat), Meth K C nm f ∧
        FnG P w K mg base (4 * k) f fd ps (spF K T (run (prog t.rows bodies) k) fi n) ∧ Binds K fd ps [] ∧ ∀ us s, us.length ≠ n → run (prog t.rows bodies) k fi us s = .bad := fun nm j c fi hl C hC => by
      obtain ⟨x, e, he, hg⟩ := lookup_zipIdx (g := fun (e : DRow) x => match e.cls with
        | some (c, m) => if m = nm ∧ e.ps.length = j + 1 ∧ e.kwn.isEmpty = true then some (c, x) else none
        | none => none) hl
      split at hg <;> first | (cases hg; done) | skip
      rename_i c' m' hcls
      split at hg <;> first | (cases hg; done) | skip
      rename_i hm
      cases hg
      obtain ⟨r, hrow⟩ := ok.one c C hC
      obtain ⟨C2, fI, k1, _, k3, _⟩ := (ok.cls c r hrow).ex
      rw [hC] at k1
      cases k1
      obtain ⟨f2, fd2, D2, G2, bad⟩ := row _ e he
      refine ⟨k3, f2, fd2, e.ps, e.ps.length, ?_, G2, plain D2 hm.2.2, bad⟩
      rw [← hm.1]
      exact D2.meth c m' hcls C hC
    refine ⟨tS K T (fun c d _ H => E c d H) (b (run (prog t.rows bodies) k)), ?_, F0, ι, entry s us d.N.length, enter_rel R r2 (by omega), leave_ok R r2 A⟩
    refine seq_ok (X := cxOf (L2.CX P w) P w K mg base d.N d.qual (defScope d.st) f cdv B below st H E) (Γ := d.cc t) (C := run (prog t.rows bodies) k)
      { names := rfl, kind := D.scope.kind, N := rfl, nd := D.scope.nd, calm := rfl, gd := hg, un := ?un, st := fun x hx => ?st, free := ok.free, fns := fun x n fi dd hx => ?fns, kfn := fun x n nm fi hx => ?kfn, con := ok.con, fls := fun nm c hc C hC => ?fls, mth := fun nm j c fi hl C hC => ?mth, mkc := fun y j c fi hx => ?mk, its := fun c fl hl C hC => ?its, lens := fun c fi hl C hC => ?lens }
      (takes_of rfl rfl rfl rfl) (passes_of rfl) fuel (defBody d.st) b hc
    case un =>
      have := hr.un
      show (B.deeper _).units + 100 < cLine
      omega
    case st =>
      have hx : (match (defScope d.st).names.lookup x with
        | some .local | some .cell => true
        | _ => false) = true := hx
      refine ⟨?_, .inl rfl⟩
      show (defScope d.st).names.lookup x = some .local ∨ (defScope d.st).names.lookup x = some .cell
      split at hx
      · rename_i e
        exact .inl e
      · rename_i e
        exact .inr e
      · cases hx
    case fns =>
      have hx : ((t.rows.findIdx? fun d => decide (x = d.name ∧ d.cls = none ∧ d.ps.length = n + d.kwn.length)).bind fun i => (t.rows[i]?).map fun d => (i, d.kwn.map (·.2))) = some (fi, dd) := hx
      obtain ⟨j, hj, e⟩ := Option.bind_eq_some_iff.mp hx
      obtain ⟨hlt, hp, _⟩ := List.findIdx?_eq_some_iff_getElem.mp hj
      have hp := of_decide_eq_true hp
      have hrow : t.rows[j]? = some t.rows[j] := by simp [hlt]
      rw [hrow] at e
      cases e
      obtain ⟨f2, fd2, D2, G2, bad⟩ := row _ _ hrow
      obtain ⟨ds, dvs, v1, v2, v3⟩ := D2.bind
      obtain ⟨kws2, D2fn⟩ := D2.fn
      refine ⟨f2, fd2, t.rows[fi].ps, 4 * k, ds, dvs, t.rows[fi].ps.length, ?_, D2fn.kp, G2, hr.mono (by omega), v3, v1, v2, bad, ?_⟩
      · rw [hp.1]
        exact D2.at_ hp.2.1
      · rw [hp.1]
        exact D2.dbg
    case kfn =>
      have hx : t.rows.findIdx? (fun d => decide (x = d.name ∧ d.cls = none ∧ d.ps.length = n + 1 ∧ d.kwn.map (·.1) = [nm])) = some fi := hx
      obtain ⟨hlt, hp, _⟩ := List.findIdx?_eq_some_iff_getElem.mp hx
      have hp := of_decide_eq_true hp
      have hrow : t.rows[fi]? = some t.rows[fi] := by simp [hlt]
      obtain ⟨f2, fd2, D2, G2, bad⟩ := row _ _ hrow
      obtain ⟨kws2, D2fn⟩ := D2.fn
      refine ⟨f2, fd2, t.rows[fi].ps, 4 * k, t.rows[fi].ps.length, ?_, D2fn.kp, G2, hr.mono (by omega), D2.kbind n nm hp.2.2.2 hp.2.2.1, bad, ?_⟩
      · rw [hp.1]
        exact D2.at_ hp.2.1
      · rw [hp.1]
        exact D2.dbg
    case fls =>
      obtain ⟨x, r, hrow, hg⟩ := mem_zipIdx (g := fun (r : CRow) x => if nm ∈ r.flds then some x else none) hc
      split at hg <;> first | (cases hg; done) | skip
      rename_i hm
      cases hg
      obtain ⟨C2, fI, k1, _, k3, k4, _⟩ := (ok.cls _ r hrow).ex
      rw [hC] at k1
      cases k1
      exact ⟨k3, k4 nm hm⟩
    case mth =>
      obtain ⟨k1, f2, fd2, ps, n, k2, k3, k4, k5⟩ := meth nm j c fi hl C hC
      exact ⟨k1, f2, fd2, ps, 4 * k, n, k2, k3, hr.mono (by omega), k4, k5⟩
    case mk =>
      have hx : ((t.crows.findIdx? fun r => decide (y = r.name)).bind fun c => (t.rows.findIdx? fun d => decide (d.cls = some (c, ("__init__" : Str)) ∧ d.ps.length = j + 1 ∧ d.kwn.isEmpty = true)).map fun i => (c, i)) = some (c, fi) := hx
      obtain ⟨c', hc', e⟩ := Option.bind_eq_some_iff.mp hx
      obtain ⟨i', hi', e2⟩ := Option.map_eq_some_iff.mp e
      cases e2
      obtain ⟨hlt, hp, _⟩ := List.findIdx?_eq_some_iff_getElem.mp hc'
      have hp := of_decide_eq_true hp
      obtain ⟨hlt2, hp2, _⟩ := List.findIdx?_eq_some_iff_getElem.mp hi'
      have hp2 := of_decide_eq_true hp2
      have hrow : t.crows[c]? = some t.crows[c] := by simp [hlt]
      have hrow2 : t.rows[fi]? = some t.rows[fi] := by simp [hlt2]
      obtain ⟨C, fI, k1, k2, k3, k4, k5, k6, _⟩ := (ok.cls _ _ hrow).ex
      obtain ⟨f2, fd2, D2, G2, bad⟩ := row _ _ hrow2
      have m2 := D2.meth c _ hp2.1 C k1
      have ef : f2 = fI := by
        have e1 := m2.at_
        have e2 := k5.init
        rw [e1] at e2
        cases e2
        rfl
      subst ef
      exact ⟨C, f2, fd2, _, 4 * k, _, by rw [hp]; exact k2, k1, k5, G2, hr.mono (by omega), plain D2 hp2.2.2, bad, by rw [hp]; exact k6⟩
    case its =>
      have hl : (if d.obj = true then t.its else []).lookup c = some fl := hl
      split at hl <;> first | (cases hl; done) | skip
      obtain ⟨x, r, hrow, hg⟩ := lookup_zipIdx (g := fun (r : CRow) x => r.iter.map fun fl => (x, fl)) hl
      obtain ⟨fl2, hfl, e⟩ := Option.map_eq_some_iff.mp hg
      cases e
      obtain ⟨C2, fI, k1, _, k3, k4, _, _, k7⟩ := (ok.cls _ r hrow).ex
      rw [hC] at k1
      cases k1
      obtain ⟨f2, fd2, x2, qual2, sf, params2, scope2, kws2, p1, p2, p3, p4, p5, j1, j2, j3, j4, j5, j6, j7, j8, j9⟩ := (k7 fl hfl).2.ex
      have hflm : NoAttr K C fl := k4 fl (k7 fl hfl).1
      exact ⟨f2, fd2, [sf], 1, j1, FnI.iter (mb := mg) (n := 0) j2 j3 k3 hflm (ok.iter (fun z => by rw [z] at hrow; simp at hrow)) j4 j5 j6 j7 j8, hr.mono (by omega), j9⟩
    case lens =>
      obtain ⟨k1, f2, fd2, ps, n, k2, k3, k4, k5⟩ := meth "__len__" 0 c fi hl C hC
      exact ⟨f2, fd2, ps, 4 * k, n, k2, k3, hr.mono (by omega), k4, k5⟩
end
/-! ### a law's end -/
section
variable {P : Program} {w : World} {K : PySem.W.Frag} {mg mb : Str → Option Value} {k : Nat} {fa a : Addr} {fd : FuncData} {x : Str} {sp : Sp} {st : Shared} {its : List Value} {ns : List Int}
omit [ClsTab] in
omit [ClsTab] in
theorem end_at {H : Hp} (hH : ∀ b u, H b = some u → b = a ∧ u = .frz { cls := .type "list", data := .seq its.toArray } (.lst (ns.map V.int)) ∧ K.lookup a = none) (KX : K.In st.heap) (hns : st.heap.Ns mainGlobals mg) (hb : st.heap.Ns builtinsNs mb) (hbb : ∀ x : Str, x ≠ "__name__" → mb x = bootBuiltins x)
    (lim : st.heap.NoLimit) (hg : st.gens = #[]) (ha : st.heap.get? a = some { cls := .type "list", data := .seq its.toArray }) (hi : IntsAre its ns) (hl : ns.length ≤ sizeLine) (hr : Room k callerA) (F : ∀ base : Heap, K.In base → base.Ns mainGlobals mg → FnG P w K mg base k fa fd [x] sp)
    (bind : ∀ (s : Shared) (u : Value), BindsTo s fd ⟨[u], []⟩ [(x, u)]) (hsp : sp [.ref a] H (fun v _ => v = .bl true) fun _ _ _ => False) :
    codeAny (model P w) callerA (.call (.ref fa) ⟨[.ref a], []⟩) (fun r s' => r = .ok (.ret (.bool true)) ∧ OldK st.heap s'.heap ∧ s'.os = st.os ∧ AllBare s'.gens) st := by
  have stay : ∀ {b : Addr} {u : Obj}, st.heap.get? b = some u → H b = none → (hidT st.heap H).get? b = some u := fun h n => hidT_get h n
  -- a namespace is no list
  have nsp : ∀ {b : Addr} {m : Str → Option Value}, st.heap.Ns b m → (hidT st.heap H).Ns b m := fun {b m} ⟨u, es, ep, h1, h2, h3⟩ => by
    refine ⟨u, es, ep, stay h1 ?_, h2, h3⟩
    cases q : H b with
    | none => rfl
    | some z =>
      obtain ⟨rfl, _, _⟩ := hH b z q
      rw [ha] at h1
      cases h1
      cases (show Data.seq its.toArray _ = Data.dict es ep from h2)
  have kin : K.In (hidT st.heap H) := fun b u h => stay (KX b u h) (by
    cases q : H b with
    | none => rfl
    | some z =>
      obtain ⟨rfl, _, n⟩ := hH b z q
      rw [n] at h
      cases h)
  have hok : HOk P w H st.heap := fun b u q => by
    obtain ⟨rfl, rfl, _⟩ := hH b u q
    exact ⟨ha, by rw [List.length_map]; exact hl, its, _, vals_ints hi, ha⟩
  have env : Env0 P w K mg (hidT st.heap H) callerA [] st H :=
    ⟨rfl, ⟨kin, nsp hns, ⟨mb, nsp hb, hbb⟩, let ⟨m, h1, h2⟩ := lim; ⟨m, nsp h1, h2⟩⟩, fun b u h => of_hidT h, Nat.le_of_eq (hidT_size _ _), trivial, fun b h => absurd (show b ∈ ([] : List Addr) from h) (by simp), hok, .of_eq hg⟩
  refine codeAny_mono ((F _ kin (nsp hns)).go callerA [] st H ⟨[.ref a], []⟩ [.ref a] [.ref a] _ _ hsp (.cons rfl .nil) (bind st (.ref a)) hr rfl env) fun r s2 h => ?_
  cases r with
  | error e =>
    obtain ⟨_, _, _, _, _, _, _, _, _, _, _, _, z⟩ := h
    exact z.elim
  | ok fl =>
    cases fl with
    | next => exact h.elim
    | brk => exact h.elim
    | cont => exact h.elim
    | ret u =>
      obtain ⟨v, H2, os, bare, un, hok2, rv, q⟩ := h
      cases (show v = .bl true from q)
      obtain rfl : u = Value.bool true := rv
      refine ⟨rfl, OldK.of_keep fun b o h => ?_, os, bare⟩
      cases q : H b with
      | none => exact un.keep b o h q (fun z => absurd (show b ∈ ([] : List Addr) from z) (by simp)) (by simp)
      | some z =>
        obtain ⟨_, rfl, _⟩ := hH b z q
        obtain ⟨h1, _⟩ := hok b _ q
        obtain ⟨h2, _⟩ := hok2 b _ (un.frzs b _ _ q)
        rw [h] at h1
        cases h1
        exact h2
omit [ClsTab] in
theorem law_end (KX : K.In st.heap) (hns : st.heap.Ns mainGlobals mg) (hb : st.heap.Ns builtinsNs mb) (hbb : ∀ x : Str, x ≠ "__name__" → mb x = bootBuiltins x)
    (lim : st.heap.NoLimit) (hg : st.gens = #[]) (ha : st.heap.get? a = some { cls := .type "list", data := .seq its.toArray }) (hi : IntsAre its ns) (hl : ns.length ≤ sizeLine) (hr : Room k callerA) (F : ∀ base : Heap, K.In base → base.Ns mainGlobals mg → FnG P w K mg base k fa fd [x] sp)
    (bind : ∀ (s : Shared) (u : Value), BindsTo s fd ⟨[u], []⟩ [(x, u)]) (hsp : ∀ H : Hp, SqL K H a (ns.map V.int) → sp [.ref a] H (fun v _ => v = .bl true) fun _ _ _ => False) :
    codeAny (model P w) callerA (.call (.ref fa) ⟨[.ref a], []⟩) (fun r s' => r = .ok (.ret (.bool true)) ∧ OldK st.heap s'.heap ∧ s'.os = st.os ∧ AllBare s'.gens) st := by
  cases hk : K.lookup a with
  | some o =>
    have e := KX a o hk
    rw [ha] at e
    cases e
    refine end_at (H := fun _ => none) (fun b u z => by cases (show (none : Option HO) = some u from z)) KX hns hb hbb lim hg ha hi hl hr F bind (hsp _ (.inr ⟨_, its.toArray, _, hk, rfl, rfl, rfl, ?_, ?_⟩))
    · rw [List.size_toArray, hi.length]
      exact hl
    · simpa using vals_ints hi
  | none =>
    refine end_at (H := fun b => if b = a then some (.frz { cls := .type "list", data := .seq its.toArray } (.lst (ns.map V.int))) else none) (fun b u z => ?_) KX hns hb hbb lim hg ha hi hl hr F bind (hsp _ (.inl (.inr ⟨_, if_pos rfl⟩)))
    by_cases h : b = a
    · cases (if_pos h).symm.trans z
      exact ⟨h, rfl, hk⟩
    · cases (if_neg h).symm.trans z
end
omit [ClsTab] in
/-- the end over a head by facts -/
theorem walk_G {l : PySem.W.OpenLaw} {n k : Nat} {q : Program} {loose : List Str} {XP : (Str → Option Value) → Heap → Prop} {YP : World → Heap → Prop} {d : DefRec} {x : Str} (hn : l.most = some n) (hn2 : n ≤ sizeLine) (hdf : d.params.defaults = []) (hr : Room k callerA)
    (F : ∀ (w : World) (mg : Str → Option Value) (fa : Addr) (h : Heap), YP w h → h.Ns mainGlobals mg → mg d.name = some (.ref fa) →
      ∃ (K : PySem.W.Frag) (fd : FuncData) (sp : Sp), K.In h ∧ (∀ (s : Shared) (u : Value), BindsTo s fd ⟨[u], []⟩ [(x, u)]) ∧
        (∀ (H : Hp) (a : Addr) (ns : List Int), ns.length ≤ n → SqL K H a (ns.map V.int) → sp [.ref a] H (fun v _ => v = .bl true) fun _ _ _ => False) ∧
        ∀ base : Heap, K.In base → base.Ns mainGlobals mg → FnG l.prog w K mg base k fa fd [x] sp) :
    PySem.W.WalkO q loose XP YP l.row.toRowW d [] (fun f vs => PySem.call f vs) := by
  refine Att.attach_call hn hdf fun w s0 st mg mb fa o pm cd doc a its ns G Y ho hd hcd hmg hobj hints hlen hg => ?_
  obtain ⟨K, fd, sp, KX, hb, hsp, hF⟩ := F w mg fa _ Y G.T.g hmg
  exact law_end KX G.T.g G.T.b G.T.builtins G.T.nolimit hg hobj hints (Nat.le_trans hlen hn2) hr hF hb fun H hS => hsp H a ns hlen hS
/-- the script as a tree that is only read -/
theorem sp_script {K : PySem.W.Frag} {T : CT} {C : Call} {fi : Nat} {H : Hp} {a : Addr} {ns : List Int} (hS : SqL K H a (ns.map V.int)) {s' : S} (h : C fi [.d (.lz (ns.map .int))] ⟨[], []⟩ = .ok (.d (.bl true)) s') :
    spF K T C fi 1 [.ref a] H (fun v _ => v = .bl true) fun _ _ _ => False := by
  have R : Rel K H [] ⟨[], []⟩ [] H := by
    refine ⟨Same.refl _, fun i x e => ?_, fun k c e => ?_, rfl, rfl, fun i j b h => ?_, fun i j b h => ?_, fun i j b h => ?_⟩
    · simp at e
    · simp at e
    · obtain ⟨⟨x, e⟩, _⟩ := h
      simp at e
    · obtain ⟨⟨x, e⟩, _⟩ := h
      simp at e
    · obtain ⟨⟨x, e⟩, _⟩ := h
      simp at e
  refine ⟨rfl, H, [], ⟨[], []⟩, [], [.d (.lz (ns.map .int))], R, .cons (.lz hS (RDs.map (fun _ => .int _) ns)) .nil, ?_⟩
  rw [h]
  intro F' ι' H' v t R' r
  cases r
  rfl
end Ev

set_option Elab.async false
set_option linter.all false
set_option autoImplicit false
set_option maxHeartbeats 4000000
set_option exponentiation.threshold 300
/-! Plain lemmas, part a: the draws. -/
namespace Ev
open PySem
/-- _law_take -/
def takeB : Call → SM := fun C => seq (sIf (cmpB .eq (idx (var 0) (lit (.int 0))) (lit (.int 0))) (seq (sSet 2 (lit (.int 0))) (seq (sIf (cmpB .lt (idx (var 0) (lit (.int 2))) (bi .len [idx (var 0) (lit (.int 3))])) (seq (sSet 2 (idx (idx (var 0) (lit (.int 3))) (idx (var 0) (lit (.int 2))))) skip) skip) (seq (sAugI .add (var 0) (lit (.int 2)) (lit (.int 1))) (seq (sIf (cmpB .ge (var 2) (lit (.int 1000000000000000000))) (seq (sPut (var 0) (lit (.int 0)) (var 2)) skip) skip) (seq (sSet 3 (bin .add (bin .add (bin .mul (idx (var 0) (lit (.int 1))) (lit (.int 48271))) (bin .mod (bi .int [var 2]) (lit (.int 2147483647)))) (bin .mul (lit (.int 7919)) (idx (var 0) (lit (.int 2)))))) (seq (sPut (var 0) (lit (.int 1)) (bin .mod (bi .int [var 3]) (lit (.int 2147483647)))) skip)))))) skip) (seq (sIf (cmpB .gt (idx (var 0) (lit (.int 0))) (lit (.int 0))) (seq (sSet 4 (bin .mod (bi .int [idx (var 0) (lit (.int 0))]) (var 1))) (seq (sPut (var 0) (lit (.int 0)) (bin .fdiv (bi .int [idx (var 0) (lit (.int 0))]) (var 1))) (seq (sRet (var 4)) skip))) skip) (seq (sSet 5 (bin .mod (bi .int [bin .mul (bin .add (idx (var 0) (lit (.int 1))) (lit (.int 1))) (lit (.int 39373))]) (lit (.int 1000000007)))) (seq (sSet 6 (bin .mod (bi .int [bin .mul (bin .mod (bi .int [bin .mul (var 5) (var 5)]) (lit (.int 998244353))) (lit (.int 30011))]) (lit (.int 998244353)))) (seq (sRet (bin .mod (bi .int [bin .fdiv (var 6) (lit (.int 7))]) (var 1))) skip))))
/-- the bag -/
abbrev bagD (a b c : Int) (cells : List Int) : D := .lst [.int a, .int b, .int c, .lst (cells.map .int)]
def Bag (n : Nat) (x : D) : Prop := ∃ a b c cells, x = bagD a b c cells ∧ 0 ≤ a ∧ 0 ≤ b ∧ b < 2147483647 ∧ 0 ≤ c ∧ c ≤ n ∧ ∀ z ∈ cells, 0 ≤ z
theorem Bag.up {m n : Nat} {x : D} (h : Bag m x) (l : m ≤ n) : Bag n x := by
  obtain ⟨a, b, c, cells, e, h1, h2, h3, h4, h5, h6⟩ := h
  exact ⟨a, b, c, cells, e, h1, h2, h3, h4, by omega, h6⟩
theorem eqI (i j : Int) : eqD (.int i) (.int j) = (i == j) := by
  simp [eqD, D.py, PyData.eqv]
theorem okI (i j : Int) : okEq (.int i) (.int j) = true := by
  simp [okEq, D.flat]
theorem at0 {α : Type} (x0 x1 x2 x3 : α) : L2.atI [x0, x1, x2, x3] 0 = some x0 := rfl
theorem at1 {α : Type} (x0 x1 x2 x3 : α) : L2.atI [x0, x1, x2, x3] 1 = some x1 := rfl
theorem at2 {α : Type} (x0 x1 x2 x3 : α) : L2.atI [x0, x1, x2, x3] 2 = some x2 := rfl
theorem at3 {α : Type} (x0 x1 x2 x3 : α) : L2.atI [x0, x1, x2, x3] 3 = some x3 := rfl
theorem ix0 : L2.ixN 4 0 = some 0 := rfl
theorem ix1 : L2.ixN 4 1 = some 1 := rfl
theorem ix2 : L2.ixN 4 2 = some 2 := rfl
/-- the one cell's state -/
abbrev st (env : Slots) (x : D) : S := ⟨env, [.live x]⟩
def takeX : SM := sIf (cmpB .eq (idx (var 0) (lit (.int 0))) (lit (.int 0))) (seq (sSet 2 (lit (.int 0))) (seq (sIf (cmpB .lt (idx (var 0) (lit (.int 2))) (bi .len [idx (var 0) (lit (.int 3))])) (seq (sSet 2 (idx (idx (var 0) (lit (.int 3))) (idx (var 0) (lit (.int 2))))) skip) skip) (seq (sAugI .add (var 0) (lit (.int 2)) (lit (.int 1))) (seq (sIf (cmpB .ge (var 2) (lit (.int 1000000000000000000))) (seq (sPut (var 0) (lit (.int 0)) (var 2)) skip) skip) (seq (sSet 3 (bin .add (bin .add (bin .mul (idx (var 0) (lit (.int 1))) (lit (.int 48271))) (bin .mod (bi .int [var 2]) (lit (.int 2147483647)))) (bin .mul (lit (.int 7919)) (idx (var 0) (lit (.int 2)))))) (seq (sPut (var 0) (lit (.int 1)) (bin .mod (bi .int [var 3]) (lit (.int 2147483647)))) skip)))))) skip
def takeY : SM := seq (sIf (cmpB .gt (idx (var 0) (lit (.int 0))) (lit (.int 0))) (seq (sSet 4 (bin .mod (bi .int [idx (var 0) (lit (.int 0))]) (var 1))) (seq (sPut (var 0) (lit (.int 0)) (bin .fdiv (bi .int [idx (var 0) (lit (.int 0))]) (var 1))) (seq (sRet (var 4)) skip))) skip) (seq (sSet 5 (bin .mod (bi .int [bin .mul (bin .add (idx (var 0) (lit (.int 1))) (lit (.int 1))) (lit (.int 39373))]) (lit (.int 1000000007)))) (seq (sSet 6 (bin .mod (bi .int [bin .mul (bin .mod (bi .int [bin .mul (var 5) (var 5)]) (lit (.int 998244353))) (lit (.int 30011))]) (lit (.int 998244353)))) (seq (sRet (bin .mod (bi .int [bin .fdiv (var 6) (lit (.int 7))]) (var 1))) skip)))
theorem take_parts (C : Call) : takeB C = seq takeX takeY := rfl
theorem small_log {n k : Nat} (h : n < 2 ^ k) (hk : 0 < k) : n.log2 < k := by
  by_cases hn : n = 0
  · subst hn
    simpa using hk
  · exact (Nat.log2_lt hn).mpr h
theorem mul_ok {i j : Int} (hi : i.natAbs < 2 ^ 40000) (hj : j.natAbs < 2 ^ 40000) : mulOk i j = true := by
  have h1 := small_log hi (by decide)
  have h2 := small_log hj (by decide)
  unfold mulOk
  exact decide_eq_true (by omega)
theorem small40 {n : Nat} (h : n < 1000000000000000000000000) : n < 2 ^ 40000 := Nat.lt_of_lt_of_le h (Nat.le_trans (show 1000000000000000000000000 ≤ 2 ^ 80 by decide) (Nat.pow_le_pow_right (by decide) (by decide)))
theorem mul_ok2 {i j : Int} (hi : i.natAbs < 1000000000000000000000000) (hj : j.natAbs < 1000000000000000000000000) : mulOk i j = true := mul_ok (small40 hi) (small40 hj)
section
variable (many a b c : Int) (cells : List Int) (e2 e3 : Option Slot)
theorem takeY_pos (h0 : 0 < a) (hm : 1 ≤ many) (hm2 : many < 1073741824) :
    takeY (st [some (.ref 0), some (.d (.int many)), e2, e3, none, none, none] (bagD a b c cells)) =
      .ret (.d (.int (a % many))) (st [some (.ref 0), some (.d (.int many)), e2, e3, some (.d (.int (a % many))), none, none] (bagD (a / many) b c cells)) := by
  have hm0 : 0 < many := by omega
  simp [takeY, seq, sIf, Ev.lift, cmpB, EM.bind, idx, var, get, Out.look, lit, EM.pure, idxD, at0, at1, at2, at3, Ev.opt, COp.go, eqI, okI, ltD, h0, sSet, bin, bi, args, gets, Bi.go, BOp.go, intsD, hm0, hm2, store, sPut, keep, putIn, setD, ix0, sRet, Cell.tree, skip]
theorem takeY_zero (hm : 1 ≤ many) (hb : 0 ≤ b) (hb2 : b < 2147483647) : ∃ r env, 0 ≤ r ∧ r < many ∧
    takeY (st [some (.ref 0), some (.d (.int many)), e2, e3, none, none, none] (bagD 0 b c cells)) = .ret (.d (.int r)) (st env (bagD 0 b c cells)) := by
  have hm0 : 0 < many := by omega
  have k1 : mulOk (b + 1) 39373 = true := mul_ok2 (by omega) (by decide)
  have q1 : ∀ x : Int, 0 ≤ x % 1000000007 ∧ x % 1000000007 < 1000000007 := fun x => ⟨Int.emod_nonneg _ (by decide), Int.emod_lt_of_pos _ (by decide)⟩
  have q2 : ∀ x : Int, 0 ≤ x % 998244353 ∧ x % 998244353 < 998244353 := fun x => ⟨Int.emod_nonneg _ (by decide), Int.emod_lt_of_pos _ (by decide)⟩
  have k2 : ∀ x : Int, mulOk (x % 1000000007) (x % 1000000007) = true := fun x => mul_ok2 (by have := q1 x; omega) (by have := q1 x; omega)
  have k3 : ∀ x : Int, mulOk (x % 998244353) 30011 = true := fun x => mul_ok2 (by have := q2 x; omega) (by decide)
  refine ⟨((((b + 1) * 39373 % 1000000007) * ((b + 1) * 39373 % 1000000007) % 998244353 * 30011) % 998244353 / 7) % many, [some (.ref 0), some (.d (.int many)), e2, e3, none, some (.d (.int ((b + 1) * 39373 % 1000000007))), some (.d (.int (((b + 1) * 39373 % 1000000007) * ((b + 1) * 39373 % 1000000007) % 998244353 * 30011 % 998244353)))], Int.emod_nonneg _ (by omega), Int.emod_lt_of_pos _ hm0, ?_⟩
  simp [takeY, seq, sIf, Ev.lift, cmpB, EM.bind, idx, var, get, Out.look, lit, EM.pure, idxD, at0, at1, at2, at3, Ev.opt, COp.go, eqI, okI, ltD, sSet, bin, bi, args, gets, Bi.go, BOp.go, intsD, hm0, store, sRet, Cell.tree, skip, addD, mulD, k1, k2, k3]
theorem takeX_zero (z : Int) (hz : 0 ≤ z) (hb : 0 ≤ b) (hb2 : b < 2147483647) (hc : 0 ≤ c) (hc2 : c < 100000000000000000000000) (hz2 : (c < cells.length ∧ L2.atI (cells.map D.int) c = some (.int z)) ∨ (¬ c < cells.length ∧ z = 0)) : ∃ a' b' f2 f3, 0 ≤ a' ∧ 0 ≤ b' ∧ b' < 2147483647 ∧
    takeX (st [some (.ref 0), some (.d (.int many)), none, none, none, none, none] (bagD 0 b c cells)) = .next (st [some (.ref 0), some (.d (.int many)), f2, f3, none, none, none] (bagD a' b' (c + 1) cells)) := by
  have k1 : mulOk b 48271 = true := mul_ok2 (by omega) (by decide)
  have k2 : mulOk 7919 (c + 1) = true := mul_ok2 (by decide) (by omega)
  have key : ∀ p : Bool, (decide (1000000000000000000 ≤ z)) = p → takeX (st [some (.ref 0), some (.d (.int many)), none, none, none, none, none] (bagD 0 b c cells)) = .next (st [some (.ref 0), some (.d (.int many)), some (.d (.int z)), some (.d (.int (b * 48271 + z % 2147483647 + 7919 * (c + 1)))), none, none, none] (bagD (if p = true then z else 0) ((b * 48271 + z % 2147483647 + 7919 * (c + 1)) % 2147483647) (c + 1) cells)) := by
    intro p hp
    rcases hz2 with ⟨h1, h2⟩ | ⟨h1, rfl⟩
    · cases p with
      | true =>
        have hp := of_decide_eq_true hp
        simp [takeX, seq, sIf, Ev.lift, cmpB, EM.bind, idx, var, get, Out.look, lit, EM.pure, idxD, idxL, at0, at1, at2, at3, Ev.opt, COp.go, eqI, okI, ltD, leD, h1, h2, hp, sSet, bin, bi, args, gets, Bi.go, BOp.go, BOp.inp, intsD, store, sPut, sAugI, keep, putIn, setD, ix0, ix1, ix2, Cell.tree, skip, addD, mulD, k1, k2]
      | false =>
        have hp := of_decide_eq_false hp
        simp [takeX, seq, sIf, Ev.lift, cmpB, EM.bind, idx, var, get, Out.look, lit, EM.pure, idxD, idxL, at0, at1, at2, at3, Ev.opt, COp.go, eqI, okI, ltD, leD, h1, h2, hp, sSet, bin, bi, args, gets, Bi.go, BOp.go, BOp.inp, intsD, store, sPut, sAugI, keep, putIn, setD, ix0, ix1, ix2, Cell.tree, skip, addD, mulD, k1, k2]
    · cases p with
      | true => simp at hp
      | false =>
        simp [takeX, seq, sIf, Ev.lift, cmpB, EM.bind, idx, var, get, Out.look, lit, EM.pure, idxD, idxL, at0, at1, at2, at3, Ev.opt, COp.go, eqI, okI, ltD, leD, h1, sSet, bin, bi, args, gets, Bi.go, BOp.go, BOp.inp, intsD, store, sPut, sAugI, keep, putIn, setD, ix0, ix1, ix2, Cell.tree, skip, addD, mulD, k1, k2]
  refine ⟨_, _, _, _, ?_, ?_, ?_, key _ rfl⟩
  · split <;> omega
  · exact Int.emod_nonneg _ (by decide)
  · exact Int.emod_lt_of_pos _ (by decide)
theorem takeX_pos (ha : a ≠ 0) : takeX (st [some (.ref 0), some (.d (.int many)), none, none, none, none, none] (bagD a b c cells)) = .next (st [some (.ref 0), some (.d (.int many)), none, none, none, none, none] (bagD a b c cells)) := by
  simp [takeX, seq, sIf, Ev.lift, cmpB, EM.bind, idx, var, get, Out.look, lit, EM.pure, idxD, at0, Ev.opt, COp.go, eqI, okI, ha, Cell.tree, skip]
end
abbrev BIG : Nat := 10000000000000000000000
/-- a draw -/
theorem take_body (C : Call) {n : Nat} (hn : n ≤ BIG) {many : Int} (hm : 1 ≤ many) (hm2 : many < 1073741824) {x : D} (hx : Bag n x) : ∃ r env y, 0 ≤ r ∧ r < many ∧ Bag (n + 1) y ∧ takeB C (st [some (.ref 0), some (.d (.int many)), none, none, none, none, none] x) = .ret (.d (.int r)) (st env y) := by
  obtain ⟨a, b, c, cells, rfl, h1, h2, h3, h4, h5, h6⟩ := hx
  have hbig : (BIG : Int) = 10000000000000000000000 := rfl
  -- the second part, whatever the first made
  have two : ∀ {a b c : Int} {f2 f3 : Option Slot}, 0 ≤ a → 0 ≤ b → b < 2147483647 → 0 ≤ c → c ≤ ((n + 1 : Nat) : Int) → ∃ r env y, 0 ≤ r ∧ r < many ∧ Bag (n + 1) y ∧ takeY (st [some (.ref 0), some (.d (.int many)), f2, f3, none, none, none] (bagD a b c cells)) = .ret (.d (.int r)) (st env y) := fun {a b c f2 f3} ha hb hb2 hc hc2 => by
    by_cases h0 : 0 < a
    · exact ⟨_, _, _, Int.emod_nonneg _ (by omega), Int.emod_lt_of_pos _ (by omega), ⟨a / many, b, c, cells, rfl, Int.ediv_nonneg ha (by omega), hb, hb2, hc, hc2, h6⟩, takeY_pos many a b c cells f2 f3 h0 hm hm2⟩
    · obtain rfl : a = 0 := by omega
      obtain ⟨r, env, q1, q2, q3⟩ := takeY_zero many b c cells f2 f3 hm hb hb2
      exact ⟨r, env, _, q1, q2, ⟨0, b, c, cells, rfl, by omega, hb, hb2, hc, hc2, h6⟩, q3⟩
  rw [take_parts]
  by_cases ha : a = 0
  · subst ha
    obtain ⟨z, hz, hz2⟩ : ∃ z, 0 ≤ z ∧ ((c < cells.length ∧ L2.atI (cells.map D.int) c = some (.int z)) ∨ (¬ c < cells.length ∧ z = 0)) := by
      by_cases hc : c < cells.length
      · have hlt : c.toNat < cells.length := by omega
        refine ⟨cells[c.toNat], h6 _ (List.getElem_mem hlt), .inl ⟨hc, ?_⟩⟩
        unfold L2.atI L2.ixN
        rw [List.length_map, if_pos h4, if_pos hc]
        simp [hlt]
      · exact ⟨0, Int.le_refl _, .inr ⟨hc, rfl⟩⟩
    obtain ⟨a', b', f2, f3, q1, q2, q3, q4⟩ := takeX_zero many b c cells z hz h2 h3 h4 (by omega) hz2
    obtain ⟨r, env, y, p1, p2, p3, p4⟩ := two (f2 := f2) (f3 := f3) q1 q2 q3 (show 0 ≤ c + 1 by omega) (by omega)
    refine ⟨r, env, y, p1, p2, p3, ?_⟩
    unfold seq
    rw [q4]
    exact p4
  · obtain ⟨r, env, y, p1, p2, p3, p4⟩ := two (f2 := none) (f3 := none) h1 h2 h3 h4 (by omega)
    refine ⟨r, env, y, p1, p2, p3, ?_⟩
    unfold seq
    rw [takeX_pos many a b c cells ha]
    exact p4
end Ev

set_option Elab.async false
set_option linter.all false
set_option autoImplicit false
set_option maxHeartbeats 4000000
/-! Plain lemmas, part b: what is drawn. -/
namespace Ev
open PySem
/-- a call over the bag ends so -/
def Yields (n : Nat) (env : Slots) (r : Res Out) (Φ : Out → Prop) : Prop := ∃ o y, r = .ok o (st env y) ∧ Bag n y ∧ Φ o
theorem Yields.imp {n m : Nat} {env : Slots} {r : Res Out} {Φ Ψ : Out → Prop} (h : Yields n env r Φ) (l : n ≤ m) (i : ∀ o, Φ o → Ψ o) : Yields m env r Ψ := by
  obtain ⟨o, y, h1, h2, h3⟩ := h
  exact ⟨o, y, h1, h2.up l, i o h3⟩
section
variable {P : Nat → Option Def} {k i t : Nat} {n : Nat} {env : Slots} {x : D}
/-- a def's call, by its body -/
theorem run_at {d : Def} (hP : P i = some d) {us : List Vl} (hl : us.length = d.ps) (hl2 : d.ps ≤ d.many) (s : S) : run P (k + 1) i us s = leave s (d.body (run P k) { s with env := us.map (fun u => some u.slot) ++ List.replicate (d.many - us.length) none }) := by
  simp only [run, hP]
  rw [if_pos ⟨hl, hl2⟩]
theorem take_call (hP : P i = some ⟨7, 2, takeB⟩) (hn : n ≤ BIG) {many : Int} (hm : 1 ≤ many) (hm2 : many < 1073741824) (hx : Bag n x) : Yields (n + 1) env (run P (k + 1) i [.ref 0, .d (.int many)] (st env x)) fun o => ∃ r, o = .d (.int r) ∧ 0 ≤ r ∧ r < many := by
  obtain ⟨r, e, y, h1, h2, h3, h4⟩ := take_body (run P k) hn hm hm2 hx
  refine ⟨_, y, ?_, h3, r, rfl, h1, h2⟩
  rw [run_at hP rfl (by decide)]
  show leave (st env x) (takeB (run P k) (st [some (.ref 0), some (.d (.int many)), none, none, none, none, none] x)) = _
  rw [h4]
  rfl
def mixedB (t : Nat) : Call → SM := fun C => seq (sSet 2 (lstE [])) (seq (sFor (.one 3) (seqE (var 1)) (seq (sExpr (mt .insert (var 2) [Ev.call C t [var 0, bin .add (bi .len [var 2]) (lit (.int 1))] [], var 3])) skip)) (seq (sRet (var 2)) skip))
theorem mixed_turn {C : Call} {t : Nat} {T thing : D} {acc : List D} {y : D} {r : Int} (hl : acc.length < LIM) (h0 : 0 ≤ r) (h1 : r < acc.length + 1)
    (hC : C t [.ref 0, .d (.int ((acc.length : Int) + 1))] (st [some (.ref 0), some (.d T), some (.own (.lst acc)), some (.d thing)] x) = .ok (.d (.int r)) (st [some (.ref 0), some (.d T), some (.own (.lst acc)), some (.d thing)] y)) :
    (seq (sExpr (mt .insert (var 2) [Ev.call C t [var 0, bin .add (bi .len [var 2]) (lit (.int 1))] [], var 3])) skip) (st [some (.ref 0), some (.d T), some (.own (.lst acc)), some (.d thing)] x) =
      .next (st [some (.ref 0), some (.d T), some (.own (.lst (acc.take r.toNat ++ thing :: acc.drop r.toNat))), some (.d thing)] y) := by
  have hr : r ≤ 1000000 := by
    have : ((LIM : Nat) : Int) = 1000000 := rfl
    omega
  have hl : acc.length < 1000000 := hl
  simp [seq, sExpr, Ev.lift, mt, EM.bind, var, get, Out.look, Ev.opt, asL, keeps, Ev.call, passes, pass, bin, bi, args, gets, Bi.go, BOp.go, addD, lit, EM.pure, keep, hC, Mt.go, putIn, skip, hl, h0, hr]
theorem mixed_loop (hP : P t = some ⟨7, 2, takeB⟩) {T : D} : ∀ (ds acc : List D) {n : Nat} {x : D} {e3 : Option Slot}, n + ds.length ≤ BIG → acc.length + ds.length < LIM → Bag n x →
    ∃ acc' y f3, loop (.one 3) (seq (sExpr (mt .insert (var 2) [Ev.call (run P (k + 1)) t [var 0, bin .add (bi .len [var 2]) (lit (.int 1))] [], var 3])) skip) ds (st [some (.ref 0), some (.d T), some (.own (.lst acc)), e3] x) =
      .next (st [some (.ref 0), some (.d T), some (.own (.lst acc')), f3] y) ∧ acc'.Perm (acc ++ ds) ∧ Bag (n + ds.length) y
  | [], acc, n, x, e3, _, _, hx => ⟨acc, x, e3, rfl, by simp, hx⟩
  | d :: ds, acc, n, x, e3, hn, hl, hx => by
    simp only [List.length_cons] at hn hl
    have hlim : LIM = 1000000 := rfl
    obtain ⟨o, y, h1, h2, r, rfl, h3, h4⟩ := take_call (k := k) (env := [some (.ref 0), some (.d T), some (.own (.lst acc)), some (.d d)]) hP (by omega) (many := (acc.length : Int) + 1) (by omega) (by omega) hx
    have turn := mixed_turn (T := T) (thing := d) (by omega) h3 h4 h1
    have ht : (acc.take r.toNat ++ d :: acc.drop r.toNat).Perm (acc ++ [d]) := by
      have e1 : (acc.take r.toNat ++ d :: acc.drop r.toNat).Perm (d :: (acc.take r.toNat ++ acc.drop r.toNat)) := List.perm_middle
      rw [List.take_append_drop] at e1
      exact e1.trans (List.perm_append_singleton d acc).symm
    obtain ⟨acc', y', f3, g1, g2, g3⟩ := mixed_loop hP (T := T) ds (acc.take r.toNat ++ d :: acc.drop r.toNat) (e3 := some (.d d)) (by omega) (by rw [ht.length_eq]; simp; omega) h2
    refine ⟨acc', y', f3, ?_, g2.trans ?_, by
      have : n + (d :: ds).length = n + 1 + ds.length := by simp only [List.length_cons]; omega
      rw [this]
      exact g3⟩
    · simp only [loop, Tg.put, List.set]
      rw [turn]
      exact g1
    · have := ht.append_right ds
      simpa using this
theorem mixed_call (hP : P i = some ⟨4, 2, mixedB t⟩) (hT : P t = some ⟨7, 2, takeB⟩) {xs : List D} {T : D} (hw : walkD T = some xs) (hn : n + xs.length ≤ BIG) (hl : xs.length < LIM) (hx : Bag n x) :
    Yields (n + xs.length) env (run P (k + 2) i [.ref 0, .d T] (st env x)) fun o => ∃ ys, o = .new (.lst ys) ∧ ys.Perm xs := by
  obtain ⟨acc, y, f3, h1, h2, h3⟩ := mixed_loop (k := k) hT (T := T) xs [] (e3 := none) hn (by simpa using hl) hx
  refine ⟨.new (.lst acc), y, ?_, h3, acc, rfl, by simpa using h2⟩
  rw [run_at hP rfl (by show 2 ≤ 4; decide)]
  show leave (st env x) (mixedB t (run P (k + 1)) (st [some (.ref 0), some (.d T), none, none] x)) = _
  have e : mixedB t (run P (k + 1)) (st [some (.ref 0), some (.d T), none, none] x) = .ret (.own 2) (st [some (.ref 0), some (.d T), some (.own (.lst acc)), f3] y) := by
    simp [mixedB, seq, sSet, Ev.lift, lstE, els, EM.bind, EM.pure, few, Ev.opt, store, sFor, seqE, var, keep, hw, h1, sRet]
  rw [e]
  simp [leave]
end
end Ev

set_option Elab.async false
set_option linter.all false
set_option autoImplicit false
set_option maxHeartbeats 4000000
/-! Plain lemmas, part c: names, questions. -/
namespace Ev
open PySem
def strLe (a b : Str) : Bool := !PySem.W.dataLt (.str b) (.str a)
theorem strLe_eq : strLe = fun a b => decide (a.cps.toList ≤ b.cps.toList) := PySem.W.dataLe_str fun b => b
def sS (ws : List Str) : List Str := ws.mergeSort strLe
theorem sortD_str (ws : List Str) : sortD (ws.map .str) = (sS ws).map .str := by
  have h := List.map_mergeSort (l := ws) (r := strLe) (s := fun a b : D => !PySem.W.dataLt b.py a.py) (f := D.str) fun a _ b _ => rfl
  exact h.symm
theorem sS_perm (ws : List Str) : (sS ws).Perm ws := List.mergeSort_perm ws strLe
theorem sS_idem (ws : List Str) : sS (sS ws) = sS ws := by
  refine List.mergeSort_of_pairwise (List.pairwise_mergeSort (fun a b c => ?_) (fun a b => ?_) ws)
  · rw [strLe_eq]
    simp only [decide_eq_true_eq]
    exact fun h1 h2 => List.le_trans h1 h2
  · rw [strLe_eq]
    simp only [Bool.or_eq_true, decide_eq_true_eq]
    exact List.le_total _ _
theorem sortable_str (ws : List Str) : sortable (ws.map .str) = true := by
  unfold sortable
  have h1 : ∀ ws : List Str, D.flats 60 (ws.map .str) = true := by
    intro ws
    induction ws with
    | nil => rfl
    | cons w ws ih => rw [List.map_cons, D.flats, ih]; rfl
  rw [h1]
  simp [D.py, PySem.W.alike]
def menu : List Str := ["a", "b", "ab", "ba", "job", "view", "pin", "quay", "stock", "golfer", "exhumed", "zzzzzzzz"]
theorem perm_map {α β : Type} {f : α → β} : ∀ {ms : List α} {ys : List β}, ys.Perm (ms.map f) → ∃ ws : List α, ys = ws.map f ∧ ws.Perm ms
  | [], ys, h => ⟨[], by simpa using h, .refl _⟩
  | m :: ms, ys, h => by
    have hm : f m ∈ ys := h.symm.subset (by simp)
    obtain ⟨as, bs, rfl⟩ := List.append_of_mem hm
    have h2 : (as ++ bs).Perm (ms.map f) := by
      have := (List.perm_middle (a := f m) (l₁ := as) (l₂ := bs)).symm.trans h
      rw [List.map_cons] at this
      exact this.cons_inv
    obtain ⟨ws, e, hw⟩ := perm_map h2
    obtain ⟨wa, wb, rfl, rfl, rfl⟩ := List.append_eq_map_iff.mp e
    exact ⟨wa ++ m :: wb, by simp, List.perm_middle.trans (hw.cons m)⟩
/-- names of the menu -/
structure Names (ws : List Str) : Prop where
  nd : ws.Nodup
  sub : ∀ w ∈ ws, w ∈ menu
  len : ws.length ≤ 12
theorem Names.perm {ws vs : List Str} (h : Names ws) (p : vs.Perm ws) : Names vs := ⟨p.symm.nodup h.nd, fun w hw => h.sub w (p.subset hw), by rw [p.length_eq]; exact h.len⟩
theorem Names.take {ws : List Str} (h : Names ws) (n : Nat) : Names (ws.take n) := ⟨h.nd.sublist (List.take_sublist n ws), fun w hw => h.sub w (List.mem_of_mem_take hw), Nat.le_trans (List.length_take_le' _ _) h.len⟩
theorem menu_names : Names menu := ⟨by decide +kernel, fun _ h => h, by decide⟩
theorem cut_to {α : Type} (xs : List α) {j : Int} (h0 : 0 ≤ j) : cutL xs none (some j) = xs.take j.toNat := by
  unfold cutL
  show (xs.drop 0).take ((if j < 0 then (j + (xs.length : Int)).toNat else min j.toNat xs.length) - 0) = _
  rw [if_neg (by omega), List.drop_zero, Nat.sub_zero]
  by_cases h : j.toNat ≤ xs.length
  · rw [Nat.min_eq_left h]
  · rw [Nat.min_eq_right (by omega), List.take_length, List.take_of_length_le (by omega)]
theorem cut_from {α : Type} (xs : List α) {j : Int} (h0 : 0 ≤ j) : cutL xs (some j) none = xs.drop j.toNat := by
  unfold cutL
  show (xs.drop (if j < 0 then (j + (xs.length : Int)).toNat else min j.toNat xs.length)).take (xs.length - (if j < 0 then (j + (xs.length : Int)).toNat else min j.toNat xs.length)) = _
  rw [if_neg (by omega)]
  by_cases h : j.toNat ≤ xs.length
  · rw [Nat.min_eq_left h, List.take_of_length_le (by rw [List.length_drop]; omega)]
  · rw [Nat.min_eq_right (by omega), List.drop_length, List.drop_eq_nil_of_le (by omega), List.take_nil]
theorem atI_nat {α : Type} {xs : List α} {i : Int} {x : α} (h0 : 0 ≤ i) (h : xs[i.toNat]? = some x) : L2.atI xs i = some x := by
  have hl := (List.getElem?_eq_some_iff.mp h).1
  unfold L2.atI L2.ixN
  rw [if_pos h0, if_pos (by omega)]
  exact h
section
variable {P : Nat → Option Def} {k i t m : Nat} {n : Nat} {env : Slots} {x : D}
def oneB (t : Nat) : Call → SM := fun C => seq (sRet (idx (var 1) (Ev.call C t [var 0, bi .len [var 1]] []))) skip
/-- one of some -/
theorem one_call (hP : P i = some ⟨2, 2, oneB t⟩) (hT : P t = some ⟨7, 2, takeB⟩) {xs : List D} {T : D} (hw : T = .lst xs ∨ T = .tup xs) (hn : n ≤ BIG) (h0 : 0 < xs.length) (hl : xs.length < LIM) (hx : Bag n x) :
    Yields (n + 1) env (run P (k + 2) i [.ref 0, .d T] (st env x)) fun o => ∃ z ∈ xs, o = .d z := by
  have hlim : LIM = 1000000 := rfl
  obtain ⟨o, y, h1, h2, r, rfl, h3, h4⟩ := take_call (k := k) (env := [some (.ref 0), some (.d T)]) hT hn (many := (xs.length : Int)) (by omega) (by omega) hx
  have hr : r.toNat < xs.length := by omega
  have ha : L2.atI xs r = some xs[r.toNat] := atI_nat h3 (by simp [hr])
  refine ⟨.d xs[r.toNat], y, ?_, h2, _, List.getElem_mem hr, rfl⟩
  rw [run_at hP rfl (by show 2 ≤ 2; decide)]
  show leave (st env x) (oneB t (run P (k + 1)) (st [some (.ref 0), some (.d T)] x)) = _
  have e : oneB t (run P (k + 1)) (st [some (.ref 0), some (.d T)] x) = .ret (.d xs[r.toNat]) (st [some (.ref 0), some (.d T)] y) := by
    rcases hw with rfl | rfl <;> simp [oneB, seq, sRet, Ev.lift, idx, EM.bind, var, Ev.call, passes, pass, bi, args, gets, get, Out.look, Ev.opt, Bi.go, keep, EM.pure, h1, idxD, ha]
  rw [e]
  rfl
def namesB (m : Nat) : Call → SM := fun C => seq (sSet 2 (lstE [(false, lit (.str "a")), (false, lit (.str "b")), (false, lit (.str "ab")), (false, lit (.str "ba")), (false, lit (.str "job")), (false, lit (.str "view")), (false, lit (.str "pin")), (false, lit (.str "quay")), (false, lit (.str "stock")), (false, lit (.str "golfer")), (false, lit (.str "exhumed")), (false, lit (.str "zzzzzzzz"))])) (seq (sRet (cut (Ev.call C m [var 0, var 2] []) none (some (var 1)))) skip)
theorem names_call (hP : P i = some ⟨3, 2, namesB m⟩) (hM : P m = some ⟨4, 2, mixedB t⟩) (hT : P t = some ⟨7, 2, takeB⟩) {j : Int} (hj : 0 ≤ j) (hn : n + 12 ≤ BIG) (hx : Bag n x) :
    Yields (n + 12) env (run P (k + 3) i [.ref 0, .d (.int j)] (st env x)) fun o => ∃ ws, o = .new (.lst (ws.map .str)) ∧ Names ws ∧ ws.length = min j.toNat 12 := by
  obtain ⟨o, y, h1, h2, ys, rfl, hp⟩ := mixed_call (k := k) (env := [some (.ref 0), some (.d (.int j)), some (.d (.lst (menu.map .str)))]) hM hT (xs := menu.map .str) (T := .lst (menu.map .str)) rfl (by simpa [menu] using hn) (by simp [menu, LIM]) hx
  obtain ⟨ws, rfl, hws⟩ := perm_map hp
  refine ⟨.new (.lst ((ws.take j.toNat).map .str)), y, ?_, h2, ws.take j.toNat, rfl, (menu_names.perm hws).take _, ?_⟩
  · rw [run_at hP rfl (by show 2 ≤ 3; decide)]
    show leave (st env x) (namesB m (run P (k + 2)) (st [some (.ref 0), some (.d (.int j)), none] x)) = _
    have e : namesB m (run P (k + 2)) (st [some (.ref 0), some (.d (.int j)), none] x) = .ret (.new (.lst ((ws.take j.toNat).map .str))) (st [some (.ref 0), some (.d (.int j)), some (.d (.lst (menu.map .str)))] y) := by
      have h1' : run P (k + 2) m [.ref 0, .d (.lst [.str "a", .str "b", .str "ab", .str "ba", .str "job", .str "view", .str "pin", .str "quay", .str "stock", .str "golfer", .str "exhumed", .str "zzzzzzzz"])] (st [some (.ref 0), some (.d (.int j)), some (.d (.lst [.str "a", .str "b", .str "ab", .str "ba", .str "job", .str "view", .str "pin", .str "quay", .str "stock", .str "golfer", .str "exhumed", .str "zzzzzzzz"]))] x) = .ok (.new (.lst (ws.map .str))) (st [some (.ref 0), some (.d (.int j)), some (.d (.lst (menu.map .str)))] y) := h1
      simp [namesB, LIM, seq, sSet, sRet, Ev.lift, lstE, els, lit, few, cut, ends, asI, EM.bind, var, Ev.call, passes, pass, get, Out.look, Ev.opt, keep, EM.pure, store, h1', cutD, cut_to _ hj]
    rw [e]
    rfl
  · rw [List.length_take, hws.length_eq]
    rfl
end
end Ev

set_option Elab.async false
set_option linter.all false
set_option autoImplicit false
set_option maxHeartbeats 4000000
/-! Plain lemmas, part d: questions. -/
namespace Ev
open PySem
abbrev qD (cs : List Str) (l : Str) : D := .tup [.tup (cs.map .str), .str l]
/-- a question's parts -/
structure Qn (cs : List Str) (l : Str) : Prop where
  so : sS cs = cs
  sub : ∀ c ∈ cs, c ∈ menu
  last : l = "" ∨ l ∈ menu
  len : cs.length ≤ 12
  nd : cs.Nodup
  out : l ∉ cs
  ne : cs ≠ [] ∨ l ≠ ""
theorem Names.of_sort {vs : List Str} (h : Names vs) {l : Str} (hl : l = "" ∨ l ∈ menu) (ho : l ∉ vs) (hne : vs ≠ [] ∨ l ≠ "") : Qn (sS vs) l := by
  have p := h.perm (sS_perm vs)
  refine ⟨sS_idem vs, p.sub, hl, p.len, p.nd, fun z => ho ((sS_perm vs).subset z), hne.imp (fun h e => h ?_) id⟩
  have := (sS_perm vs).length_eq
  rw [e] at this
  exact List.eq_nil_of_length_eq_zero this.symm
theorem empty_out : ("" : Str) ∉ menu := by decide +kernel
section
variable {P : Nat → Option Def} {k i t m : Nat} {n : Nat} {env : Slots} {x : D}
def questionB (m t : Nat) : Call → SM := fun C => seq (sSet 2 (cut (Ev.call C m [var 0, var 1] []) none (some (bin .add (lit (.int 1)) (Ev.call C t [var 0, bi .len [var 1]] []))))) (seq (sSet 3 (iteE (cmpB .eq (Ev.call C t [var 0, lit (.int 2)] []) (lit (.int 0))) (mt .pop (var 2) []) (lit (.str "")))) (seq (sRet (tupE [(false, bi .tuple [bi .sorted [var 2]]), (false, var 3)])) skip))
theorem sort_bi (vs : List Str) : Bi.sorted.go [.lst (vs.map .str)] = some (.new (.lst ((sS vs).map .str))) := by
  simp only [Bi.go]
  rw [if_pos (sortable_str vs), sortD_str]
theorem question_call2 (hP : P i = some ⟨4, 2, questionB m t⟩) (hM : P m = some ⟨4, 2, mixedB t⟩) (hT : P t = some ⟨7, 2, takeB⟩) {ws : List Str} (hw : Names ws) (h0 : 0 < ws.length) (hn : n + 14 ≤ BIG) (hx : Bag n x) :
    Yields (n + 14) env (run P (k + 3) i [.ref 0, .d (.lst (ws.map .str))] (st env x)) fun o => ∃ cs l, o = .d (qD cs l) ∧ Qn cs l ∧ (∀ c ∈ cs, c ∈ ws) ∧ (l = "" ∨ l ∈ ws) := by
  have wl := hw.len
  obtain ⟨o, y, h1, b1, ys, rfl, hp⟩ := mixed_call (k := k) (env := [some (.ref 0), some (.d (.lst (ws.map .str))), none, none]) hM hT (xs := ws.map .str) (T := .lst (ws.map .str)) rfl (by rw [List.length_map]; omega) (by rw [List.length_map]; show _ < 1000000; omega) hx
  obtain ⟨us, rfl, hus⟩ := perm_map hp
  have b1 := b1.up (show n + (ws.map D.str).length ≤ n + 12 by rw [List.length_map]; omega)
  obtain ⟨o, y2, h2, b2, r, rfl, r0, r1⟩ := take_call (k := k + 1) (env := [some (.ref 0), some (.d (.lst (ws.map .str))), none, none]) hT (by omega) (many := (ws.length : Int)) (by omega) (by omega) b1
  obtain ⟨o, y3, h3, b3, r', rfl, r2, r3⟩ := take_call (k := k + 1) (env := [some (.ref 0), some (.d (.lst (ws.map .str))), some (.own (.lst ((us.take (1 + r).toNat).map .str))), none]) hT (by omega) (many := 2) (by decide) (by decide) b2
  have nv : Names (us.take (1 + r).toNat) := (hw.perm hus).take _
  have vl : 0 < (us.take (1 + r).toNat).length := by
    rw [List.length_take, hus.length_eq]
    omega
  have vin : ∀ c, c ∈ us.take (1 + r).toNat → c ∈ ws := fun c hc => hus.subset (List.mem_of_mem_take hc)
  generalize hv : us.take (1 + r).toNat = vs at *
  have first : (sSet 2 (cut (Ev.call (run P (k + 2)) m [var 0, var 1] []) none (some (bin .add (lit (.int 1)) (Ev.call (run P (k + 2)) t [var 0, bi .len [var 1]] []))))) (st [some (.ref 0), some (.d (.lst (ws.map .str))), none, none] x) =
      .next (st [some (.ref 0), some (.d (.lst (ws.map .str))), some (.own (.lst (vs.map .str))), none] y2) := by
    have c1 : 0 ≤ 1 + r := by omega
    simp [LIM, sSet, Ev.lift, lit, cut, ends, asI, EM.bind, var, Ev.call, passes, pass, bi, bin, BOp.go, addD, args, gets, Bi.go, get, Out.look, Ev.opt, keep, EM.pure, store, h1, h2, cutD, cut_to _ c1, ← hv]
  -- the last one
  by_cases hr : r' = 0
  · subst hr
    obtain ⟨as, l, hal⟩ : ∃ as l, vs = as ++ [l] := ⟨vs.dropLast, vs.getLast (by intro z; rw [z] at vl; exact absurd vl (by decide)), (List.dropLast_concat_getLast _).symm⟩
    have na : Names as := by
      have := nv.take as.length
      rw [hal, List.take_left] at this
      exact this
    have hl : l ∈ menu := nv.sub l (by rw [hal]; simp)
    have lo : l ∉ as := by
      have := nv.nd
      rw [hal, List.nodup_append] at this
      intro z
      exact this.2.2 l z l (by simp) rfl
    refine ⟨.d (qD (sS as) l), y3, ?_, b3.up (by omega), sS as, l, rfl, na.of_sort (.inr hl) lo (.inr fun z => empty_out (z ▸ hl)), fun c hc => vin c (by rw [hal]; exact List.mem_append_left _ ((sS_perm as).subset hc)), .inr (vin l (by rw [hal]; simp))⟩
    rw [run_at hP rfl (by show 2 ≤ 4; decide)]
    show leave (st env x) (questionB m t (run P (k + 2)) (st [some (.ref 0), some (.d (.lst (ws.map .str))), none, none] x)) = _
    subst hal
    simp only [List.map_append, List.map_cons, List.map_nil] at h3 first
    have e : questionB m t (run P (k + 2)) (st [some (.ref 0), some (.d (.lst (ws.map .str))), none, none] x) = .ret (.d (qD (sS as) l)) (st [some (.ref 0), some (.d (.lst (ws.map .str))), some (.own (.lst (as.map .str))), some (.d (.str l))] y3) := by
      unfold questionB
      simp only [seq, first]
      simp [LIM, sSet, sRet, Ev.lift, iteE, cmpB, COp.go, okI, eqI, lit, EM.bind, var, Ev.call, passes, pass, mt, keeps, asL, Mt.go, putIn, tupE, els, few, bi, args, gets, sort_bi, get, Out.look, Ev.opt, keep, EM.pure, store, h3]
      simp [Bi.go, EM.pure]
    rw [e]
    rfl
  · refine ⟨.d (qD (sS vs) ""), y3, ?_, b3.up (by omega), sS vs, "", rfl, nv.of_sort (.inl rfl) (fun z => empty_out (nv.sub _ z)) (.inl fun z => by rw [z] at vl; exact absurd vl (by decide)), fun c hc => vin c ((sS_perm vs).subset hc), .inl rfl⟩
    rw [run_at hP rfl (by show 2 ≤ 4; decide)]
    show leave (st env x) (questionB m t (run P (k + 2)) (st [some (.ref 0), some (.d (.lst (ws.map .str))), none, none] x)) = _
    have e : questionB m t (run P (k + 2)) (st [some (.ref 0), some (.d (.lst (ws.map .str))), none, none] x) = .ret (.d (qD (sS vs) "")) (st [some (.ref 0), some (.d (.lst (ws.map .str))), some (.own (.lst (vs.map .str))), some (.d (.str ""))] y3) := by
      unfold questionB
      simp only [seq, first]
      simp [LIM, sSet, sRet, Ev.lift, iteE, cmpB, COp.go, okI, eqI, lit, EM.bind, var, Ev.call, passes, pass, tupE, els, few, bi, args, gets, sort_bi, get, Out.look, Ev.opt, keep, EM.pure, store, h3, hr]
      simp [Bi.go, EM.pure]
    rw [e]
    rfl
theorem question_call (hP : P i = some ⟨4, 2, questionB m t⟩) (hM : P m = some ⟨4, 2, mixedB t⟩) (hT : P t = some ⟨7, 2, takeB⟩) {ws : List Str} (hw : Names ws) (h0 : 0 < ws.length) (hn : n + 14 ≤ BIG) (hx : Bag n x) :
    Yields (n + 14) env (run P (k + 3) i [.ref 0, .d (.lst (ws.map .str))] (st env x)) fun o => ∃ cs l, o = .d (qD cs l) ∧ Qn cs l :=
  (question_call2 hP hM hT hw h0 hn hx).imp (Nat.le_refl _) fun _ ⟨cs, l, e, q, _⟩ => ⟨cs, l, e, q⟩
end
end Ev

set_option Elab.async false
set_option linter.all false
set_option autoImplicit false
set_option maxHeartbeats 4000000
/-! Plain lemmas, part e: beginnings. -/
namespace Ev
open PySem
section
variable {P : Nat → Option Def} {k i t m : Nat} {n : Nat} {env : Slots} {x : D}
def beginB (t : Nat) : Call → SM := fun C => seq (sSet 2 (bin .add (lit (.int 1)) (Ev.call C t [var 0, bi .len [var 1]] []))) (seq (sIf (cmpB .eq (Ev.call C t [var 0, lit (.int 2)] []) (lit (.int 0))) (seq (sRet (tupE [(false, bi .tuple [bi .sorted [cut (var 1) none (some (bin .sub (var 2) (lit (.int 1))))]]), (false, idx (var 1) (bin .sub (var 2) (lit (.int 1))))])) skip) skip) (seq (sRet (tupE [(false, bi .tuple [bi .sorted [cut (var 1) none (some (var 2))]]), (false, lit (.str ""))])) skip))
theorem tuple_bi (xs : List D) : Bi.tuple.go [.lst xs] = some (.d (.tup xs)) := rfl
theorem cut_map {vs : List Str} {j : Int} (h : 0 ≤ j) : cutL (vs.map D.str) none (some j) = (vs.take j.toNat).map D.str := by
  rw [cut_to _ h, List.map_take]
theorem sortt_bi (vs : List Str) : Bi.sorted.go [.tup (vs.map .str)] = some (.new (.lst ((sS vs).map .str))) := by
  simp only [Bi.go]
  rw [if_pos (sortable_str vs), sortD_str]
theorem sort_take (ws : List Str) (j : Nat) : Bi.sorted.go [.lst (List.take j (List.map D.str ws))] = some (.new (.lst ((sS (ws.take j)).map .str))) := by
  rw [← List.map_take]
  exact sort_bi _
theorem sort_taket (ws : List Str) (j : Nat) : Bi.sorted.go [.tup (List.take j (List.map D.str ws))] = some (.new (.lst ((sS (ws.take j)).map .str))) := by
  rw [← List.map_take]
  exact sortt_bi _
theorem begin_call (hP : P i = some ⟨3, 2, beginB t⟩) (hT : P t = some ⟨7, 2, takeB⟩) {ws : List Str} {R : D} (hR : R = .lst (ws.map .str) ∨ R = .tup (ws.map .str)) (hw : Names ws) (h0 : 0 < ws.length) (hn : n + 2 ≤ BIG) (hx : Bag n x) :
    Yields (n + 2) env (run P (k + 2) i [.ref 0, .d R] (st env x)) fun o => ∃ cs l, o = .d (qD cs l) ∧ Qn cs l := by
  have wl := hw.len
  obtain ⟨o, y, h1, b1, r, rfl, r0, r1⟩ := take_call (k := k) (env := [some (.ref 0), some (.d R), none]) hT (by omega) (many := (ws.length : Int)) (by omega) (by omega) hx
  obtain ⟨o, y2, h2, b2, r', rfl, r2, r3⟩ := take_call (k := k) (env := [some (.ref 0), some (.d R), some (.d (.int (1 + r)))]) hT (by omega) (many := 2) (by decide) (by decide) b1
  have hr : r.toNat < ws.length := by omega
  have ha : L2.atI (ws.map D.str) r = some (.str ws[r.toNat]) := atI_nat r0 (by simp [hr])
  have c1 : (0 : Int) ≤ 1 + r := by omega
  have e1 : (1 + r - 1 : Int) = r := by omega
  have t1 : (ws.map D.str).take r.toNat = (ws.take r.toNat).map .str := by rw [List.map_take]
  have t2 : (ws.map D.str).take (1 + r).toNat = (ws.take (1 + r).toNat).map .str := by rw [List.map_take]
  have first : (sSet 2 (bin .add (lit (.int 1)) (Ev.call (run P (k + 1)) t [var 0, bi .len [var 1]] []))) (st [some (.ref 0), some (.d R), none] x) = .next (st [some (.ref 0), some (.d R), some (.d (.int (1 + r)))] y) := by
    rcases hR with rfl | rfl <;> simp [sSet, Ev.lift, lit, EM.bind, var, Ev.call, passes, pass, bi, bin, BOp.go, addD, args, gets, Bi.go, get, Out.look, Ev.opt, keep, EM.pure, store, h1]
  by_cases hz : r' = 0
  · subst hz
    have hl : ws[r.toNat] ∈ menu := hw.sub _ (List.getElem_mem hr)
    have lo : ws[r.toNat] ∉ ws.take r.toNat := by
      have e := List.take_append_drop r.toNat ws
      have e2 : ws.drop r.toNat = ws[r.toNat] :: ws.drop (r.toNat + 1) := List.drop_eq_getElem_cons hr
      have nd := hw.nd
      rw [← e, e2, List.nodup_append] at nd
      intro z
      exact nd.2.2 _ z _ (List.mem_cons_self ..) rfl
    refine ⟨.d (qD (sS (ws.take r.toNat)) ws[r.toNat]), y2, ?_, b2, _, _, rfl, (hw.take _).of_sort (.inr hl) lo (.inr fun z => empty_out (z ▸ hl))⟩
    rw [run_at hP rfl (by show 2 ≤ 3; decide)]
    show leave (st env x) (beginB t (run P (k + 1)) (st [some (.ref 0), some (.d R), none] x)) = _
    have e : beginB t (run P (k + 1)) (st [some (.ref 0), some (.d R), none] x) = .ret (.d (qD (sS (ws.take r.toNat)) ws[r.toNat])) (st [some (.ref 0), some (.d R), some (.d (.int (1 + r)))] y2) := by
      unfold beginB
      simp only [seq, first]
      rcases hR with rfl | rfl <;> (simp [LIM, sIf, seq, sRet, Ev.lift, cmpB, COp.go, okI, eqI, lit, EM.bind, var, Ev.call, passes, pass, tupE, els, few, bi, bin, BOp.go, intsD, args, gets, cut, ends, asI, cutD, idx, idxD, get, Out.look, Ev.opt, keep, EM.pure, h2, ha, e1, cut_to _ r0, sort_take, tuple_bi, sort_taket])
    rw [e]
    rfl
  · refine ⟨.d (qD (sS (ws.take (1 + r).toNat)) ""), y2, ?_, b2, _, _, rfl, (hw.take _).of_sort (.inl rfl) (fun z => empty_out ((hw.take _).sub _ z)) (.inl fun z => by
      have := congrArg List.length z
      rw [List.length_take, List.length_nil] at this
      omega)⟩
    rw [run_at hP rfl (by show 2 ≤ 3; decide)]
    show leave (st env x) (beginB t (run P (k + 1)) (st [some (.ref 0), some (.d R), none] x)) = _
    have e : beginB t (run P (k + 1)) (st [some (.ref 0), some (.d R), none] x) = .ret (.d (qD (sS (ws.take (1 + r).toNat)) "")) (st [some (.ref 0), some (.d R), some (.d (.int (1 + r)))] y2) := by
      unfold beginB
      simp only [seq, first]
      rcases hR with rfl | rfl <;> (simp [LIM, sIf, skip, seq, sRet, Ev.lift, cmpB, COp.go, okI, eqI, lit, EM.bind, var, Ev.call, passes, pass, tupE, els, few, bi, bin, BOp.go, intsD, args, gets, cut, ends, asI, cutD, idx, idxD, get, Out.look, Ev.opt, keep, EM.pure, h2, hz, cut_to _ c1, sort_take, tuple_bi, sort_taket])
    rw [e]
    rfl
end
end Ev

set_option Elab.async false
set_option linter.all false
set_option autoImplicit false
set_option maxHeartbeats 4000000
/-! Plain lemmas, part f: what is equal to itself; what can be shown. -/
namespace Ev
open PySem
mutual
theorem eqv_self : ∀ (n : Nat) (d : D), d.flat n = true → PyData.eqv d.py d.py = true
  | _, .non, _ => by simp [D.py, PyData.eqv]
  | _, .bl _, _ => by simp [D.py, PyData.eqv]
  | _, .int _, _ => by simp [D.py, PyData.eqv]
  | _, .str _, _ => by simp [D.py, PyData.eqv]
  | 0, .tup _, h => by simp [D.flat] at h
  | 0, .lst _, h => by simp [D.flat] at h
  | n + 1, .tup xs, h => by
    simp only [D.py, PyData.eqv]
    exact eqvs_self n xs (by simpa [D.flat] using h)
  | n + 1, .lst xs, h => by
    simp only [D.py, PyData.eqv]
    exact eqvs_self n xs (by simpa [D.flat] using h)
  | n, .dct _ _, h => by cases n <;> simp [D.flat] at h
  | n, .set _, h => by cases n <;> simp [D.flat] at h
  | n, .ins _ _ _, h => by cases n <;> simp [D.flat] at h
  | n, .err _ _, h => by cases n <;> simp [D.flat] at h
  | n, .lz _, h => by cases n <;> simp [D.flat] at h
theorem eqvs_self : ∀ (n : Nat) (ds : List D), D.flats n ds = true → PyData.eqvAll (D.pys ds) (D.pys ds) = true
  | _, [], _ => by simp [D.pys, PyData.eqvAll]
  | n, d :: ds, h => by
    rw [D.flats, Bool.and_eq_true] at h
    simp only [D.pys, PyData.eqvAll, Bool.and_eq_true]
    exact ⟨eqv_self n d h.1, eqvs_self n ds h.2⟩
end
/-! a bound of what repr shows -/
mutual
def D.wt : D → Nat
  | .str x => 10 * x.length + 2
  | .int i => (toString i : Str).length
  | .tup xs | .lst xs => 4 + D.wts xs
  | _ => 5
def D.wts : List D → Nat
  | [] => 0
  | x :: xs => x.wt + 2 + D.wts xs
end
mutual
def D.strs : D → Bool
  | .str x => PyData.strOk x
  | .tup xs | .lst xs => D.strss xs
  | _ => true
def D.strss : List D → Bool
  | [] => true
  | x :: xs => x.strs && D.strss xs
end
theorem strOk_app {x y : Str} : PyData.strOk (x ++ y) = (PyData.strOk x && PyData.strOk y) := by
  unfold PyData.strOk
  show ((x.cps ++ y.cps).all _) = _
  rw [Array.all_append]
theorem chr_lt (c : Char) : c.toNat < 0x110000 := by
  rcases c.valid with h | h
  · have : c.toNat < 0xd800 := h
    omega
  · exact h.2
theorem ok_all {l : List Nat} (h : ∀ c ∈ l, c < 0x110000) : PyData.strOk ⟨l.toArray⟩ = true := ok_cps h
theorem ok_ofString (s : String) : PyData.strOk (Str.ofString s) = true := by
  rw [Str.ofString_eq_toList]
  exact ok_all fun c hc => by
    obtain ⟨d, _, rfl⟩ := List.mem_map.mp hc
    exact chr_lt d
theorem char_ok {q c : Nat} (hc : c < 0x110000) : ∀ z ∈ Builtin.Str.reprChar q c, z < 0x110000 := by
  have hx : ∀ w : Nat, ∀ z ∈ List.replicate (w - ((Nat.toDigits 16 c).map Char.toNat).length) 48 ++ (Nat.toDigits 16 c).map Char.toNat, z < 0x110000 := by
    intro w z hz
    rcases List.mem_append.mp hz with hz | hz
    · rw [List.eq_of_mem_replicate hz]
      decide
    · obtain ⟨d, _, rfl⟩ := List.mem_map.mp hz
      exact chr_lt d
  intro z hz
  unfold Builtin.Str.reprChar at hz
  simp only at hz
  have two : ∀ {a b : Nat}, a < 0x110000 → b < 0x110000 → z ∈ [a, b] → z < 0x110000 := fun {a b} ha hb h => by
    rcases List.mem_cons.mp h with rfl | h
    · exact ha
    · rw [List.mem_singleton.mp h]
      exact hb
  have app : ∀ {a b w : Nat}, a < 0x110000 → b < 0x110000 → z ∈ [a, b] ++ (List.replicate (w - ((Nat.toDigits 16 c).map Char.toNat).length) 48 ++ (Nat.toDigits 16 c).map Char.toNat) → z < 0x110000 := fun {a b w} ha hb h => by
    rcases List.mem_append.mp h with h | h
    · exact two ha hb h
    · exact hx w z h
  split at hz
  · exact two (by decide) hc hz
  · split at hz
    · exact two (by decide) (by decide) hz
    · split at hz
      · exact two (by decide) (by decide) hz
      · split at hz
        · exact two (by decide) (by decide) hz
        · split at hz
          · rw [List.mem_singleton.mp hz]
            exact hc
          · split at hz
            · exact app (by decide) (by decide) hz
            · split at hz
              · exact app (by decide) (by decide) hz
              · exact app (by decide) (by decide) hz
theorem repr_ok {x : Str} (h : PyData.strOk x = true) : PyData.strOk (reprText x) = true := by
  have hq : reprQuote x < 0x110000 := by
    unfold reprQuote
    split <;> decide
  have go : ∀ (l : List Nat) (acc : Array Nat), (∀ c ∈ l, c < 0x110000) → (∀ c ∈ acc, c < 0x110000) → ∀ c ∈ l.foldl (fun out c => out ++ (Builtin.Str.reprChar (reprQuote x) c).toArray) acc, c < 0x110000 := by
    intro l
    induction l with
    | nil => exact fun acc _ h => h
    | cons d l ih =>
      intro acc h1 h2
      rw [List.foldl_cons]
      refine ih _ (fun c hc => h1 c (List.mem_cons_of_mem _ hc)) fun c hc => ?_
      rcases Array.mem_append.mp hc with hc | hc
      · exact h2 c hc
      · exact char_ok (h1 d (List.mem_cons_self ..)) c (by simpa using hc)
  unfold reprText PyData.strOk
  refine Array.all_eq_true_iff_forall_mem.mpr fun c hc => decide_eq_true ?_
  rcases Array.mem_push.mp hc with hc | rfl
  · rw [← Array.foldl_toList] at hc
    exact go _ _ (cps_ok h) (fun c hc => by
      have : c = reprQuote x := by simpa using hc
      rw [this]
      exact hq) c hc
  · exact hq
theorem list_ok {ts : List Str} (h : ∀ t ∈ ts, PyData.strOk t = true) : PyData.strOk (listText ts) = true ∧ PyData.strOk (tupleText ts) = true := by
  have go : ∀ (ts : List Str) (k : Nat) (acc : Str), (∀ t ∈ ts, PyData.strOk t = true) → PyData.strOk acc = true → PyData.strOk (textFrom k acc ts) = true := by
    intro ts
    induction ts with
    | nil => exact fun k acc _ h => h
    | cons t ts ih =>
      intro k acc h1 h2
      refine ih (k + 1) _ (fun t ht => h1 t (List.mem_cons_of_mem _ ht)) ?_
      rw [strOk_app, strOk_app, h2, ok_ofString, h1 t (List.mem_cons_self ..)]
      rfl
  have gj : ∀ ts : List Str, (∀ t ∈ ts, PyData.strOk t = true) → PyData.strOk (Str.join ", " ts) = true := by
    intro ts
    induction ts with
    | nil => exact fun _ => by decide +kernel
    | cons t ts ih =>
      intro h1
      cases ts with
      | nil => exact h1 t (List.mem_cons_self ..)
      | cons u us =>
        show PyData.strOk (t ++ ", " ++ Str.join ", " (u :: us)) = true
        rw [strOk_app, strOk_app, h1 t (List.mem_cons_self ..), ok_ofString, ih fun t ht => h1 t (List.mem_cons_of_mem _ ht)]
        rfl
  constructor
  · unfold listText
    rw [strOk_app, go ts 0 _ h (ok_ofString _), ok_ofString]
    rfl
  · unfold tupleText
    rw [strOk_app, strOk_app, ok_ofString, gj ts h, ok_ofString]
    rfl
theorem text_len (ts : List Str) : (listText ts).length ≤ piled ts + 4 ∧ (tupleText ts).length ≤ piled ts + 4 := by
  constructor
  · have h1 := textFrom_len ts 0 "["
    cases ts with
    | nil => decide +kernel
    | cons t r =>
      have h := textFrom_length_pos r 1 (("[" : Str) ++ (if (0 : Nat) > 0 then ", " else "" : String) ++ t) (Nat.succ_pos 0)
      have e : ((("[" : Str) ++ (if (0 : Nat) > 0 then ", " else "" : String) ++ t)).length = 1 + t.length := by
        rw [strLen_append, strLen_append]; rfl
      show (textFrom 1 _ r ++ "]").length ≤ _
      rw [strLen_append, h, e, piled_cons]
      show 1 + t.length + piled r + 1 ≤ _
      omega
  · unfold tupleText
    rw [strLen_append, strLen_append]
    have a1 : (("(" : String) : Str).length = 1 := rfl
    have a2 : (((if ts.length == 1 then ",)" else ")" : String) : Str)).length ≤ 2 := by split <;> decide
    by_cases h : ts = []
    · subst h
      decide +kernel
    · have := join_length_add ts h
      omega
mutual
theorem shown_ok : ∀ (n : Nat) (d : D), d.flat n = true → d.strs = true → PyData.strOk d.py.shown = true ∧ d.py.shown.length ≤ d.wt
  | _, .non, _, _ => by constructor <;> decide +kernel
  | _, .bl true, _, _ => by constructor <;> decide +kernel
  | _, .bl false, _, _ => by constructor <;> decide +kernel
  | _, .int i, _, _ => ⟨by simp only [D.py, PyData.shown]; exact ok_ofString _, by simp only [D.py, PyData.shown, D.wt]; exact Nat.le_refl _⟩
  | _, .str x, _, h => by
    have h : PyData.strOk x = true := by simpa [D.strs] using h
    simp only [D.py, PyData.shown, D.wt]
    exact ⟨repr_ok h, PySem.StrLaws.reprText_len x fun c hc => Nat.lt_trans (cps_ok h c hc) (by decide)⟩
  | 0, .tup _, h, _ => by simp [D.flat] at h
  | 0, .lst _, h, _ => by simp [D.flat] at h
  | n + 1, .tup xs, h, hs => by
    obtain ⟨h1, h2⟩ := showns_ok n xs (by simpa [D.flat] using h) (by simpa [D.strs] using hs)
    simp only [D.py, PyData.shown, D.wt]
    exact ⟨(list_ok h1).2, by have := (text_len (PyData.shownAll (D.pys xs))).2; omega⟩
  | n + 1, .lst xs, h, hs => by
    obtain ⟨h1, h2⟩ := showns_ok n xs (by simpa [D.flat] using h) (by simpa [D.strs] using hs)
    simp only [D.py, PyData.shown, D.wt]
    exact ⟨(list_ok h1).1, by have := (text_len (PyData.shownAll (D.pys xs))).1; omega⟩
  | n, .dct _ _, h, _ => by cases n <;> simp [D.flat] at h
  | n, .set _, h, _ => by cases n <;> simp [D.flat] at h
  | n, .ins _ _ _, h, _ => by cases n <;> simp [D.flat] at h
  | n, .err _ _, h, _ => by cases n <;> simp [D.flat] at h
  | n, .lz _, h, _ => by cases n <;> simp [D.flat] at h
theorem showns_ok : ∀ (n : Nat) (ds : List D), D.flats n ds = true → D.strss ds = true → (∀ t ∈ PyData.shownAll (D.pys ds), PyData.strOk t = true) ∧ piled (PyData.shownAll (D.pys ds)) ≤ D.wts ds
  | _, [], _, _ => by
    simp only [D.pys, PyData.shownAll, D.wts]
    exact ⟨nofun, by simp [piled]⟩
  | n, d :: ds, h, hs => by
    rw [D.flats, Bool.and_eq_true] at h
    rw [D.strss, Bool.and_eq_true] at hs
    obtain ⟨h1, h2⟩ := shown_ok n d h.1 hs.1
    obtain ⟨h3, h4⟩ := showns_ok n ds h.2 hs.2
    simp only [D.pys, PyData.shownAll, D.wts]
    refine ⟨fun t ht => ?_, by rw [piled_cons]; omega⟩
    rcases List.mem_cons.mp ht with rfl | ht
    · exact h1
    · exact h3 t ht
end
theorem show_of {d : D} (h1 : d.flat 60 = true) (h2 : d.py.showable = true) (h3 : d.strs = true) (h4 : d.wt ≤ LIM) : showOk d = true := by
  obtain ⟨a, b⟩ := shown_ok 60 d h1 h3
  unfold showOk
  rw [h1, h2, a]
  exact decide_eq_true (Nat.le_trans b h4)
end Ev

set_option Elab.async false
set_option linter.all false
set_option autoImplicit false
set_option maxHeartbeats 4000000
/-! Plain lemmas, part g: alike; comprehensions over one name; questions read. -/
namespace Ev
open PySem
section
variable {P : Nat → Option Def} {k i : Nat} {s : S}
theorem leave_d (s : S) (x : D) (env : Slots) : leave s (.ret (.d x) ⟨env, s.mem⟩) = .ok (.d x) s := by simp [leave]
theorem leave_new (s : S) (x : D) (env : Slots) : leave s (.ret (.new x) ⟨env, s.mem⟩) = .ok (.new x) s := by simp [leave]
theorem eq_self {u : D} (h : u.flat 60 = true) : eqD u u = true := eqv_self 60 u h
theorem eqS (x y : Str) : eqD (.str x) (.str y) = (x == y) := by simp [eqD, D.py, PyData.eqv]
theorem okS (x y : Str) : okEq (.str x) (.str y) = true := by simp [okEq, D.flat]
def alikeB : Call → SM := fun C => seq (sRet (andE (cmp .eq (var 0) (var 1)) (cmp .eq (bi .repr [var 0]) (bi .repr [var 1])))) skip
theorem alike_call (hP : P i = some ⟨2, 2, alikeB⟩) {u : D} (h : u.flat 60 = true) (hs : showOk u = true) : run P (k + 1) i [.d u, .d u] s = .ok (.d (.bl true)) s := by
  have h1 : okEq u u = true := by simp [okEq, h]
  have h2 := eq_self h
  have e : alikeB (run P k) ⟨[some (.d u), some (.d u)], s.mem⟩ = .ret (.d (.bl true)) ⟨[some (.d u), some (.d u)], s.mem⟩ := by
    simp [alikeB, seq, sRet, Ev.lift, andE, cmp, EM.bind, var, get, Out.look, Ev.opt, COp.go, h1, h2, truth, bi, args, gets, Bi.go, hs, okS, eqS, EM.pure]
  rw [run_at hP rfl (by show 2 ≤ 2; decide)]
  show leave s (alikeB (run P k) ⟨[some (.d u), some (.d u)], s.mem⟩) = _
  rw [e]
  exact leave_d ..
end
theorem lc_one {v : Nat} {env : Slots} {m : Mem} {c : EM Bool} {el : EM Out} {p : D → Bool} {g : D → D} : ∀ (ds acc : List D) (e0 : Slots), e0.set v none = env.set v none →
    (∀ d ∈ ds, c ⟨env.set v (some (.d d)), m⟩ = .ok (p d) ⟨env.set v (some (.d d)), m⟩ ∧ (p d = true → el ⟨env.set v (some (.d d)), m⟩ = .ok (.d (g d)) ⟨env.set v (some (.d d)), m⟩)) →
    ∃ e1, lcLoop [v] (.one v) c el ds acc ⟨e0, m⟩ = .ok (acc ++ (ds.filter p).map g) ⟨e1, m⟩ ∧ e1.set v none = env.set v none
  | [], acc, e0, h, _ => ⟨e0, by simp [lcLoop, EM.pure], h⟩
  | d :: ds, acc, e0, h, hd => by
    have hp : Tg.put (.one v) d (wipeE e0 [v]) = some (env.set v (some (.d d))) := by
      show some ((e0.set v none).set v (some (.d d))) = _
      rw [h, List.set_set]
    obtain ⟨h1, h2⟩ := hd d (List.mem_cons_self ..)
    have hn : (env.set v (some (Slot.d d))).set v none = env.set v none := by rw [List.set_set]
    have ih := fun acc => lc_one ds acc (env.set v (some (.d d))) hn fun d' h' => hd d' (List.mem_cons_of_mem _ h')
    cases q : p d with
    | true =>
      obtain ⟨e1, i1, i2⟩ := ih (acc ++ [g d])
      refine ⟨e1, ?_, i2⟩
      simp only [lcLoop, hp, EM.bind, h1, q, if_true, h2 q, keep, EM.pure]
      rw [i1]
      simp [List.filter_cons, q]
    | false =>
      obtain ⟨e1, i1, i2⟩ := ih acc
      refine ⟨e1, ?_, i2⟩
      simp only [lcLoop, hp, EM.bind, h1, q, Bool.false_eq_true, if_false]
      rw [i1]
      simp [List.filter_cons, q]
theorem lc_at {v : Nat} {env : Slots} {m : Mem} {it : EM (List D)} {c : EM Bool} {el : EM Out} {p : D → Bool} {g : D → D} {s0 : S} {ds : List D} (hi : it s0 = .ok ds ⟨env, m⟩) (hl : ds.length < LIM)
    (hd : ∀ d ∈ ds, c ⟨env.set v (some (.d d)), m⟩ = .ok (p d) ⟨env.set v (some (.d d)), m⟩ ∧ (p d = true → el ⟨env.set v (some (.d d)), m⟩ = .ok (.d (g d)) ⟨env.set v (some (.d d)), m⟩)) :
    lc [v] (.one v) it c el s0 = .ok (.new (.lst ((ds.filter p).map g))) ⟨env, m⟩ := by
  obtain ⟨e1, h1, h2⟩ := lc_one ds [] env rfl hd
  have hu : unwipe env e1 [v] = env := by
    show e1.set v (env[v]?.getD none) = env
    have e3 : e1.set v (env[v]?.getD none) = env.set v (env[v]?.getD none) := by
      have := congrArg (fun l => l.set v (env[v]?.getD none)) h2
      simpa using this
    rw [e3]
    apply List.ext_getElem?
    intro j
    rw [List.getElem?_set]
    split
    · rename_i e
      subst e
      split
      · rename_i hlt
        simp [List.getElem?_eq_getElem hlt]
      · rename_i hlt
        rw [List.getElem?_eq_none (by omega)]
    · rfl
  simp only [lc, EM.bind, hi, Ev.opt, if_pos hl, EM.pure, h1, List.nil_append, hu]
end Ev

set_option Elab.async false
set_option linter.all false
set_option autoImplicit false
set_option maxHeartbeats 4000000
/-! Plain lemmas, part h: sorted lists of names; indexes. -/
namespace Ev
open PySem
theorem str_anti {a b : Str} (h1 : strLe a b = true) (h2 : strLe b a = true) : a = b := by
  rw [strLe_eq] at h1 h2
  simp only [decide_eq_true_eq] at h1 h2
  have := List.le_antisymm h1 h2
  cases a
  cases b
  simp only [Array.toList_inj] at this
  rw [this]
theorem sS_pw (ws : List Str) : (sS ws).Pairwise fun a b => strLe a b = true := by
  refine List.pairwise_mergeSort (fun a b c => ?_) (fun a b => ?_) ws
  · rw [strLe_eq]
    simp only [decide_eq_true_eq]
    exact fun h1 h2 => List.le_trans h1 h2
  · rw [strLe_eq]
    simp only [Bool.or_eq_true, decide_eq_true_eq]
    exact List.le_total _ _
theorem sS_eq {as bs : List Str} (p : as.Perm bs) : sS as = sS bs :=
  ((sS_perm as).trans (p.trans (sS_perm bs).symm)).eq_of_pairwise (le := fun a b => strLe a b = true) (fun a b _ _ h1 h2 => str_anti h1 h2) (sS_pw as) (sS_pw bs)
theorem nodup_perm : ∀ {as bs : List Str}, as.Nodup → (∀ a ∈ as, a ∈ bs) → bs.length ≤ as.length → as.Perm bs
  | [], bs, _, _, hl => by
    have : bs = [] := List.eq_nil_of_length_eq_zero (by simpa using hl)
    rw [this]
  | a :: as, bs, nd, hs, hl => by
    obtain ⟨l, r, rfl⟩ := List.append_of_mem (hs a (List.mem_cons_self ..))
    have nd2 := List.nodup_cons.mp nd
    have ih := nodup_perm (bs := l ++ r) nd2.2 (fun b hb => by
      have := hs b (List.mem_cons_of_mem _ hb)
      rcases List.mem_append.mp this with h | h
      · exact List.mem_append_left _ h
      · rcases List.mem_cons.mp h with rfl | h
        · exact absurd hb nd2.1
        · exact List.mem_append_right _ h) (by simp at hl ⊢; omega)
    exact (ih.cons a).trans List.perm_middle.symm
/-- a beginning of names is a set of names just if its places are in it -/
theorem sS_begin {ws cs : List Str} (hw : ws.Nodup) (hs : sS cs = cs) (hc : cs.Nodup) (hl : cs.length ≤ ws.length) : sS (ws.take cs.length) = cs ↔ ∀ w ∈ ws.take cs.length, w ∈ cs := by
  constructor
  · intro h w hw
    rw [← h]
    exact (sS_perm _).symm.subset hw
  · intro h
    have nd : (ws.take cs.length).Nodup := hw.sublist (List.take_sublist _ _)
    have len : (ws.take cs.length).length = cs.length := by rw [List.length_take]; omega
    have p : (ws.take cs.length).Perm cs := nodup_perm nd h (by omega)
    rw [sS_eq p, hs]
section
variable {P : Nat → Option Def} {k i t m : Nat} {n : Nat} {env : Slots} {x : D}
def indexB (m t : Nat) : Call → SM := fun C => seq (sRet (bi .tuple [cut (Ev.call C m [var 0, var 1] []) none (some (bin .add (lit (.int 1)) (Ev.call C t [var 0, bi .len [var 1]] [])))])) skip
theorem index_call (hP : P i = some ⟨2, 2, indexB m t⟩) (hM : P m = some ⟨4, 2, mixedB t⟩) (hT : P t = some ⟨7, 2, takeB⟩) {ws : List Str} (hw : Names ws) (h0 : 0 < ws.length) (hn : n + 13 ≤ BIG) (hx : Bag n x) :
    Yields (n + 13) env (run P (k + 3) i [.ref 0, .d (.lst (ws.map .str))] (st env x)) fun o => ∃ vs, o = .d (.tup (vs.map .str)) ∧ Names vs ∧ 0 < vs.length := by
  have wl := hw.len
  obtain ⟨o, y, h1, b1, ys, rfl, hp⟩ := mixed_call (k := k) (env := [some (.ref 0), some (.d (.lst (ws.map .str)))]) hM hT (xs := ws.map .str) (T := .lst (ws.map .str)) rfl (by rw [List.length_map]; omega) (by rw [List.length_map]; show _ < 1000000; omega) hx
  obtain ⟨us, rfl, hus⟩ := perm_map hp
  have b1 := b1.up (show n + (ws.map D.str).length ≤ n + 12 by rw [List.length_map]; omega)
  obtain ⟨o, y2, h2, b2, r, rfl, r0, r1⟩ := take_call (k := k + 1) (env := [some (.ref 0), some (.d (.lst (ws.map .str)))]) hT (by omega) (many := (ws.length : Int)) (by omega) (by omega) b1
  have c1 : (0 : Int) ≤ 1 + r := by omega
  refine ⟨.d (.tup ((us.take (1 + r).toNat).map .str)), y2, ?_, b2, _, rfl, (hw.perm hus).take _, ?_⟩
  · rw [run_at hP rfl (by show 2 ≤ 2; decide)]
    show leave (st env x) (indexB m t (run P (k + 2)) (st [some (.ref 0), some (.d (.lst (ws.map .str)))] x)) = _
    have e : indexB m t (run P (k + 2)) (st [some (.ref 0), some (.d (.lst (ws.map .str)))] x) = .ret (.d (.tup ((us.take (1 + r).toNat).map .str))) (st [some (.ref 0), some (.d (.lst (ws.map .str)))] y2) := by
      simp [indexB, seq, sRet, Ev.lift, lit, cut, ends, asI, EM.bind, var, Ev.call, passes, pass, bi, bin, BOp.go, addD, args, gets, Bi.go, get, Out.look, Ev.opt, keep, EM.pure, h1, h2, cutD, cut_to _ c1]
    rw [e]
    rfl
  · rw [List.length_take, hus.length_eq]
    omega
end
end Ev

set_option Elab.async false
set_option linter.all false
set_option autoImplicit false
set_option maxHeartbeats 4000000
/-! Plain lemmas, part i: serving. -/
namespace Ev
open PySem
def inS (cs : List Str) (w : Str) : Bool := (cs.map D.str).any fun y => eqD y (.str w)
theorem inS_iff {cs : List Str} {w : Str} : inS cs w = true ↔ w ∈ cs := by
  unfold inS
  simp [eqS]
theorem flatsS (n : Nat) : ∀ ws : List Str, D.flats n (ws.map D.str) = true
  | [] => by simp [D.flats]
  | w :: ws => by rw [List.map_cons, D.flats, flatsS n ws]; simp [D.flat]
theorem pr0 (x0 x1 : D) : L2.atI [x0, x1] 0 = some x0 := rfl
theorem pr1 (x0 x1 : D) : L2.atI [x0, x1] 1 = some x1 := rfl
theorem lenT (ws : List Str) : Bi.len.go [.tup (ws.map D.str)] = some (.d (.int ws.length)) := by simp [Bi.go]
def badAt (ws cs : List Str) (p : Nat) : Bool := decide (ws.length ≤ p) || !inS cs (ws.getD p "")
def ffT : SM := seq (sIf (orB (cmpB .ge (var 4) (bi .len [var 0])) (cmpB .notin (idx (var 0) (var 4)) (var 2))) (seq (sRet (var 4)) skip) skip) skip
theorem ff_turn {ws cs : List Str} {q l e5 : Option Slot} {m : Mem} (p : Nat) : ffT ⟨[some (.d (.tup (ws.map .str))), q, some (.d (.tup (cs.map .str))), l, some (.d (.int p)), e5], m⟩ =
    if badAt ws cs p = true then .ret (.d (.int p)) ⟨[some (.d (.tup (ws.map .str))), q, some (.d (.tup (cs.map .str))), l, some (.d (.int p)), e5], m⟩ else .next ⟨[some (.d (.tup (ws.map .str))), q, some (.d (.tup (cs.map .str))), l, some (.d (.int p)), e5], m⟩ := by
  by_cases h : ws.length ≤ p
  · have h2 : (ws.length : Int) ≤ p := by omega
    simp [ffT, badAt, h, h2, seq, sIf, orB, cmpB, Ev.lift, EM.bind, var, get, Out.look, Ev.opt, COp.go, leD, EM.pure, bi, args, gets, lenT, sRet]
  · have h2 : ¬ (ws.length : Int) ≤ p := by omega
    have ha : L2.atI (ws.map D.str) (p : Int) = some (.str (ws.getD p "")) := atI_nat (by omega) (by
      have : p < ws.length := by omega
      simp [this, List.getD_eq_getElem?_getD])
    cases hb : inS cs (ws.getD p "") with
    | true =>
      have hb' : ((cs.map D.str).any fun y => eqD y (.str (ws.getD p ""))) = true := hb
      simp only [ffT, badAt, hb, seq, sIf, orB, cmpB, Ev.lift, EM.bind, var, get, Out.look, Ev.opt, COp.go, leD, EM.pure, bi, args, gets, lenT, sRet, skip, idx, idxD, inD, flatsS, D.flat, Bool.and_self, List.getElem?_cons_succ, List.getElem?_cons_zero, ha, hb', h, h2, decide_false, Bool.false_eq_true, if_false, if_true, Option.map_some, Bool.not_true, Bool.or_self]
    | false =>
      have hb' : ((cs.map D.str).any fun y => eqD y (.str (ws.getD p ""))) = false := hb
      simp only [ffT, badAt, hb, seq, sIf, orB, cmpB, Ev.lift, EM.bind, var, get, Out.look, Ev.opt, COp.go, leD, EM.pure, bi, args, gets, lenT, sRet, skip, idx, idxD, inD, flatsS, D.flat, Bool.and_self, List.getElem?_cons_succ, List.getElem?_cons_zero, ha, hb', h, h2, decide_false, Bool.false_eq_true, if_false, if_true, Option.map_some, Bool.not_false, Bool.or_true]
theorem ff_loop {ws cs : List Str} {q l e5 : Option Slot} {m : Mem} : ∀ (ps : List Nat) (e4 : Option Slot),
    (∀ p, ps.find? (badAt ws cs) = some p → loop (.one 4) ffT (ps.map fun (i : Nat) => .int (0 + (i : Int))) ⟨[some (.d (.tup (ws.map .str))), q, some (.d (.tup (cs.map .str))), l, e4, e5], m⟩ = .ret (.d (.int p)) ⟨[some (.d (.tup (ws.map .str))), q, some (.d (.tup (cs.map .str))), l, some (.d (.int p)), e5], m⟩) ∧
    (ps.find? (badAt ws cs) = none → ∃ f4, loop (.one 4) ffT (ps.map fun (i : Nat) => .int (0 + (i : Int))) ⟨[some (.d (.tup (ws.map .str))), q, some (.d (.tup (cs.map .str))), l, e4, e5], m⟩ = .next ⟨[some (.d (.tup (ws.map .str))), q, some (.d (.tup (cs.map .str))), l, f4, e5], m⟩)
  | [], e4 => ⟨nofun, fun _ => ⟨e4, rfl⟩⟩
  | p :: ps, e4 => by
    have tp : (D.int (0 + (p : Int))) = .int p := by simp
    obtain ⟨i1, i2⟩ := ff_loop (ws := ws) (cs := cs) (q := q) (l := l) (e5 := e5) (m := m) ps (some (.d (.int p)))
    cases hb : badAt ws cs p with
    | true =>
      refine ⟨fun p' h => ?_, fun h => ?_⟩
      · rw [List.find?_cons_of_pos hb] at h
        cases h
        simp only [List.map_cons, loop, tp, Tg.put, List.set]
        rw [ff_turn, if_pos hb]
      · rw [List.find?_cons_of_pos hb] at h
        cases h
    | false =>
      have hn : ¬ badAt ws cs p = true := by rw [hb]; decide
      refine ⟨fun p' h => ?_, fun h => ?_⟩
      · rw [List.find?_cons_of_neg hn] at h
        simp only [List.map_cons, loop, tp, Tg.put, List.set]
        rw [ff_turn, if_neg hn]
        exact i1 p' h
      · rw [List.find?_cons_of_neg hn] at h
        obtain ⟨f4, i3⟩ := i2 h
        refine ⟨f4, ?_⟩
        simp only [List.map_cons, loop, tp, Tg.put, List.set]
        rw [ff_turn, if_neg hn]
        exact i3
end Ev

set_option Elab.async false
set_option linter.all false
set_option autoImplicit false
set_option maxHeartbeats 4000000
/-! Plain lemmas, part j: the first fault. -/
namespace Ev
open PySem
def lateAt (ws cs : List Str) (l : Str) : Bool := !(l == "") && (decide (ws.length ≤ cs.length) || !(ws.getD cs.length "" == l))
def faultF (ws cs : List Str) (l : Str) : Option Nat := match (List.range cs.length).find? (badAt ws cs) with
  | some p => some p
  | none => if lateAt ws cs l = true then some cs.length else none
def optD : Option Nat → D
  | some p => .int p
  | none => .non
def ffB : Call → SM := fun C => seq (sUnp (.many [2, 3]) (var 1)) (seq (sFor (.one 4) (rng1 (bi .len [var 2])) (seq (sIf (orB (cmpB .ge (var 4) (bi .len [var 0])) (cmpB .notin (idx (var 0) (var 4)) (var 2))) (seq (sRet (var 4)) skip) skip) skip)) (seq (sSet 5 (bi .len [var 2])) (seq (sIf (andB (cmpB .ne (var 3) (lit (.str ""))) (orB (cmpB .ge (var 5) (bi .len [var 0])) (cmpB .ne (idx (var 0) (var 5)) (var 3)))) (seq (sRet (var 5)) skip) skip) (seq (sRet (lit .non)) skip))))
theorem ff_end {ws cs : List Str} {l : Str} {q e4 : Option Slot} {m : Mem} : ∃ x, (seq (sIf (andB (cmpB .ne (var 3) (lit (.str ""))) (orB (cmpB .ge (var 5) (bi .len [var 0])) (cmpB .ne (idx (var 0) (var 5)) (var 3)))) (seq (sRet (var 5)) skip) skip) (seq (sRet (lit .non)) skip)) ⟨[some (.d (.tup (ws.map .str))), q, some (.d (.tup (cs.map .str))), some (.d (.str l)), e4, some (.d (.int cs.length))], m⟩ =
    .ret (.d (optD (if lateAt ws cs l = true then some cs.length else none))) ⟨x, m⟩ := by
  refine ⟨[some (.d (.tup (ws.map .str))), q, some (.d (.tup (cs.map .str))), some (.d (.str l)), e4, some (.d (.int cs.length))], ?_⟩
  by_cases hz : l = ""
  · subst hz
    simp [lateAt, optD, seq, sIf, andB, orB, cmpB, Ev.lift, EM.bind, var, get, Out.look, Ev.opt, COp.go, EM.pure, lit, okS, eqS, skip, sRet]
  · have hz2 : (l == ("" : Str)) = false := by simpa using hz
    by_cases h : ws.length ≤ cs.length
    · have h2 : (ws.length : Int) ≤ cs.length := by omega
      simp [lateAt, optD, hz2, h, h2, seq, sIf, andB, orB, cmpB, Ev.lift, EM.bind, var, get, Out.look, Ev.opt, COp.go, leD, EM.pure, lit, okS, eqS, skip, sRet, bi, args, gets, lenT]
    · have h2 : ¬ (ws.length : Int) ≤ cs.length := by omega
      have ha : L2.atI (ws.map D.str) (cs.length : Int) = some (.str (ws.getD cs.length "")) := atI_nat (by omega) (by
        have : cs.length < ws.length := by omega
        simp [this, List.getD_eq_getElem?_getD])
      cases hb : (ws.getD cs.length "" == l) <;>
        simp only [lateAt, optD, hz2, h, h2, hb, seq, sIf, andB, orB, cmpB, Ev.lift, EM.bind, var, get, Out.look, Ev.opt, COp.go, leD, EM.pure, lit, okS, eqS, skip, sRet, bi, args, gets, lenT, idx, idxD, ha, List.getElem?_cons_succ, List.getElem?_cons_zero, decide_false, Bool.not_false, Bool.not_true, Bool.true_and, Bool.or_false, Bool.or_true, Bool.false_eq_true, if_true, if_false, Option.map_some, Bool.false_or, Bool.or_self]
theorem seq_next {a b : SM} {s s' : S} (h : a s = .next s') : seq a b s = b s' := by
  unfold seq
  rw [h]
theorem seq_ret {a b : SM} {s s' : S} {o : Out} (h : a s = .ret o s') : seq a b s = .ret o s' := by
  unfold seq
  rw [h]
section
variable {P : Nat → Option Def} {k i : Nat} {s : S}
theorem ff_call (hP : P i = some ⟨6, 2, ffB⟩) {ws cs : List Str} {l : Str} (hl : cs.length ≤ 12) : run P (k + 1) i [.d (.tup (ws.map .str)), .d (qD cs l)] s = .ok (.d (optD (faultF ws cs l))) s := by
  have r1 : rng1 (bi .len [var 2]) ⟨[some (.d (.tup (ws.map .str))), some (.d (qD cs l)), some (.d (.tup (cs.map .str))), some (.d (.str l)), none, none], s.mem⟩ = .ok ((List.range cs.length).map fun (i : Nat) => .int (0 + (i : Int))) ⟨[some (.d (.tup (ws.map .str))), some (.d (qD cs l)), some (.d (.tup (cs.map .str))), some (.d (.str l)), none, none], s.mem⟩ := by
    have a1 : -(1000000 : Int) ≤ (cs.length : Int) ∧ (cs.length : Int) ≤ 1000000 := by omega
    simp [rng1, keeps, EM.bind, bi, args, gets, var, get, Out.look, Ev.opt, lenT, EM.pure, keep, rngD1, LIM, a1, upto]
  obtain ⟨i1, i2⟩ := ff_loop (ws := ws) (cs := cs) (q := some (.d (qD cs l))) (l := some (.d (.str l))) (e5 := none) (m := s.mem) (List.range cs.length) none
  have e : ∃ env, ffB (run P k) ⟨[some (.d (.tup (ws.map .str))), some (.d (qD cs l)), none, none, none, none], s.mem⟩ = .ret (.d (optD (faultF ws cs l))) ⟨env, s.mem⟩ := by
    have u1 : sUnp (.many [2, 3]) (var 1) ⟨[some (.d (.tup (ws.map .str))), some (.d (qD cs l)), none, none, none, none], s.mem⟩ = .next ⟨[some (.d (.tup (ws.map .str))), some (.d (qD cs l)), some (.d (.tup (cs.map .str))), some (.d (.str l)), none, none], s.mem⟩ := by
      simp [sUnp, Ev.lift, var, keep, EM.pure, Tg.put, setAll]
    cases hf : (List.range cs.length).find? (badAt ws cs) with
    | some p =>
      have l1 := i1 p hf
      have fo : sFor (.one 4) (rng1 (bi .len [var 2])) ffT ⟨[some (.d (.tup (ws.map .str))), some (.d (qD cs l)), some (.d (.tup (cs.map .str))), some (.d (.str l)), none, none], s.mem⟩ = .ret (.d (.int p)) ⟨[some (.d (.tup (ws.map .str))), some (.d (qD cs l)), some (.d (.tup (cs.map .str))), some (.d (.str l)), some (.d (.int p)), none], s.mem⟩ := by
        unfold sFor Ev.lift
        rw [r1]
        exact l1
      rw [show faultF ws cs l = some p by unfold faultF; rw [hf]]
      exact ⟨_, (seq_next u1).trans (seq_ret fo)⟩
    | none =>
      obtain ⟨f4, l1⟩ := i2 hf
      obtain ⟨x, l2⟩ := ff_end (ws := ws) (cs := cs) (l := l) (q := some (.d (qD cs l))) (e4 := f4) (m := s.mem)
      refine ⟨x, ?_⟩
      rw [show faultF ws cs l = (if lateAt ws cs l = true then some cs.length else none) by unfold faultF; rw [hf]]
      have s5 : sSet 5 (bi .len [var 2]) ⟨[some (.d (.tup (ws.map .str))), some (.d (qD cs l)), some (.d (.tup (cs.map .str))), some (.d (.str l)), f4, none], s.mem⟩ = .next ⟨[some (.d (.tup (ws.map .str))), some (.d (qD cs l)), some (.d (.tup (cs.map .str))), some (.d (.str l)), f4, some (.d (.int cs.length))], s.mem⟩ := by
        simp [sSet, Ev.lift, bi, args, gets, EM.bind, var, get, Out.look, Ev.opt, lenT, EM.pure, store]
      have fo : sFor (.one 4) (rng1 (bi .len [var 2])) ffT ⟨[some (.d (.tup (ws.map .str))), some (.d (qD cs l)), some (.d (.tup (cs.map .str))), some (.d (.str l)), none, none], s.mem⟩ = .next ⟨[some (.d (.tup (ws.map .str))), some (.d (qD cs l)), some (.d (.tup (cs.map .str))), some (.d (.str l)), f4, none], s.mem⟩ := by
        unfold sFor Ev.lift
        rw [r1]
        exact l1
      exact (seq_next u1).trans ((seq_next fo).trans ((seq_next s5).trans l2))
  obtain ⟨env, e⟩ := e
  rw [run_at hP rfl (by show 2 ≤ 6; decide)]
  show leave s (ffB (run P k) ⟨[some (.d (.tup (ws.map .str))), some (.d (qD cs l)), none, none, none, none], s.mem⟩) = _
  rw [e]
  exact leave_d ..
end
end Ev

set_option Elab.async false
set_option linter.all false
set_option autoImplicit false
set_option maxHeartbeats 4000000
/-! Plain lemmas, part k: the law's own fault; serving. -/
namespace Ev
open PySem
def dueB : Call → SM := fun C => seq (sSet 2 (bi .len [idx (var 1) (lit (.int 0))])) (seq (sFor (.one 3) (rng1 (var 2)) (seq (sIf (orB (cmpB .ge (var 3) (bi .len [var 0])) (cmpB .notin (idx (var 0) (var 3)) (idx (var 1) (lit (.int 0))))) (seq (sRet (var 3)) skip) skip) skip)) (seq (sIf (andB (cmpB .ne (idx (var 1) (lit (.int 1))) (lit (.str ""))) (orB (cmpB .ge (var 2) (bi .len [var 0])) (cmpB .ne (idx (var 0) (var 2)) (idx (var 1) (lit (.int 1)))))) (seq (sRet (var 2)) skip) skip) (seq (sRet (lit .non)) skip)))
def dueT : SM := seq (sIf (orB (cmpB .ge (var 3) (bi .len [var 0])) (cmpB .notin (idx (var 0) (var 3)) (idx (var 1) (lit (.int 0))))) (seq (sRet (var 3)) skip) skip) skip
theorem due_turn {ws cs : List Str} {l : Str} {e2 : Option Slot} {m : Mem} (p : Nat) : dueT ⟨[some (.d (.tup (ws.map .str))), some (.d (qD cs l)), e2, some (.d (.int p))], m⟩ =
    if badAt ws cs p = true then .ret (.d (.int p)) ⟨[some (.d (.tup (ws.map .str))), some (.d (qD cs l)), e2, some (.d (.int p))], m⟩ else .next ⟨[some (.d (.tup (ws.map .str))), some (.d (qD cs l)), e2, some (.d (.int p))], m⟩ := by
  by_cases h : ws.length ≤ p
  · have h2 : (ws.length : Int) ≤ p := by omega
    simp [dueT, badAt, h, h2, seq, sIf, orB, cmpB, Ev.lift, EM.bind, var, get, Out.look, Ev.opt, COp.go, leD, EM.pure, bi, args, gets, lenT, sRet]
  · have h2 : ¬ (ws.length : Int) ≤ p := by omega
    have ha : L2.atI (ws.map D.str) (p : Int) = some (.str (ws.getD p "")) := atI_nat (by omega) (by
      have : p < ws.length := by omega
      simp [this, List.getD_eq_getElem?_getD])
    cases hb : inS cs (ws.getD p "") with
    | true =>
      have hb' : ((cs.map D.str).any fun y => eqD y (.str (ws.getD p ""))) = true := hb
      simp only [dueT, badAt, hb, seq, sIf, orB, cmpB, Ev.lift, EM.bind, var, get, Out.look, Ev.opt, COp.go, leD, EM.pure, lit, bi, args, gets, lenT, sRet, skip, idx, idxD, inD, pr0, flatsS, D.flat, Bool.and_self, List.getElem?_cons_succ, List.getElem?_cons_zero, ha, hb', h, h2, decide_false, Bool.false_eq_true, if_false, if_true, Option.map_some, Bool.not_true, Bool.or_self]
    | false =>
      have hb' : ((cs.map D.str).any fun y => eqD y (.str (ws.getD p ""))) = false := hb
      simp only [dueT, badAt, hb, seq, sIf, orB, cmpB, Ev.lift, EM.bind, var, get, Out.look, Ev.opt, COp.go, leD, EM.pure, lit, bi, args, gets, lenT, sRet, skip, idx, idxD, inD, pr0, flatsS, D.flat, Bool.and_self, List.getElem?_cons_succ, List.getElem?_cons_zero, ha, hb', h, h2, decide_false, Bool.false_eq_true, if_false, if_true, Option.map_some, Bool.not_false, Bool.or_true]
theorem due_loop {ws cs : List Str} {l : Str} {e2 : Option Slot} {m : Mem} : ∀ (ps : List Nat) (e3 : Option Slot),
    (∀ p, ps.find? (badAt ws cs) = some p → loop (.one 3) dueT (ps.map fun (i : Nat) => .int (0 + (i : Int))) ⟨[some (.d (.tup (ws.map .str))), some (.d (qD cs l)), e2, e3], m⟩ = .ret (.d (.int p)) ⟨[some (.d (.tup (ws.map .str))), some (.d (qD cs l)), e2, some (.d (.int p))], m⟩) ∧
    (ps.find? (badAt ws cs) = none → ∃ f3, loop (.one 3) dueT (ps.map fun (i : Nat) => .int (0 + (i : Int))) ⟨[some (.d (.tup (ws.map .str))), some (.d (qD cs l)), e2, e3], m⟩ = .next ⟨[some (.d (.tup (ws.map .str))), some (.d (qD cs l)), e2, f3], m⟩)
  | [], e3 => ⟨nofun, fun _ => ⟨e3, rfl⟩⟩
  | p :: ps, e3 => by
    have tp : (D.int (0 + (p : Int))) = .int p := by simp
    obtain ⟨i1, i2⟩ := due_loop (ws := ws) (cs := cs) (l := l) (e2 := e2) (m := m) ps (some (.d (.int p)))
    cases hb : badAt ws cs p with
    | true =>
      refine ⟨fun p' h => ?_, fun h => ?_⟩
      · rw [List.find?_cons_of_pos hb] at h
        cases h
        simp only [List.map_cons, loop, tp, Tg.put, List.set]
        rw [due_turn, if_pos hb]
      · rw [List.find?_cons_of_pos hb] at h
        cases h
    | false =>
      have hn : ¬ badAt ws cs p = true := by rw [hb]; decide
      refine ⟨fun p' h => ?_, fun h => ?_⟩
      · rw [List.find?_cons_of_neg hn] at h
        simp only [List.map_cons, loop, tp, Tg.put, List.set]
        rw [due_turn, if_neg hn]
        exact i1 p' h
      · rw [List.find?_cons_of_neg hn] at h
        obtain ⟨f4, i3⟩ := i2 h
        refine ⟨f4, ?_⟩
        simp only [List.map_cons, loop, tp, Tg.put, List.set]
        rw [due_turn, if_neg hn]
        exact i3
theorem due_end {ws cs : List Str} {l : Str} {e3 : Option Slot} {m : Mem} : (seq (sIf (andB (cmpB .ne (idx (var 1) (lit (.int 1))) (lit (.str ""))) (orB (cmpB .ge (var 2) (bi .len [var 0])) (cmpB .ne (idx (var 0) (var 2)) (idx (var 1) (lit (.int 1)))))) (seq (sRet (var 2)) skip) skip) (seq (sRet (lit .non)) skip)) ⟨[some (.d (.tup (ws.map .str))), some (.d (qD cs l)), some (.d (.int cs.length)), e3], m⟩ =
    .ret (.d (optD (if lateAt ws cs l = true then some cs.length else none))) ⟨[some (.d (.tup (ws.map .str))), some (.d (qD cs l)), some (.d (.int cs.length)), e3], m⟩ := by
  by_cases hz : l = ""
  · subst hz
    simp [lateAt, optD, seq, sIf, andB, orB, cmpB, Ev.lift, EM.bind, var, idx, idxD, pr1, get, Out.look, Ev.opt, COp.go, EM.pure, lit, okS, eqS, skip, sRet]
  · have hz2 : (l == ("" : Str)) = false := by simpa using hz
    by_cases h : ws.length ≤ cs.length
    · have h2 : (ws.length : Int) ≤ cs.length := by omega
      simp [lateAt, optD, hz2, h, h2, seq, sIf, andB, orB, cmpB, Ev.lift, EM.bind, var, idx, idxD, pr1, get, Out.look, Ev.opt, COp.go, leD, EM.pure, lit, okS, eqS, skip, sRet, bi, args, gets, lenT]
    · have h2 : ¬ (ws.length : Int) ≤ cs.length := by omega
      have ha : L2.atI (ws.map D.str) (cs.length : Int) = some (.str (ws.getD cs.length "")) := atI_nat (by omega) (by
        have : cs.length < ws.length := by omega
        simp [this, List.getD_eq_getElem?_getD])
      cases hb : (ws.getD cs.length "" == l) <;>
        simp only [lateAt, optD, hz2, h, h2, hb, seq, sIf, andB, orB, cmpB, Ev.lift, EM.bind, var, get, Out.look, Ev.opt, COp.go, leD, EM.pure, lit, okS, eqS, skip, sRet, bi, args, gets, lenT, idx, idxD, pr1, ha, List.getElem?_cons_succ, List.getElem?_cons_zero, decide_false, Bool.not_false, Bool.not_true, Bool.true_and, Bool.or_false, Bool.or_true, Bool.false_eq_true, if_true, if_false, Option.map_some, Bool.false_or, Bool.or_self]
section
variable {P : Nat → Option Def} {k i : Nat} {s : S}
theorem due_call (hP : P i = some ⟨4, 2, dueB⟩) {ws cs : List Str} {l : Str} (hl : cs.length ≤ 12) : run P (k + 1) i [.d (.tup (ws.map .str)), .d (qD cs l)] s = .ok (.d (optD (faultF ws cs l))) s := by
  have r1 : rng1 (var 2) ⟨[some (.d (.tup (ws.map .str))), some (.d (qD cs l)), some (.d (.int cs.length)), none], s.mem⟩ = .ok ((List.range cs.length).map fun (i : Nat) => .int (0 + (i : Int))) ⟨[some (.d (.tup (ws.map .str))), some (.d (qD cs l)), some (.d (.int cs.length)), none], s.mem⟩ := by
    have a1 : -(1000000 : Int) ≤ (cs.length : Int) ∧ (cs.length : Int) ≤ 1000000 := by omega
    simp [rng1, keeps, EM.bind, var, Ev.opt, EM.pure, keep, rngD1, LIM, a1, upto]
  obtain ⟨i1, i2⟩ := due_loop (ws := ws) (cs := cs) (l := l) (e2 := some (.d (.int cs.length))) (m := s.mem) (List.range cs.length) none
  have e : ∃ env, dueB (run P k) ⟨[some (.d (.tup (ws.map .str))), some (.d (qD cs l)), none, none], s.mem⟩ = .ret (.d (optD (faultF ws cs l))) ⟨env, s.mem⟩ := by
    have u1 : sSet 2 (bi .len [idx (var 1) (lit (.int 0))]) ⟨[some (.d (.tup (ws.map .str))), some (.d (qD cs l)), none, none], s.mem⟩ = .next ⟨[some (.d (.tup (ws.map .str))), some (.d (qD cs l)), some (.d (.int cs.length)), none], s.mem⟩ := by
      simp [sSet, Ev.lift, bi, args, gets, EM.bind, var, idx, idxD, pr0, lit, get, Out.look, Ev.opt, lenT, EM.pure, store]
    cases hf : (List.range cs.length).find? (badAt ws cs) with
    | some p =>
      have fo : sFor (.one 3) (rng1 (var 2)) dueT ⟨[some (.d (.tup (ws.map .str))), some (.d (qD cs l)), some (.d (.int cs.length)), none], s.mem⟩ = .ret (.d (.int p)) ⟨[some (.d (.tup (ws.map .str))), some (.d (qD cs l)), some (.d (.int cs.length)), some (.d (.int p))], s.mem⟩ := by
        unfold sFor Ev.lift
        rw [r1]
        exact i1 p hf
      rw [show faultF ws cs l = some p by unfold faultF; rw [hf]]
      exact ⟨_, (seq_next u1).trans (seq_ret fo)⟩
    | none =>
      obtain ⟨f3, l1⟩ := i2 hf
      have fo : sFor (.one 3) (rng1 (var 2)) dueT ⟨[some (.d (.tup (ws.map .str))), some (.d (qD cs l)), some (.d (.int cs.length)), none], s.mem⟩ = .next ⟨[some (.d (.tup (ws.map .str))), some (.d (qD cs l)), some (.d (.int cs.length)), f3], s.mem⟩ := by
        unfold sFor Ev.lift
        rw [r1]
        exact l1
      rw [show faultF ws cs l = (if lateAt ws cs l = true then some cs.length else none) by unfold faultF; rw [hf]]
      exact ⟨_, (seq_next u1).trans ((seq_next fo).trans due_end)⟩
  obtain ⟨env, e⟩ := e
  rw [run_at hP rfl (by show 2 ≤ 4; decide)]
  show leave s (dueB (run P k) ⟨[some (.d (.tup (ws.map .str))), some (.d (qD cs l)), none, none], s.mem⟩) = _
  rw [e]
  exact leave_d ..
end
end Ev

set_option Elab.async false
set_option linter.all false
set_option autoImplicit false
set_option maxHeartbeats 4000000
/-! Plain lemmas, part l: serving by sorted beginnings; the bag. -/
namespace Ev
open PySem
theorem lit_at (x : D) (s : S) : lit x s = .ok (.d x) s := rfl
theorem pure_at {α : Type} (a : α) (s : S) : EM.pure a s = .ok a s := rfl
theorem okF {a b : D} (h1 : a.flat 60 = true) (h2 : b.flat 60 = true) : okEq a b = true := by simp [okEq, h1, h2]
theorem eqAll_str : ∀ {xs ys : List Str}, PyData.eqvAll (D.pys (xs.map D.str)) (D.pys (ys.map D.str)) = decide (xs = ys)
  | [], [] => by simp [D.pys, PyData.eqvAll]
  | [], _ :: _ => by simp [D.pys, PyData.eqvAll]
  | _ :: _, [] => by simp [D.pys, PyData.eqvAll]
  | x :: xs, y :: ys => by
    simp only [List.map_cons, D.pys, PyData.eqvAll, D.py, PyData.eqv, eqAll_str (xs := xs) (ys := ys)]
    by_cases h1 : x = y <;> by_cases h2 : xs = ys <;> simp [h1, h2]
theorem flatT (xs : List Str) : (D.tup (xs.map .str)).flat 60 = true := by simp [D.flat, flatsS]
theorem flatL (xs : List Str) : (D.lst (xs.map .str)).flat 60 = true := by simp [D.flat, flatsS]
theorem eqT (xs ys : List Str) : eqD (.tup (xs.map .str)) (.tup (ys.map .str)) = decide (xs = ys) := by
  simp only [eqD, D.py, PyData.eqv, eqAll_str]
theorem eqL (xs ys : List Str) : eqD (.lst (xs.map .str)) (.lst (ys.map .str)) = decide (xs = ys) := by
  simp only [eqD, D.py, PyData.eqv, eqAll_str]
theorem okT (xs ys : List Str) : okEq (.tup (xs.map .str)) (.tup (ys.map .str)) = true := okF (flatT xs) (flatT ys)
theorem okL (xs ys : List Str) : okEq (.lst (xs.map .str)) (.lst (ys.map .str)) = true := okF (flatL xs) (flatL ys)
theorem flatQ (c : List Str) (l : Str) : (qD c l).flat 60 = true := by simp [D.flat, D.flats, flatsS]
theorem eqQ (c1 c2 : List Str) (l1 l2 : Str) : eqD (qD c1 l1) (qD c2 l2) = decide (c1 = c2 ∧ l1 = l2) := by
  have h := eqAll_str (xs := c1) (ys := c2)
  simp only [eqD, qD, D.py, D.pys, PyData.eqv, PyData.eqvAll, h]
  by_cases h1 : c1 = c2 <;> by_cases h2 : l1 = l2 <;> simp [h1, h2]
theorem okQ (c1 c2 : List Str) (l1 l2 : Str) : okEq (qD c1 l1) (qD c2 l2) = true := okF (flatQ c1 l1) (flatQ c2 l2)
theorem sort_bit (cs : List Str) : Bi.sorted.go [.tup (cs.map .str)] = some (.new (.lst ((sS cs).map .str))) := sort_bi cs
theorem list_bi (xs : List D) : Bi.list.go [.tup xs] = some (.new (.lst xs)) := rfl
theorem cut_one {α : Type} (xs : List α) (a : Nat) : cutL xs (some (a : Int)) (some ((a : Int) + 1)) = (xs.drop a).take 1 := by
  unfold cutL
  show (xs.drop (if (a : Int) < 0 then ((a : Int) + (xs.length : Int)).toNat else min (a : Int).toNat xs.length)).take ((if (a : Int) + 1 < 0 then ((a : Int) + 1 + (xs.length : Int)).toNat else min ((a : Int) + 1).toNat xs.length) - (if (a : Int) < 0 then ((a : Int) + (xs.length : Int)).toNat else min (a : Int).toNat xs.length)) = _
  rw [if_neg (by omega), if_neg (by omega)]
  have e1 : (a : Int).toNat = a := by omega
  have e2 : ((a : Int) + 1).toNat = a + 1 := by omega
  rw [e1, e2]
  by_cases h : a < xs.length
  · rw [Nat.min_eq_left (by omega), Nat.min_eq_left (by omega)]
    congr 1
    omega
  · rw [Nat.min_eq_right (by omega), Nat.min_eq_right (by omega), List.drop_length, List.drop_eq_nil_of_le (by omega), List.take_nil, List.take_nil]
theorem menu_small : ∀ w ∈ menu, PyData.strOk w = true ∧ w.length ≤ 8 := by decide +kernel
theorem strs_ok {ws : List Str} (h : ∀ w ∈ ws, w ∈ menu) : D.strss (ws.map .str) = true ∧ D.wts (ws.map .str) ≤ 84 * ws.length ∧ PyData.showableAll (D.pys (ws.map .str)) = true := by
  induction ws with
  | nil => simp [D.strss, D.wts, D.pys, PyData.showableAll]
  | cons w ws ih =>
    obtain ⟨h1, h2⟩ := menu_small w (h w (List.mem_cons_self ..))
    obtain ⟨i1, i2, i3⟩ := ih fun v hv => h v (List.mem_cons_of_mem _ hv)
    refine ⟨?_, ?_, ?_⟩
    · rw [List.map_cons, D.strss, i1]
      simpa [D.strs] using h1
    · rw [List.map_cons, D.wts, List.length_cons]
      simp only [D.wt]
      omega
    · rw [List.map_cons, D.pys, PyData.showableAll, i3]
      simp [D.py, PyData.showable]
theorem tup_show {ws : List Str} (h : ∀ w ∈ ws, w ∈ menu) (hl : ws.length ≤ 1000) : (D.tup (ws.map .str)).flat 60 = true ∧ showOk (.tup (ws.map .str)) = true := by
  obtain ⟨h1, h2, h3⟩ := strs_ok h
  refine ⟨flatT ws, show_of (flatT ws) (by simpa [D.py, PyData.showable] using h3) (by simpa [D.strs] using h1) ?_⟩
  simp only [D.wt, LIM]
  omega
theorem int_show : ∀ n : Nat, n < 14 → showOk (.int (n : Int)) = true := by decide +kernel
theorem bl_show : ∀ b : Bool, showOk (.bl b) = true := by decide +kernel
theorem opt_show {o : Option Nat} (h : ∀ p, o = some p → p < 14) : showOk (optD o) = true ∧ (optD o).flat 60 = true := by
  cases o with
  | none => exact ⟨by decide +kernel, rfl⟩
  | some p => exact ⟨int_show p (h p rfl), rfl⟩
theorem fault_le {ws cs : List Str} {l : Str} {p : Nat} (h : faultF ws cs l = some p) : p ≤ cs.length := by
  unfold faultF at h
  cases hf : (List.range cs.length).find? (badAt ws cs) with
  | some q =>
    rw [hf] at h
    cases h
    have := List.mem_range.mp (List.mem_of_find?_eq_some hf)
    omega
  | none =>
    rw [hf] at h
    simp only at h
    split at h
    · cases h
      omega
    · cases h
def servF (ws cs : List Str) (l : Str) : Bool := decide (sS (ws.take cs.length) = cs) && (l == "" || decide ((ws.drop cs.length).take 1 = [l]))
theorem badAt_iff {ws cs : List Str} {p : Nat} : badAt ws cs p = false ↔ ∃ w, ws[p]? = some w ∧ w ∈ cs := by
  unfold badAt
  rw [Bool.or_eq_false_iff, decide_eq_false_iff_not, Bool.not_eq_false', inS_iff]
  constructor
  · rintro ⟨h1, h2⟩
    have h1 : p < ws.length := by omega
    refine ⟨ws[p], by simp [h1], ?_⟩
    simpa [List.getD_eq_getElem?_getD, h1] using h2
  · rintro ⟨w, h1, h2⟩
    have hl := (List.getElem?_eq_some_iff.mp h1).1
    refine ⟨by omega, ?_⟩
    rw [List.getD_eq_getElem?_getD, h1]
    exact h2
theorem late_iff {ws cs : List Str} {l : Str} : lateAt ws cs l = false ↔ l = "" ∨ ws[cs.length]? = some l := by
  unfold lateAt
  by_cases hz : l = ""
  · simp [hz]
  · have hz2 : (l == ("" : Str)) = false := by simpa using hz
    by_cases h : ws.length ≤ cs.length
    · have : ws[cs.length]? = none := by simpa using h
      simp [hz2, hz, h, this]
    · have hl : cs.length < ws.length := by omega
      simp [hz2, hz, h, List.getD_eq_getElem?_getD, hl]
theorem serv_eq {ws cs : List Str} {l : Str} (hw : ws.Nodup) (hs : sS cs = cs) (hc : cs.Nodup) : servF ws cs l = (faultF ws cs l).isNone := by
  have a1 : sS (ws.take cs.length) = cs ↔ (List.range cs.length).find? (badAt ws cs) = none := by
    rw [List.find?_eq_none]
    constructor
    · intro h p hp
      have hp := List.mem_range.mp hp
      have len : (ws.take cs.length).length = cs.length := by
        have := (sS_perm (ws.take cs.length)).length_eq
        rw [h] at this
        exact this.symm
      rw [List.length_take] at len
      have hlt : p < ws.length := by omega
      have := badAt_iff (ws := ws) (cs := cs) (p := p) |>.mpr ⟨ws[p], by simp [hlt], (sS_begin hw hs hc (by omega)).mp h _ (List.mem_take_iff_getElem.mpr ⟨p, by omega, rfl⟩)⟩
      simp [this]
    · intro h
      have hb : ∀ p, p < cs.length → ∃ w, ws[p]? = some w ∧ w ∈ cs := fun p hp => badAt_iff.mp (by simpa using h p (List.mem_range.mpr hp))
      have len : cs.length ≤ ws.length := by
        rcases Nat.eq_zero_or_pos cs.length with h0 | h0
        · omega
        · obtain ⟨w, h1, _⟩ := hb (cs.length - 1) (by omega)
          have := (List.getElem?_eq_some_iff.mp h1).1
          omega
      refine (sS_begin hw hs hc len).mpr fun w hw => ?_
      obtain ⟨p, hp, rfl⟩ := List.mem_take_iff_getElem.mp hw
      obtain ⟨v, h1, h2⟩ := hb p (by omega)
      have : p < ws.length := by omega
      simp [this] at h1
      rw [h1]
      exact h2
  have a2 : (l == "" || decide ((ws.drop cs.length).take 1 = [l])) = !lateAt ws cs l := by
    have : (ws.drop cs.length).take 1 = [l] ↔ ws[cs.length]? = some l := by
      by_cases hlt : cs.length < ws.length
      · rw [List.drop_eq_getElem_cons hlt, List.take_succ_cons, List.take_zero, List.getElem?_eq_getElem hlt]
        simp only [List.cons.injEq, and_true, Option.some.injEq]
      · rw [List.drop_eq_nil_of_le (by omega)]
        simp [hlt]
    cases hl : lateAt ws cs l with
    | false =>
      rcases late_iff.mp hl with h | h
      · simp [h]
      · simp [this.mpr h]
    | true =>
      have hn : ¬ (l = "" ∨ ws[cs.length]? = some l) := fun h => by
        rw [late_iff.mpr h] at hl
        cases hl
      rw [not_or] at hn
      simp [hn.1, this, hn.2]
  unfold servF faultF
  rw [a2]
  cases hf : (List.range cs.length).find? (badAt ws cs) with
  | some p =>
    have : ¬ sS (ws.take cs.length) = cs := fun h => by
      rw [a1.mp h] at hf
      cases hf
    simp [this]
  | none =>
    simp only [a1.mpr hf, decide_true, Bool.true_and]
    cases lateAt ws cs l <;> rfl
def servB (f : Nat) : Call → SM := fun C => seq (sRet (cmp .is (Ev.call C f [var 0, var 1] []) (lit .non))) skip
def lservB : Call → SM := fun C => seq (sSet 2 (bi .len [idx (var 1) (lit (.int 0))])) (seq (sIf (cmpB .ne (bi .sorted [cut (var 0) none (some (var 2))]) (bi .list [idx (var 1) (lit (.int 0))])) (seq (sRet (lit (.bl false))) skip) skip) (seq (sRet (orE (cmp .eq (idx (var 1) (lit (.int 1))) (lit (.str ""))) (cmp .eq (cut (var 0) (some (var 2)) (some (bin .add (var 2) (lit (.int 1))))) (tupE [(false, idx (var 1) (lit (.int 1)))])))) skip))
section
variable {P : Nat → Option Def} {k i f : Nat} {s : S}
theorem serv_call (hP : P i = some ⟨2, 2, servB f⟩) (hF : P f = some ⟨6, 2, ffB⟩) {ws cs : List Str} {l : Str} (hl : cs.length ≤ 12) : run P (k + 2) i [.d (.tup (ws.map .str)), .d (qD cs l)] s = .ok (.d (.bl (faultF ws cs l).isNone)) s := by
  have h1 := ff_call (k := k) (s := ⟨[some (.d (.tup (ws.map .str))), some (.d (qD cs l))], s.mem⟩) hF (ws := ws) (l := l) hl
  have e : servB f (run P (k + 1)) ⟨[some (.d (.tup (ws.map .str))), some (.d (qD cs l))], s.mem⟩ = .ret (.d (.bl (faultF ws cs l).isNone)) ⟨[some (.d (.tup (ws.map .str))), some (.d (qD cs l))], s.mem⟩ := by
    have : isD (optD (faultF ws cs l)) .non = some (faultF ws cs l).isNone := by cases faultF ws cs l <;> rfl
    simp only [servB, seq, sRet, Ev.lift, cmp, EM.bind, Ev.call, passes, pass, var, keep, pure_at, h1, get, Out.look, Ev.opt, COp.go, lit, this, List.getElem?_cons_succ, List.getElem?_cons_zero, List.map_nil, List.append_nil, Option.map_some]
  rw [run_at hP rfl (by show 2 ≤ 2; decide)]
  show leave s (servB f (run P (k + 1)) ⟨[some (.d (.tup (ws.map .str))), some (.d (qD cs l))], s.mem⟩) = _
  rw [e]
  exact leave_d ..
theorem lserv_call (hP : P i = some ⟨3, 2, lservB⟩) {ws cs : List Str} {l : Str} (hl : cs.length ≤ 12) : run P (k + 1) i [.d (.tup (ws.map .str)), .d (qD cs l)] s = .ok (.d (.bl (servF ws cs l))) s := by
  have e : ∃ env, lservB (run P k) ⟨[some (.d (.tup (ws.map .str))), some (.d (qD cs l)), none], s.mem⟩ = .ret (.d (.bl (servF ws cs l))) ⟨env, s.mem⟩ := by
    have c1 : cutL (ws.map D.str) none (some (cs.length : Int)) = (ws.take cs.length).map .str := by
      rw [cut_to _ (by omega)]
      simp
    have c2 : cutL (ws.map D.str) (some (cs.length : Int)) (some ((cs.length : Int) + 1)) = ((ws.drop cs.length).take 1).map .str := by
      rw [cut_one, List.map_take, List.map_drop]
    refine ⟨[some (.d (.tup (ws.map .str))), some (.d (qD cs l)), some (.d (.int cs.length))], ?_⟩
    by_cases h1 : sS (ws.take cs.length) = cs
    · by_cases h2 : l = ""
      · subst h2
        have g1 : okEq (.lst (cs.map .str)) (.lst (cs.map .str)) = true := okL cs cs
        have g2 : eqD (.lst (cs.map .str)) (.lst (cs.map .str)) = true := by rw [eqL]; simp
        have g3 : okEq (.str (Str.ofString "")) (.str (Str.ofString "")) = true := okS _ _
        simp only [lservB, servF, h1, seq, sSet, sIf, sRet, skip, Ev.lift, bi, args, gets, EM.bind, var, idx, idxD, pr0, pr1, lit, get, Out.look, Ev.opt, lenT, EM.pure, store, cmpB, cmp, COp.go, cut, ends, asI, cutD, c1, c2, sort_bit, list_bi, g1, g2, g3, orE, okS, eqS, truth, List.getElem?_cons_succ, List.getElem?_cons_zero, Option.map_some, if_true, Bool.not_true, Bool.false_eq_true, if_false, List.set, decide_true, Bool.true_and, beq_self_eq_true, Bool.true_or]
      · have h3 : (l == ("" : Str)) = false := by simpa using h2
        have g1 : okEq (.lst (cs.map .str)) (.lst (cs.map .str)) = true := okL cs cs
        have g2 : eqD (.lst (cs.map .str)) (.lst (cs.map .str)) = true := by rw [eqL]; simp
        have g3 : okEq (.tup (((ws.drop cs.length).take 1).map .str)) (.tup [.str l]) = true := okT _ [l]
        have g4 : eqD (.tup (((ws.drop cs.length).take 1).map .str)) (.tup [.str l]) = decide ((ws.drop cs.length).take 1 = [l]) := eqT _ [l]
        simp only [lservB, servF, h1, seq, sSet, sIf, sRet, skip, Ev.lift, bi, args, gets, EM.bind, var, idx, idxD, pr0, pr1, lit, get, Out.look, Ev.opt, lenT, EM.pure, store, cmpB, cmp, COp.go, cut, ends, asI, cutD, c1, c2, sort_bit, list_bi, g1, g2, g3, g4, orE, okS, eqS, truth, bin, BOp.go, addD, tupE, els, keep, few, LIM, h3, List.getElem?_cons_succ, List.getElem?_cons_zero, Option.map_some, if_true, Bool.not_true, Bool.false_eq_true, if_false, List.set, decide_true, Bool.true_and, Bool.false_or, List.length_cons, List.length_nil, Nat.reduceAdd, Nat.reduceLeDiff]
    · have g1 : okEq (.lst ((sS (ws.take cs.length)).map .str)) (.lst (cs.map .str)) = true := okL _ cs
      have g2 : eqD (.lst ((sS (ws.take cs.length)).map .str)) (.lst (cs.map .str)) = false := by rw [eqL]; simpa using h1
      simp only [lservB, servF, h1, seq, sSet, sIf, sRet, skip, Ev.lift, bi, args, gets, EM.bind, var, idx, idxD, pr0, pr1, lit, get, Out.look, Ev.opt, lenT, EM.pure, store, cmpB, cmp, COp.go, cut, ends, asI, cutD, c1, c2, sort_bit, list_bi, g1, g2, List.getElem?_cons_succ, List.getElem?_cons_zero, Option.map_some, if_true, Bool.not_false, List.set, decide_false, Bool.false_and]
  obtain ⟨env, e⟩ := e
  rw [run_at hP rfl (by show 2 ≤ 3; decide)]
  show leave s (lservB (run P k) ⟨[some (.d (.tup (ws.map .str))), some (.d (qD cs l)), none], s.mem⟩) = _
  rw [e]
  exact leave_d ..
def bagB : Call → SM := fun C => seq (sRet (lstE [(false, lit (.int 0)), (false, lit (.int 1234567891)), (false, lit (.int 0)), (false, lc [1] (.one 1) (seqE (cut (var 0) none (some (lit (.int 63))))) yes (bi .abs [var 1]))])) skip
theorem bag_call (hP : P i = some ⟨2, 1, bagB⟩) (ns : List Int) : ∃ x, run P (k + 1) i [.d (.lz (ns.map .int))] s = .ok (.new x) s ∧ Bag 0 x := by
  have hl := lc_at (v := 1) (env := [some (.d (.lz (ns.map .int))), none]) (m := s.mem) (it := seqE (cut (var 0) none (some (lit (.int 63))))) (c := yes) (el := bi .abs [var 1]) (p := fun _ => true) (g := fun d => match d with | .int z => .int (if z < 0 then -z else z) | d => d) (s0 := ⟨[some (.d (.lz (ns.map .int))), none], s.mem⟩) (ds := (ns.take 63).map .int)
    (by simp [seqE, cut, EM.bind, var, ends, lit, EM.pure, get, Out.look, Ev.opt, asI, cutD, cut_to _ (show (0 : Int) ≤ 63 by decide), keep, walkD]) (by
      rw [List.length_map, List.length_take]
      show _ < 1000000
      omega)
    (fun d hd => by
      obtain ⟨z, _, rfl⟩ := List.mem_map.mp hd
      refine ⟨rfl, fun _ => ?_⟩
      simp [bi, args, EM.bind, var, EM.pure, gets, get, Out.look, Ev.opt, Bi.go])
  rw [List.filter_eq_self.mpr fun _ _ => rfl, List.map_map] at hl
  refine ⟨bagD 0 1234567891 0 ((ns.take 63).map fun z => if z < 0 then -z else z), ?_, 0, 1234567891, 0, _, rfl, by decide, by decide, by decide, by decide, by decide, fun z hz => ?_⟩
  · have e : bagB (run P k) ⟨[some (.d (.lz (ns.map .int))), none], s.mem⟩ = .ret (.new (bagD 0 1234567891 0 ((ns.take 63).map fun z => if z < 0 then -z else z))) ⟨[some (.d (.lz (ns.map .int))), none], s.mem⟩ := by
      simp only [bagB, seq, sRet, Ev.lift, lstE, els, lit_at, EM.bind, pure_at, keep, hl, few, Ev.opt, bagD, List.map_map]
      rfl
    rw [run_at hP rfl (by show 1 ≤ 2; decide)]
    show leave s (bagB (run P k) ⟨[some (.d (.lz (ns.map .int))), none], s.mem⟩) = _
    rw [e]
    exact leave_new ..
  · obtain ⟨w, _, rfl⟩ := List.mem_map.mp hz
    split <;> omega
end
end Ev

set_option Elab.async false
set_option linter.all false
set_option autoImplicit false
set_option maxHeartbeats 4000000
/-! Plain lemmas, part m: two places exchanged. -/
namespace Ev
open PySem
/-! two places exchanged -/
def swp (a b k : Nat) : Nat := if k = b then a else if k = a then b else k
def swapped (us : List Str) (a b : Nat) : List Str := (List.range us.length).map fun k => us.getD (swp a b k) ""
theorem swp_lt {n a b k : Nat} (ha : a < n) (hb : b < n) (hk : k < n) : swp a b k < n := by
  unfold swp
  split
  · exact ha
  · split <;> omega
theorem swp_inj {a b i j : Nat} (h : swp a b i = swp a b j) : i = j := by
  unfold swp at h
  split at h <;> split at h <;> (try split at h) <;> (try split at h) <;> omega
theorem swap_names {us : List Str} (hu : Names us) {a b : Nat} (ha : a < us.length) (hb : b < us.length) : Names (swapped us a b) ∧ (swapped us a b).length = us.length := by
  have len : (swapped us a b).length = us.length := by simp [swapped]
  refine ⟨⟨?_, fun w hw => ?_, by rw [len]; exact hu.len⟩, len⟩
  · unfold swapped
    rw [List.Nodup, List.pairwise_map]
    refine List.Pairwise.imp_of_mem ?_ List.pairwise_lt_range
    intro i j hi hj hij he
    have hi := swp_lt ha hb (List.mem_range.mp hi)
    have hj := swp_lt ha hb (List.mem_range.mp hj)
    rw [List.getD_eq_getElem?_getD, List.getD_eq_getElem?_getD, List.getElem?_eq_getElem hi, List.getElem?_eq_getElem hj] at he
    have nd := List.pairwise_iff_getElem.mp hu.nd
    have : swp a b i = swp a b j := by
      rcases Nat.lt_trichotomy (swp a b i) (swp a b j) with h | h | h
      · exact absurd he (nd _ _ hi hj h)
      · exact h
      · exact absurd he.symm (nd _ _ hj hi h)
    have := swp_inj this
    omega
  · obtain ⟨k, hk, rfl⟩ := List.mem_map.mp hw
    have hk := swp_lt ha hb (List.mem_range.mp hk)
    rw [List.getD_eq_getElem?_getD, List.getElem?_eq_getElem hk]
    exact hu.sub _ (List.getElem_mem hk)
def swapE : EM Out := lc [8] (.one 8) (rng1 (bi .len [var 4])) yes (idx (var 4) (idx (lstE [(false, var 8), (false, var 6), (false, var 7)]) (bin .add (bi .int [cmp .eq (var 8) (var 7)]) (bin .mul (lit (.int 2)) (bi .int [andE (cmp .eq (var 8) (var 6)) (cmp .ne (var 8) (var 7))])))))
theorem three0 (x y z : D) : L2.atI [x, y, z] 0 = some x := rfl
theorem three1 (x y z : D) : L2.atI [x, y, z] 1 = some y := rfl
theorem three2 (x y z : D) : L2.atI [x, y, z] 2 = some z := rfl
theorem int_bl (b : Bool) : Bi.int.go [.bl b] = some (.d (.int (if b then 1 else 0))) := rfl
theorem m20 : mulOk 2 0 = true := by decide +kernel
theorem m21 : mulOk 2 1 = true := by decide +kernel
theorem swap_ok {us : List Str} {e0 e1 e2 e3 e5 e8 e9 e10 : Option Slot} {m : Mem} {a b : Nat} (ha : a < us.length) (hb : b < us.length) (hl : us.length ≤ 12) :
    swapE ⟨[e0, e1, e2, e3, some (.d (.tup (us.map .str))), e5, some (.d (.int a)), some (.d (.int b)), e8, e9, e10], m⟩ = .ok (.new (.lst ((swapped us a b).map .str))) ⟨[e0, e1, e2, e3, some (.d (.tup (us.map .str))), e5, some (.d (.int a)), some (.d (.int b)), e8, e9, e10], m⟩ := by
  have h := lc_at (v := 8) (env := [e0, e1, e2, e3, some (.d (.tup (us.map .str))), e5, some (.d (.int a)), some (.d (.int b)), e8, e9, e10]) (m := m) (it := rng1 (bi .len [var 4])) (c := yes) (el := idx (var 4) (idx (lstE [(false, var 8), (false, var 6), (false, var 7)]) (bin .add (bi .int [cmp .eq (var 8) (var 7)]) (bin .mul (lit (.int 2)) (bi .int [andE (cmp .eq (var 8) (var 6)) (cmp .ne (var 8) (var 7))])))))
    (p := fun _ => true) (g := fun d => match d with | .int i => .str (us.getD (swp a b i.toNat) "") | d => d) (s0 := ⟨[e0, e1, e2, e3, some (.d (.tup (us.map .str))), e5, some (.d (.int a)), some (.d (.int b)), e8, e9, e10], m⟩) (ds := (List.range us.length).map fun (i : Nat) => .int (0 + (i : Int)))
    (by
      have a1 : -(1000000 : Int) ≤ (us.length : Int) ∧ (us.length : Int) ≤ 1000000 := by omega
      simp [rng1, keeps, EM.bind, bi, args, gets, var, get, Out.look, Ev.opt, lenT, EM.pure, keep, rngD1, LIM, a1, upto])
    (by rw [List.length_map, List.length_range]; show _ < 1000000; omega)
    (fun d hd => by
      obtain ⟨k, hk, rfl⟩ := List.mem_map.mp hd
      have hk := List.mem_range.mp hk
      refine ⟨rfl, fun _ => ?_⟩
      have hs := swp_lt ha hb hk
      have hx : ∀ i : Nat, i < us.length → L2.atI (us.map D.str) (i : Int) = some (.str (us.getD i "")) := fun i hi => atI_nat (by omega) (by
        simp [hi, List.getD_eq_getElem?_getD])
      have e0 : (0 + (k : Int)) = (k : Int) := by omega
      by_cases h1 : k = b
      · subst h1
        have hx := hx a ha
        by_cases h2 : k = a
        · subst h2
          simp [e0, swp, idx, lstE, els, bin, bi, cmp, andE, args, gets, EM.bind, var, keep, EM.pure, few, LIM, Ev.opt, get, Out.look, COp.go, okI, eqI, truth, lit, BOp.go, mulD, addD, idxD, int_bl, three1, hx, m20, m21]
        · have n2 : ¬ (k : Int) = (a : Int) := by omega
          simp [e0, n2, swp, idx, lstE, els, bin, bi, cmp, andE, args, gets, EM.bind, var, keep, EM.pure, few, LIM, Ev.opt, get, Out.look, COp.go, okI, eqI, truth, lit, BOp.go, mulD, addD, idxD, int_bl, three1, hx, m20, m21]
      · have n1 : ¬ (k : Int) = (b : Int) := by omega
        by_cases h2 : k = a
        · subst h2
          have hx := hx b hb
          simp [e0, swp, h1, n1, idx, lstE, els, bin, bi, cmp, andE, args, gets, EM.bind, var, keep, EM.pure, few, LIM, Ev.opt, get, Out.look, COp.go, okI, eqI, truth, lit, BOp.go, mulD, addD, idxD, int_bl, three2, hx, m20, m21]
        · have n2 : ¬ (k : Int) = (a : Int) := by omega
          have hx := hx k hk
          simp [e0, swp, h1, h2, n1, n2, idx, lstE, els, bin, bi, cmp, andE, args, gets, EM.bind, var, keep, EM.pure, few, LIM, Ev.opt, get, Out.look, COp.go, okI, eqI, truth, lit, BOp.go, mulD, addD, idxD, int_bl, three0, hx, m20, m21])
  rw [List.filter_eq_self.mpr fun _ _ => rfl, List.map_map] at h
  unfold swapE
  rw [h]
  unfold swapped
  rw [List.map_map]
  refine congrArg (fun z => Res.ok (Out.new (.lst z)) _) (List.map_congr_left fun k _ => ?_)
  have e0 : (0 + (k : Int)).toNat = k := by omega
  simp only [Function.comp, e0]
end Ev

set_option Elab.async false
set_option linter.all false
set_option autoImplicit false
set_option maxHeartbeats 4000000
/-! Plain lemmas, part n: rows of questions; what an index serves. -/
namespace Ev
open PySem
abbrev Qt := List Str × Str
abbrev qT (q : Qt) : D := qD q.1 q.2
/-! ### lists of questions -/
/-- small trees of texts of the menu -/
structure Small (d : D) : Prop where
  fl : d.flat 50 = true
  sh : d.py.showable = true
  st : d.strs = true
  wt : d.wt ≤ 2000
theorem flat_up : ∀ (n : Nat) (d : D), d.flat n = true → d.flat (n + 1) = true
  | n, .non, h => rfl
  | n, .bl _, h => rfl
  | n, .int _, h => rfl
  | n, .str _, h => rfl
  | 0, .tup _, h => by simp [D.flat] at h
  | 0, .lst _, h => by simp [D.flat] at h
  | n + 1, .tup xs, h => by
    simp only [D.flat] at h ⊢
    exact ups n xs h
  | n + 1, .lst xs, h => by
    simp only [D.flat] at h ⊢
    exact ups n xs h
  | n, .dct _ _, h => by simp [D.flat] at h
  | n, .set _, h => by simp [D.flat] at h
  | n, .ins _ _ _, h => by simp [D.flat] at h
  | n, .err _ _, h => by simp [D.flat] at h
  | n, .lz _, h => by simp [D.flat] at h
where
  ups : ∀ (n : Nat) (ds : List D), D.flats n ds = true → D.flats (n + 1) ds = true
    | _, [], _ => rfl
    | n, d :: ds, h => by
      rw [D.flats, Bool.and_eq_true] at h ⊢
      exact ⟨flat_up n d h.1, ups n ds h.2⟩
theorem flat_le {n m : Nat} {d : D} (h : d.flat n = true) (l : n ≤ m) : d.flat m = true := by
  obtain ⟨k, rfl⟩ := Nat.exists_eq_add_of_le l
  induction k with
  | zero => exact h
  | succ k ih => exact flat_up _ _ (ih (Nat.le_add_right _ _))
theorem flats_of {n : Nat} : ∀ {ds : List D}, (∀ d ∈ ds, d.flat n = true) → D.flats n ds = true
  | [], _ => rfl
  | d :: ds, h => by
    rw [D.flats, h d List.mem_cons_self, flats_of fun x hx => h x (List.mem_cons_of_mem _ hx)]
    rfl
theorem Small.many : ∀ {ds : List D}, (∀ d ∈ ds, Small d) → D.strss ds = true ∧ D.wts ds ≤ 2002 * ds.length ∧ PyData.showableAll (D.pys ds) = true
  | [], _ => by simp [D.strss, D.wts, D.pys, PyData.showableAll]
  | d :: ds, h => by
    obtain ⟨h1, h2, h3⟩ := Small.many fun x hx => h x (List.mem_cons_of_mem _ hx)
    have hd := h d List.mem_cons_self
    refine ⟨by rw [D.strss, hd.st, h1]; rfl, ?_, by rw [D.pys, PyData.showableAll, hd.sh, h3]; rfl⟩
    rw [D.wts, List.length_cons]
    have := hd.wt
    omega
theorem Small.list {ds : List D} (h : ∀ d ∈ ds, Small d) (hl : ds.length ≤ 400) : (D.lst ds).flat 60 = true ∧ showOk (.lst ds) = true ∧ (D.tup ds).flat 60 = true ∧ showOk (.tup ds) = true := by
  obtain ⟨h1, h2, h3⟩ := Small.many h
  have hf : D.flats 59 ds = true := flats_of fun d hd => flat_le (h d hd).fl (by decide)
  have f1 : (D.lst ds).flat 60 = true := by simpa [D.flat] using hf
  have f2 : (D.tup ds).flat 60 = true := by simpa [D.flat] using hf
  refine ⟨f1, show_of f1 (by simpa [D.py, PyData.showable] using h3) (by simpa [D.strs] using h1) ?_, f2, show_of f2 (by simpa [D.py, PyData.showable] using h3) (by simpa [D.strs] using h1) ?_⟩
  · simp only [D.wt, LIM]; omega
  · simp only [D.wt, LIM]; omega
theorem small_q {cs : List Str} {l : Str} (h : ∀ c ∈ cs, c ∈ menu) (hl : l = "" ∨ l ∈ menu) (hn : cs.length ≤ 12) : Small (qD cs l) := by
  obtain ⟨h1, h2, h3⟩ := strs_ok h
  have hl2 : PyData.strOk l = true ∧ l.length ≤ 8 := by
    rcases hl with rfl | hl
    · decide +kernel
    · exact menu_small l hl
  refine ⟨?_, ?_, ?_, ?_⟩
  · simp [D.flat, D.flats, flatsS]
  · simp [D.py, D.pys, PyData.showable, PyData.showableAll, h3]
  · simp [D.strs, D.strss, h1, hl2.1]
  · simp only [D.wt, D.wts]; omega
theorem Qn.small {cs : List Str} {l : Str} (h : Qn cs l) : Small (qD cs l) := small_q h.sub h.last h.len
theorem alike_strs : ∀ xs ys : List Str, PySem.W.alikeAll (D.pys (xs.map .str)) (D.pys (ys.map .str)) = true
  | [], ys => by cases ys <;> simp [D.pys, PySem.W.alikeAll]
  | x :: xs, [] => by simp [D.pys, PySem.W.alikeAll]
  | x :: xs, y :: ys => by simp [D.pys, PySem.W.alikeAll, D.py, PySem.W.alike, alike_strs xs ys]
theorem alike_q (p q : Qt) : PySem.W.alike (qT p).py (qT q).py = true := by
  simp [D.py, D.pys, PySem.W.alike, PySem.W.alikeAll, alike_strs]
theorem sortable_q (qs : List Qt) : sortable (qs.map qT) = true := by
  unfold sortable
  have h1 : D.flats 60 (qs.map qT) = true := flats_of fun d hd => by
    obtain ⟨q, _, rfl⟩ := List.mem_map.mp hd
    exact flatQ q.1 q.2
  rw [h1]
  have h2 : ((qs.map qT).all fun x => (qs.map qT).all fun y => PySem.W.alike x.py y.py) = true := by
    refine List.all_eq_true.mpr fun x hx => List.all_eq_true.mpr fun y hy => ?_
    obtain ⟨p, _, rfl⟩ := List.mem_map.mp hx
    obtain ⟨q, _, rfl⟩ := List.mem_map.mp hy
    exact alike_q p q
  rw [h2]
  simp
theorem sort_q (qs : List Qt) : Bi.sorted.go [.lst (qs.map qT)] = some (.new (.lst (sortD (qs.map qT)))) := by
  simp only [Bi.go]
  rw [if_pos (sortable_q qs)]
theorem sortD_perm (ds : List D) : (sortD ds).Perm ds := List.mergeSort_perm _ _
theorem qT_inj {p q : Qt} (h : qT p = qT q) : p = q := by
  simp only [qD, D.tup.injEq, List.cons.injEq, D.str.injEq, and_true] at h
  obtain ⟨h1, h2⟩ := h
  refine Prod.ext ?_ h2
  have key : ∀ xs ys : List Str, xs.map D.str = ys.map D.str → xs = ys := by
    intro xs
    induction xs with
    | nil => intro ys h; cases ys with
      | nil => rfl
      | cons y ys => simp at h
    | cons x xs ih => intro ys h; cases ys with
      | nil => simp at h
      | cons y ys =>
        simp only [List.map_cons, List.cons.injEq, D.str.injEq] at h
        rw [h.1, ih ys h.2]
  exact key _ _ h1
theorem in_q {ds : List D} {qs : List Qt} (h : ds.Perm (qs.map qT)) (q : Qt) : (ds.any fun y => eqD y (qT q)) = decide (q ∈ qs) := by
  rw [Bool.eq_iff_iff]
  simp only [List.any_eq_true, decide_eq_true_eq]
  constructor
  · rintro ⟨d, hd, e⟩
    obtain ⟨p, hp, rfl⟩ := List.mem_map.mp (h.mem_iff.mp hd)
    rw [eqQ] at e
    simp only [decide_eq_true_eq] at e
    obtain ⟨e1, e2⟩ := e
    have : p = q := Prod.ext e1 e2
    rw [← this]
    exact hp
  · intro hq
    exact ⟨qT q, h.mem_iff.mpr (List.mem_map.mpr ⟨q, hq, rfl⟩), by rw [eqQ]; simp⟩

/-! ### what an index serves -/
def servAt (ws : List Str) (p : Nat) : List Qt := [(sS (ws.take p), ws.getD p ""), (sS (ws.take (p + 1)), "")]
def served (ws : List Str) : List Qt := (List.range ws.length).flatMap (servAt ws)
theorem served_len (ws : List Str) : (served ws).length = 2 * ws.length := by
  unfold served
  rw [List.length_flatMap]
  have : (List.map (fun a => (servAt ws a).length) (List.range ws.length)) = List.replicate ws.length 2 := by
    rw [List.eq_replicate_iff]
    exact ⟨by simp, fun b hb => by obtain ⟨a, _, rfl⟩ := List.mem_map.mp hb; rfl⟩
  rw [this]
  simp
  omega
theorem mem_served {ws : List Str} {q : Qt} : q ∈ served ws ↔ ∃ p, p < ws.length ∧ (q = ((sS (ws.take p), ws.getD p "") : Qt) ∨ q = ((sS (ws.take (p + 1)), ("" : Str)) : Qt)) := by
  unfold served servAt
  simp only [List.mem_flatMap, List.mem_range, List.mem_cons, List.not_mem_nil, or_false]
theorem sS_len (ws : List Str) : (sS ws).length = ws.length := (sS_perm ws).length_eq
theorem mem_serv {ws : List Str} {cs : List Str} {l : Str} (hw : Names ws) (hq : cs ≠ [] ∨ l ≠ "") : (cs, l) ∈ served ws ↔ servF ws cs l = true := by
  have em : ∀ p, p < ws.length → ws.getD p "" ≠ "" := fun p hp z => by
    rw [List.getD_eq_getElem?_getD, List.getElem?_eq_getElem hp, Option.getD_some] at z
    exact empty_out (z ▸ hw.sub _ (List.getElem_mem hp))
  have one : ∀ p, p < ws.length → (ws.drop p).take 1 = [ws.getD p ""] := fun p hp => by
    rw [List.drop_eq_getElem_cons hp, List.getD_eq_getElem?_getD, List.getElem?_eq_getElem hp]
    rfl
  rw [mem_served]
  unfold servF
  simp only [Bool.and_eq_true, Bool.or_eq_true, decide_eq_true_eq, beq_iff_eq]
  constructor
  · rintro ⟨p, hp, h | h⟩
    · simp only [Prod.mk.injEq] at h
      obtain ⟨rfl, rfl⟩ := h
      have e : (sS (ws.take p)).length = p := by rw [sS_len, List.length_take]; omega
      rw [e, one p hp]
      exact ⟨rfl, .inr rfl⟩
    · simp only [Prod.mk.injEq] at h
      obtain ⟨rfl, rfl⟩ := h
      have e : (sS (ws.take (p + 1))).length = p + 1 := by rw [sS_len, List.length_take]; omega
      rw [e]
      exact ⟨rfl, .inl rfl⟩
  · rintro ⟨h1, h2⟩
    have hl : cs.length ≤ ws.length := by
      have := congrArg List.length h1
      rw [sS_len, List.length_take] at this
      omega
    by_cases hz : l = ""
    · subst hz
      have hc : 0 < cs.length := List.length_pos_iff.mpr (hq.resolve_right fun h => h rfl)
      refine ⟨cs.length - 1, by omega, .inr ?_⟩
      rw [show cs.length - 1 + 1 = cs.length by omega, h1]
    · have h2 := h2.resolve_left hz
      have hp : cs.length < ws.length := by
        apply Nat.lt_of_le_of_ne hl
        intro z
        rw [z, List.drop_length] at h2
        simp at h2
      refine ⟨cs.length, hp, .inl ?_⟩
      rw [one _ hp] at h2
      simp only [List.cons.injEq, and_true] at h2
      rw [h1, h2]
theorem served_qn {ws : List Str} (hw : Names ws) {q : Qt} (h : q ∈ served ws) : Qn q.1 q.2 := by
  obtain ⟨p, hp, h⟩ := mem_served.mp h
  have hg : ws.getD p "" = ws[p] := by rw [List.getD_eq_getElem?_getD, List.getElem?_eq_getElem hp]; rfl
  rcases h with rfl | rfl
  · have hm : ws.getD p "" ∈ menu := by rw [hg]; exact hw.sub _ (List.getElem_mem hp)
    refine (hw.take p).of_sort (.inr hm) (fun z => ?_) (.inr fun z => empty_out (z ▸ hm))
    have e := List.take_append_drop p ws
    have e2 : ws.drop p = ws[p] :: ws.drop (p + 1) := List.drop_eq_getElem_cons hp
    have nd := hw.nd
    rw [← e, e2, List.nodup_append] at nd
    rw [hg] at z
    exact nd.2.2 _ z _ (List.mem_cons_self ..) rfl
  · refine (hw.take _).of_sort (.inl rfl) (fun z => empty_out ((hw.take _).sub _ z)) (.inl fun z => ?_)
    have := congrArg List.length z
    rw [List.length_take, List.length_nil] at this
    omega
theorem sort_next (ws : List Str) {p : Nat} (hp : p < ws.length) : sS (sS (ws.take p) ++ [ws.getD p ""]) = sS (ws.take (p + 1)) := by
  refine sS_eq ?_
  rw [List.take_succ, List.getElem?_eq_getElem hp, List.getD_eq_getElem?_getD, List.getElem?_eq_getElem hp]
  exact (sS_perm _).append_right _
/-! ### the two ways to list it -/
theorem take_chunk (ws : List Str) {p : Nat} (hp : p < ws.length) : ((List.range (p + 1)).flatMap (servAt ws)) = ((List.range p).flatMap (servAt ws)) ++ servAt ws p := by
  rw [List.range_succ, List.flatMap_append]
  simp
end Ev

set_option Elab.async false
set_option linter.all false
set_option autoImplicit false
set_option maxHeartbeats 4000000
/-! Plain lemmas, part o: questions_of, and a law's own list of what an index serves. -/
namespace Ev
open PySem
section
variable {P : Nat → Option Def} {k i : Nat} {s : S}
def qoT : SM := seq (sSet 4 (bi .tuple [bi .sorted [cut (var 0) none (some (var 2))]])) (seq (sExpr (ext (var 1) (lstE [(false, tupE [(false, var 4), (false, var 3)]), (false, tupE [(false, bi .tuple [bi .sorted [lstE [(true, var 4), (false, var 3)]]]), (false, lit (.str ""))])]))) skip)
def qoB : Call → SM := fun C => seq (sSet 1 (lstE [])) (seq (sFor (.many [2, 3]) (enumE (var 0)) qoT) (seq (sRet (bi .sorted [var 1])) skip))
theorem sort_one_more (xs : List Str) (w : Str) : Bi.sorted.go [.lst (List.map D.str xs ++ [.str w])] = some (.new (.lst ((sS (xs ++ [w])).map .str))) := by
  have := sort_bi (xs ++ [w])
  rw [List.map_append] at this
  exact this
theorem qo_turn {ws : List Str} {acc : List D} {p : Nat} {w : Str} {e4 : Option Slot} {m : Mem} (hw : ws.length ≤ 100) (hl : acc.length ≤ 1000) :
    qoT ⟨[some (.d (.tup (ws.map .str))), some (.own (.lst acc)), some (.d (.int p)), some (.d (.str w)), e4], m⟩ =
      .next ⟨[some (.d (.tup (ws.map .str))), some (.own (.lst (acc ++ [qD (sS (ws.take p)) w, qD (sS (sS (ws.take p) ++ [w])) ""]))), some (.d (.int p)), some (.d (.str w)), some (.d (.tup ((sS (ws.take p)).map .str)))], m⟩ := by
  have h0 : (0 : Int) ≤ (p : Int) := by omega
  have hl2 : acc.length + 2 < 1000000 := by omega
  have hp : ((p : Int)).toNat = p := rfl
  have hs : (sS (ws.take p)).length ≤ 999999 := by rw [sS_len, List.length_take]; omega
  simp [qoT, hs, seq, sSet, sExpr, Ev.lift, bi, args, gets, EM.bind, cut, ends, asI, var, get, Out.look, Ev.opt, cutD, cut_to _ h0, hp, EM.pure, sort_taket, tuple_bi, store, ext, asL, lstE, tupE, els, keep, few, LIM, items, sort_one_more, lit, putIn, hl2, skip]
theorem qo_loop {ws : List Str} (hw : ws.length ≤ 100) {m : Mem} : ∀ (j p : Nat) (e2 e3 e4 : Option Slot), p + j = ws.length → ∃ f2 f3 f4,
    loop (.many [2, 3]) qoT (((ws.map D.str).zipIdx.map fun p => D.tup [.int p.2, p.1]).drop p) ⟨[some (.d (.tup (ws.map .str))), some (.own (.lst (((List.range p).flatMap (servAt ws)).map qT))), e2, e3, e4], m⟩ =
      .next ⟨[some (.d (.tup (ws.map .str))), some (.own (.lst ((served ws).map qT))), f2, f3, f4], m⟩
  | 0, p, e2, e3, e4, h => by
    refine ⟨e2, e3, e4, ?_⟩
    have : p = ws.length := by omega
    subst this
    rw [List.drop_eq_nil_of_le (by simp)]
    rfl
  | j + 1, p, e2, e3, e4, h => by
    have hp : p < ws.length := by omega
    have hd : (((ws.map D.str).zipIdx.map fun p => D.tup [.int p.2, p.1]).drop p) = .tup [.int p, .str (ws.getD p "")] :: (((ws.map D.str).zipIdx.map fun p => D.tup [.int p.2, p.1]).drop (p + 1)) := by
      rw [List.drop_eq_getElem_cons (by simpa using hp)]
      congr 1
      simp [List.getD_eq_getElem?_getD, List.getElem?_eq_getElem hp]
    rw [hd]
    simp only [loop, Tg.put, setAll, List.set]
    have hlen : (((List.range p).flatMap (servAt ws)).map qT).length ≤ 1000 := by
      rw [List.length_map, List.length_flatMap]
      have : (List.map (fun a => (servAt ws a).length) (List.range p)) = List.replicate p 2 := by
        rw [List.eq_replicate_iff]
        exact ⟨by simp, fun b hb => by obtain ⟨a, _, rfl⟩ := List.mem_map.mp hb; rfl⟩
      rw [this]
      simp
      omega
    rw [qo_turn hw hlen]
    have e : ((List.range p).flatMap (servAt ws)).map qT ++ [qD (sS (ws.take p)) (ws.getD p ""), qD (sS (sS (ws.take p) ++ [ws.getD p ""])) ""] = ((List.range (p + 1)).flatMap (servAt ws)).map qT := by
      rw [take_chunk ws hp, List.map_append, sort_next ws hp]
      rfl
    rw [e]
    exact qo_loop hw j (p + 1) _ _ _ (by omega)
theorem qo_call (hP : P i = some ⟨5, 1, qoB⟩) {ws : List Str} (hw : ws.length ≤ 100) : run P (k + 1) i [.d (.tup (ws.map .str))] s = .ok (.new (.lst (sortD ((served ws).map qT)))) s := by
  obtain ⟨f2, f3, f4, h⟩ := qo_loop hw (m := s.mem) ws.length 0 none none none (by omega)
  rw [run_at hP rfl (by show 1 ≤ 5; decide)]
  show leave s (qoB (run P k) ⟨[some (.d (.tup (ws.map .str))), none, none, none, none], s.mem⟩) = _
  have e : qoB (run P k) ⟨[some (.d (.tup (ws.map .str))), none, none, none, none], s.mem⟩ = .ret (.new (.lst (sortD ((served ws).map qT)))) ⟨[some (.d (.tup (ws.map .str))), some (.own (.lst ((served ws).map qT))), f2, f3, f4], s.mem⟩ := by
    simp only [List.drop_zero, List.range_zero, List.flatMap_nil, List.map_nil] at h
    simp [qoB, seq, sSet, sFor, Ev.lift, lstE, els, few, LIM, EM.bind, EM.pure, Ev.opt, store, enumE, keeps, var, keep, enumD, h, sRet, bi, args, gets, get, Out.look, sort_q]
  rw [e]
  exact leave_new s _ _
def lsB : Call → SM := fun C => seq (sSet 1 (lstE [])) (seq (sFor (.one 2) (rng1 (bi .len [var 0])) lsT) (seq (sRet (var 1)) skip))
where lsT : SM := seq (sExpr (mt .append (var 1) [tupE [(false, bi .tuple [bi .sorted [cut (var 0) none (some (var 2))]]), (false, idx (var 0) (var 2))]])) (seq (sExpr (mt .append (var 1) [tupE [(false, bi .tuple [bi .sorted [cut (var 0) none (some (bin .add (var 2) (lit (.int 1))))]]), (false, lit (.str ""))]])) skip)
theorem ls_turn {ws : List Str} {acc : List D} {p : Nat} {m : Mem} (hp : p < ws.length) (hl : acc.length ≤ 1000) :
    lsB.lsT ⟨[some (.d (.tup (ws.map .str))), some (.own (.lst acc)), some (.d (.int p))], m⟩ =
      .next ⟨[some (.d (.tup (ws.map .str))), some (.own (.lst (acc ++ (servAt ws p).map qT))), some (.d (.int p))], m⟩ := by
  have h0 : (0 : Int) ≤ (p : Int) := by omega
  have h1 : (0 : Int) ≤ (p : Int) + 1 := by omega
  have hl2 : acc.length < 1000000 := by omega
  have hl3 : acc.length + 1 < 1000000 := by omega
  have q1 : ((p : Int)).toNat = p := rfl
  have q2 : ((p : Int) + 1).toNat = p + 1 := by omega
  have ha : L2.atI (ws.map D.str) (p : Int) = some (.str (ws.getD p "")) := atI_nat h0 (by simp [q1, List.getD_eq_getElem?_getD, List.getElem?_eq_getElem hp])
  have e : (servAt ws p).map qT = [qD (sS (ws.take p)) (ws.getD p ""), qD (sS (ws.take (p + 1))) ""] := rfl
  rw [e]
  simp [lsB.lsT, seq, sExpr, Ev.lift, mt, asL, bi, args, gets, EM.bind, cut, ends, asI, var, get, Out.look, Ev.opt, cutD, cut_to _ h0, cut_to _ h1, q1, q2, EM.pure, sort_taket, tuple_bi, tupE, els, keep, keeps, few, LIM, lit, putIn, hl2, hl3, skip, idx, idxD, ha, Mt.go, bin, BOp.go, addD]
theorem ls_loop {ws : List Str} (hw : ws.length ≤ 100) {m : Mem} : ∀ (j p : Nat) (e2 : Option Slot), p + j = ws.length → ∃ f2,
    loop (.one 2) lsB.lsT ((upto 0 ws.length).drop p) ⟨[some (.d (.tup (ws.map .str))), some (.own (.lst (((List.range p).flatMap (servAt ws)).map qT))), e2], m⟩ =
      .next ⟨[some (.d (.tup (ws.map .str))), some (.own (.lst ((served ws).map qT))), f2], m⟩
  | 0, p, e2, h => by
    refine ⟨e2, ?_⟩
    have : p = ws.length := by omega
    subst this
    rw [List.drop_eq_nil_of_le (by simp [upto])]
    rfl
  | j + 1, p, e2, h => by
    have hp : p < ws.length := by omega
    have hd : (upto 0 ws.length).drop p = .int p :: (upto 0 ws.length).drop (p + 1) := by
      rw [List.drop_eq_getElem_cons (by simpa [upto] using hp)]
      congr 1
      simp [upto]
    rw [hd]
    simp only [loop, Tg.put, List.set]
    have hlen : (((List.range p).flatMap (servAt ws)).map qT).length ≤ 1000 := by
      rw [List.length_map, List.length_flatMap]
      have : (List.map (fun a => (servAt ws a).length) (List.range p)) = List.replicate p 2 := by
        rw [List.eq_replicate_iff]
        exact ⟨by simp, fun b hb => by obtain ⟨a, _, rfl⟩ := List.mem_map.mp hb; rfl⟩
      rw [this]
      simp
      omega
    rw [ls_turn hp hlen, ← List.map_append, ← take_chunk ws hp]
    exact ls_loop hw j (p + 1) _ (by omega)
theorem ls_call (hP : P i = some ⟨3, 1, lsB⟩) {ws : List Str} (hw : ws.length ≤ 100) : run P (k + 1) i [.d (.tup (ws.map .str))] s = .ok (.new (.lst ((served ws).map qT))) s := by
  obtain ⟨f2, h⟩ := ls_loop hw (m := s.mem) ws.length 0 none (by omega)
  rw [run_at hP rfl (by show 1 ≤ 3; decide)]
  show leave s (lsB (run P k) ⟨[some (.d (.tup (ws.map .str))), none, none], s.mem⟩) = _
  have hr : ((ws.length : Int)) ≤ 1000000 := by omega
  have e : lsB (run P k) ⟨[some (.d (.tup (ws.map .str))), none, none], s.mem⟩ = .ret (.own 1) ⟨[some (.d (.tup (ws.map .str))), some (.own (.lst ((served ws).map qT))), f2], s.mem⟩ := by
    simp only [List.drop_zero, List.range_zero, List.flatMap_nil, List.map_nil] at h
    have h' : loop (.one 2) lsB.lsT (upto 0 (ws.length : Int).toNat) ⟨[some (.d (.tup (ws.map .str))), some (.own (.lst [])), none], s.mem⟩ = .next ⟨[some (.d (.tup (ws.map .str))), some (.own (.lst ((served ws).map qT))), f2], s.mem⟩ := h
    have hm : -(1000000 : Int) ≤ (ws.length : Int) := by omega
    simp [lsB, seq, sSet, sFor, Ev.lift, lstE, els, few, LIM, EM.bind, EM.pure, Ev.opt, store, rng1, keeps, var, keep, rngD1, bi, args, gets, get, Out.look, lenT, hr, hm, h, sRet]
  rw [e]
  simp [leave]
end
end Ev

set_option Elab.async false
set_option linter.all false
set_option autoImplicit false
set_option maxHeartbeats 4000000
/-! Plain lemmas, part p: sorted(set(..)) of questions; columns_of; forced. -/
namespace Ev
open PySem
def nkQ (q : Qt) : NK := .tup [.tup (q.1.map .text), .text q.2]
theorem nks_text : ∀ xs : List Str, D.nks (xs.map .str) = some (xs.map NestedKey.text)
  | [] => rfl
  | x :: xs => by rw [List.map_cons, D.nks, nks_text xs]; rfl
theorem nk_q (q : Qt) : (qT q).nk = some (nkQ q) := by
  simp only [D.nk, D.nks, nks_text, nkQ, Option.map_some, Option.bind_some]
theorem nks_q : ∀ qs : List Qt, D.nks (qs.map qT) = some (qs.map nkQ)
  | [] => rfl
  | q :: qs => by rw [List.map_cons, D.nks, nk_q, nks_q qs]; rfl
theorem ofNK_q (q : Qt) : ofNK (nkQ q) = qT q := nk_of (nk_q q)
theorem nkQ_inj {p q : Qt} (h : nkQ p = nkQ q) : p = q := qT_inj (by rw [← ofNK_q, ← ofNK_q, h])
def dedupQ : List Qt → List Qt
  | [] => []
  | q :: qs => q :: (dedupQ qs).filter fun x => !decide (x = q)
theorem dedup_q : ∀ qs : List Qt, dedup (qs.map nkQ) = (dedupQ qs).map nkQ
  | [] => rfl
  | q :: qs => by
    rw [List.map_cons, dedup, dedupQ, List.map_cons, dedup_q qs, List.filter_map]
    congr 2
    refine List.filter_congr fun x _ => ?_
    show (!NestedKey.beq (nkQ x) (nkQ q)) = _
    rw [← NestedKey.decide_eq]
    by_cases h : x = q
    · simp [h]
    · have : nkQ x ≠ nkQ q := fun z => h (nkQ_inj z)
      simp [h, this]
theorem mem_dedupQ : ∀ {qs : List Qt} {x : Qt}, x ∈ dedupQ qs ↔ x ∈ qs
  | [], x => by simp [dedupQ]
  | q :: qs, x => by
    simp only [dedupQ, List.mem_cons, List.mem_filter, mem_dedupQ (qs := qs), Bool.not_eq_true', decide_eq_false_iff_not]
    by_cases h : x = q <;> simp [h]
theorem nodup_dedupQ : ∀ qs : List Qt, (dedupQ qs).Nodup
  | [] => List.nodup_nil
  | q :: qs => by
    refine List.nodup_cons.mpr ⟨fun h => ?_, (nodup_dedupQ qs).filter _⟩
    have := (List.mem_filter.mp h).2
    simp at this
theorem nkQ_depth (q : Qt) : (nkQ q).depth ≤ 8 := by
  have key : ∀ xs : List Str, NestedKey.depthAll (xs.map NestedKey.text) = 0 := by
    intro xs
    induction xs with
    | nil => rfl
    | cons x xs ih => rw [List.map_cons, NestedKey.depthAll, ih]; rfl
  simp [nkQ, NestedKey.depth, NestedKey.depthAll, key]
theorem okSet_q {qs : List Qt} (h : qs.length < 1200) : okSet (qs.map nkQ) = true := by
  unfold okSet
  have h1 : (qs.map nkQ).all NK.tp = true := List.all_eq_true.mpr fun x hx => by
    obtain ⟨q, _, rfl⟩ := List.mem_map.mp hx
    rfl
  have h2 : (qs.map nkQ).all (fun k => decide (k.depth ≤ 8)) = true := List.all_eq_true.mpr fun x hx => by
    obtain ⟨q, _, rfl⟩ := List.mem_map.mp hx
    exact decide_eq_true (nkQ_depth q)
  rw [h1, h2]
  simp [MANY, h]
theorem set_q {qs : List Qt} {u : D} (hu : u = .lst (qs.map qT) ∨ u = .tup (qs.map qT)) (h : qs.length < 1200) : sortSetG [u] = some (.new (.lst (sortD ((dedupQ qs).map qT)))) := by
  have e : ((dedup (qs.map nkQ)).map ofNK) = (dedupQ qs).map qT := by
    rw [dedup_q, List.map_map]
    exact List.map_congr_left fun q _ => ofNK_q q
  have hi : items u = some (qs.map qT) := by rcases hu with rfl | rfl <;> rfl
  simp only [sortSetG, hi, Option.bind_some, nks_q]
  rw [e, if_pos ⟨okSet_q h, sortable_q _⟩]
theorem sortQ_eq {ps qs : List Qt} (h : ps.Perm qs) : sortD (ps.map qT) = sortD (qs.map qT) := by
  have e : ∀ qs : List Qt, qs.map qT = (qs.map nkQ).map ofNK := fun qs => by
    rw [List.map_map]
    exact List.map_congr_left fun q _ => (ofNK_q q).symm
  rw [e, e]
  refine sort_one (h.map nkQ) fun x hx y hy => ?_
  obtain ⟨p, _, rfl⟩ := List.mem_map.mp hx
  obtain ⟨q, _, rfl⟩ := List.mem_map.mp hy
  rw [ofNK_q, ofNK_q]
  exact alike_q p q
theorem sortQ_mem {ps qs : List Qt} (h1 : ps.Nodup) (h2 : qs.Nodup) (h : ∀ q, q ∈ ps ↔ q ∈ qs) : sortD (ps.map qT) = sortD (qs.map qT) := sortQ_eq ((List.perm_ext_iff_of_nodup h1 h2).mpr h)

/-! ### columns_of -/
section
variable {P : Nat → Option Def} {k i f : Nat} {s : S}
def colsF (cs : List Str) (l : Str) : List Str := if l = "" then cs else sS (cs ++ [l])
def colsB : Call → SM := fun C => seq (sUnp (.many [1, 2]) (var 0)) (seq (sRet (iteE (cmpB .eq (var 2) (lit (.str ""))) (var 1) (bi .tuple [bi .sorted [lstE [(true, var 1), (false, var 2)]]]))) skip)
theorem cols_call (hP : P i = some ⟨3, 1, colsB⟩) {cs : List Str} {l : Str} (h : cs.length ≤ 100) : run P (k + 1) i [.d (qD cs l)] s = .ok (.d (.tup ((colsF cs l).map .str))) s := by
  have hl : cs.length ≤ 999999 := by omega
  have e : colsB (run P k) ⟨[some (.d (qD cs l)), none, none], s.mem⟩ = .ret (.d (.tup ((colsF cs l).map .str))) ⟨[some (.d (qD cs l)), some (.d (.tup (cs.map .str))), some (.d (.str l))], s.mem⟩ := by
    by_cases hz : l = ""
    · subst hz
      simp [colsB, colsF, seq, sUnp, Ev.lift, var, keep, Tg.put, setAll, sRet, iteE, cmpB, EM.bind, get, Out.look, Ev.opt, COp.go, okS, eqS, lit, EM.pure]
    · simp [colsB, colsF, hz, seq, sUnp, Ev.lift, var, keep, Tg.put, setAll, sRet, iteE, cmpB, EM.bind, get, Out.look, Ev.opt, COp.go, okS, eqS, lit, EM.pure, bi, args, gets, lstE, els, items, few, LIM, hl, sort_one_more, tuple_bi]
  rw [run_at hP rfl (by show 1 ≤ 3; decide)]
  show leave s (colsB (run P k) ⟨[some (.d (qD cs l)), none, none], s.mem⟩) = _
  rw [e]
  exact leave_d s _ _
/-! ### forced -/
def forcedL (cs : List Str) (l : Str) : List Qt := (cs, l) :: ((if cs = [] then [] else [(cs, ("" : Str))]) ++ ((if cs.length = 1 then [([], cs.getD 0 "")] else []) ++ if l = "" then [] else [(colsF cs l, ("" : Str))]))
def forcedB (c : Nat) : Call → SM := fun C => seq (sUnp (.many [1, 2]) (var 0)) (seq (sSet 3 (lstE [(false, var 0)])) (seq (sIf (cmpB .gt (bi .len [var 1]) (lit (.int 0))) (seq (sExpr (mt .append (var 3) [tupE [(false, var 1), (false, lit (.str ""))]])) skip) skip) (seq (sIf (cmpB .eq (bi .len [var 1]) (lit (.int 1))) (seq (sExpr (mt .append (var 3) [tupE [(false, tupE []), (false, idx (var 1) (lit (.int 0)))]])) skip) skip) (seq (sIf (cmpB .ne (var 2) (lit (.str ""))) (seq (sExpr (mt .append (var 3) [tupE [(false, Ev.call C c [var 0] []), (false, lit (.str ""))]])) skip) skip) (seq (sRet (sortSet (var 3))) skip)))))
theorem forced_len (cs : List Str) (l : Str) : (forcedL cs l).length ≤ 4 := by
  unfold forcedL
  simp only [List.length_cons, List.length_append]
  split <;> split <;> split <;> simp
abbrev forcedD (cs : List Str) (l : Str) : D := .lst (sortD ((dedupQ (forcedL cs l)).map qT))
theorem forced_call (hP : P i = some ⟨4, 1, forcedB f⟩) (hF : P f = some ⟨3, 1, colsB⟩) {cs : List Str} {l : Str} (h : cs.length ≤ 100) : run P (k + 2) i [.d (qD cs l)] s = .ok (.new (forcedD cs l)) s := by
  have hs := set_q (qs := forcedL cs l) (u := .lst ((forcedL cs l).map qT)) (.inl rfl) (Nat.lt_of_le_of_lt (forced_len cs l) (by decide))
  have q1 : okI 0 0 = okI 0 0 := rfl
  have e : ∃ env, forcedB f (run P (k + 1)) ⟨[some (.d (qD cs l)), none, none, none], s.mem⟩ = .ret (.new (forcedD cs l)) ⟨env, s.mem⟩ := by
    have hc := fun env => cols_call (k := k) (s := ⟨env, s.mem⟩) hF (cs := cs) (l := l) h
    have a0 : ∀ x : Str, cs = [x] → L2.atI (cs.map D.str) 0 = some (.str x) := fun x z => by rw [z]; rfl
    unfold forcedD
    have atS : ∀ (x : D), L2.atI [x] 0 = some x := fun _ => rfl
    match cs, hc, hs with
    | [], hc, hs =>
      by_cases hz : l = ""
      · subst hz
        refine ⟨[some (.d (qD ([] : List Str) "")), some (.d (.tup (([] : List Str).map .str))), some (.d (.str "")), some (.own (.lst ((forcedL ([] : List Str) "").map qT)))], ?_⟩
        simp [forcedB, forcedL,  Ev.call, passes, pass, seq, sUnp, sSet, sIf, sExpr, sRet, skip, Ev.lift, var, keep, keeps, Tg.put, setAll, store, cmpB, EM.bind, get, Out.look, Ev.opt, COp.go, okS, eqS, okI, eqI, ltD, lit, EM.pure, bi, biG, sortSet, args, gets, Bi.go, lstE, tupE, els, items, few, LIM, mt, asL, Mt.go, putIn, idx, idxD, atS] at hs ⊢
        first | (simp [hs, EM.pure]; done) | (erw [hs]; rfl)
      · refine ⟨[some (.d (qD ([] : List Str) l)), some (.d (.tup (([] : List Str).map .str))), some (.d (.str l)), some (.own (.lst ((forcedL ([] : List Str) l).map qT)))], ?_⟩
        simp [forcedB, forcedL, hz, hc,  Ev.call, passes, pass, seq, sUnp, sSet, sIf, sExpr, sRet, skip, Ev.lift, var, keep, keeps, Tg.put, setAll, store, cmpB, EM.bind, get, Out.look, Ev.opt, COp.go, okS, eqS, okI, eqI, ltD, lit, EM.pure, bi, biG, sortSet, args, gets, Bi.go, lstE, tupE, els, items, few, LIM, mt, asL, Mt.go, putIn, idx, idxD, atS] at hs ⊢
        first | (simp [hs, EM.pure]; done) | (erw [hs]; rfl)
    | [c], hc, hs =>
      by_cases hz : l = ""
      · subst hz
        refine ⟨[some (.d (qD [c] "")), some (.d (.tup ([c].map .str))), some (.d (.str "")), some (.own (.lst ((forcedL [c] "").map qT)))], ?_⟩
        simp [forcedB, forcedL,  Ev.call, passes, pass, seq, sUnp, sSet, sIf, sExpr, sRet, skip, Ev.lift, var, keep, keeps, Tg.put, setAll, store, cmpB, EM.bind, get, Out.look, Ev.opt, COp.go, okS, eqS, okI, eqI, ltD, lit, EM.pure, bi, biG, sortSet, args, gets, Bi.go, lstE, tupE, els, items, few, LIM, mt, asL, Mt.go, putIn, idx, idxD, atS] at hs ⊢
        first | (simp [hs, EM.pure]; done) | (erw [hs]; rfl)
      · refine ⟨[some (.d (qD [c] l)), some (.d (.tup ([c].map .str))), some (.d (.str l)), some (.own (.lst ((forcedL [c] l).map qT)))], ?_⟩
        simp [forcedB, forcedL, hz, hc,  Ev.call, passes, pass, seq, sUnp, sSet, sIf, sExpr, sRet, skip, Ev.lift, var, keep, keeps, Tg.put, setAll, store, cmpB, EM.bind, get, Out.look, Ev.opt, COp.go, okS, eqS, okI, eqI, ltD, lit, EM.pure, bi, biG, sortSet, args, gets, Bi.go, lstE, tupE, els, items, few, LIM, mt, asL, Mt.go, putIn, idx, idxD, atS] at hs ⊢
        first | (simp [hs, EM.pure]; done) | (erw [hs]; rfl)
    | c :: d :: r, hc, hs =>
      have g1 : (0 : Int) < (r.length : Int) + 1 + 1 := by omega
      have g2 : ¬ ((r.length : Int) + 1 + 1 = 1) := by omega
      by_cases hz : l = ""
      · subst hz
        refine ⟨[some (.d (qD (c :: d :: r) "")), some (.d (.tup ((c :: d :: r).map .str))), some (.d (.str "")), some (.own (.lst ((forcedL (c :: d :: r) "").map qT)))], ?_⟩
        simp [forcedB, forcedL, g1, g2,  Ev.call, passes, pass, seq, sUnp, sSet, sIf, sExpr, sRet, skip, Ev.lift, var, keep, keeps, Tg.put, setAll, store, cmpB, EM.bind, get, Out.look, Ev.opt, COp.go, okS, eqS, okI, eqI, ltD, lit, EM.pure, bi, biG, sortSet, args, gets, Bi.go, lstE, tupE, els, items, few, LIM, mt, asL, Mt.go, putIn, idx, idxD, atS] at hs ⊢
        first | (simp [hs, EM.pure]; done) | (erw [hs]; rfl)
      · refine ⟨[some (.d (qD (c :: d :: r) l)), some (.d (.tup ((c :: d :: r).map .str))), some (.d (.str l)), some (.own (.lst ((forcedL (c :: d :: r) l).map qT)))], ?_⟩
        simp [forcedB, forcedL, hz, hc, g1, g2,  Ev.call, passes, pass, seq, sUnp, sSet, sIf, sExpr, sRet, skip, Ev.lift, var, keep, keeps, Tg.put, setAll, store, cmpB, EM.bind, get, Out.look, Ev.opt, COp.go, okS, eqS, okI, eqI, ltD, lit, EM.pure, bi, biG, sortSet, args, gets, Bi.go, lstE, tupE, els, items, few, LIM, mt, asL, Mt.go, putIn, idx, idxD, atS] at hs ⊢
        first | (simp [hs, EM.pure]; done) | (erw [hs]; rfl)
  obtain ⟨env, e⟩ := e
  rw [run_at hP rfl (by show 1 ≤ 4; decide)]
  show leave s (forcedB f (run P (k + 1)) ⟨[some (.d (qD cs l)), none, none, none], s.mem⟩) = _
  rw [e]
  exact leave_new s _ _
end
end Ev

set_option Elab.async false
set_option linter.all false
set_option autoImplicit false
set_option maxHeartbeats 4000000
/-! Plain lemmas, part q: all rows of some columns; what all rows that serve a question serve. -/
namespace Ev
open PySem
abbrev rD (r : List Str) : D := .tup (r.map .str)
def grow (ws r : List Str) : List (List Str) := (ws.filter fun c => !inS r c).map fun c => r ++ [c]
def levelL (ws : List Str) : Nat → List (List Str)
  | 0 => [[]]
  | j + 1 => (levelL ws j).flatMap (grow ws)
def rowsL (ws : List Str) : Nat → List (List Str)
  | 0 => []
  | j + 1 => rowsL ws j ++ levelL ws (j + 1)
theorem grow_len (ws r : List Str) : (grow ws r).length ≤ ws.length := by
  unfold grow
  rw [List.length_map]
  exact List.length_filter_le _ _
theorem flat_len {α β : Type} {f : α → List β} {n : Nat} (h : ∀ a, (f a).length ≤ n) : ∀ l : List α, (l.flatMap f).length ≤ n * l.length
  | [] => by simp
  | a :: l => by
    have := flat_len h l
    have := h a
    rw [List.flatMap_cons, List.length_append, List.length_cons, Nat.mul_add]
    omega
theorem level_len {ws : List Str} (hw : ws.length ≤ 4) : ∀ j, (levelL ws j).length ≤ 4 ^ j
  | 0 => by simp [levelL]
  | j + 1 => by
    have := flat_len (f := grow ws) (n := 4) (fun r => Nat.le_trans (grow_len ws r) hw) (levelL ws j)
    have := level_len hw j
    rw [levelL, Nat.pow_succ]
    omega
theorem mem_grow {ws r x : List Str} : x ∈ grow ws r ↔ ∃ c, x = r ++ [c] ∧ c ∈ ws ∧ c ∉ r := by
  unfold grow
  simp only [List.mem_map, List.mem_filter, Bool.not_eq_true']
  constructor
  · rintro ⟨c, ⟨h1, h2⟩, rfl⟩
    refine ⟨c, rfl, h1, fun z => ?_⟩
    rw [inS_iff.mpr z] at h2
    cases h2
  · rintro ⟨c, rfl, h1, h2⟩
    refine ⟨c, ⟨h1, ?_⟩, rfl⟩
    cases h : inS r c with
    | false => rfl
    | true => exact absurd (inS_iff.mp h) h2
theorem mem_level {ws : List Str} : ∀ (j : Nat) (x : List Str), x ∈ levelL ws j ↔ x.length = j ∧ x.Nodup ∧ ∀ c ∈ x, c ∈ ws
  | 0, x => by
    simp only [levelL, List.mem_singleton]
    constructor
    · rintro rfl
      exact ⟨rfl, List.nodup_nil, fun _ h => (by cases h)⟩
    · rintro ⟨h, _⟩
      exact List.eq_nil_of_length_eq_zero h
  | j + 1, x => by
    simp only [levelL, List.mem_flatMap, mem_grow]
    constructor
    · rintro ⟨r, hr, c, rfl, h1, h2⟩
      obtain ⟨e1, e2, e3⟩ := (mem_level j r).mp hr
      refine ⟨by simp [e1], ?_, fun d hd => ?_⟩
      · rw [List.nodup_append]
        exact ⟨e2, by simp, fun a ha b hb => by rw [List.mem_singleton.mp hb]; exact fun z => h2 (z ▸ ha)⟩
      · rcases List.mem_append.mp hd with h | h
        · exact e3 d h
        · rw [List.mem_singleton.mp h]; exact h1
    · rintro ⟨e1, e2, e3⟩
      have hne : x ≠ [] := fun z => by rw [z] at e1; cases e1
      have ex := (List.dropLast_concat_getLast hne).symm
      rw [ex, List.nodup_append] at e2
      refine ⟨x.dropLast, (mem_level j _).mpr ⟨by rw [List.length_dropLast]; omega, e2.1, fun c hc => e3 c (List.dropLast_subset _ hc)⟩, x.getLast hne, ex, e3 _ (List.getLast_mem _), fun z => e2.2.2 _ z _ (by simp) rfl⟩
theorem mem_rows {ws : List Str} : ∀ (n : Nat) (x : List Str), x ∈ rowsL ws n ↔ (1 ≤ x.length ∧ x.length ≤ n) ∧ x.Nodup ∧ ∀ c ∈ x, c ∈ ws
  | 0, x => by
    simp only [rowsL, List.not_mem_nil, false_iff]
    rintro ⟨h, _⟩
    omega
  | n + 1, x => by
    rw [rowsL, List.mem_append, mem_rows n x, mem_level]
    constructor
    · rintro (⟨h1, h2⟩ | ⟨h1, h2⟩)
      · exact ⟨⟨h1.1, by omega⟩, h2⟩
      · exact ⟨⟨by omega, by omega⟩, h2⟩
    · rintro ⟨h1, h2⟩
      by_cases h : x.length = n + 1
      · exact .inr ⟨h, h2⟩
      · exact .inl ⟨⟨h1.1, by omega⟩, h2⟩
theorem rowsL_len {ws : List Str} (hw : ws.length ≤ 4) : ∀ n, n ≤ 4 → (rowsL ws n).length ≤ n * 256
  | 0, _ => by simp [rowsL]
  | n + 1, h => by
    have h1 := rowsL_len hw n (by omega)
    have h2 := level_len hw (n + 1)
    have h3 : 4 ^ (n + 1) ≤ 4 ^ 4 := Nat.pow_le_pow_right (by decide) h
    rw [rowsL, List.length_append]
    omega
section
variable {P : Nat → Option Def} {k i : Nat} {s : S}
def rwL : EM Out := lc [6] (.one 6) (seqE (var 0)) (cmpB .notin (var 6) (var 5)) (bin .add (var 5) (tupE [(false, var 6)]))
def rwT : SM := seq (sSet 4 (bin .add (var 4) rwL)) skip
def rwO : SM := seq (sSet 4 (lstE [])) (seq (sFor (.one 5) (seqE (var 2)) rwT) (seq (sSet 2 (var 4)) (seq (sSet 1 (bin .add (var 1) (var 2))) skip)))
def rowsB : Call → SM := fun C => seq (sPar 1 2 (lstE []) (lstE [(false, tupE [])])) (seq (sFor (.one 3) (rng1 (bi .len [var 0])) rwO) (seq (sRet (var 1)) skip))
theorem rw_turn {ws r : List Str} {acc : List D} {e1 e2 e3 e6 : Option Slot} {m : Mem} (hw : ws.length ≤ 100) (hr : r.length ≤ 100) (ha : acc.length ≤ 10000) :
    rwT ⟨[some (.d (.lst (ws.map .str))), e1, e2, e3, some (.own (.lst acc)), some (.d (rD r)), e6], m⟩ = .next ⟨[some (.d (.lst (ws.map .str))), e1, e2, e3, some (.own (.lst (acc ++ (grow ws r).map rD))), some (.d (rD r)), e6], m⟩ := by
  have it : seqE (var 0) ⟨[some (.d (.lst (ws.map .str))), e1, e2, e3, some (.own (.lst acc)), some (.d (rD r)), e6], m⟩ = .ok (ws.map .str) ⟨[some (.d (.lst (ws.map .str))), e1, e2, e3, some (.own (.lst acc)), some (.d (rD r)), e6], m⟩ := by
    simp [seqE, EM.bind, var, keep, EM.pure, Ev.opt, walkD]
  have hr2 : r.length + 1 ≤ 1000000 := by omega
  have l := lc_at (v := 6) (m := m) (it := seqE (var 0)) (c := cmpB .notin (var 6) (var 5)) (el := bin .add (var 5) (tupE [(false, var 6)])) (p := fun d => !((r.map D.str).any fun y => eqD y d)) (g := fun d => .tup (r.map .str ++ [d])) it (by rw [List.length_map]; show _ < 1000000; omega) fun d hd => by
    obtain ⟨c, _, rfl⟩ := List.mem_map.mp hd
    have hf : (D.str c).flat 60 = true := rfl
    refine ⟨?_, fun _ => ?_⟩
    · simp [cmpB, COp.go, inD, flatsS, hf, EM.bind, var, get, Out.look, Ev.opt, EM.pure]
    · simp [bin, BOp.go, addD, tupE, els, few, LIM, EM.bind, var, get, Out.look, Ev.opt, EM.pure, keep, hr2]
  have e : ((ws.map D.str).filter fun d => !((r.map D.str).any fun y => eqD y d)).map (fun d => D.tup (r.map .str ++ [d])) = (grow ws r).map rD := by
    unfold grow
    rw [List.filter_map, List.map_map, List.map_map]
    refine List.map_congr_left fun c _ => ?_
    simp [rD]
  have gl := grow_len ws r
  have hl : acc.length + (grow ws r).length ≤ 1000000 := by omega
  rw [e] at l
  have l : rwL _ = _ := l
  simp [rwT, seq, sSet, skip, Ev.lift, bin, BOp.go, addD, EM.bind, var, get, Out.look, Ev.opt, EM.pure, store, l, hl, LIM]
theorem rw_loop {ws : List Str} (hw : ws.length ≤ 4) {e1 e2 e3 : Option Slot} {m : Mem} : ∀ (rs acc : List (List Str)) (e5 e6 : Option Slot), acc.length + 4 * rs.length ≤ 10000 → (∀ r ∈ rs, r.length ≤ 100) →
    ∃ f5, loop (.one 5) rwT (rs.map rD) ⟨[some (.d (.lst (ws.map .str))), e1, e2, e3, some (.own (.lst (acc.map rD))), e5, e6], m⟩ = .next ⟨[some (.d (.lst (ws.map .str))), e1, e2, e3, some (.own (.lst ((acc ++ rs.flatMap (grow ws)).map rD))), f5, e6], m⟩
  | [], acc, e5, e6, _, _ => ⟨e5, by simp [loop]⟩
  | r :: rs, acc, e5, e6, h, hr => by
    simp only [List.length_cons] at h
    obtain ⟨f5, ih⟩ := rw_loop hw (e1 := e1) (e2 := e2) (e3 := e3) (m := m) rs (acc ++ grow ws r) (some (.d (rD r))) e6 (by have := grow_len ws r; rw [List.length_append]; omega) fun x hx => hr x (List.mem_cons_of_mem _ hx)
    refine ⟨f5, ?_⟩
    rw [List.map_cons]
    simp only [loop, Tg.put, List.set]
    rw [rw_turn (by omega) (hr r List.mem_cons_self) (by rw [List.length_map]; omega), ← List.map_append]
    refine ih.trans ?_
    simp [List.flatMap_cons]
theorem rwo_turn {ws : List Str} (hw : ws.length ≤ 4) {j : Nat} (hj : j < 4) {e2 e3 e4 e5 e6 : Option Slot} {m : Mem} (h2 : e2 = some (.own (.lst ((levelL ws j).map rD))) ∨ e2 = some (.d (.lst ((levelL ws j).map rD)))) :
    ∃ f4 f5, rwO ⟨[some (.d (.lst (ws.map .str))), some (.own (.lst ((rowsL ws j).map rD))), e2, e3, e4, e5, e6], m⟩ = .next ⟨[some (.d (.lst (ws.map .str))), some (.own (.lst ((rowsL ws (j + 1)).map rD))), some (.d (.lst ((levelL ws (j + 1)).map rD))), e3, f4, f5, e6], m⟩ := by
  have hl := level_len hw j
  have h3 : 4 ^ j ≤ 4 ^ 4 := Nat.pow_le_pow_right (by decide) (by omega)
  have hrl := rowsL_len hw j (by omega)
  have hl2 := level_len hw (j + 1)
  have h32 : 4 ^ (j + 1) ≤ 4 ^ 4 := Nat.pow_le_pow_right (by decide) (by omega)
  obtain ⟨f5, lp⟩ := rw_loop hw (e1 := some (.own (.lst ((rowsL ws j).map rD)))) (e2 := some (.d (.lst ((levelL ws j).map rD)))) (e3 := e3) (m := m) (levelL ws j) [] e5 e6 (by simp; omega) fun r hr => by
    have := ((mem_level j r).mp hr).1
    omega
  rw [List.nil_append] at lp
  have lp : loop (.one 5) rwT ((levelL ws j).map rD) ⟨[some (.d (.lst (ws.map .str))), some (.own (.lst ((rowsL ws j).map rD))), some (.d (.lst ((levelL ws j).map rD))), e3, some (.own (.lst [])), e5, e6], m⟩ = .next ⟨[some (.d (.lst (ws.map .str))), some (.own (.lst ((rowsL ws j).map rD))), some (.d (.lst ((levelL ws j).map rD))), e3, some (.own (.lst ((levelL ws (j + 1)).map rD))), f5, e6], m⟩ := lp
  have hz : (rowsL ws j).length + (levelL ws (j + 1)).length ≤ 1000000 := by omega
  refine ⟨some (.d (.lst ((levelL ws (j + 1)).map rD))), f5, ?_⟩
  rw [rowsL, List.map_append]
  rcases h2 with rfl | rfl <;> simp [rwO, seq, sSet, sFor, skip, Ev.lift, lstE, els, few, LIM, EM.bind, EM.pure, Ev.opt, store, seqE, var, keep, walkD, lp, bin, BOp.go, addD, get, Out.look, hz]
theorem rwo_loop {ws : List Str} (hw : ws.length ≤ 4) {m : Mem} : ∀ (c j : Nat) (e2 e3 e4 e5 e6 : Option Slot), j + c ≤ 4 → (e2 = some (.own (.lst ((levelL ws j).map rD))) ∨ e2 = some (.d (.lst ((levelL ws j).map rD)))) →
    ∃ f2 f3 f4 f5, loop (.one 3) rwO (upto j c) ⟨[some (.d (.lst (ws.map .str))), some (.own (.lst ((rowsL ws j).map rD))), e2, e3, e4, e5, e6], m⟩ = .next ⟨[some (.d (.lst (ws.map .str))), some (.own (.lst ((rowsL ws (j + c)).map rD))), f2, f3, f4, f5, e6], m⟩
  | 0, j, e2, e3, e4, e5, e6, _, _ => ⟨e2, e3, e4, e5, rfl⟩
  | c + 1, j, e2, e3, e4, e5, e6, h, h2 => by
    have hu : upto j (c + 1) = .int j :: upto (j + 1 : Nat) c := by
      unfold upto
      rw [List.range_succ_eq_map, List.map_cons, List.map_map]
      congr 1
      simp
      intro a _
      omega
    obtain ⟨f4, f5, t⟩ := rwo_turn hw (j := j) (by omega) (e2 := e2) (e3 := some (.d (.int j))) (e4 := e4) (e5 := e5) (e6 := e6) (m := m) h2
    obtain ⟨g2, g3, g4, g5, ih⟩ := rwo_loop hw (m := m) c (j + 1) (some (.d (.lst ((levelL ws (j + 1)).map rD)))) (some (.d (.int j))) f4 f5 e6 (by omega) (.inr rfl)
    refine ⟨g2, g3, g4, g5, ?_⟩
    rw [hu]
    simp only [loop, Tg.put, List.set]
    rw [t]
    simp only []
    rw [ih]
    have : j + 1 + c = j + (c + 1) := by omega
    rw [this]
theorem rows_call (hP : P i = some ⟨7, 1, rowsB⟩) {ws : List Str} (hw : ws.length ≤ 4) : run P (k + 1) i [.d (.lst (ws.map .str))] s = .ok (.new (.lst ((rowsL ws ws.length).map rD))) s := by
  obtain ⟨f2, f3, f4, f5, lp⟩ := rwo_loop hw (m := s.mem) ws.length 0 (some (.own (.lst ((levelL ws 0).map rD)))) none none none none (by omega) (.inl rfl)
  rw [Nat.zero_add] at lp
  have e : rowsB (run P k) ⟨[some (.d (.lst (ws.map .str))), none, none, none, none, none, none], s.mem⟩ = .ret (.own 1) ⟨[some (.d (.lst (ws.map .str))), some (.own (.lst ((rowsL ws ws.length).map rD))), f2, f3, f4, f5, none], s.mem⟩ := by
    have lp : loop (.one 3) rwO (upto 0 (ws.length : Int).toNat) ⟨[some (.d (.lst (ws.map .str))), some (.own (.lst [])), some (.own (.lst [.tup []])), none, none, none, none], s.mem⟩ = .next ⟨[some (.d (.lst (ws.map .str))), some (.own (.lst ((rowsL ws ws.length).map rD))), f2, f3, f4, f5, none], s.mem⟩ := lp
    have h1 : ((ws.length : Int)) ≤ 1000000 := by omega
    have h2 : -(1000000 : Int) ≤ (ws.length : Int) := by omega
    simp [rowsB, seq, sPar, fixO, sFor, Ev.lift, lstE, tupE, els, few, LIM, EM.bind, EM.pure, Ev.opt, store, rng1, keeps, keep, rngD1, bi, args, gets, get, Out.look, var, Bi.go, h1, h2, sRet]
    simp at lp
    simp [lp]
  rw [run_at hP rfl (by show 1 ≤ 7; decide)]
  show leave s (rowsB (run P k) ⟨[some (.d (.lst (ws.map .str))), none, none, none, none, none, none], s.mem⟩) = _
  rw [e]
  simp [leave]
end
end Ev

set_option Elab.async false
set_option linter.all false
set_option autoImplicit false
set_option maxHeartbeats 4000000
/-! Plain lemmas, part r: what all rows that serve a question serve is what it forces. -/
namespace Ev
open PySem
theorem sub_len : ∀ {as bs : List Str}, as.Nodup → (∀ a ∈ as, a ∈ bs) → as.length ≤ bs.length
  | [], bs, _, _ => Nat.zero_le _
  | a :: as, bs, nd, h => by
    obtain ⟨h1, h2⟩ := List.nodup_cons.mp nd
    have ha := h a List.mem_cons_self
    have ih := sub_len (bs := bs.erase a) h2 fun b hb => (List.mem_erase_of_ne fun (e : b = a) => h1 (e ▸ hb)).2 (h b (List.mem_cons_of_mem _ hb))
    have := List.length_erase_of_mem ha
    have := List.length_pos_of_mem ha
    rw [List.length_cons]
    omega
/-! ### the plain law -/
theorem servF_iff {ws cs : List Str} {l : Str} : servF ws cs l = true ↔ sS (ws.take cs.length) = cs ∧ (l = "" ∨ (ws.drop cs.length).take 1 = [l]) := by
  unfold servF
  simp only [Bool.and_eq_true, Bool.or_eq_true, decide_eq_true_eq, beq_iff_eq]
theorem drop_one {ws : List Str} {n : Nat} {l : Str} : (ws.drop n).take 1 = [l] ↔ ws[n]? = some l := by
  constructor
  · intro h
    have := congrArg (fun x => x[0]?) h
    simpa using this
  · intro h
    obtain ⟨hn, e⟩ := List.getElem?_eq_some_iff.mp h
    rw [List.drop_eq_getElem_cons hn, e]
    rfl
theorem forced_served {ws cs : List Str} {l : Str} (hw : Names ws) (hq : Qn cs l) (h : servF ws cs l = true) {x : Qt} (hx : x ∈ forcedL cs l) : x ∈ served ws := by
  obtain ⟨h1, h2⟩ := servF_iff.mp h
  have out : (x.1 ≠ [] ∨ x.2 ≠ "") ∧ servF ws x.1 x.2 = true := by
    unfold forcedL at hx
    simp only [List.mem_cons, List.mem_append] at hx
    rcases hx with rfl | hx | hx | hx
    · exact ⟨hq.ne, h⟩
    · split at hx <;> simp at hx
      rename_i hc
      subst hx
      exact ⟨.inl hc, servF_iff.mpr ⟨h1, .inl rfl⟩⟩
    · split at hx <;> simp at hx
      rename_i hc
      subst hx
      obtain ⟨c, rfl⟩ := List.length_eq_one_iff.mp hc
      have hcm : c ∈ menu := hq.sub c (by simp)
      show (([] : List Str) ≠ [] ∨ c ≠ "") ∧ servF ws [] c = true
      refine ⟨.inr fun z => empty_out (z ▸ hcm), servF_iff.mpr ⟨by simp [sS], .inr ?_⟩⟩
      have p := sS_perm (ws.take 1)
      rw [show sS (ws.take 1) = [c] from h1] at p
      have := List.singleton_perm.mp p
      simp only [List.length_nil, List.drop_zero]
      exact this.symm
    · split at hx <;> simp at hx
      rename_i hl
      subst hx
      have hn := drop_one.mp (h2.resolve_left hl)
      have hlen : cs.length < ws.length := (List.getElem?_eq_some_iff.mp hn).1
      have e : sS (ws.take (cs.length + 1)) = sS (cs ++ [l]) := by
        rw [List.take_succ, hn]
        refine sS_eq ?_
        have := (sS_perm (ws.take cs.length)).symm
        rw [h1] at this
        exact this.append_right _
      have cl : (colsF cs l).length = cs.length + 1 := by rw [colsF, if_neg hl, sS_len]; simp
      have cn : colsF cs l ≠ [] := fun z => by
        rw [z] at cl
        cases cl
      refine ⟨.inl cn, servF_iff.mpr ⟨?_, .inl rfl⟩⟩
      rw [cl, e, colsF, if_neg hl]
  exact (mem_serv hw out.1).mpr out.2
/-- the two rows that tell the forced ones from all others -/
def tl (l : Str) : List Str := if l = "" then [] else [l]
theorem rev_take {cs : List Str} (nd : cs.Nodup) {p : Nat} (hp : 0 < p) (hn : p < cs.length) : sS (cs.reverse.take p) ≠ sS (cs.take p) := by
  intro e
  have pm : (cs.reverse.take p).Perm (cs.take p) := (sS_perm _).symm.trans ((by rw [e] : (sS (cs.reverse.take p)).Perm (sS (cs.take p))).trans (sS_perm _))
  have h0 : cs[0] ∈ cs.take p := by
    rw [List.mem_take_iff_getElem]
    exact ⟨0, by omega, rfl⟩
  have h1 := pm.mem_iff.mpr h0
  rw [List.mem_take_iff_getElem] at h1
  obtain ⟨i, hi, e2⟩ := h1
  rw [List.getElem_reverse] at e2
  have := (List.getElem_inj nd).mp e2
  omega
theorem served_both {ws cs : List Str} {l : Str} (hq : Qn cs l) (n1 : Names (cs ++ tl l)) (n2 : Names (cs.reverse ++ tl l)) {x : Qt} (h1 : x ∈ served (cs ++ tl l)) (h2 : x ∈ served (cs.reverse ++ tl l)) : x ∈ forcedL cs l := by
  have tlen : (tl l).length ≤ 1 := by unfold tl; split <;> simp
  obtain ⟨p, hp, h1⟩ := mem_served.mp h1
  rw [List.length_append] at hp
  have qn := served_qn n2 h2
  have h2 := servF_iff.mp ((mem_serv n2 qn.ne).mp h2)
  have em : ∀ j, j < (cs ++ tl l).length → (cs ++ tl l).getD j "" ≠ "" := fun j hj z => by
    rw [List.getD_eq_getElem?_getD, List.getElem?_eq_getElem hj, Option.getD_some] at z
    exact empty_out (z ▸ n1.sub _ (List.getElem_mem hj))
  have t1 : ∀ j, j ≤ cs.length → (cs ++ tl l).take j = cs.take j := fun j hj => List.take_append_of_le_length hj
  have t2 : ∀ j, j ≤ cs.length → (cs.reverse ++ tl l).take j = cs.reverse.take j := fun j hj => List.take_append_of_le_length (by simpa using hj)
  rcases h1 with rfl | rfl
  · have hl : (sS ((cs ++ tl l).take p)).length = p := by rw [sS_len, List.length_take, List.length_append]; omega
    simp only at h2
    rw [hl] at h2
    obtain ⟨g1, g2⟩ := h2
    have g2 := drop_one.mp (g2.resolve_left (em p (by rw [List.length_append]; exact hp)))
    by_cases hpn : p = cs.length
    · subst hpn
      have hlt : l ≠ "" := fun z => by
        unfold tl at hp
        rw [if_pos z] at hp
        simp at hp
      have e1 : (cs ++ tl l).take cs.length = cs := by rw [List.take_left]
      have e2 : (cs ++ tl l).getD cs.length "" = l := by
        unfold tl
        rw [if_neg hlt]
        simp
      rw [e1, e2, hq.so]
      exact List.mem_cons_self
    · have hp2 : p < cs.length := by omega
      rw [t1 p (by omega), t2 p (by omega)] at g1
      by_cases h0 : p = 0
      · subst h0
        have e2 : (cs ++ tl l).getD 0 "" = cs[0] := by simp [List.getD_eq_getElem?_getD, List.getElem?_append_left hp2, List.getElem?_eq_getElem hp2]
        have e3 : (cs.reverse ++ tl l)[0]? = some cs[cs.length - 1 - 0] := by
          rw [List.getElem?_append_left (by simpa using hp2), List.getElem?_eq_getElem (by simpa using hp2), List.getElem_reverse]
        rw [e3, e2] at g2
        have := (List.getElem_inj hq.nd).mp (Option.some.inj g2)
        have hlen : cs.length = 1 := by omega
        obtain ⟨c, rfl⟩ := List.length_eq_one_iff.mp hlen
        unfold forcedL
        simp only [List.mem_cons, List.mem_append]
        right; right; left
        rw [if_pos (show [c].length = 1 from rfl), e2]
        exact List.mem_singleton.mpr (by simp [sS])
      · exact absurd g1 (rev_take hq.nd (by omega) hp2)
  · have hl : (sS ((cs ++ tl l).take (p + 1))).length = p + 1 := by rw [sS_len, List.length_take, List.length_append]; omega
    simp only at h2
    rw [hl] at h2
    obtain ⟨g1, _⟩ := h2
    by_cases hpn : p + 1 = cs.length
    · rw [hpn, List.take_left, hq.so]
      have hc : cs ≠ [] := fun z => by rw [z] at hpn; cases hpn
      unfold forcedL
      simp [hc]
    · by_cases hp2 : p + 1 < cs.length
      · rw [t1 _ (by omega), t2 _ (by omega)] at g1
        exact absurd g1 (rev_take hq.nd (by omega) hp2)
      · have hpe : p = cs.length := by omega
        subst hpe
        have hlt : l ≠ "" := fun z => by
          unfold tl at hp
          rw [if_pos z] at hp
          simp at hp
        have e1 : (cs ++ tl l).take (cs.length + 1) = cs ++ [l] := by
          unfold tl
          rw [if_neg hlt]
          exact List.take_of_length_le (by simp)
        rw [e1]
        unfold forcedL
        simp [hlt, colsF]
theorem serves_both {cs : List Str} {l : Str} (hq : Qn cs l) : servF (cs ++ tl l) cs l = true ∧ servF (cs.reverse ++ tl l) cs l = true := by
  have last : ∀ xs : List Str, xs.length = cs.length → (l = "" ∨ ((xs ++ tl l).drop cs.length).take 1 = [l]) := fun xs hx => by
    by_cases hl : l = ""
    · exact .inl hl
    · right
      rw [← hx, List.drop_left, tl, if_neg hl]
      rfl
  refine ⟨servF_iff.mpr ⟨?_, last cs rfl⟩, servF_iff.mpr ⟨?_, last _ (by simp)⟩⟩
  · rw [List.take_left, hq.so]
  · have : (cs.reverse ++ tl l).take cs.length = cs.reverse := by
      rw [← List.length_reverse, List.take_left]
    rw [this, sS_eq (List.reverse_perm cs), hq.so]
theorem served_nodup {ws : List Str} (hw : Names ws) : (served ws).Nodup := by
  have key : ∀ n, n ≤ ws.length → ((List.range n).flatMap (servAt ws)).Nodup := by
    intro n
    induction n with
    | zero => intro _; exact List.nodup_nil
    | succ n ih =>
      intro hn
      rw [take_chunk ws (by omega), List.nodup_append]
      have em : ∀ j, j < ws.length → ws.getD j "" ≠ "" := fun j hj z => by
        rw [List.getD_eq_getElem?_getD, List.getElem?_eq_getElem hj, Option.getD_some] at z
        exact empty_out (z ▸ hw.sub _ (List.getElem_mem hj))
      have ln : ∀ j, j ≤ ws.length → (sS (ws.take j)).length = j := fun j hj => by rw [sS_len, List.length_take]; omega
      refine ⟨ih (by omega), ?_, ?_⟩
      · unfold servAt
        refine List.nodup_cons.mpr ⟨fun h => ?_, by simp⟩
        rw [List.mem_singleton, Prod.mk.injEq] at h
        exact em n (by omega) h.2
      · intro a ha b hb e
        subst e
        simp only [List.mem_flatMap, List.mem_range] at ha
        obtain ⟨j, hj, ha⟩ := ha
        unfold servAt at ha hb
        simp only [List.mem_cons, List.not_mem_nil, or_false] at ha hb
        rcases hb with rfl | rfl
        · rcases ha with ha | ha
          · have := congrArg (fun q : Qt => q.1.length) ha
            simp only [ln n (by omega), ln j (by omega)] at this
            omega
          · exact em n (by omega) (congrArg Prod.snd ha)
        · rcases ha with ha | ha
          · exact em j (by omega) (congrArg Prod.snd ha).symm
          · have := congrArg (fun q : Qt => q.1.length) ha
            simp only [ln (n + 1) (by omega), ln (j + 1) (by omega)] at this
            omega
  exact key ws.length (Nat.le_refl _)
/-! ### the fold -/
def stepQ (cs : List Str) (l : Str) (acc : Option (List Qt)) (r : List Str) : Option (List Qt) := if servF r cs l = true then (match acc with
  | none => some (served r)
  | some L => some (L.filter fun q => decide (q ∈ served r))) else acc
theorem fold_inv {cs : List Str} {l : Str} : ∀ (rs done : List (List Str)) (acc : Option (List Qt)), (∀ r ∈ rs, Names r) →
    ((acc = none ∧ ∀ r ∈ done, servF r cs l = false) ∨ ∃ L, acc = some L ∧ L.Nodup ∧ L.length ≤ 24 ∧ (∃ r ∈ done, servF r cs l = true) ∧ (∀ q ∈ L, ∃ r, Names r ∧ q ∈ served r) ∧ ∀ q, q ∈ L ↔ ∀ r ∈ done, servF r cs l = true → q ∈ served r) →
    ((rs.foldl (stepQ cs l) acc = none ∧ ∀ r ∈ done ++ rs, servF r cs l = false) ∨ ∃ L, rs.foldl (stepQ cs l) acc = some L ∧ L.Nodup ∧ L.length ≤ 24 ∧ (∃ r ∈ done ++ rs, servF r cs l = true) ∧ (∀ q ∈ L, ∃ r, Names r ∧ q ∈ served r) ∧ ∀ q, q ∈ L ↔ ∀ r ∈ done ++ rs, servF r cs l = true → q ∈ served r)
  | [], done, acc, _, h => by simpa using h
  | r :: rs, done, acc, hn, h => by
    have hr := hn r List.mem_cons_self
    have := fold_inv rs (done ++ [r]) (stepQ cs l acc r) (fun x hx => hn x (List.mem_cons_of_mem _ hx)) (by
      unfold stepQ
      by_cases hs : servF r cs l = true
      · right
        rw [if_pos hs]
        rcases h with ⟨rfl, h⟩ | ⟨L, rfl, nd, ln, he, hm, hL⟩
        · refine ⟨served r, rfl, served_nodup hr, by rw [served_len]; have := hr.len; omega, ⟨r, by simp, hs⟩, fun q hq => ⟨r, hr, hq⟩, fun q => ⟨fun hq x hx hxs => ?_, fun hq => hq r (by simp) hs⟩⟩
          rcases List.mem_append.mp hx with hx | hx
          · rw [h x hx] at hxs
            cases hxs
          · rw [List.mem_singleton.mp hx]
            exact hq
        · refine ⟨_, rfl, nd.filter _, Nat.le_trans (List.length_filter_le _ _) ln, ⟨r, by simp, hs⟩, fun q hq => hm q (List.mem_filter.mp hq).1, fun q => ?_⟩
          rw [List.mem_filter, hL q, decide_eq_true_eq]
          constructor
          · rintro ⟨g1, g2⟩ x hx hxs
            rcases List.mem_append.mp hx with hx | hx
            · exact g1 x hx hxs
            · rw [List.mem_singleton.mp hx]
              exact g2
          · intro g
            exact ⟨fun x hx hxs => g x (List.mem_append_left _ hx) hxs, g r (by simp) hs⟩
      · rw [if_neg hs]
        have hs : servF r cs l = false := by simpa using hs
        rcases h with ⟨rfl, h⟩ | ⟨L, rfl, nd, ln, he, hm, hL⟩
        · left
          refine ⟨rfl, fun x hx => ?_⟩
          rcases List.mem_append.mp hx with hx | hx
          · exact h x hx
          · rw [List.mem_singleton.mp hx]
            exact hs
        · right
          obtain ⟨r0, h0, h1⟩ := he
          refine ⟨L, rfl, nd, ln, ⟨r0, List.mem_append_left _ h0, h1⟩, hm, fun q => ?_⟩
          rw [hL q]
          constructor
          · intro g x hx hxs
            rcases List.mem_append.mp hx with hx | hx
            · exact g x hx hxs
            · rw [List.mem_singleton.mp hx, hs] at hxs
              cases hxs
          · exact fun g x hx hxs => g x (List.mem_append_left _ hx) hxs)
    rw [List.append_assoc] at this
    exact this
theorem Names.sub_of {ws r : List Str} (hw : Names ws) (nd : r.Nodup) (h : ∀ c ∈ r, c ∈ ws) : Names r := by
  refine ⟨nd, fun c hc => hw.sub c (h c hc), ?_⟩
  exact Nat.le_trans (sub_len nd h) hw.len
theorem forced_all {ws cs : List Str} {l : Str} (hw : Names ws) (hq : Qn cs l) (hs : ∀ c ∈ cs, c ∈ ws) (hl : l = "" ∨ l ∈ ws) : ∃ L, (rowsL ws ws.length).foldl (stepQ cs l) none = some L ∧ L.length ≤ 24 ∧ (∀ q ∈ L, ∃ r, Names r ∧ q ∈ served r) ∧ sortD (L.map qT) = sortD ((dedupQ (forcedL cs l)).map qT) := by
  have hrows : ∀ r ∈ rowsL ws ws.length, Names r := fun r hr => by
    obtain ⟨_, h1, h2⟩ := (mem_rows _ r).mp hr
    exact hw.sub_of h1 h2
  have tin : ∀ c ∈ tl l, c ∈ ws ∧ c ∉ cs := fun c hc => by
    unfold tl at hc
    split at hc
    · cases hc
    · rename_i h
      rw [List.mem_singleton.mp hc]
      exact ⟨hl.resolve_left h, hq.out⟩
  have tnd : (tl l).Nodup := by unfold tl; split <;> simp
  have row : ∀ xs : List Str, xs.Perm cs → xs ++ tl l ∈ rowsL ws ws.length := fun xs hx => by
    have nd : (xs ++ tl l).Nodup := by
      rw [List.nodup_append]
      exact ⟨hx.nodup_iff.mpr hq.nd, tnd, fun a ha b hb e => (tin b hb).2 (hx.mem_iff.mp (e ▸ ha))⟩
    have sub : ∀ c ∈ xs ++ tl l, c ∈ ws := fun c hc => by
      rcases List.mem_append.mp hc with h | h
      · exact hs c (hx.mem_iff.mp h)
      · exact (tin c h).1
    refine (mem_rows _ _).mpr ⟨⟨?_, sub_len nd sub⟩, nd, sub⟩
    rw [List.length_append, hx.length_eq]
    rcases hq.ne with h | h
    · have := List.length_pos_iff.mpr h
      omega
    · unfold tl
      rw [if_neg h]
      simp
  have r1 := row cs (.refl _)
  have r2 := row cs.reverse (List.reverse_perm cs)
  obtain ⟨s1, s2⟩ := serves_both hq
  rcases fold_inv (cs := cs) (l := l) (rowsL ws ws.length) [] none hrows (.inl ⟨rfl, fun _ h => (by cases h)⟩) with ⟨_, h⟩ | ⟨L, e, nd, ln, _, hm, hL⟩
  · have := h _ (by simpa using r1)
    rw [s1] at this
    cases this
  · refine ⟨L, e, ln, hm, sortQ_mem nd (nodup_dedupQ _) fun q => ?_⟩
    rw [mem_dedupQ, hL q]
    constructor
    · intro g
      exact served_both (ws := ws) hq (hrows _ r1) (hrows _ r2) (g _ (by simpa using r1) s1) (g _ (by simpa using r2) s2)
    · intro g r hr hrs
      exact forced_served (hrows r (by simpa using hr)) hq hrs g
end Ev

set_option Elab.async false
set_option linter.all false
set_option autoImplicit false
set_option maxHeartbeats 4000000
/-! Plain lemmas, part s: a law's own list of what is forced. -/
namespace Ev
open PySem
section
variable {P : Nat → Option Def} {k i sv ls : Nat} {s : S}
def fbL : EM Out := lc [5] (.one 5) (seqE (var 2)) (cmpB .isin (var 5) (var 4)) (var 5)
def fbT (sv ls : Nat) : Call → SM := fun C => seq (sIf (tst (Ev.call C sv [var 3, var 1] [])) (seq (sSet 4 (Ev.call C ls [var 3] [])) (seq (sSet 2 (iteE (cmpB .is (var 2) (lit .non)) (var 4) fbL)) skip)) skip) skip
def fbB (sv ls : Nat) : Call → SM := fun C => seq (sSet 2 (lit .non)) (seq (sFor (.one 3) (seqE (var 0)) (fbT sv ls C)) (seq (sRet (bi .sorted [var 2])) skip))
def A2 : Option (List Qt) → Option Slot → Prop
  | none, e => e = some (.d .non)
  | some L, e => e = some (.own (.lst (L.map qT))) ∨ e = some (.d (.lst (L.map qT)))
theorem isnon_l (L : List D) : isD (.lst L) .non = some false := rfl
theorem fb_turn (hS : P sv = some ⟨3, 2, lservB⟩) (hL : P ls = some ⟨3, 1, lsB⟩) {cs : List Str} {l : Str} (hl : cs.length ≤ 12) {r : List Str} (nr : Names r) {acc : Option (List Qt)} (ha : ∀ L, acc = some L → L.length ≤ 24) {R : D} {e2 e4 : Option Slot} (h2 : A2 acc e2) {m : Mem} :
    ∃ f2 f4, fbT sv ls (run P (k + 1)) ⟨[some (.d R), some (.d (qD cs l)), e2, some (.d (rD r)), e4, none], m⟩ = .next ⟨[some (.d R), some (.d (qD cs l)), f2, some (.d (rD r)), f4, none], m⟩ ∧ A2 (stepQ cs l acc r) f2 := by
  have h1 := lserv_call (k := k) (s := ⟨[some (.d R), some (.d (qD cs l)), e2, some (.d (rD r)), e4, none], m⟩) hS (ws := r) (cs := cs) (l := l) hl
  have hg := ls_call (k := k) (s := ⟨[some (.d R), some (.d (qD cs l)), e2, some (.d (rD r)), e4, none], m⟩) hL (ws := r) (Nat.le_trans nr.len (by decide))
  cases hs : servF r cs l with
  | false =>
    refine ⟨e2, e4, ?_, ?_⟩
    · simp [fbT, seq, sIf, skip, tst, truth, Ev.lift, Ev.call, passes, pass, EM.bind, var, keep, EM.pure, get, Out.look, Ev.opt, h1, hs]
    · unfold stepQ
      rw [if_neg (by rw [hs]; decide)]
      exact h2
  | true =>
    unfold stepQ
    rw [if_pos hs]
    cases acc with
    | none =>
      have h2 : e2 = some (.d .non) := h2
      subst h2
      refine ⟨some (.d (.lst ((served r).map qT))), some (.d (.lst ((served r).map qT))), ?_, .inr rfl⟩
      simp [fbT, seq, sIf, sSet, skip, tst, truth, iteE, cmpB, COp.go, isD, D.isNon, lit, store, Ev.lift, Ev.call, passes, pass, EM.bind, var, keep, EM.pure, get, Out.look, Ev.opt, h1, hs, hg]
    | some L =>
      have ll := ha L rfl
      have hl2 : (L.map qT).length < LIM := by rw [List.length_map]; show _ < 1000000; omega
      have sm : D.flats 60 ((served r).map qT) = true := flats_of fun d hd => by
        obtain ⟨q, hq, rfl⟩ := List.mem_map.mp hd
        exact flatQ q.1 q.2
      have key : ∀ e2 : Option Slot, (e2 = some (.own (.lst (L.map qT))) ∨ e2 = some (.d (.lst (L.map qT)))) → fbL ⟨[some (.d R), some (.d (qD cs l)), e2, some (.d (rD r)), some (.own (.lst ((served r).map qT))), none], m⟩ =
          .ok (.new (.lst ((L.filter fun q => decide (q ∈ served r)).map qT))) ⟨[some (.d R), some (.d (qD cs l)), some (.d (.lst (L.map qT))), some (.d (rD r)), some (.own (.lst ((served r).map qT))), none], m⟩ := fun e2 h2 => by
        have it : seqE (var 2) ⟨[some (.d R), some (.d (qD cs l)), e2, some (.d (rD r)), some (.own (.lst ((served r).map qT))), none], m⟩ = .ok (L.map qT) ⟨[some (.d R), some (.d (qD cs l)), some (.d (.lst (L.map qT))), some (.d (rD r)), some (.own (.lst ((served r).map qT))), none], m⟩ := by
          rcases h2 with rfl | rfl <;> simp [seqE, EM.bind, var, keep, EM.pure, Ev.opt, walkD]
        have := lc_at (v := 5) (m := m) (c := cmpB .isin (var 5) (var 4)) (el := var 5) (p := fun d => ((served r).map qT).any fun y => eqD y d) (g := id) it hl2 fun d hd => by
          obtain ⟨q, _, rfl⟩ := List.mem_map.mp hd
          have hf := flatQ q.1 q.2
          refine ⟨?_, fun _ => rfl⟩
          simp [cmpB, COp.go, inD, sm, hf, EM.bind, var, get, Out.look, Ev.opt, EM.pure]
        rw [List.map_id] at this
        have e : (L.map qT).filter (fun d => ((served r).map qT).any fun y => eqD y d) = (L.filter fun q => decide (q ∈ served r)).map qT := by
          rw [List.filter_map]
          congr 1
          refine List.filter_congr fun q _ => ?_
          exact in_q (.refl _) q
        rw [e] at this
        exact this
      have k2 := key e2 h2
      refine ⟨some (.own (.lst ((L.filter fun q => decide (q ∈ served r)).map qT))), some (.own (.lst ((served r).map qT))), ?_, .inl rfl⟩
      rcases h2 with rfl | rfl <;> simp [fbT, seq, sIf, sSet, skip, tst, truth, iteE, cmpB, COp.go, isnon_l, lit, store, Ev.lift, Ev.call, passes, pass, EM.bind, var, keep, EM.pure, get, Out.look, Ev.opt, h1, hs, hg, k2]
theorem step_few {cs : List Str} {l : Str} {acc : Option (List Qt)} {r : List Str} (nr : Names r) (h : ∀ L, acc = some L → L.length ≤ 24) : ∀ L, stepQ cs l acc r = some L → L.length ≤ 24 := by
  intro L e
  unfold stepQ at e
  split at e
  · cases acc with
    | none =>
      cases e
      rw [served_len]
      have := nr.len
      omega
    | some L0 =>
      cases e
      exact Nat.le_trans (List.length_filter_le _ _) (h L0 rfl)
  · exact h L e
theorem fb_loop (hS : P sv = some ⟨3, 2, lservB⟩) (hL : P ls = some ⟨3, 1, lsB⟩) {cs : List Str} {l : Str} (hl : cs.length ≤ 12) {R : D} {m : Mem} : ∀ (rs : List (List Str)) (acc : Option (List Qt)) (e2 e3 e4 : Option Slot), (∀ r ∈ rs, Names r) → (∀ L, acc = some L → L.length ≤ 24) → A2 acc e2 →
    ∃ f2 f3 f4, loop (.one 3) (fbT sv ls (run P (k + 1))) (rs.map rD) ⟨[some (.d R), some (.d (qD cs l)), e2, e3, e4, none], m⟩ = .next ⟨[some (.d R), some (.d (qD cs l)), f2, f3, f4, none], m⟩ ∧ A2 (rs.foldl (stepQ cs l) acc) f2
  | [], acc, e2, e3, e4, _, _, h => ⟨e2, e3, e4, rfl, h⟩
  | r :: rs, acc, e2, e3, e4, hn, hf, h => by
    have nr := hn r List.mem_cons_self
    obtain ⟨g2, g4, t1, t2⟩ := fb_turn (k := k) hS hL hl nr hf (R := R) (e4 := e4) h (m := m)
    obtain ⟨f2, f3, f4, i1, i2⟩ := fb_loop hS hL hl (R := R) (m := m) rs (stepQ cs l acc r) g2 (some (.d (rD r))) g4 (fun x hx => hn x (List.mem_cons_of_mem _ hx)) (step_few nr hf) t2
    refine ⟨f2, f3, f4, ?_, i2⟩
    rw [List.map_cons]
    simp only [loop, Tg.put, List.set]
    rw [t1]
    exact i1
theorem fb_call (hP : P i = some ⟨6, 2, fbB sv ls⟩) (hS : P sv = some ⟨3, 2, lservB⟩) (hL : P ls = some ⟨3, 1, lsB⟩) {ws cs : List Str} {l : Str} (hw : Names ws) (hq : Qn cs l) (hs : ∀ c ∈ cs, c ∈ ws) (hl : l = "" ∨ l ∈ ws) :
    run P (k + 2) i [.d (.lst ((rowsL ws ws.length).map rD)), .d (qD cs l)] s = .ok (.new (forcedD cs l)) s := by
  obtain ⟨L, e1, e2, _, e3⟩ := forced_all hw hq hs hl
  have hrows : ∀ r ∈ rowsL ws ws.length, Names r := fun r hr => by
    obtain ⟨_, h1, h2⟩ := (mem_rows _ r).mp hr
    exact hw.sub_of h1 h2
  obtain ⟨f2, f3, f4, lp, a⟩ := fb_loop (k := k) hS hL hq.len (R := .lst ((rowsL ws ws.length).map rD)) (m := s.mem) (rowsL ws ws.length) none (some (.d .non)) none none hrows (fun _ h => by cases h) rfl
  rw [e1] at a
  have g : Bi.sorted.go [.lst (L.map qT)] = some (.new (forcedD cs l)) := by
    rw [sort_q, e3]
  have e : fbB sv ls (run P (k + 1)) ⟨[some (.d (.lst ((rowsL ws ws.length).map rD))), some (.d (qD cs l)), none, none, none, none], s.mem⟩ = .ret (.new (forcedD cs l)) ⟨[some (.d (.lst ((rowsL ws ws.length).map rD))), some (.d (qD cs l)), f2, f3, f4, none], s.mem⟩ := by
    rcases a with rfl | rfl <;> simp [fbB, seq, sSet, lit, store, sFor, Ev.lift, seqE, EM.bind, var, keep, EM.pure, Ev.opt, walkD, lp, sRet, bi, args, gets, get, Out.look, g]
  rw [run_at hP rfl (by show 2 ≤ 6; decide)]
  show leave s (fbB sv ls (run P (k + 1)) ⟨[some (.d (.lst ((rowsL ws ws.length).map rD))), some (.d (qD cs l)), none, none, none, none], s.mem⟩) = _
  rw [e]
  exact leave_new s _ _
end
end Ev

set_option Elab.async false
set_option linter.all false
set_option autoImplicit false
set_option maxHeartbeats 1000000
/-! Plain lemmas, part t: rows of Pascal. -/
namespace Ev
open PySem
/-- how many sets of k there are -/
def bn : Nat → Nat → Int
  | 0, 0 => 1
  | 0, _ + 1 => 0
  | n + 1, 0 => bn n 0
  | n + 1, k + 1 => bn n k + bn n (k + 1)
theorem bn_nonneg : ∀ n k, 0 ≤ bn n k
  | 0, 0 => by decide
  | 0, _ + 1 => by simp [bn]
  | n + 1, 0 => bn_nonneg n 0
  | n + 1, k + 1 => by
    have := bn_nonneg n k
    have := bn_nonneg n (k + 1)
    simp only [bn]
    omega
theorem bn_le : ∀ n k, bn n k ≤ 2 ^ n
  | 0, 0 => by decide
  | 0, _ + 1 => by simp [bn]
  | n + 1, 0 => by
    have := bn_le n 0
    have := bn_nonneg n 0
    simp only [bn, Int.pow_succ]
    omega
  | n + 1, k + 1 => by
    have := bn_le n k
    have := bn_le n (k + 1)
    simp only [bn, Int.pow_succ]
    omega
theorem bn_over : ∀ n k, n < k → bn n k = 0
  | 0, 0, h => by omega
  | 0, _ + 1, _ => rfl
  | n + 1, 0, h => by omega
  | n + 1, k + 1, h => by
    simp only [bn, bn_over n k (by omega), bn_over n (k + 1) (by omega)]
    rfl
theorem bn_zero : ∀ n, bn n 0 = 1
  | 0 => rfl
  | n + 1 => bn_zero n
theorem bn_self : ∀ n, bn n n = 1
  | 0 => rfl
  | n + 1 => by
    simp only [bn, bn_self n, bn_over n (n + 1) (Nat.lt_succ_self n)]
    rfl
/-- the next one, of k + 1, is no more than n - k times the one of k -/
theorem bn_step : ∀ n k, k ≤ n → bn n (k + 1) ≤ ((n : Int) - k) * bn n k
  | 0, 0, _ => by simp [bn]
  | 0, k + 1, h => by omega
  | n + 1, 0, _ => by
    have h := bn_step n 0 (Nat.zero_le n)
    simp only [bn, bn_zero] at h ⊢
    push_cast at h ⊢
    omega
  | n + 1, k + 1, h => by
    have h1 := bn_nonneg n k
    have h2 := bn_nonneg n (k + 1)
    have e : (((n + 1 : Nat) : Int) - ((k + 1 : Nat) : Int)) = (n : Int) - k := by push_cast; omega
    simp only [bn]
    rw [e, Int.mul_add]
    rcases Nat.lt_or_ge n (k + 1) with hk | hk
    · have : n = k := by omega
      subst this
      rw [bn_over n (n + 1) (by omega), bn_over n (n + 1 + 1) (by omega)]
      simp
    · have h3 := bn_step n k (by omega)
      have h4 := bn_step n (k + 1) hk
      have e4 : ((n : Int) - ((k + 1 : Nat) : Int)) * bn n (k + 1) = ((n : Int) - k) * bn n (k + 1) - bn n (k + 1) := by
        push_cast
        rw [Int.sub_mul, Int.sub_mul, Int.add_mul]
        omega
      rw [e4] at h4
      omega
/-- a row -/
def pas (n : Nat) : List Int := (List.range (n + 1)).map (bn n)
theorem pas_len (n : Nat) : (pas n).length = n + 1 := by simp [pas]
theorem pas_at {n k : Nat} (h : k ≤ n) : (pas n)[k]? = some (bn n k) := by
  unfold pas
  rw [List.getElem?_map, List.getElem?_range (by omega)]
  rfl
theorem pas_zip (n : Nat) : List.zipWith (· + ·) (0 :: pas n) (pas n ++ [0]) = pas (n + 1) := by
  apply List.ext_getElem?
  intro k
  rw [List.getElem?_zipWith]
  rcases Nat.lt_or_ge (n + 1) k with hk | hk
  · have e1 : (0 :: pas n)[k]? = none := List.getElem?_eq_none (by rw [List.length_cons, pas_len]; omega)
    rw [e1, List.getElem?_eq_none (l := pas (n + 1)) (by rw [pas_len]; omega)]
  · rw [pas_at hk]
    have e2 : (pas n ++ [0])[k]? = some (bn n k) := by
      rcases Nat.lt_or_ge n k with h | h
      · have : k = n + 1 := by omega
        subst this
        rw [List.getElem?_append_right (by rw [pas_len]; omega), pas_len, bn_over n (n + 1) (by omega)]
        simp
      · rw [List.getElem?_append_left (by rw [pas_len]; omega), pas_at h]
    rw [e2]
    cases k with
    | zero => simp [bn, bn_zero]
    | succ k =>
      rw [List.getElem?_cons_succ, pas_at (by omega)]
      rfl
theorem pas_mid (n : Nat) : [1] ++ (List.range n).map (fun j => bn n j + bn n (j + 1)) ++ [1] = pas (n + 1) := by
  apply List.ext_getElem?
  intro k
  rcases Nat.lt_or_ge (n + 1) k with hk | hk
  · rw [List.getElem?_eq_none (by simp; omega), List.getElem?_eq_none (by rw [pas_len]; omega)]
  · rw [pas_at hk]
    cases k with
    | zero => simp [bn, bn_zero]
    | succ k =>
      rcases Nat.lt_or_ge k n with h | h
      · rw [List.getElem?_append_left (by simp <;> omega), List.getElem?_append_right (by simp), List.length_singleton, Nat.add_sub_cancel, List.getElem?_map, List.getElem?_range h]
        rfl
      · have : k = n := by omega
        subst this
        rw [List.getElem?_append_right (by simp <;> omega), bn_self]
        simp
/-- the counts by width -/
def cnt (n : Nat) : Bool → List Int
  | true => (List.range n).map fun k => bn n (k + 1)
  | false => (List.range n).map fun (k : Nat) => ((n : Int) - k) * bn n k
theorem cnt_len (n : Nat) (b : Bool) : (cnt n b).length = n := by cases b <;> simp [cnt]
theorem cnt_true (n : Nat) : (pas n).drop 1 = cnt n true := by
  apply List.ext_getElem?
  intro k
  rw [List.getElem?_drop]
  rcases Nat.lt_or_ge k n with h | h
  · rw [pas_at (by omega)]
    simp [cnt, h, Nat.add_comm]
  · rw [List.getElem?_eq_none (by rw [pas_len]; omega), List.getElem?_eq_none (by rw [cnt_len]; omega)]
/-- the greatest -/
def mx (l : List Int) : Int := (best (fun x m => decide (m < x)) l).getD 0
theorem best_some : ∀ {l : List Int}, l ≠ [] → best (fun x m => decide (m < x)) l = some (mx l)
  | [], h => absurd rfl h
  | _ :: _, _ => rfl
theorem mx_mem {l : List Int} (h : l ≠ []) : mx l ∈ l := (best_max (best_some h)).1
theorem mx_le {l : List Int} {y : Int} (h : y ∈ l) : y ≤ mx l := (best_max (best_some (List.ne_nil_of_mem h))).2 y h
theorem drop_ne {l : List Int} {a : Nat} (h : a < l.length) : l.drop a ≠ [] := fun z => by
  have := congrArg List.length z
  rw [List.length_drop, List.length_nil] at this
  omega
theorem mx_down {l : List Int} {a : Nat} (h : a + 1 < l.length) : mx (l.drop (a + 1)) ≤ mx (l.drop a) := by
  refine mx_le ?_
  have e : ∀ y ∈ l.drop (a + 1), y ∈ l.drop a := fun y hy => by
    rw [← List.drop_drop] at hy
    exact List.mem_of_mem_drop hy
  exact e _ (mx_mem (drop_ne h))
theorem mx_cnt {n a : Nat} (h : a < n) : mx ((cnt n true).drop a) ≤ mx ((cnt n false).drop a) := by
  have h1 := mx_mem (drop_ne (l := cnt n true) (a := a) (by rw [cnt_len]; exact h))
  obtain ⟨j, hj, e⟩ := List.mem_iff_getElem.mp h1
  have hj2 : a + j < n := by
    rw [List.length_drop, cnt_len] at hj
    omega
  rw [← e, List.getElem_drop]
  have e1 : (cnt n true)[a + j]'(by rw [cnt_len]; exact hj2) = bn n (a + j + 1) := by simp [cnt]
  rw [e1]
  refine Int.le_trans (bn_step n (a + j) (by omega)) (mx_le ?_)
  rw [List.mem_iff_getElem]
  refine ⟨j, by rw [List.length_drop, cnt_len]; omega, ?_⟩
  rw [List.getElem_drop]
  simp [cnt]
theorem mx_bounds {n a : Nat} {b : Bool} (hn : n ≤ 60) (h : a < n) : 0 ≤ mx ((cnt n b).drop a) ∧ mx ((cnt n b).drop a) < 10 ^ 30 := by
  have h1 := mx_mem (drop_ne (l := cnt n b) (a := a) (by rw [cnt_len]; exact h))
  have h2 := List.mem_of_mem_drop h1
  generalize mx ((cnt n b).drop a) = m at h1 h2
  have p : (2 : Int) ^ n ≤ 2 ^ 60 := by
    have := Nat.pow_le_pow_right (show 0 < 2 by decide) hn
    exact_mod_cast this
  cases b with
  | true =>
    obtain ⟨k, hk, rfl⟩ := List.mem_map.mp h2
    have := bn_nonneg n (k + 1)
    have := bn_le n (k + 1)
    omega
  | false =>
    obtain ⟨k, hk, rfl⟩ := List.mem_map.mp h2
    rw [List.mem_range] at hk
    have h3 := bn_nonneg n k
    have h4 := bn_le n k
    refine ⟨Int.mul_nonneg (by omega) h3, ?_⟩
    have : ((n : Int) - k) * bn n k ≤ 60 * 2 ^ 60 := Int.mul_le_mul (by omega) (by omega) h3 (by decide)
    omega
/-- the levels -/
def lev (n : Nat) (b : Bool) : List Int := (List.range n).map fun a => mx ((cnt n b).drop a)
theorem lev_sum (n : Nat) : (lev n true).sum ≤ (lev n false).sum := by
  have : ∀ l : List Nat, (∀ a ∈ l, a < n) → (l.map fun a => mx ((cnt n true).drop a)).sum ≤ (l.map fun a => mx ((cnt n false).drop a)).sum := by
    intro l
    induction l with
    | nil => intro _; exact Int.le_refl _
    | cons a l ih =>
      intro h
      have h1 := mx_cnt (h a List.mem_cons_self)
      have h2 := ih fun x hx => h x (List.mem_cons_of_mem _ hx)
      simp only [List.map_cons, List.sum_cons]
      omega
  exact this _ fun a ha => List.mem_range.mp ha
/-- a comprehension over a range, without a test -/
theorem lc_rng {v : Nat} {env : Slots} {m : Mem} {it : EM (List D)} {el : EM Out} {s0 : S} {lo : Int} {n : Nat} {h : Nat → D} (hi : it s0 = .ok (upto lo n) ⟨env, m⟩) (hn : n < 1000000)
    (hd : ∀ a : Nat, a < n → el ⟨env.set v (some (.d (.int (lo + a)))), m⟩ = .ok (.d (h a)) ⟨env.set v (some (.d (.int (lo + a)))), m⟩) : lc [v] (.one v) it yes el s0 = .ok (.new (.lst ((List.range n).map h))) ⟨env, m⟩ := by
  have e := lc_at (v := v) (p := fun _ => true) (g := fun d => match d with | .int z => h (z - lo).toNat | d => d) (c := yes) (el := el) hi (by rw [upto, List.length_map, List.length_range]; exact hn) (fun d hd2 => by
    obtain ⟨a, ha, rfl⟩ := List.mem_map.mp hd2
    rw [List.mem_range] at ha
    refine ⟨rfl, fun _ => ?_⟩
    rw [hd a ha]
    show _ = Res.ok (Out.d (h ((lo + (a : Int)) - lo).toNat)) _
    rw [show ((lo + (a : Int)) - lo).toNat = a by omega])
  rw [e]
  have : ((upto lo n).filter fun _ => true).map (fun d => match d with | .int z => h (z - lo).toNat | d => d) = (List.range n).map h := by
    rw [List.filter_eq_self.mpr (by simp), upto, List.map_map]
    refine List.map_congr_left fun a _ => ?_
    show h ((lo + (a : Int)) - lo).toNat = h a
    rw [show ((lo + (a : Int)) - lo).toNat = a by omega]
  rw [this]
/-! whole numbers shown -/
theorem int_wt {z : Int} (h0 : 0 ≤ z) (h : z < 10 ^ 40) : (D.int z).wt ≤ 40 := by
  obtain ⟨n, rfl⟩ := Int.eq_ofNat_of_zero_le h0
  have hn : n < 10 ^ 40 := by exact_mod_cast h
  have h1 : n.repr.length ≤ 40 := (Nat.length_repr_le_iff (by decide)).mpr hn
  have e : (toString (n : Int) : String) = n.repr := rfl
  show (Str.ofString (toString (n : Int))).length ≤ 40
  rw [e, Str.ofString_eq_toList]
  show (List.map Char.toNat n.repr.toList).toArray.size ≤ 40
  rw [List.size_toArray, List.length_map]
  exact h1
theorem int_small {z : Int} (h0 : 0 ≤ z) (h : z < 10 ^ 40) : (D.int z).py.showable = true := by
  have : z.natAbs < 2 ^ 200 := by
    have : (10 : Int) ^ 40 < 2 ^ 200 := by decide
    have e : ((2 ^ 200 : Nat) : Int) = 2 ^ 200 := by norm_cast
    omega
  have := small_log this (by decide)
  simp only [D.py, PyData.showable, decide_eq_true_eq]
  omega
theorem int_ok {z : Int} (h0 : 0 ≤ z) (h : z < 10 ^ 40) : showOk (.int z) = true := show_of rfl (int_small h0 h) rfl (Nat.le_trans (int_wt h0 h) (by decide))
theorem pair_small {y z : Int} (h0 : 0 ≤ y) (h : y < 10 ^ 40) (h1 : 0 ≤ z) (h2 : z < 10 ^ 40) : Small (.tup [.int y, .int z]) := by
  refine ⟨rfl, ?_, rfl, ?_⟩
  · have a := int_small h0 h
    have b := int_small h1 h2
    simp only [D.py, D.pys, PyData.showable, PyData.showableAll] at a b ⊢
    rw [a, b]
    rfl
  · have a := int_wt h0 h
    have b := int_wt h1 h2
    simp only [D.wt, D.wts] at a b ⊢
    omega
theorem lev_bound {n : Nat} {b : Bool} (hn : n ≤ 60) : 0 ≤ (lev n b).sum ∧ (lev n b).sum < 10 ^ 40 := by
  have : ∀ l : List Nat, (∀ a ∈ l, a < n) → 0 ≤ (l.map fun a => mx ((cnt n b).drop a)).sum ∧ (l.map fun a => mx ((cnt n b).drop a)).sum ≤ l.length * 10 ^ 30 := by
    intro l
    induction l with
    | nil => intro _; exact ⟨Int.le_refl _, Int.le_refl _⟩
    | cons a l ih =>
      intro h
      have h1 := mx_bounds (b := b) hn (h a List.mem_cons_self)
      have h2 := ih fun x hx => h x (List.mem_cons_of_mem _ hx)
      simp only [List.map_cons, List.sum_cons, List.length_cons]
      push_cast
      omega
  obtain ⟨h1, h2⟩ := this (List.range n) fun a ha => List.mem_range.mp ha
  rw [List.length_range] at h2
  exact ⟨h1, by unfold lev; omega⟩
end Ev

set_option Elab.async false
set_option linter.all false
set_option autoImplicit false
set_option maxHeartbeats 4000000
set_option exponentiation.threshold 300
/-! Plain lemmas, part u: draws, with cells behind the bag. -/
namespace Ev
open PySem
abbrev stm (ms : Mem) (env : Slots) (x : D) : S := ⟨env, .live x :: ms⟩
section
variable (ms : Mem) (many a b c : Int) (cells : List Int) (e2 e3 : Option Slot)
theorem takeY_posM (h0 : 0 < a) (hm : 1 ≤ many) (hm2 : many < 1073741824) :
    takeY (stm ms [some (.ref 0), some (.d (.int many)), e2, e3, none, none, none] (bagD a b c cells)) =
      .ret (.d (.int (a % many))) (stm ms [some (.ref 0), some (.d (.int many)), e2, e3, some (.d (.int (a % many))), none, none] (bagD (a / many) b c cells)) := by
  have hm0 : 0 < many := by omega
  simp [takeY, seq, sIf, Ev.lift, cmpB, EM.bind, idx, var, get, Out.look, lit, EM.pure, idxD, at0, at1, at2, at3, Ev.opt, COp.go, eqI, okI, ltD, h0, sSet, bin, bi, args, gets, Bi.go, BOp.go, intsD, hm0, hm2, store, sPut, keep, putIn, setD, ix0, sRet, Cell.tree, skip]
theorem takeY_zeroM (hm : 1 ≤ many) (hb : 0 ≤ b) (hb2 : b < 2147483647) : ∃ r env, 0 ≤ r ∧ r < many ∧
    takeY (stm ms [some (.ref 0), some (.d (.int many)), e2, e3, none, none, none] (bagD 0 b c cells)) = .ret (.d (.int r)) (stm ms env (bagD 0 b c cells)) := by
  have hm0 : 0 < many := by omega
  have k1 : mulOk (b + 1) 39373 = true := mul_ok2 (by omega) (by decide)
  have q1 : ∀ x : Int, 0 ≤ x % 1000000007 ∧ x % 1000000007 < 1000000007 := fun x => ⟨Int.emod_nonneg _ (by decide), Int.emod_lt_of_pos _ (by decide)⟩
  have q2 : ∀ x : Int, 0 ≤ x % 998244353 ∧ x % 998244353 < 998244353 := fun x => ⟨Int.emod_nonneg _ (by decide), Int.emod_lt_of_pos _ (by decide)⟩
  have k2 : ∀ x : Int, mulOk (x % 1000000007) (x % 1000000007) = true := fun x => mul_ok2 (by have := q1 x; omega) (by have := q1 x; omega)
  have k3 : ∀ x : Int, mulOk (x % 998244353) 30011 = true := fun x => mul_ok2 (by have := q2 x; omega) (by decide)
  refine ⟨((((b + 1) * 39373 % 1000000007) * ((b + 1) * 39373 % 1000000007) % 998244353 * 30011) % 998244353 / 7) % many, [some (.ref 0), some (.d (.int many)), e2, e3, none, some (.d (.int ((b + 1) * 39373 % 1000000007))), some (.d (.int (((b + 1) * 39373 % 1000000007) * ((b + 1) * 39373 % 1000000007) % 998244353 * 30011 % 998244353)))], Int.emod_nonneg _ (by omega), Int.emod_lt_of_pos _ hm0, ?_⟩
  simp [takeY, seq, sIf, Ev.lift, cmpB, EM.bind, idx, var, get, Out.look, lit, EM.pure, idxD, at0, at1, at2, at3, Ev.opt, COp.go, eqI, okI, ltD, sSet, bin, bi, args, gets, Bi.go, BOp.go, intsD, hm0, store, sRet, Cell.tree, skip, addD, mulD, k1, k2, k3]
theorem takeX_zeroM (z : Int) (hz : 0 ≤ z) (hb : 0 ≤ b) (hb2 : b < 2147483647) (hc : 0 ≤ c) (hc2 : c < 100000000000000000000000) (hz2 : (c < cells.length ∧ L2.atI (cells.map D.int) c = some (.int z)) ∨ (¬ c < cells.length ∧ z = 0)) : ∃ a' b' f2 f3, 0 ≤ a' ∧ 0 ≤ b' ∧ b' < 2147483647 ∧
    takeX (stm ms [some (.ref 0), some (.d (.int many)), none, none, none, none, none] (bagD 0 b c cells)) = .next (stm ms [some (.ref 0), some (.d (.int many)), f2, f3, none, none, none] (bagD a' b' (c + 1) cells)) := by
  have k1 : mulOk b 48271 = true := mul_ok2 (by omega) (by decide)
  have k2 : mulOk 7919 (c + 1) = true := mul_ok2 (by decide) (by omega)
  have key : ∀ p : Bool, (decide (1000000000000000000 ≤ z)) = p → takeX (stm ms [some (.ref 0), some (.d (.int many)), none, none, none, none, none] (bagD 0 b c cells)) = .next (stm ms [some (.ref 0), some (.d (.int many)), some (.d (.int z)), some (.d (.int (b * 48271 + z % 2147483647 + 7919 * (c + 1)))), none, none, none] (bagD (if p = true then z else 0) ((b * 48271 + z % 2147483647 + 7919 * (c + 1)) % 2147483647) (c + 1) cells)) := by
    intro p hp
    rcases hz2 with ⟨h1, h2⟩ | ⟨h1, rfl⟩
    · cases p with
      | true =>
        have hp := of_decide_eq_true hp
        simp [takeX, seq, sIf, Ev.lift, cmpB, EM.bind, idx, var, get, Out.look, lit, EM.pure, idxD, idxL, at0, at1, at2, at3, Ev.opt, COp.go, eqI, okI, ltD, leD, h1, h2, hp, sSet, bin, bi, args, gets, Bi.go, BOp.go, BOp.inp, intsD, store, sPut, sAugI, keep, putIn, setD, ix0, ix1, ix2, Cell.tree, skip, addD, mulD, k1, k2]
      | false =>
        have hp := of_decide_eq_false hp
        simp [takeX, seq, sIf, Ev.lift, cmpB, EM.bind, idx, var, get, Out.look, lit, EM.pure, idxD, idxL, at0, at1, at2, at3, Ev.opt, COp.go, eqI, okI, ltD, leD, h1, h2, hp, sSet, bin, bi, args, gets, Bi.go, BOp.go, BOp.inp, intsD, store, sPut, sAugI, keep, putIn, setD, ix0, ix1, ix2, Cell.tree, skip, addD, mulD, k1, k2]
    · cases p with
      | true => simp at hp
      | false =>
        simp [takeX, seq, sIf, Ev.lift, cmpB, EM.bind, idx, var, get, Out.look, lit, EM.pure, idxD, idxL, at0, at1, at2, at3, Ev.opt, COp.go, eqI, okI, ltD, leD, h1, sSet, bin, bi, args, gets, Bi.go, BOp.go, BOp.inp, intsD, store, sPut, sAugI, keep, putIn, setD, ix0, ix1, ix2, Cell.tree, skip, addD, mulD, k1, k2]
  refine ⟨_, _, _, _, ?_, ?_, ?_, key _ rfl⟩
  · split <;> omega
  · exact Int.emod_nonneg _ (by decide)
  · exact Int.emod_lt_of_pos _ (by decide)
theorem takeX_posM (ha : a ≠ 0) : takeX (stm ms [some (.ref 0), some (.d (.int many)), none, none, none, none, none] (bagD a b c cells)) = .next (stm ms [some (.ref 0), some (.d (.int many)), none, none, none, none, none] (bagD a b c cells)) := by
  simp [takeX, seq, sIf, Ev.lift, cmpB, EM.bind, idx, var, get, Out.look, lit, EM.pure, idxD, at0, Ev.opt, COp.go, eqI, okI, ha, Cell.tree, skip]
end
/-- a draw -/
theorem take_bodyM (ms : Mem) (C : Call) {n : Nat} (hn : n ≤ BIG) {many : Int} (hm : 1 ≤ many) (hm2 : many < 1073741824) {x : D} (hx : Bag n x) : ∃ r env y, 0 ≤ r ∧ r < many ∧ Bag (n + 1) y ∧ takeB C (stm ms [some (.ref 0), some (.d (.int many)), none, none, none, none, none] x) = .ret (.d (.int r)) (stm ms env y) := by
  obtain ⟨a, b, c, cells, rfl, h1, h2, h3, h4, h5, h6⟩ := hx
  have hbig : (BIG : Int) = 10000000000000000000000 := rfl
  -- the second part, whatever the first made
  have two : ∀ {a b c : Int} {f2 f3 : Option Slot}, 0 ≤ a → 0 ≤ b → b < 2147483647 → 0 ≤ c → c ≤ ((n + 1 : Nat) : Int) → ∃ r env y, 0 ≤ r ∧ r < many ∧ Bag (n + 1) y ∧ takeY (stm ms [some (.ref 0), some (.d (.int many)), f2, f3, none, none, none] (bagD a b c cells)) = .ret (.d (.int r)) (stm ms env y) := fun {a b c f2 f3} ha hb hb2 hc hc2 => by
    by_cases h0 : 0 < a
    · exact ⟨_, _, _, Int.emod_nonneg _ (by omega), Int.emod_lt_of_pos _ (by omega), ⟨a / many, b, c, cells, rfl, Int.ediv_nonneg ha (by omega), hb, hb2, hc, hc2, h6⟩, takeY_posM ms many a b c cells f2 f3 h0 hm hm2⟩
    · obtain rfl : a = 0 := by omega
      obtain ⟨r, env, q1, q2, q3⟩ := takeY_zeroM ms many b c cells f2 f3 hm hb hb2
      exact ⟨r, env, _, q1, q2, ⟨0, b, c, cells, rfl, by omega, hb, hb2, hc, hc2, h6⟩, q3⟩
  rw [take_parts]
  by_cases ha : a = 0
  · subst ha
    obtain ⟨z, hz, hz2⟩ : ∃ z, 0 ≤ z ∧ ((c < cells.length ∧ L2.atI (cells.map D.int) c = some (.int z)) ∨ (¬ c < cells.length ∧ z = 0)) := by
      by_cases hc : c < cells.length
      · have hlt : c.toNat < cells.length := by omega
        refine ⟨cells[c.toNat], h6 _ (List.getElem_mem hlt), .inl ⟨hc, ?_⟩⟩
        unfold L2.atI L2.ixN
        rw [List.length_map, if_pos h4, if_pos hc]
        simp [hlt]
      · exact ⟨0, Int.le_refl _, .inr ⟨hc, rfl⟩⟩
    obtain ⟨a', b', f2, f3, q1, q2, q3, q4⟩ := takeX_zeroM ms many b c cells z hz h2 h3 h4 (by omega) hz2
    obtain ⟨r, env, y, p1, p2, p3, p4⟩ := two (f2 := f2) (f3 := f3) q1 q2 q3 (show 0 ≤ c + 1 by omega) (by omega)
    refine ⟨r, env, y, p1, p2, p3, ?_⟩
    unfold seq
    rw [q4]
    exact p4
  · obtain ⟨r, env, y, p1, p2, p3, p4⟩ := two (f2 := none) (f3 := none) h1 h2 h3 h4 (by omega)
    refine ⟨r, env, y, p1, p2, p3, ?_⟩
    unfold seq
    rw [takeX_posM ms many a b c cells ha]
    exact p4
def YieldsM (ms : Mem) (n : Nat) (env : Slots) (r : Res Out) (Φ : Out → Prop) : Prop := ∃ o y, r = .ok o (stm ms env y) ∧ Bag n y ∧ Φ o
section
variable {P : Nat → Option Def} {k i t : Nat} {n : Nat} {ms : Mem} {env : Slots} {x : D}
theorem take_callM (hP : P i = some ⟨7, 2, takeB⟩) (hn : n ≤ BIG) {many : Int} (hm : 1 ≤ many) (hm2 : many < 1073741824) (hx : Bag n x) : YieldsM ms (n + 1) env (run P (k + 1) i [.ref 0, .d (.int many)] (stm ms env x)) fun o => ∃ r, o = .d (.int r) ∧ 0 ≤ r ∧ r < many := by
  obtain ⟨r, e, y, h1, h2, h3, h4⟩ := take_bodyM ms (run P k) hn hm hm2 hx
  refine ⟨_, y, ?_, h3, r, rfl, h1, h2⟩
  rw [run_at hP rfl (by decide)]
  show leave (stm ms env x) (takeB (run P k) (stm ms [some (.ref 0), some (.d (.int many)), none, none, none, none, none] x)) = _
  rw [h4]
  simp [leave]
/-- one of a lent list -/
theorem one_lent (hP : P i = some ⟨2, 2, oneB t⟩) (ht : P t = some ⟨7, 2, takeB⟩) {xs : List D} (h0 : 0 < xs.length) (hl : xs.length ≤ 1000) (hn : n ≤ BIG) (hx : Bag n x) : ∃ y r, run P (k + 2) i [.ref 0, .ref 1] ⟨[], [.live x, .live (.lst xs)]⟩ = .ok (.d r) ⟨[], [.live y, .live (.lst xs)]⟩ ∧ Bag (n + 1) y ∧ r ∈ xs := by
  obtain ⟨o, y, h1, b1, r, rfl, r0, r1⟩ := take_callM (P := P) (k := k) (i := t) (ms := [.live (.lst xs)]) (env := [some (.ref 0), some (.ref 1)]) ht hn (many := (xs.length : Int)) (by omega) (by omega) hx
  have hr : r.toNat < xs.length := by omega
  have h2 : L2.atI xs r = some xs[r.toNat] := atI_nat r0 (by simp [hr])
  refine ⟨y, xs[r.toNat], ?_, b1, List.getElem_mem hr⟩
  rw [run_at hP rfl (by show 2 ≤ 2; decide)]
  show leave ⟨[], [.live x, .live (.lst xs)]⟩ (oneB t (run P (k + 1)) (stm [.live (.lst xs)] [some (.ref 0), some (.ref 1)] x)) = _
  have e : oneB t (run P (k + 1)) (stm [.live (.lst xs)] [some (.ref 0), some (.ref 1)] x) = .ret (.d xs[r.toNat]) (stm [.live (.lst xs)] [some (.ref 0), some (.ref 1)] y) := by
    simp [oneB, seq, sRet, Ev.lift, idx, EM.bind, var, Ev.call, passes, pass, bi, args, gets, get, Out.look, Cell.tree, Bi.go, Ev.opt, EM.pure, keep, h1, idxD, h2]
  rw [e]
  simp [leave]
end
end Ev

set_option Elab.async false
set_option linter.all false
set_option autoImplicit false
set_option maxHeartbeats 4000000
/-! Plain lemmas, part v: below, sharing, by the program and by a law. -/
namespace Ev
open PySem
section
variable {P : Nat → Option Def} {k i b c : Nat} {s : S}
def allB : Call → SM := fun C => seq (sSet 1 (bi .list [idx (var 0) (lit (.int 0))])) (seq (sIf (cmpB .ne (idx (var 0) (lit (.int 1))) (lit (.str ""))) (seq (sExpr (mt .append (var 1) [idx (var 0) (lit (.int 1))])) skip) skip) (seq (sRet (bi .sorted [var 1])) skip))
def belowB (c : Nat) : Call → SM := fun C => seq (sRet (andE (cmp .ne (var 0) (var 1)) (bi .all [lc [2] (.one 2) (seqE (Ev.call C c [var 0] [])) yes (cmp .isin (var 2) (idx (var 1) (lit (.int 0))))]))) skip
def lbelowB (c : Nat) : Call → SM := fun C => seq (sRet (andE (cmp .ne (var 0) (var 1)) (cmp .eq (lc [2] (.one 2) (seqE (Ev.call C c [var 0] [])) (cmpB .notin (var 2) (idx (var 1) (lit (.int 0)))) (var 2)) (lstE [])))) skip
def shareB (b : Nat) : Call → SM := fun C => seq (sRet (orE (cmp .eq (var 0) (var 1)) (orE (Ev.call C b [var 0, var 1] []) (Ev.call C b [var 1, var 0] [])))) skip
theorem all_call (hP : P i = some ⟨2, 1, allB⟩) {cs : List Str} {l : Str} (h : cs.length ≤ 12) (hs : sS cs = cs) : run P (k + 1) i [.d (qD cs l)] s = .ok (.new (.lst ((colsF cs l).map .str))) s := by
  have hl : cs.length < 1000000 := by omega
  have e : ∃ env, allB (run P k) ⟨[some (.d (qD cs l)), none], s.mem⟩ = .ret (.new (.lst ((colsF cs l).map .str))) ⟨env, s.mem⟩ := by
    by_cases hz : l = ""
    · subst hz
      refine ⟨[some (.d (qD cs "")), some (.own (.lst (cs.map .str)))], ?_⟩
      have := sort_bi cs
      rw [hs] at this
      simp [allB, colsF, seq, sSet, sIf, skip, Ev.lift, var, store, idx, idxD, pr0, pr1, sRet, cmpB, EM.bind, get, Out.look, Ev.opt, COp.go, okS, eqS, lit, EM.pure, bi, args, gets, list_bi, this]
    · refine ⟨[some (.d (qD cs l)), some (.own (.lst (cs.map .str ++ [.str l])))], ?_⟩
      simp [allB, colsF, hz, seq, sSet, sIf, sExpr, skip, Ev.lift, var, store, idx, idxD, pr0, pr1, sRet, cmpB, EM.bind, get, Out.look, Ev.opt, COp.go, okS, eqS, lit, EM.pure, bi, args, gets, list_bi, mt, asL, keeps, keep, Mt.go, putIn, LIM, hl, sort_one_more]
  obtain ⟨env, e⟩ := e
  rw [run_at hP rfl (by show 1 ≤ 2; decide)]
  show leave s (allB (run P k) ⟨[some (.d (qD cs l)), none], s.mem⟩) = _
  rw [e]
  exact leave_new s _ _
/-! below -/
def inB (cb : List Str) (d : D) : Bool := (cb.map D.str).any fun y => eqD y d
def belowF (c1 : List Str) (l1 : Str) (c2 : List Str) (l2 : Str) : Bool := !eqD (qD c1 l1) (qD c2 l2) && ((colsF c1 l1).map D.str).all (inB c2)
theorem allBls_map (f : D → Bool) : ∀ xs : List D, allBls (xs.map fun d => .bl (f d)) = some (xs.map f)
  | [] => rfl
  | x :: xs => by
    rw [List.map_cons, allBls, allBls_map f xs]
    rfl
theorem colsF_len {cs : List Str} {l : Str} (h : cs.length ≤ 12) : (colsF cs l).length ≤ 13 := by
  unfold colsF
  split
  · omega
  · rw [(sS_perm _).length_eq]
    simp
    omega
theorem below_call (hP : P i = some ⟨3, 2, belowB c⟩) (hC : P c = some ⟨3, 1, colsB⟩) {c1 c2 : List Str} {l1 l2 : Str} (h1 : c1.length ≤ 12) : run P (k + 2) i [.d (qD c1 l1), .d (qD c2 l2)] s = .ok (.d (.bl (belowF c1 l1 c2 l2))) s := by
  have e : belowB c (run P (k + 1)) ⟨[some (.d (qD c1 l1)), some (.d (qD c2 l2)), none], s.mem⟩ = .ret (.d (.bl (belowF c1 l1 c2 l2))) ⟨[some (.d (qD c1 l1)), some (.d (qD c2 l2)), none], s.mem⟩ := by
    cases hq : eqD (qD c1 l1) (qD c2 l2) with
    | true => simp [belowB, belowF, hq, seq, sRet, Ev.lift, andE, cmp, EM.bind, var, get, Out.look, Ev.opt, COp.go, okQ, EM.pure, truth]
    | false =>
      have hc := cols_call (k := k) hC (cs := c1) (l := l1) (s := ⟨[some (.d (qD c1 l1)), some (.d (qD c2 l2)), none], s.mem⟩) (by omega)
      have hl := lc_at (v := 2) (env := [some (.d (qD c1 l1)), some (.d (qD c2 l2)), none]) (m := s.mem) (it := seqE (Ev.call (run P (k + 1)) c [var 0] [])) (c := yes) (el := cmp .isin (var 2) (idx (var 1) (lit (.int 0)))) (p := fun _ => true) (g := fun d => .bl (inB c2 d)) (s0 := ⟨[some (.d (qD c1 l1)), some (.d (qD c2 l2)), none], s.mem⟩) (ds := (colsF c1 l1).map .str)
        (by simp [seqE, Ev.call, passes, pass, EM.bind, var, keep, EM.pure, hc, Ev.opt, walkD]) (by have := colsF_len (l := l1) h1; rw [List.length_map]; show _ < 1000000; omega)
        (fun d hd => by
          obtain ⟨c, _, rfl⟩ := List.mem_map.mp hd
          refine ⟨rfl, fun _ => ?_⟩
          simp [cmp, EM.bind, var, idx, idxD, pr0, lit, EM.pure, get, Out.look, Ev.opt, COp.go, inD, flatsS 60, D.flat, inB])
      have hb : bi .all [lc [2] (.one 2) (seqE (Ev.call (run P (k + 1)) c [var 0] [])) yes (cmp .isin (var 2) (idx (var 1) (lit (.int 0))))] ⟨[some (.d (qD c1 l1)), some (.d (qD c2 l2)), none], s.mem⟩ = .ok (.d (.bl (belowF c1 l1 c2 l2))) ⟨[some (.d (qD c1 l1)), some (.d (qD c2 l2)), none], s.mem⟩ := by
        simp only [bi, args, EM.bind, hl, EM.pure, gets, get, Out.look, Ev.opt, Bi.go]
        rw [List.filter_eq_self.mpr fun _ _ => rfl, allBls_map]
        simp only [Option.map_some, belowF, hq, Bool.not_false, Bool.true_and]
        rw [List.all_map]
        rfl
      have ha : cmp .ne (var 0) (var 1) ⟨[some (.d (qD c1 l1)), some (.d (qD c2 l2)), none], s.mem⟩ = .ok (.d (.bl true)) ⟨[some (.d (qD c1 l1)), some (.d (qD c2 l2)), none], s.mem⟩ := by
        simp [cmp, EM.bind, var, get, Out.look, Ev.opt, COp.go, okQ, EM.pure, hq]
      simp only [belowB, seq, sRet, Ev.lift, andE, EM.bind, ha, get, Out.look, Ev.opt, truth, EM.pure, if_true, hb]
  rw [run_at hP rfl (by show 2 ≤ 3; decide)]
  show leave s (belowB c (run P (k + 1)) ⟨[some (.d (qD c1 l1)), some (.d (qD c2 l2)), none], s.mem⟩) = _
  rw [e]
  exact leave_d ..
theorem filt_empty (p : D → Bool) (ws : List Str) : eqD (.lst ((ws.map D.str).filter p)) (.lst []) = (ws.map D.str).all fun d => !p d := by
  induction ws with
  | nil => simp [eqD, D.py, D.pys, PyData.eqv, PyData.eqvAll]
  | cons w ws ih =>
    rw [List.map_cons, List.filter_cons, List.all_cons]
    cases h : p (.str w) with
    | true => simp [eqD, D.py, D.pys, PyData.eqv, PyData.eqvAll]
    | false => simpa using ih
theorem flats_filter (n : Nat) (p : D → Bool) : ∀ ws : List Str, D.flats n ((ws.map D.str).filter p) = true
  | [] => by simp [D.flats]
  | w :: ws => by
    rw [List.map_cons, List.filter_cons]
    split
    · rw [D.flats, flats_filter n p ws]
      simp [D.flat]
    · exact flats_filter n p ws
theorem lbelow_call (hP : P i = some ⟨3, 2, lbelowB c⟩) (hC : P c = some ⟨2, 1, allB⟩) {c1 c2 : List Str} {l1 l2 : Str} (h1 : c1.length ≤ 12) (hs1 : sS c1 = c1) : run P (k + 2) i [.d (qD c1 l1), .d (qD c2 l2)] s = .ok (.d (.bl (belowF c1 l1 c2 l2))) s := by
  have e : lbelowB c (run P (k + 1)) ⟨[some (.d (qD c1 l1)), some (.d (qD c2 l2)), none], s.mem⟩ = .ret (.d (.bl (belowF c1 l1 c2 l2))) ⟨[some (.d (qD c1 l1)), some (.d (qD c2 l2)), none], s.mem⟩ := by
    cases hq : eqD (qD c1 l1) (qD c2 l2) with
    | true => simp [lbelowB, belowF, hq, seq, sRet, Ev.lift, andE, cmp, EM.bind, var, get, Out.look, Ev.opt, COp.go, okQ, EM.pure, truth]
    | false =>
      have hc := all_call (k := k) hC (l := l1) (s := ⟨[some (.d (qD c1 l1)), some (.d (qD c2 l2)), none], s.mem⟩) h1 hs1
      have hl := lc_at (v := 2) (env := [some (.d (qD c1 l1)), some (.d (qD c2 l2)), none]) (m := s.mem) (it := seqE (Ev.call (run P (k + 1)) c [var 0] [])) (c := cmpB .notin (var 2) (idx (var 1) (lit (.int 0)))) (el := var 2) (p := fun d => !inB c2 d) (g := fun d => d) (s0 := ⟨[some (.d (qD c1 l1)), some (.d (qD c2 l2)), none], s.mem⟩) (ds := (colsF c1 l1).map .str)
        (by simp [seqE, Ev.call, passes, pass, EM.bind, var, keep, EM.pure, hc, Ev.opt, walkD]) (by have := colsF_len (l := l1) h1; rw [List.length_map]; show _ < 1000000; omega)
        (fun d hd => by
          obtain ⟨c, _, rfl⟩ := List.mem_map.mp hd
          refine ⟨?_, fun _ => by simp [var]⟩
          simp [cmpB, EM.bind, var, idx, idxD, pr0, lit, EM.pure, get, Out.look, Ev.opt, COp.go, inD, flatsS 60, D.flat, inB])
      have hb : cmp .eq (lc [2] (.one 2) (seqE (Ev.call (run P (k + 1)) c [var 0] [])) (cmpB .notin (var 2) (idx (var 1) (lit (.int 0)))) (var 2)) (lstE []) ⟨[some (.d (qD c1 l1)), some (.d (qD c2 l2)), none], s.mem⟩ = .ok (.d (.bl (belowF c1 l1 c2 l2))) ⟨[some (.d (qD c1 l1)), some (.d (qD c2 l2)), none], s.mem⟩ := by
        have hn : lstE [] ⟨[some (.d (qD c1 l1)), some (.d (qD c2 l2)), none], s.mem⟩ = .ok (.new (.lst [])) ⟨[some (.d (qD c1 l1)), some (.d (qD c2 l2)), none], s.mem⟩ := by simp [lstE, els, EM.bind, EM.pure, few, Ev.opt]
        have ok : okEq (.lst (((colsF c1 l1).map D.str).filter fun d => !inB c2 d)) (.lst []) = true := by simp [okEq, D.flat, flats_filter, D.flats]
        simp only [cmp, EM.bind, hl, hn, EM.pure, get, Out.look, Ev.opt, COp.go, List.map_id']
        rw [if_pos ok, filt_empty]
        simp only [Option.map_some, belowF, hq, Bool.not_false, Bool.true_and, Bool.not_not]
        rfl
      have ha : cmp .ne (var 0) (var 1) ⟨[some (.d (qD c1 l1)), some (.d (qD c2 l2)), none], s.mem⟩ = .ok (.d (.bl true)) ⟨[some (.d (qD c1 l1)), some (.d (qD c2 l2)), none], s.mem⟩ := by
        simp [cmp, EM.bind, var, get, Out.look, Ev.opt, COp.go, okQ, EM.pure, hq]
      simp only [lbelowB, seq, sRet, Ev.lift, andE, EM.bind, ha, get, Out.look, Ev.opt, truth, EM.pure, if_true, hb]
  rw [run_at hP rfl (by show 2 ≤ 3; decide)]
  show leave s (lbelowB c (run P (k + 1)) ⟨[some (.d (qD c1 l1)), some (.d (qD c2 l2)), none], s.mem⟩) = _
  rw [e]
  exact leave_d ..
def shareF (c1 : List Str) (l1 : Str) (c2 : List Str) (l2 : Str) : Bool := eqD (qD c1 l1) (qD c2 l2) || (belowF c1 l1 c2 l2 || belowF c2 l2 c1 l1)
theorem share_call (hP : P i = some ⟨2, 2, shareB b⟩) (hB : P b = some ⟨3, 2, belowB c⟩) (hC : P c = some ⟨3, 1, colsB⟩) {c1 c2 : List Str} {l1 l2 : Str} (h1 : c1.length ≤ 12) (h2 : c2.length ≤ 12) : run P (k + 3) i [.d (qD c1 l1), .d (qD c2 l2)] s = .ok (.d (.bl (shareF c1 l1 c2 l2))) s := by
  have e1 := below_call (k := k) hB hC (l1 := l1) (c2 := c2) (l2 := l2) (s := ⟨[some (.d (qD c1 l1)), some (.d (qD c2 l2))], s.mem⟩) h1
  have e2 := below_call (k := k) hB hC (l1 := l2) (c2 := c1) (l2 := l1) (s := ⟨[some (.d (qD c1 l1)), some (.d (qD c2 l2))], s.mem⟩) h2
  have e : shareB b (run P (k + 2)) ⟨[some (.d (qD c1 l1)), some (.d (qD c2 l2))], s.mem⟩ = .ret (.d (.bl (shareF c1 l1 c2 l2))) ⟨[some (.d (qD c1 l1)), some (.d (qD c2 l2))], s.mem⟩ := by
    cases hq : eqD (qD c1 l1) (qD c2 l2) <;> cases hb : belowF c1 l1 c2 l2 <;> simp [shareB, shareF, hq, hb, seq, sRet, Ev.lift, orE, cmp, EM.bind, var, get, Out.look, Ev.opt, COp.go, okQ, EM.pure, truth, Ev.call, passes, pass, keep, e1, e2]
  rw [run_at hP rfl (by show 2 ≤ 2; decide)]
  show leave s (shareB b (run P (k + 2)) ⟨[some (.d (qD c1 l1)), some (.d (qD c2 l2))], s.mem⟩) = _
  rw [e]
  exact leave_d ..
theorem lshare_call (hP : P i = some ⟨2, 2, shareB b⟩) (hB : P b = some ⟨3, 2, lbelowB c⟩) (hC : P c = some ⟨2, 1, allB⟩) {c1 c2 : List Str} {l1 l2 : Str} (h1 : c1.length ≤ 12) (h2 : c2.length ≤ 12) (g1 : sS c1 = c1) (g2 : sS c2 = c2) : run P (k + 3) i [.d (qD c1 l1), .d (qD c2 l2)] s = .ok (.d (.bl (shareF c1 l1 c2 l2))) s := by
  have e1 := lbelow_call (k := k) hB hC (l1 := l1) (c2 := c2) (l2 := l2) (s := ⟨[some (.d (qD c1 l1)), some (.d (qD c2 l2))], s.mem⟩) h1 g1
  have e2 := lbelow_call (k := k) hB hC (l1 := l2) (c2 := c1) (l2 := l1) (s := ⟨[some (.d (qD c1 l1)), some (.d (qD c2 l2))], s.mem⟩) h2 g2
  have e : shareB b (run P (k + 2)) ⟨[some (.d (qD c1 l1)), some (.d (qD c2 l2))], s.mem⟩ = .ret (.d (.bl (shareF c1 l1 c2 l2))) ⟨[some (.d (qD c1 l1)), some (.d (qD c2 l2))], s.mem⟩ := by
    cases hq : eqD (qD c1 l1) (qD c2 l2) <;> cases hb : belowF c1 l1 c2 l2 <;> simp [shareB, shareF, hq, hb, seq, sRet, Ev.lift, orE, cmp, EM.bind, var, get, Out.look, Ev.opt, COp.go, okQ, EM.pure, truth, Ev.call, passes, pass, keep, e1, e2]
  rw [run_at hP rfl (by show 2 ≤ 2; decide)]
  show leave s (shareB b (run P (k + 2)) ⟨[some (.d (qD c1 l1)), some (.d (qD c2 l2))], s.mem⟩) = _
  rw [e]
  exact leave_d ..
theorem share_sym {c1 c2 : List Str} {l1 l2 : Str} : shareF c2 l2 c1 l1 = shareF c1 l1 c2 l2 := by
  unfold shareF
  rw [eqQ, eqQ, Bool.or_comm (belowF c2 l2 c1 l1)]
  congr 1
  by_cases h1 : c1 = c2 <;> by_cases h2 : l1 = l2 <;> simp [h1, h2, eq_comm]
theorem share_self {c1 : List Str} {l1 : Str} : shareF c1 l1 c1 l1 = true := by
  unfold shareF
  rw [eqQ]
  simp
end
end Ev

set_option Elab.async false
set_option linter.all false
set_option autoImplicit false
set_option maxHeartbeats 4000000
/-! Plain lemmas, part w: each once, ascending. -/
namespace Ev
open PySem
def onceF : List Qt → List Qt → List Qt
  | [], acc => acc
  | q :: qs, acc => onceF qs (if q ∈ acc then acc else acc ++ [q])
theorem onceF_mem : ∀ (qs acc : List Qt) (x : Qt), x ∈ onceF qs acc ↔ x ∈ acc ∨ x ∈ qs
  | [], acc, x => by simp [onceF]
  | q :: qs, acc, x => by
    rw [onceF, onceF_mem]
    by_cases h : q ∈ acc
    · rw [if_pos h, List.mem_cons]
      constructor
      · rintro (z | z)
        · exact .inl z
        · exact .inr (.inr z)
      · rintro (z | rfl | z)
        · exact .inl z
        · exact .inl h
        · exact .inr z
    · rw [if_neg h, List.mem_append, List.mem_singleton, List.mem_cons, or_assoc]
theorem onceF_nodup : ∀ (qs acc : List Qt), acc.Nodup → (onceF qs acc).Nodup
  | [], acc, h => h
  | q :: qs, acc, h => by
    rw [onceF]
    split
    · exact onceF_nodup qs acc h
    · rename_i hq
      refine onceF_nodup qs _ ?_
      rw [List.nodup_append]
      refine ⟨h, by simp, fun a ha b hb z => ?_⟩
      rw [List.mem_singleton] at hb
      subst hb
      subst z
      exact hq ha
theorem onceF_sub : ∀ (qs acc : List Qt), (onceF qs acc).Sublist (acc ++ qs)
  | [], acc => by simp [onceF]
  | q :: qs, acc => by
    rw [onceF]
    split
    · exact (onceF_sub qs acc).trans (List.Sublist.append (List.Sublist.refl _) (List.sublist_cons_self _ _))
    · have := onceF_sub qs (acc ++ [q])
      rw [List.append_assoc] at this
      exact this
section
variable {m : Mem}
def onT : SM := seq (sIf (cmpB .notin (var 2) (var 1)) (seq (sExpr (mt .append (var 1) [var 2])) skip) skip) skip
theorem on_turn {q : Qt} {acc : List Qt} {e0 : Option Slot} (hl : acc.length < 1000) : onT ⟨[e0, some (.own (.lst (acc.map qT))), some (.d (qT q))], m⟩ = .next ⟨[e0, some (.own (.lst ((if q ∈ acc then acc else acc ++ [q]).map qT))), some (.d (qT q))], m⟩ := by
  have f : D.flats 60 (acc.map qT) = true := flats_of fun d hd => by
    obtain ⟨x, _, rfl⟩ := List.mem_map.mp hd
    exact flatQ x.1 x.2
  have h1 : inD (qT q) (.lst (acc.map qT)) = some (decide (q ∈ acc)) := by
    simp only [inD, flatQ, f, Bool.and_self, if_true]
    exact congrArg some (in_q (List.Perm.refl _) q)
  have l1 : acc.length < 1000000 := by omega
  by_cases h : q ∈ acc
  · simp [onT, seq, sIf, cmpB, COp.go, EM.bind, var, get, Out.look, Ev.opt, h1, h, Ev.lift, skip, EM.pure]
  · simp [onT, seq, sIf, cmpB, COp.go, EM.bind, var, get, Out.look, Ev.opt, h1, h, Ev.lift, skip, sExpr, mt, asL, keeps, keep, EM.pure, Mt.go, LIM, l1, putIn]
theorem on_loop : ∀ (qs acc : List Qt) {e0 e2 : Option Slot}, acc.length + qs.length < 1000 → ∃ f2, loop (.one 2) onT (qs.map qT) ⟨[e0, some (.own (.lst (acc.map qT))), e2], m⟩ = .next ⟨[e0, some (.own (.lst ((onceF qs acc).map qT))), f2], m⟩
  | [], acc, e0, e2, _ => ⟨e2, rfl⟩
  | q :: qs, acc, e0, e2, h => by
    simp only [List.length_cons] at h
    have hl : (if q ∈ acc then acc else acc ++ [q]).length + qs.length < 1000 := by
      split
      · omega
      · simp
        omega
    obtain ⟨f2, i1⟩ := on_loop qs (if q ∈ acc then acc else acc ++ [q]) (e0 := e0) (e2 := some (.d (qT q))) hl
    refine ⟨f2, ?_⟩
    simp only [List.map_cons, loop, Tg.put, List.set, on_turn (show acc.length < 1000 by omega)]
    rw [i1, onceF]
/-- a sorted list's sublist is sorted -/
theorem once_sorted {qs ps : List Qt} (h : sortD (qs.map qT) = ps.map qT) : (onceF ps []).map qT = sortD ((dedupQ qs).map qT) := by
  have hp : ps.Perm qs := by
    have : (ps.map qT).Perm (qs.map qT) := by
      rw [← h]
      exact sortD_perm _
    obtain ⟨ws, e, hw⟩ := perm_map this
    have : ps = ws := (List.map_inj_right (fun _ _ => qT_inj)).mp e
    rw [this]
    exact hw
  have e1 : sortD ((onceF ps []).map qT) = sortD ((dedupQ qs).map qT) := sortQ_mem (onceF_nodup ps [] List.nodup_nil) (nodup_dedupQ qs) fun q => by
    rw [onceF_mem, mem_dedupQ, hp.mem_iff]
    simp
  rw [← e1]
  have sub : ((onceF ps []).map qT).Sublist (sortD (qs.map qT)) := by
    rw [h]
    exact (onceF_sub ps []).map qT
  exact (List.mergeSort_of_pairwise ((List.pairwise_mergeSort leD_trans leD_total (qs.map qT)).sublist sub)).symm
def onceB : Call → SM := fun C => seq (sSet 1 (lstE [])) (seq (sFor (.one 2) (seqE (bi .sorted [var 0])) onT) (seq (sRet (var 1)) skip))
theorem forOf {tg : Tg} {it : EM (List D)} {B : SM} {xs : List D} {s s1 s2 : S} (h : it s = .ok xs s1) (h2 : loop tg B xs s1 = .next s2) : sFor tg it B s = .next s2 := by
  simp only [sFor, Ev.lift, h, h2]
theorem once_call {P : Nat → Option Def} {k i : Nat} {s : S} (hP : P i = some ⟨3, 1, onceB⟩) {qs : List Qt} (hl : qs.length < 500) : run P (k + 1) i [.d (.lst (qs.map qT))] s = .ok (.new (.lst (sortD ((dedupQ qs).map qT)))) s := by
  obtain ⟨ps, hp, hq⟩ := perm_map (sortD_perm (qs.map qT))
  have e0 := once_sorted hp
  have a1 : sSet 1 (lstE []) ⟨[some (.d (.lst (qs.map qT))), none, none], s.mem⟩ = .next ⟨[some (.d (.lst (qs.map qT))), some (.own (.lst (([] : List Qt).map qT))), none], s.mem⟩ := rfl
  have a2 : seqE (bi .sorted [var 0]) ⟨[some (.d (.lst (qs.map qT))), some (.own (.lst (([] : List Qt).map qT))), none], s.mem⟩ = .ok (ps.map qT) ⟨[some (.d (.lst (qs.map qT))), some (.own (.lst (([] : List Qt).map qT))), none], s.mem⟩ := by
    simp [seqE, bi, args, gets, EM.bind, var, EM.pure, get, Out.look, Ev.opt, sort_q, hp, keep, walkD]
  obtain ⟨f2, h3⟩ := on_loop (m := s.mem) ps [] (e0 := some (.d (.lst (qs.map qT)))) (e2 := none) (by rw [hq.length_eq]; simp; omega)
  rw [e0] at h3
  have e : onceB (run P k) ⟨[some (.d (.lst (qs.map qT))), none, none], s.mem⟩ = .ret (.own 1) ⟨[some (.d (.lst (qs.map qT))), some (.own (.lst (sortD ((dedupQ qs).map qT)))), f2], s.mem⟩ :=
    (seq_next a1).trans ((seq_next (forOf a2 h3)).trans (by simp [seq, sRet, Ev.lift, var]))
  rw [run_at hP rfl (by show 1 ≤ 3; decide)]
  show leave s (onceB (run P k) ⟨[some (.d (.lst (qs.map qT))), none, none], s.mem⟩) = _
  rw [e]
  simp [leave]
end
end Ev

set_option Elab.async false
set_option linter.all false
set_option autoImplicit false
set_option maxHeartbeats 4000000
/-! Plain lemmas, part x: the first pair of a row. -/
namespace Ev
open PySem
section
variable {α : Type} (sh lt : α → α → Bool)
/-- the first two, the one ahead of the other, that do not share -/
def firstP : List α → Option (α × α)
  | [] => none
  | q :: r => match r.find? (fun o => !sh q o) with
    | some o => some (q, o)
    | none => firstP r
/-- by going through all twice -/
def allP (U : List α) : List α → Option (α × α)
  | [] => none
  | q :: r => match U.find? (fun o => lt q o && !sh q o) with
    | some o => some (q, o)
    | none => allP U r
theorem find_skip (q : α) : ∀ (pre r : List α), (∀ p ∈ pre, lt q p = false) → (∀ o ∈ r, lt q o = true) → (pre ++ r).find? (fun o => lt q o && !sh q o) = r.find? fun o => !sh q o
  | [], r, _, h => by
    rw [List.nil_append]
    induction r with
    | nil => rfl
    | cons o r ih =>
      rw [List.find?_cons, List.find?_cons, h o List.mem_cons_self, Bool.true_and, ih fun x hx => h x (List.mem_cons_of_mem _ hx)]
  | p :: pre, r, h1, h2 => by
    rw [List.cons_append, List.find?_cons, h1 p List.mem_cons_self]
    exact find_skip q pre r (fun x hx => h1 x (List.mem_cons_of_mem _ hx)) h2
theorem allP_first : ∀ (pre r : List α), (∀ p ∈ pre, ∀ x ∈ r, lt x p = false) → (∀ x ∈ r, lt x x = false) → r.Pairwise (fun a b => lt a b = true ∧ lt b a = false) → allP sh lt (pre ++ r) r = firstP sh r
  | pre, [], _, _, _ => rfl
  | pre, q :: r, h1, h2, h3 => by
    rw [allP, firstP]
    have e : pre ++ q :: r = (pre ++ [q]) ++ r := by simp
    have h3' := List.pairwise_cons.mp h3
    rw [e, find_skip sh lt q (pre ++ [q]) r (fun p hp => by
      rcases List.mem_append.mp hp with hp | hp
      · exact h1 p hp q List.mem_cons_self
      · rw [List.mem_singleton.mp hp]
        exact h2 q List.mem_cons_self) fun o ho => (h3'.1 o ho).1]
    have ih := allP_first (pre ++ [q]) r (fun p hp x hx => by
      rcases List.mem_append.mp hp with hp | hp
      · exact h1 p hp x (List.mem_cons_of_mem _ hx)
      · rw [List.mem_singleton.mp hp]
        exact (h3'.1 x hx).2) (fun x hx => h2 x (List.mem_cons_of_mem _ hx)) h3'.2
    rw [ih]
end
/-! the order of questions -/
abbrev ltQ (p q : Qt) : Bool := PySem.W.dataLt (qT p).py (qT q).py
theorem ltQ_of {p q : Qt} (h : leD' (qT p) (qT q) = true) (hn : p ≠ q) : ltQ p q = true ∧ ltQ q p = false := by
  have h2 : ltQ q p = false := by
    have : (!PySem.W.dataLt (qT q).py (qT p).py) = true := h
    simpa using this
  refine ⟨?_, h2⟩
  cases h1 : ltQ p q with
  | true => rfl
  | false =>
    have h3 : leD' (qT q) (qT p) = true := by
      show (!ltQ p q) = true
      rw [h1]
      rfl
    have e := leD_anti (alike_q p q) h h3
    have e : eqD (qT p) (qT q) = true := e
    rw [eqQ] at e
    obtain ⟨e1, e2⟩ := of_decide_eq_true e
    exact absurd (Prod.ext e1 e2) hn
theorem ltQ_self (p : Qt) : ltQ p p = false := by
  have := leD_total (qT p) (qT p)
  simp only [Bool.or_self] at this
  have : (!PySem.W.dataLt (qT p).py (qT p).py) = true := this
  simpa using this
theorem sorted_strict {L : List D} {us : List Qt} (h : sortD L = us.map qT) (hn : us.Nodup) : us.Pairwise fun a b => ltQ a b = true ∧ ltQ b a = false := by
  have h1 : (sortD L).Pairwise fun a b => leD' a b = true := List.pairwise_mergeSort leD_trans leD_total L
  rw [h, List.pairwise_map] at h1
  exact (h1.and hn).imp fun ⟨x, y⟩ => ltQ_of x y
end Ev

set_option Elab.async false
set_option linter.all false
set_option autoImplicit false
set_option maxHeartbeats 4000000
/-! Plain lemmas, part y: split_pair. -/
namespace Ev
open PySem
abbrev shQ (p q : Qt) : Bool := shareF p.1 p.2 q.1 q.2
section
variable {P : Nat → Option Def} {k i b c sh : Nat} {s : S} {m : Mem}
def spI (sh : Nat) : Call → SM := fun C => seq (sIf (ntB (tst (Ev.call C sh [var 3, var 4] []))) (seq (sRet (tupE [(false, var 3), (false, var 4)])) skip) skip) skip
def spO (sh : Nat) : Call → SM := fun C => seq (sFor (.one 4) (seqE (cut (var 1) (some (bin .add (var 2) (lit (.int 1)))) none)) (spI sh C)) skip
def spB (sh : Nat) : Call → SM := fun C => seq (sSet 1 (sortSet (var 0))) (seq (sFor (.many [2, 3]) (enumE (var 1)) (spO sh C)) (seq (sRet (lit .non)) skip))
/-- the inner walk -/
theorem sp_inner (hP : P sh = some ⟨2, 2, shareB b⟩) (hB : P b = some ⟨3, 2, belowB c⟩) (hC : P c = some ⟨3, 1, colsB⟩) {q : Qt} (hq : q.1.length ≤ 12) {e0 e1 e2 : Option Slot} : ∀ (r : List Qt), (∀ o ∈ r, o.1.length ≤ 12) → ∀ {e4 : Option Slot}, ∃ f4,
    loop (.one 4) (spI sh (run P (k + 3))) (r.map qT) ⟨[e0, e1, e2, some (.d (qT q)), e4], m⟩ = match r.find? (fun o => !shQ q o) with
      | some o => .ret (.d (.tup [qT q, qT o])) ⟨[e0, e1, e2, some (.d (qT q)), f4], m⟩
      | none => .next ⟨[e0, e1, e2, some (.d (qT q)), f4], m⟩
  | [], _, e4 => ⟨e4, rfl⟩
  | o :: r, h, e4 => by
    have h1 := share_call (k := k) hP hB hC (c1 := q.1) (l1 := q.2) (c2 := o.1) (l2 := o.2) (s := ⟨[e0, e1, e2, some (.d (qT q)), some (.d (qT o))], m⟩) hq (h o List.mem_cons_self)
    cases hs : shQ q o with
    | false =>
      have h1 : run P (k + 3) sh [.d (qT q), .d (qT o)] ⟨[e0, e1, e2, some (.d (qT q)), some (.d (qT o))], m⟩ = .ok (.d (.bl false)) ⟨[e0, e1, e2, some (.d (qT q)), some (.d (qT o))], m⟩ := by
        rw [← hs]
        exact h1
      refine ⟨some (.d (qT o)), ?_⟩
      rw [List.find?_cons]
      simp only [hs, Bool.not_false, if_true, List.map_cons, loop, Tg.put, List.set]
      simp [spI, seq, sIf, ntB, tst, truth, Ev.lift, Ev.call, passes, pass, EM.bind, var, keep, EM.pure, h1, get, Out.look, Ev.opt, sRet, tupE, els, few, LIM]
    | true =>
      have h1 : run P (k + 3) sh [.d (qT q), .d (qT o)] ⟨[e0, e1, e2, some (.d (qT q)), some (.d (qT o))], m⟩ = .ok (.d (.bl true)) ⟨[e0, e1, e2, some (.d (qT q)), some (.d (qT o))], m⟩ := by
        rw [← hs]
        exact h1
      obtain ⟨f4, i1⟩ := sp_inner hP hB hC hq r (fun x hx => h x (List.mem_cons_of_mem _ hx)) (e4 := some (.d (qT o)))
      refine ⟨f4, ?_⟩
      rw [List.find?_cons]
      have e : spI sh (run P (k + 3)) ⟨[e0, e1, e2, some (.d (qT q)), some (.d (qT o))], m⟩ = .next ⟨[e0, e1, e2, some (.d (qT q)), some (.d (qT o))], m⟩ := by
        simp [spI, seq, sIf, ntB, tst, truth, Ev.lift, Ev.call, passes, pass, EM.bind, var, keep, EM.pure, h1, get, Out.look, Ev.opt, skip]
      simp only [hs, Bool.not_true, List.map_cons, loop, Tg.put, List.set, e]
      exact i1
/-- the outer walk -/
theorem sp_outer (hP : P sh = some ⟨2, 2, shareB b⟩) (hB : P b = some ⟨3, 2, belowB c⟩) (hC : P c = some ⟨3, 1, colsB⟩) {e0 : Option Slot} {us : List Qt} (hu : ∀ o ∈ us, o.1.length ≤ 12) : ∀ (r pre : List Qt), us = pre ++ r → ∀ {e2 e3 e4 : Option Slot}, ∃ env,
    loop (.many [2, 3]) (spO sh (run P (k + 3))) (((r.map qT).zipIdx pre.length).map fun p => .tup [.int p.2, p.1]) ⟨[e0, some (.d (.lst (us.map qT))), e2, e3, e4], m⟩ = match firstP shQ r with
      | some po => .ret (.d (.tup [qT po.1, qT po.2])) ⟨env, m⟩
      | none => .next ⟨env, m⟩
  | [], pre, _, e2, e3, e4 => ⟨_, rfl⟩
  | q :: r, pre, hs, e2, e3, e4 => by
    have hq : ∀ o ∈ r, o.1.length ≤ 12 := fun o ho => hu o (by rw [hs]; simp [ho])
    have hq0 : q.1.length ≤ 12 := hu q (by rw [hs]; simp)
    have z : seqE (cut (var 1) (some (bin .add (var 2) (lit (.int 1)))) none) ⟨[e0, some (.d (.lst (us.map qT))), some (.d (.int (pre.length : Nat))), some (.d (qT q)), e4], m⟩ = .ok (r.map qT) ⟨[e0, some (.d (.lst (us.map qT))), some (.d (.int (pre.length : Nat))), some (.d (qT q)), e4], m⟩ := by
      have c : cutL (us.map qT) (some ((pre.length : Int) + 1)) none = r.map qT := by
        rw [cut_from _ (by omega), show ((pre.length : Int) + 1).toNat = pre.length + 1 by omega, hs, List.map_append, List.map_cons, List.drop_append, List.drop_of_length_le (by simp)]
        simp
      simp [seqE, cut, EM.bind, var, ends, bin, get, Out.look, Ev.opt, lit, BOp.go, addD, EM.pure, asI, cutD, c, keep, walkD]
    obtain ⟨f4, h1⟩ := sp_inner (k := k) (m := m) hP hB hC hq0 (e0 := e0) (e1 := some (.d (.lst (us.map qT)))) (e2 := some (.d (.int (pre.length : Nat)))) r hq (e4 := e4)
    rw [List.map_cons, List.zipIdx_cons, List.map_cons, firstP]
    simp only [loop, Tg.put, setAll, List.set]
    cases hf : r.find? fun o => !shQ q o with
    | some o =>
      rw [hf] at h1
      refine ⟨[e0, some (.d (.lst (us.map qT))), some (.d (.int (pre.length : Nat))), some (.d (qT q)), f4], ?_⟩
      have e : spO sh (run P (k + 3)) ⟨[e0, some (.d (.lst (us.map qT))), some (.d (.int (pre.length : Nat))), some (.d (qT q)), e4], m⟩ = .ret (.d (.tup [qT q, qT o])) ⟨[e0, some (.d (.lst (us.map qT))), some (.d (.int (pre.length : Nat))), some (.d (qT q)), f4], m⟩ := by
        refine seq_ret ?_
        simp only [sFor, Ev.lift, z]
        exact h1
      simp only [e]
    | none =>
      rw [hf] at h1
      obtain ⟨env, h2⟩ := sp_outer hP hB hC hu r (pre ++ [q]) (by rw [hs]; simp) (e0 := e0) (e2 := some (.d (.int (pre.length : Nat)))) (e3 := some (.d (qT q))) (e4 := f4)
      refine ⟨env, ?_⟩
      have e : spO sh (run P (k + 3)) ⟨[e0, some (.d (.lst (us.map qT))), some (.d (.int (pre.length : Nat))), some (.d (qT q)), e4], m⟩ = .next ⟨[e0, some (.d (.lst (us.map qT))), some (.d (.int (pre.length : Nat))), some (.d (qT q)), f4], m⟩ := by
        refine (seq_next (forOf z h1)).trans rfl
      simp only [e]
      rw [List.length_append, List.length_singleton] at h2
      exact h2
abbrev pairD : Option (Qt × Qt) → D
  | some po => .tup [qT po.1, qT po.2]
  | none => .non
/-- the different ones, ascending -/
theorem uniq_row (qs : List Qt) : ∃ us : List Qt, sortD ((dedupQ qs).map qT) = us.map qT ∧ us.Perm (dedupQ qs) := perm_map (sortD_perm _)
theorem split_call (hS : P i = some ⟨5, 1, spB sh⟩) (hP : P sh = some ⟨2, 2, shareB b⟩) (hB : P b = some ⟨3, 2, belowB c⟩) (hC : P c = some ⟨3, 1, colsB⟩) {qs us : List Qt} {T : D} (hT : T = .lst (qs.map qT) ∨ T = .tup (qs.map qT)) (hl : qs.length < 500) (hq : ∀ o ∈ qs, o.1.length ≤ 12) (hu : sortD ((dedupQ qs).map qT) = us.map qT) (hp : us.Perm (dedupQ qs)) :
    run P (k + 4) i [.d T] s = .ok (.d (pairD (firstP shQ us))) s := by
  have hs := set_q (qs := qs) (u := T) hT (by omega)
  rw [hu] at hs
  have hus : ∀ o ∈ us, o.1.length ≤ 12 := fun o ho => hq o (mem_dedupQ.mp (hp.mem_iff.mp ho))
  have a1 : sSet 1 (sortSet (var 0)) ⟨[some (.d T), none, none, none, none], s.mem⟩ = .next ⟨[some (.d T), some (.own (.lst (us.map qT))), none, none, none], s.mem⟩ := by
    simp [sSet, Ev.lift, sortSet, biG, args, gets, EM.bind, var, EM.pure, get, Out.look, Ev.opt, hs, store]
  have a2 : enumE (var 1) ⟨[some (.d T), some (.own (.lst (us.map qT))), none, none, none], s.mem⟩ = .ok (((us.map qT).zipIdx 0).map fun p => .tup [.int p.2, p.1]) ⟨[some (.d T), some (.d (.lst (us.map qT))), none, none, none], s.mem⟩ := by
    simp [enumE, keeps, EM.bind, var, keep, EM.pure, enumD, Ev.opt]
  obtain ⟨env, h3⟩ := sp_outer (k := k) (m := s.mem) hP hB hC (e0 := some (.d T)) hus us [] rfl (e2 := none) (e3 := none) (e4 := none)
  have e : spB sh (run P (k + 3)) ⟨[some (.d T), none, none, none, none], s.mem⟩ = .ret (.d (pairD (firstP shQ us))) ⟨env, s.mem⟩ := by
    refine (seq_next a1).trans ?_
    cases hf : firstP shQ us with
    | some po =>
      rw [hf] at h3
      refine seq_ret ?_
      simp only [sFor, Ev.lift, a2]
      exact h3
    | none =>
      rw [hf] at h3
      exact (seq_next (forOf a2 h3)).trans rfl
  rw [run_at hS rfl (by show 1 ≤ 5; decide)]
  show leave s (spB sh (run P (k + 3)) ⟨[some (.d T), none, none, none, none], s.mem⟩) = _
  rw [e]
  exact leave_d s _ _
end
end Ev

set_option Elab.async false
set_option linter.all false
set_option autoImplicit false
set_option maxHeartbeats 4000000
/-! Plain lemmas, wp: a run, step by step. `ok m s Q`: what the expression m ends in from s is as Q asks. -/
namespace Ev
open PySem
/-- what simp does not look into -/
structure Hid {α : Sort 1} (x : α) : Type where mk ::
def ok {α : Type} (m : EM α) (s : S) (Q : Res α → Prop) (_ : Hid m := .mk) (_ : Hid Q := .mk) : Prop := Q (m s)
def oks (m : SM) (s : S) (Q : SR → Prop) (_ : Hid m := .mk) (_ : Hid Q := .mk) : Prop := Q (m s)
def okC (C : Call) (f : Nat) (us : List Vl) (s : S) (Q : Res Out → Prop) (_ : Hid C := .mk) (_ : Hid Q := .mk) : Prop := Q (C f us s)
/-! what follows -/
def andThen {α β : Type} (f : α → EM β) (Q : Res β → Prop) : Res α → Prop
  | .ok a s => ok (f a) s Q
  | .exc x s => Q (.exc x s)
  | .bad => Q .bad
def liftQ {α : Type} (f : α → SM) (Q : SR → Prop) : Res α → Prop
  | .ok a s => oks (f a) s Q
  | .exc x s => Q (.exc x s)
  | .bad => Q .bad
def thenS (b : SM) (Q : SR → Prop) : SR → Prop
  | .next s => oks b s Q
  | r => Q r
def leaveQ (s : S) (Q : Res Out → Prop) (r : SR) : Prop := Q (leave s r)
/-- the invariant, not looked into -/
def At (J : S → Prop) (s : S) (_ : Hid J := .mk) : Prop := J s
theorem At.mk {J : S → Prop} {s : S} (h : J s) : At J s := h
def turnQ (J : S → Prop) (Q : SR → Prop) : SR → Prop
  | .next s => J s
  | .cont s => J s
  | .brk s => Q (.next s)
  | r => Q r
section
variable {α β : Type} {f : α → EM β} {g : α → SM} {Q : Res β → Prop} {R : SR → Prop} {a : α} {s : S} {x : Exc} {b : SM}
@[simp ↓] theorem andThen_ok : andThen f Q (.ok a s) = ok (f a) s Q := rfl
@[simp ↓] theorem andThen_bad : andThen f Q .bad = Q .bad := rfl
@[simp ↓] theorem andThen_exc : andThen f Q (.exc x s) = Q (.exc x s) := rfl
@[simp ↓] theorem liftQ_ok : liftQ g R (.ok a s) = oks (g a) s R := rfl
@[simp ↓] theorem liftQ_bad : liftQ g R .bad = R .bad := rfl
@[simp ↓] theorem liftQ_exc : liftQ g R (.exc x s) = R (.exc x s) := rfl
@[simp ↓] theorem thenS_next : thenS b R (.next s) = oks b s R := rfl
@[simp ↓] theorem thenS_ret {o : Out} : thenS b R (.ret o s) = R (.ret o s) := rfl
@[simp ↓] theorem thenS_brk : thenS b R (.brk s) = R (.brk s) := rfl
@[simp ↓] theorem thenS_cont : thenS b R (.cont s) = R (.cont s) := rfl
@[simp ↓] theorem thenS_exc : thenS b R (.exc x s) = R (.exc x s) := rfl
@[simp ↓] theorem turnQ_next {J : S → Prop} : turnQ J R (.next s) = At J s := rfl
@[simp ↓] theorem turnQ_cont {J : S → Prop} : turnQ J R (.cont s) = At J s := rfl
@[simp ↓] theorem turnQ_brk {J : S → Prop} : turnQ J R (.brk s) = R (.next s) := rfl
@[simp ↓] theorem turnQ_ret {J : S → Prop} {o : Out} : turnQ J R (.ret o s) = R (.ret o s) := rfl
@[simp ↓] theorem turnQ_exc {J : S → Prop} : turnQ J R (.exc x s) = R (.exc x s) := rfl
end
section
variable {s s0 : S} {Q : Res Out → Prop} {o : Out} {x : D} {m : Mem} {env : Slots}
@[simp] theorem leaveQ_next : leaveQ s Q (.next s0) = Q (.ok (.d .non) { s with mem := s0.mem.take s.mem.length }) := rfl
@[simp] theorem leaveQ_d : leaveQ s Q (.ret (.d x) s0) = Q (.ok (.d x) { s with mem := s0.mem.take s.mem.length }) := rfl
@[simp] theorem leaveQ_new : leaveQ s Q (.ret (.new x) s0) = Q (.ok (.new x) { s with mem := s0.mem.take s.mem.length }) := rfl
@[simp] theorem leaveQ_exc {e : Exc} : leaveQ s Q (.exc e s0) = Q (.exc e { s with mem := s0.mem.take s.mem.length }) := rfl
def ownK (s s0 : S) (Q : Res Out → Prop) (o : Option (Option Slot)) (_ : Hid Q := .mk) : Prop := match o with
  | some (some (.own x)) => Q (.ok (.new x) { s with mem := s0.mem.take s.mem.length })
  | some (some (.d x)) => Q (.ok (.d x) { s with mem := s0.mem.take s.mem.length })
  | _ => Q .bad
@[simp] theorem ownK_own : ownK s s0 Q (some (some (.own x))) = Q (.ok (.new x) { s with mem := s0.mem.take s.mem.length }) := rfl
@[simp] theorem ownK_d : ownK s s0 Q (some (some (.d x))) = Q (.ok (.d x) { s with mem := s0.mem.take s.mem.length }) := rfl
@[simp] theorem leaveQ_own {i : Nat} : leaveQ s Q (.ret (.own i) s0) = ownK s s0 Q s0.env[i]? := by
  unfold leaveQ leave ownK
  simp only
  split <;> simp_all
end
@[simp] theorem truth_bl {b : Bool} : truth (.bl b) = some b := rfl
@[simp] theorem truth_lst {xs : List D} : truth (.lst xs) = some (!xs.isEmpty) := rfl
@[simp] theorem truth_tup {xs : List D} : truth (.tup xs) = some (!xs.isEmpty) := rfl
@[simp] theorem truth_non : truth .non = some false := rfl
@[simp] theorem asL_lst {xs : List D} : asL (.lst xs) = some xs := rfl
@[simp] theorem slot_d {x : D} : (Vl.d x).slot = .d x := rfl
@[simp] theorem slot_ref {k : Nat} : (Vl.ref k).slot = .ref k := rfl
/-! expressions -/
section
variable {α β γ : Type} {m : EM α} {f : α → EM β} {s : S} {Q : Res β → Prop} {R : Res α → Prop} {P : Res Out → Prop} {E : EM Out} {a b c : EM Out} {B : Res Bool → Prop} {ta tb tc : EM Bool}
@[simp ↓] theorem ok_bind : ok (EM.bind m f) s Q = ok m s (andThen f Q) := by
  unfold ok EM.bind
  cases m s <;> rfl
@[simp ↓] theorem ok_pure {v : α} : ok (EM.pure v) s R = R (.ok v s) := rfl
def optK (R : Res α → Prop) (s : S) (o : Option α) (_ : Hid R := .mk) : Prop := match o with
  | some v => R (.ok v s)
  | none => R .bad
@[simp ↓] theorem optK_some {v : α} : optK R s (some v) = R (.ok v s) := rfl
@[simp ↓] theorem optK_none : optK R s none = R .bad := rfl
@[simp ↓] theorem ok_opt {o : Option α} : ok (Ev.opt o) s R = optK R s o := by cases o <;> rfl
@[simp ↓] theorem ok_ite {p : Prop} [Decidable p] {m n : EM α} : ok (if p then m else n) s R = if p then ok m s R else ok n s R := by
  unfold ok
  split <;> rfl
@[simp ↓] theorem ok_get {o : Out} {R : Res D → Prop} : ok (get o) s R = optK R s (o.look s) := by
  unfold ok get
  cases o.look s <;> rfl
@[simp] theorem look_d {x : D} : (Out.d x).look s = some x := rfl
@[simp] theorem look_new {x : D} : (Out.new x).look s = some x := rfl
@[simp] theorem look_ref {k : Nat} : (Out.ref k).look s = s.mem[k]?.map Cell.tree := rfl
def lookO : Option (Option Slot) → Option D
  | some (some (.d x)) | some (some (.own x)) => some x
  | _ => none
@[simp] theorem look_own {i : Nat} : (Out.own i).look s = lookO s.env[i]? := rfl
@[simp] theorem lookO_d {x : D} : lookO (some (some (.d x))) = some x := rfl
@[simp] theorem lookO_own {x : D} : lookO (some (some (.own x))) = some x := rfl
@[simp] theorem tree_live {x : D} : (Cell.live x).tree = x := rfl
@[simp] theorem tree_fro {x : D} : (Cell.fro x).tree = x := rfl
@[simp ↓] theorem ok_lit {x : D} : ok (lit x) s P = P (.ok (.d x) s) := rfl
def varK (P : Res Out → Prop) (s : S) (i : Nat) (o : Option (Option Slot)) (_ : Hid P := .mk) : Prop := match o with
  | some (some (.d x)) => P (.ok (.d x) s)
  | some (some (.ref k)) => P (.ok (.ref k) s)
  | some (some (.own _)) => P (.ok (.own i) s)
  | _ => P .bad
@[simp] theorem varK_d {i : Nat} {x : D} : varK P s i (some (some (.d x))) = P (.ok (.d x) s) := rfl
@[simp] theorem varK_ref {i k : Nat} : varK P s i (some (some (.ref k))) = P (.ok (.ref k) s) := rfl
@[simp] theorem varK_own {i : Nat} {x : D} : varK P s i (some (some (.own x))) = P (.ok (.own i) s) := rfl
@[simp ↓] theorem ok_var {i : Nat} : ok (var i) s P = varK P s i s.env[i]? := by
  unfold ok var varK
  split <;> simp_all
@[simp ↓] theorem ok_keep_d {x : D} {R : Res D → Prop} : ok (keep (.d x)) s R = R (.ok x s) := rfl
@[simp ↓] theorem ok_keep_new {x : D} {R : Res D → Prop} : ok (keep (.new x)) s R = R (.ok x s) := rfl
def kownK (R : Res D → Prop) (s : S) (i : Nat) (o : Option (Option Slot)) (_ : Hid R := .mk) : Prop := match o with
  | some (some (.d x)) => R (.ok x s)
  | some (some (.own x)) => R (.ok x { s with env := s.env.set i (some (.d x)) })
  | _ => R .bad
@[simp] theorem kownK_d {i : Nat} {x : D} {R : Res D → Prop} : kownK R s i (some (some (.d x))) = R (.ok x s) := rfl
@[simp] theorem kownK_own {i : Nat} {x : D} {R : Res D → Prop} : kownK R s i (some (some (.own x))) = R (.ok x { s with env := s.env.set i (some (.d x)) }) := rfl
@[simp ↓] theorem ok_keep_own {i : Nat} {R : Res D → Prop} : ok (keep (.own i)) s R = kownK R s i s.env[i]? := by
  unfold ok keep kownK
  simp only
  split <;> simp_all
def krefK (R : Res D → Prop) (s : S) (k : Nat) (o : Option Cell) (_ : Hid R := .mk) : Prop := match o with
  | some c => R (.ok c.tree { s with mem := s.mem.set k (.fro c.tree) })
  | none => R .bad
@[simp] theorem krefK_some {k : Nat} {c : Cell} {R : Res D → Prop} : krefK R s k (some c) = R (.ok c.tree { s with mem := s.mem.set k (.fro c.tree) }) := rfl
@[simp ↓] theorem ok_keep_ref {k : Nat} {R : Res D → Prop} : ok (keep (.ref k)) s R = krefK R s k s.mem[k]? := by
  show R (match s.mem[k]? with
    | some c => .ok c.tree { s with mem := s.mem.set k (.fro c.tree) }
    | none => .bad) = _
  unfold krefK
  cases s.mem[k]? <;> rfl
@[simp ↓] theorem ok_bin {op : BOp} : ok (bin op a b) s P = ok a s (andThen (fun x => b.bind fun y => (get x).bind fun u => (get y).bind fun v => Ev.opt (op.go u v)) P) := ok_bind
@[simp ↓] theorem ok_neg : ok (neg a) s P = ok a s (andThen (fun x => (get x).bind fun u => Ev.opt (match u with | .int i => some (.d (.int (-i))) | _ => none)) P) := ok_bind
@[simp ↓] theorem ok_cmp {op : COp} : ok (cmp op a b) s P = ok a s (andThen (fun x => b.bind fun y => (get x).bind fun u => (get y).bind fun v => Ev.opt ((op.go u v).map fun r => .d (.bl r))) P) := ok_bind
@[simp ↓] theorem ok_tst : ok (tst a) s B = ok a s (andThen (fun x => (get x).bind fun u => Ev.opt (truth u)) B) := ok_bind
@[simp ↓] theorem ok_cmpB {op : COp} : ok (cmpB op a b) s B = ok a s (andThen (fun x => b.bind fun y => (get x).bind fun u => (get y).bind fun v => Ev.opt (op.go u v)) B) := ok_bind
@[simp ↓] theorem ok_nt : ok (nt ta) s P = ok ta s (andThen (fun b => .pure (.d (.bl (!b)))) P) := ok_bind
@[simp ↓] theorem ok_ntB : ok (ntB ta) s B = ok ta s (andThen (fun b => .pure (!b)) B) := ok_bind
@[simp ↓] theorem ok_andB : ok (andB ta tb) s B = ok ta s (andThen (fun t => if t = true then tb else .pure false) B) := ok_bind
@[simp ↓] theorem ok_orB : ok (orB ta tb) s B = ok ta s (andThen (fun t => if t = true then .pure true else tb) B) := ok_bind
@[simp ↓] theorem ok_iteB : ok (iteB tc ta tb) s B = ok tc s (andThen (fun t => if t = true then ta else tb) B) := ok_bind
@[simp ↓] theorem ok_andE : ok (andE a b) s P = ok a s (andThen (fun x => (get x).bind fun u => (Ev.opt (truth u)).bind fun t => if t = true then b else .pure x) P) := ok_bind
@[simp ↓] theorem ok_orE : ok (orE a b) s P = ok a s (andThen (fun x => (get x).bind fun u => (Ev.opt (truth u)).bind fun t => if t = true then .pure x else b) P) := ok_bind
@[simp ↓] theorem ok_iteE : ok (iteE tc a b) s P = ok tc s (andThen (fun t => if t = true then a else b) P) := ok_bind
@[simp ↓] theorem ok_chn {o1 o2 : COp} : ok (chn o1 o2 a b c) s P = ok a s (andThen (fun x => b.bind fun y => (get x).bind fun u => (get y).bind fun v =>
  (Ev.opt (o1.go u v)).bind fun r => if r = true then c.bind fun z => (get y).bind fun v => (get z).bind fun w => Ev.opt ((o2.go v w).map fun r => .d (.bl r)) else .pure (.d (.bl false))) P) := ok_bind
section
variable {L : Res (List D) → Prop} {r : List (Bool × EM Out)} {es : List (EM Out)}
@[simp ↓] theorem ok_els_nil : ok (els []) s L = L (.ok [] s) := rfl
@[simp ↓] theorem ok_els_one : ok (els ((false, E) :: r)) s L = ok E s (andThen (fun x => (keep x).bind fun u => (els r).bind fun us => .pure (u :: us)) L) := ok_bind
@[simp ↓] theorem ok_els_many : ok (els ((true, E) :: r)) s L = ok E s (andThen (fun x => (get x).bind fun u => (Ev.opt (items u)).bind fun xs => (els r).bind fun us => .pure (xs ++ us)) L) := ok_bind
@[simp ↓] theorem ok_tupE : ok (tupE r) s P = ok (els r) s (andThen (fun us => Ev.opt (few us.length (.d (.tup us)))) P) := ok_bind
@[simp ↓] theorem ok_lstE : ok (lstE r) s P = ok (els r) s (andThen (fun us => Ev.opt (few us.length (.new (.lst us)))) P) := ok_bind
@[simp ↓] theorem ok_idx : ok (idx a b) s P = ok a s (andThen (fun x => b.bind fun y => (get x).bind fun u => (get y).bind fun v => Ev.opt ((idxD u v).map .d)) P) := ok_bind
@[simp ↓] theorem ok_ends_none {I : Res (Option Int) → Prop} : ok (ends none) s I = I (.ok none s) := rfl
@[simp ↓] theorem ok_ends_some {I : Res (Option Int) → Prop} : ok (ends (some E)) s I = ok E s (andThen (fun x => (get x).bind fun u => (Ev.opt (asI u)).bind fun i => .pure (some i)) I) := ok_bind
@[simp ↓] theorem ok_cut {lo hi : Option (EM Out)} : ok (cut a lo hi) s P = ok a s (andThen (fun x => (ends lo).bind fun i => (ends hi).bind fun j => (get x).bind fun u => Ev.opt (cutD i j u)) P) := ok_bind
@[simp ↓] theorem ok_args_nil {A : Res (List Out) → Prop} : ok (args []) s A = A (.ok [] s) := rfl
@[simp ↓] theorem ok_args_cons {A : Res (List Out) → Prop} : ok (args (E :: es)) s A = ok E s (andThen (fun x => (args es).bind fun xs => .pure (x :: xs)) A) := ok_bind
@[simp ↓] theorem ok_gets_nil : ok (gets []) s L = L (.ok [] s) := rfl
@[simp ↓] theorem ok_gets_cons {x : Out} {xs : List Out} : ok (gets (x :: xs)) s L = ok (get x) s (andThen (fun u => (gets xs).bind fun us => .pure (u :: us)) L) := ok_bind
@[simp ↓] theorem ok_bi {f : Bi} : ok (bi f es) s P = ok (args es) s (andThen (fun xs => (gets xs).bind fun us => Ev.opt (f.go us)) P) := ok_bind
@[simp ↓] theorem ok_isa {ts : List Ty} : ok (isa a ts) s P = ok a s (andThen (fun x => (get x).bind fun u => Ev.opt (if u.kinded = true then some (.d (.bl (ts.any fun t => t.has u))) else none)) P) := ok_bind
@[simp ↓] theorem ok_keeps_nil : ok (keeps []) s L = L (.ok [] s) := rfl
@[simp ↓] theorem ok_keeps_cons : ok (keeps (E :: es)) s L = ok E s (andThen (fun x => (keep x).bind fun u => (keeps es).bind fun us => .pure (u :: us)) L) := ok_bind
@[simp ↓] theorem ok_mt {f : Mt} : ok (mt f a es) s P = ok a s (andThen (fun x => (get x).bind fun v0 => (Ev.opt (asL v0)).bind fun _ => (keeps es).bind fun us => (get x).bind fun v => (Ev.opt (asL v)).bind fun xs =>
  (Ev.opt (f.go xs us)).bind fun r => (putIn x fun _ => some (.lst r.1)).bind fun _ => .pure (.d r.2)) P) := ok_bind
@[simp ↓] theorem ok_ext : ok (ext a b) s P = ok a s (andThen (fun x => (get x).bind fun v0 => (Ev.opt (asL v0)).bind fun _ => b.bind fun y => (get x).bind fun v => (Ev.opt (asL v)).bind fun xs => (get y).bind fun u => (Ev.opt (asL u)).bind fun ys =>
  (Ev.opt (if xs.length + ys.length < LIM then some (xs ++ ys) else none)).bind fun r => (putIn x fun _ => some (.lst r)).bind fun _ => .pure (.d .non)) P) := ok_bind
@[simp ↓] theorem ok_seqE : ok (seqE a) s L = ok a s (andThen (fun x => (keep x).bind fun u => Ev.opt (walkD u)) L) := ok_bind
@[simp ↓] theorem ok_rng1 : ok (rng1 a) s L = ok (keeps [a]) s (andThen (fun us => Ev.opt (rngD1 us)) L) := ok_bind
@[simp ↓] theorem ok_rng2 : ok (rng2 a b) s L = ok (keeps [a, b]) s (andThen (fun us => Ev.opt (rngD2 us)) L) := ok_bind
@[simp ↓] theorem ok_enumE : ok (enumE a) s L = ok (keeps [a]) s (andThen (fun us => Ev.opt (enumD us)) L) := ok_bind
@[simp ↓] theorem ok_zipE : ok (zipE a b) s L = ok (keeps [a, b]) s (andThen (fun us => Ev.opt (zipD us)) L) := ok_bind
end
/-- what a cell or a slot holds is changed -/
def putK (U : Res Unit → Prop) (y : Option D) (s s' : S) : Prop := match y with
  | some _ => U (.ok () s')
  | none => U .bad
def pownK (U : Res Unit → Prop) (s : S) (i : Nat) (f : D → Option D) (o : Option (Option Slot)) (_ : Hid U := .mk) : Prop := match o with
  | some (some (.own x)) => optK (fun r => match r with | .ok y _ => U (.ok () { s with env := s.env.set i (some (.own y)) }) | _ => U .bad) s (f x)
  | _ => U .bad
@[simp ↓] theorem pownK_own {U : Res Unit → Prop} {i : Nat} {f : D → Option D} {x : D} : pownK U s i f (some (some (.own x))) = optK (fun r => match r with | .ok y _ => U (.ok () { s with env := s.env.set i (some (.own y)) }) | _ => U .bad) s (f x) := rfl
@[simp ↓] theorem ok_put_own {U : Res Unit → Prop} {i : Nat} {f : D → Option D} : ok (putIn (.own i) f) s U = pownK U s i f s.env[i]? := by
  unfold ok putIn pownK
  dsimp only
  generalize s.env[i]? = o
  rcases o with _ | _ | _ | _ | x
  all_goals first | rfl | (dsimp only; cases f x <;> rfl)
def prefK (U : Res Unit → Prop) (s : S) (i : Nat) (f : D → Option D) (o : Option Cell) (_ : Hid U := .mk) : Prop := match o with
  | some (.live x) => optK (fun r => match r with | .ok y _ => U (.ok () { s with mem := s.mem.set i (.live y) }) | _ => U .bad) s (f x)
  | _ => U .bad
@[simp ↓] theorem prefK_live {U : Res Unit → Prop} {i : Nat} {f : D → Option D} {x : D} : prefK U s i f (some (.live x)) = optK (fun r => match r with | .ok y _ => U (.ok () { s with mem := s.mem.set i (.live y) }) | _ => U .bad) s (f x) := rfl
@[simp ↓] theorem ok_put_ref {U : Res Unit → Prop} {i : Nat} {f : D → Option D} : ok (putIn (.ref i) f) s U = prefK U s i f s.mem[i]? := by
  unfold ok putIn prefK
  dsimp only
  generalize s.mem[i]? = o
  rcases o with _ | x | _
  all_goals first | rfl | (dsimp only; cases f x <;> rfl)
/-! calls -/
section
variable {C : Call} {fi : Nat} {es : List (EM Out)} {V : Res (List Vl) → Prop}
@[simp ↓] theorem ok_passes_nil : ok (passes []) s V = V (.ok [] s) := rfl
@[simp ↓] theorem ok_passes_cons : ok (passes (E :: es)) s V = ok E s (andThen (fun x => (pass x).bind fun u => (passes es).bind fun us => .pure (u :: us)) V) := ok_bind
@[simp ↓] theorem ok_pass_d {x : D} {U : Res Vl → Prop} : ok (pass (.d x)) s U = U (.ok (.d x) s) := rfl
@[simp ↓] theorem ok_pass_new {x : D} {U : Res Vl → Prop} : ok (pass (.new x)) s U = U (.ok (.d x) s) := rfl
@[simp ↓] theorem ok_pass_ref {k : Nat} {U : Res Vl → Prop} : ok (pass (.ref k)) s U = U (.ok (.ref k) s) := rfl
@[simp ↓] theorem ok_pass_own {i : Nat} {U : Res Vl → Prop} : ok (pass (.own i)) s U = ok (keep (.own i)) s (andThen (fun x => .pure (.d x)) U) := ok_bind
def callQ (C : Call) (f : Nat) (ds : List D) (P : Res Out → Prop) : Res (List Vl) → Prop
  | .ok us s => okC C f (us ++ ds.map .d) s P
  | .exc x s => P (.exc x s)
  | .bad => P .bad
@[simp ↓] theorem callQ_ok {ds : List D} {us : List Vl} : callQ C fi ds P (.ok us s) = okC C fi (us ++ ds.map .d) s P := rfl
@[simp ↓] theorem ok_call {ds : List D} : ok (Ev.call C fi es ds) s P = ok (passes es) s (callQ C fi ds P) := by
  unfold Ev.call
  rw [ok_bind]
  unfold ok
  cases passes es s <;> rfl
def callBQ (C : Call) (f : Nat) (P : Res Out → Prop) : Res (List D) → Prop
  | .ok us s => okC C f (us.map .d) ⟨[], []⟩ fun r => match r with
    | .ok (.d x) _ => (if x.atom = true then P (.ok (.d x) s) else P .bad)
    | _ => P .bad
  | .exc x s => P (.exc x s)
  | .bad => P .bad
@[simp ↓] theorem callBQ_ok {us : List D} : callBQ C fi P (.ok us s) = okC C fi (us.map .d) ⟨[], []⟩ fun r => match r with
    | .ok (.d x) _ => (if x.atom = true then P (.ok (.d x) s) else P .bad)
    | _ => P .bad := rfl
@[simp ↓] theorem ok_callB : ok (callB C fi es) s P = ok (args es) s (andThen gets (callBQ C fi P)) := by
  unfold callB
  rw [ok_bind]
  unfold ok
  cases args es s with
  | ok xs s1 =>
    rw [andThen_ok, andThen_ok, ok_bind]
    unfold ok
    cases gets xs s1 with
    | ok us s2 =>
      simp only [andThen, callBQ, okC, ok]
      cases C fi (us.map .d) ⟨[], []⟩ with
      | ok o s3 =>
        cases o with
        | d x => simp only; split <;> rfl
        | _ => rfl
      | _ => rfl
    | _ => rfl
  | _ => rfl
end
end
/-! statements -/
section
variable {α : Type} {s : S} {Q : SR → Prop} {a b : SM} {e e1 e2 : EM Out} {c : EM Bool} {m : EM α} {f : α → SM}
@[simp ↓] theorem oks_skip : oks skip s Q = Q (.next s) := rfl
@[simp ↓] theorem oks_next : oks (SR.next) s Q = Q (.next s) := rfl
@[simp ↓] theorem oks_seq : oks (seq a b) s Q = oks a s (thenS b Q) := by
  unfold oks seq
  cases a s <;> rfl
@[simp ↓] theorem oks_lift : oks (Ev.lift m f) s Q = ok m s (liftQ f Q) := by
  unfold oks ok Ev.lift
  cases m s <;> rfl
@[simp ↓] theorem oks_ite {p : Prop} [Decidable p] : oks (if p then a else b) s Q = if p then oks a s Q else oks b s Q := by
  unfold oks
  split <;> rfl
@[simp ↓] theorem oks_expr : oks (sExpr e) s Q = ok e s (liftQ (fun _ => .next) Q) := oks_lift
@[simp ↓] theorem oks_ret : oks (sRet e) s Q = ok e s (liftQ (fun o => .ret o) Q) := oks_lift
@[simp ↓] theorem oks_retv {o : Out} : oks (SR.ret o) s Q = Q (.ret o s) := rfl
@[simp ↓] theorem oks_retN : oks sRetN s Q = Q (.ret (.d .non) s) := rfl
@[simp ↓] theorem oks_if : oks (sIf c a b) s Q = ok c s (liftQ (fun t => if t = true then a else b) Q) := oks_lift
@[simp ↓] theorem oks_brk : oks sBrk s Q = Q (.brk s) := rfl
@[simp ↓] theorem oks_cont : oks sCont s Q = Q (.cont s) := rfl
@[simp ↓] theorem oks_set {i : Nat} : oks (sSet i e) s Q = ok e s (liftQ (store i) Q) := oks_lift
@[simp ↓] theorem oks_store_d {i : Nat} {x : D} : oks (store i (.d x)) s Q = Q (.next { s with env := s.env.set i (some (.d x)) }) := rfl
@[simp ↓] theorem oks_store_ref {i k : Nat} : oks (store i (.ref k)) s Q = Q (.next { s with env := s.env.set i (some (.ref k)) }) := rfl
@[simp ↓] theorem oks_store_new {i : Nat} {x : D} : oks (store i (.new x)) s Q = Q (.next { s with env := s.env.set i (some (.own x)) }) := rfl
def storeQ (i : Nat) (Q : SR → Prop) : Res D → Prop
  | .ok x s => Q (.next { s with env := s.env.set i (some (.d x)) })
  | .exc x s => Q (.exc x s)
  | .bad => Q .bad
@[simp ↓] theorem storeQ_ok {i : Nat} {x : D} : storeQ i Q (.ok x s) = Q (.next { s with env := s.env.set i (some (.d x)) }) := rfl
@[simp ↓] theorem oks_store_own {i j : Nat} : oks (store i (.own j)) s Q = ok (keep (.own j)) s (storeQ i Q) := by
  show oks (Ev.lift _ _) s Q = _
  rw [oks_lift]
  unfold ok
  cases keep (.own j) s <;> rfl
def celQ (i : Nat) (Q : SR → Prop) : Res Out → Prop
  | .ok (.new x) s => Q (.next { env := s.env.set i (some (.ref s.mem.length)), mem := s.mem ++ [.live x] })
  | .ok o s => oks (store i o) s Q
  | .exc x s => Q (.exc x s)
  | .bad => Q .bad
@[simp ↓] theorem celQ_new {i : Nat} {x : D} : celQ i Q (.ok (.new x) s) = Q (.next { env := s.env.set i (some (.ref s.mem.length)), mem := s.mem ++ [.live x] }) := rfl
@[simp ↓] theorem oks_cel {i : Nat} : oks (sCel i e) s Q = ok e s (celQ i Q) := by
  show oks (Ev.lift _ _) s Q = _
  rw [oks_lift]
  unfold ok
  cases h : e s with
  | ok o s1 => cases o <;> rfl
  | _ => rfl
def unpK (Q : SR → Prop) (s : S) (o : Option Slots) (_ : Hid Q := .mk) : Prop := match o with
  | some e => Q (.next { s with env := e })
  | none => Q .bad
@[simp ↓] theorem unpK_some {e : Slots} : unpK Q s (some e) = Q (.next { s with env := e }) := rfl
def unpQ (tg : Tg) (Q : SR → Prop) : Res D → Prop
  | .ok x s => unpK Q s (tg.put x s.env)
  | .exc x s => Q (.exc x s)
  | .bad => Q .bad
@[simp ↓] theorem unpQ_ok {tg : Tg} {x : D} : unpQ tg Q (.ok x s) = unpK Q s (tg.put x s.env) := rfl
@[simp ↓] theorem oks_unp {tg : Tg} : oks (sUnp tg e) s Q = ok e s (andThen keep (unpQ tg Q)) := by
  show oks (Ev.lift _ _) s Q = _
  rw [oks_lift]
  unfold ok
  cases h : e s with
  | ok o s1 =>
    rw [liftQ_ok, andThen_ok, oks_lift]
    unfold ok
    cases keep o s1 with
    | ok x s2 =>
      simp only [liftQ, unpQ, unpK, oks]
      cases tg.put x s2.env <;> rfl
    | _ => rfl
  | _ => rfl
@[simp ↓] theorem ok_fix_d {x : D} {R : Res Out → Prop} : ok (fixO (.d x)) s R = R (.ok (.d x) s) := rfl
@[simp ↓] theorem ok_fix_new {x : D} {R : Res Out → Prop} : ok (fixO (.new x)) s R = R (.ok (.new x) s) := rfl
@[simp ↓] theorem ok_fix_ref {k : Nat} {R : Res Out → Prop} : ok (fixO (.ref k)) s R = R (.ok (.ref k) s) := rfl
@[simp ↓] theorem ok_fix_own {i : Nat} {R : Res Out → Prop} : ok (fixO (.own i)) s R = ok (keep (.own i)) s (andThen (fun u => .pure (.d u)) R) := ok_bind
@[simp ↓] theorem oks_par {i j : Nat} : oks (sPar i j e1 e2) s Q = ok e1 s (liftQ (fun x => Ev.lift e2 fun y => Ev.lift (fixO x) fun x => Ev.lift (fixO y) fun y => seq (store i x) (store j y)) Q) := oks_lift
@[simp ↓] theorem oks_put {o i : EM Out} : oks (sPut o i e) s Q = ok e s (liftQ (fun y => Ev.lift (keep y) fun v => Ev.lift o fun x => Ev.lift i fun k => Ev.lift (get k) fun kd => Ev.lift (putIn x fun u => setD u kd v) fun _ => .next) Q) := oks_lift
@[simp ↓] theorem oks_augI {op : BOp} {o i : EM Out} : oks (sAugI op o i e) s Q = ok o s (liftQ (fun x => Ev.lift i fun k => Ev.lift (get x) fun u => Ev.lift (get k) fun kd => Ev.lift (Ev.opt (idxL u kd)) fun w => Ev.lift e fun y => Ev.lift (get y) fun v =>
  Ev.lift (Ev.opt (op.inp w v)) fun z => Ev.lift (putIn x fun u => setD u kd z) fun _ => .next) Q) := oks_lift
def augQ (i : Nat) (Q : SR → Prop) : Res D → Prop
  | .ok z s => Q (.next { s with env := s.env.set i (some (.d z)) })
  | .exc x s => Q (.exc x s)
  | .bad => Q .bad
@[simp ↓] theorem augQ_ok {i : Nat} {x : D} : augQ i Q (.ok x s) = Q (.next { s with env := s.env.set i (some (.d x)) }) := rfl
@[simp ↓] theorem oks_aug {op : BOp} {i : Nat} : oks (sAug op i e) s Q = ok (var i) s (andThen (fun x => (get x).bind fun u => e.bind fun y => (get y).bind fun v => Ev.opt (op.inp u v)) (augQ i Q)) := by
  unfold sAug oks ok Ev.lift andThen ok EM.bind augQ
  cases var i s with
  | ok x s1 =>
    simp only
    cases get x s1 with
    | ok u s2 =>
      simp only
      cases e s2 with
      | ok y s3 =>
        simp only
        cases get y s3 with
        | ok v s4 =>
          simp only
          cases Ev.opt (op.inp u v) s4 <;> rfl
        | _ => rfl
      | _ => rfl
    | _ => rfl
  | _ => rfl
@[simp ↓] theorem oks_for {tg : Tg} {it : EM (List D)} {b : SM} : oks (sFor tg it b) s Q = ok it s (liftQ (fun xs => loop tg b xs) Q) := oks_lift
@[simp ↓] theorem oks_loop_nil {tg : Tg} : oks (loop tg b []) s Q = Q (.next s) := rfl
theorem oks_loop_cons {tg : Tg} {x : D} {xs : List D} {e : Slots} (h : tg.put x s.env = some e) : oks (loop tg b (x :: xs)) s Q = oks b { s with env := e } (turnQ (fun s' => oks (loop tg b xs) s' Q) Q) := by
  unfold oks
  rw [loop]
  simp only [h]
  cases b { s with env := e } <;> rfl
/-- a loop by its invariant -/
theorem loop_inv {tg : Tg} (I : List D → S → Prop) (hI : ∀ x xs s, I (x :: xs) s → ∃ e, tg.put x s.env = some e ∧ oks b { s with env := e } (turnQ (I xs) Q)) (hE : ∀ s, I [] s → Q (.next s)) : ∀ (xs : List D) (s : S), I xs s → oks (loop tg b xs) s Q
  | [], s, h => hE s h
  | x :: xs, s, h => by
    obtain ⟨e, h1, h2⟩ := hI x xs s h
    rw [oks_loop_cons h1]
    unfold oks at h2 ⊢
    cases hb : b { s with env := e } with
    | next s1 =>
      rw [hb] at h2
      exact loop_inv I hI hE xs s1 h2
    | cont s1 =>
      rw [hb] at h2
      exact loop_inv I hI hE xs s1 h2
    | _ =>
      rw [hb] at h2
      exact h2
/-- a while by its invariant and a measure -/
theorem whil_inv {c : EM Bool} (I : Nat → S → Prop) (hI : ∀ n s, I n s → ok c s fun r => match r with
      | .ok true s' => ∃ k, n = k + 1 ∧ oks b s' (turnQ (fun s2 => ∃ j, j ≤ k ∧ I j s2) Q)
      | .ok false s' => Q (.next s')
      | _ => False) : ∀ (m n : Nat) (s : S), n < m → I n s → oks (whil c b m) s Q
  | 0, n, s, h, _ => absurd h (by omega)
  | m + 1, n, s, h, hi => by
    have h1 := hI n s hi
    unfold ok at h1
    unfold oks
    rw [whil]
    unfold Ev.lift
    cases hc : c s with
    | ok t s1 =>
      rw [hc] at h1
      cases t with
      | false => exact h1
      | true =>
        obtain ⟨k, rfl, h2⟩ := h1
        unfold oks at h2
        simp only [if_true]
        cases hb : b s1 with
        | next s2 =>
          rw [hb] at h2
          obtain ⟨j, hj, h3⟩ := h2
          exact whil_inv I hI m j s2 (by omega) h3
        | cont s2 =>
          rw [hb] at h2
          obtain ⟨j, hj, h3⟩ := h2
          exact whil_inv I hI m j s2 (by omega) h3
        | _ =>
          rw [hb] at h2
          exact h2
    | exc x s1 => rw [hc] at h1; exact h1.elim
    | bad => rw [hc] at h1; exact h1.elim
end
/-! comprehensions -/
section
variable {s : S} {Q : Res Out → Prop}
def lcQ (s : S) (vs : List Nat) (Q : Res Out → Prop) : Res (List D) → Prop
  | .ok ys s' => Q (.ok (.new (.lst ys)) { s' with env := unwipe s.env s'.env vs })
  | _ => Q .bad
@[simp ↓] theorem lcQ_ok {vs : List Nat} {ys : List D} {s' : S} : lcQ s vs Q (.ok ys s') = Q (.ok (.new (.lst ys)) { s' with env := unwipe s.env s'.env vs }) := rfl
def lcStart (vs : List Nat) (tg : Tg) (c : EM Bool) (el : EM Out) (Q : Res Out → Prop) : Res (List D) → Prop
  | .ok xs s => xs.length < LIM ∧ ok (lcLoop vs tg c el xs []) s (lcQ s vs Q)
  | .exc x s => Q (.exc x s)
  | .bad => Q .bad
@[simp ↓] theorem lcStart_ok {vs : List Nat} {tg : Tg} {c : EM Bool} {el : EM Out} {xs : List D} : lcStart vs tg c el Q (.ok xs s) = (xs.length < LIM ∧ ok (lcLoop vs tg c el xs []) s (lcQ s vs Q)) := rfl
theorem ok_lc {vs : List Nat} {tg : Tg} {it : EM (List D)} {c : EM Bool} {el : EM Out} (h : ok it s (lcStart vs tg c el Q)) : ok (lc vs tg it c el) s Q := by
  unfold lc
  rw [ok_bind]
  unfold ok at h ⊢
  cases hi : it s with
  | ok xs s1 =>
    rw [hi] at h
    obtain ⟨h1, h2⟩ := h
    show ok (EM.bind _ _) s1 Q
    rw [ok_bind, if_pos h1]
    show Q (match lcLoop vs tg c el xs [] s1 with | .ok ys s' => _ | _ => _)
    unfold ok at h2
    cases hl : lcLoop vs tg c el xs [] s1 <;> rw [hl] at h2 <;> exact h2
  | _ =>
    rw [hi] at h
    exact h
/-- a comprehension by its invariant: what is left, what was found, the state -/
theorem lc_inv {vs : List Nat} {tg : Tg} {c : EM Bool} {el : EM Out} {R : Res (List D) → Prop} (I : List D → List D → S → Prop)
    (hI : ∀ x xs acc s, I (x :: xs) acc s → ∃ e, tg.put x (wipeE s.env vs) = some e ∧ ok (c.bind fun b => if b = true then el.bind fun o => (keep o).bind fun y => .pure (some y) else .pure none) { s with env := e } fun r => match r with
      | .ok (some y) s' => I xs (acc ++ [y]) s'
      | .ok none s' => I xs acc s'
      | _ => False)
    (hE : ∀ acc s, I [] acc s → R (.ok acc s)) : ∀ (xs acc : List D) (s : S), I xs acc s → ok (lcLoop vs tg c el xs acc) s R
  | [], acc, s, h => hE acc s h
  | x :: xs, acc, s, h => by
    obtain ⟨e, h1, h2⟩ := hI x xs acc s h
    unfold ok
    rw [lcLoop]
    simp only [h1]
    unfold ok EM.bind at h2
    unfold EM.bind
    cases hc : c { s with env := e } with
    | ok b s1 =>
      rw [hc] at h2
      cases b with
      | false => exact lc_inv I hI hE xs acc s1 h2
      | true =>
        simp only [if_true] at h2 ⊢
        cases he : el s1 with
        | ok o s2 =>
          rw [he] at h2
          simp only at h2 ⊢
          cases hk : keep o s2 with
          | ok y s3 =>
            rw [hk] at h2
            exact lc_inv I hI hE xs (acc ++ [y]) s3 h2
          | exc _ _ => rw [hk] at h2; exact h2.elim
          | bad => rw [hk] at h2; exact h2.elim
        | exc _ _ => rw [he] at h2; exact h2.elim
        | bad => rw [he] at h2; exact h2.elim
    | exc _ _ => rw [hc] at h2; exact h2.elim
    | bad => rw [hc] at h2; exact h2.elim
end
/-! from what is known of a call -/
section
variable {C : Call} {fi : Nat} {us : List Vl} {s : S} {Q : Res Out → Prop} {n : Nat} {env : Slots} {x : D} {Φ : Out → Prop}
theorem Yields.go (h : Yields n env (C fi us (st env x)) Φ) (hq : ∀ o y, Bag n y → Φ o → Q (.ok o (st env y))) : okC C fi us (st env x) Q := by
  obtain ⟨o, y, e, b, p⟩ := h
  unfold okC
  rw [e]
  exact hq o y b p
theorem okC_eq {r : Res Out} (h : C fi us s = r) (hq : Q r) : okC C fi us s Q := by
  unfold okC
  rw [h]
  exact hq
theorem okC_run {P : Nat → Option Def} {k : Nat} {d : Def} (hP : P fi = some d) (hl : us.length = d.ps) (hl2 : d.ps ≤ d.many)
    (h : oks (d.body (run P k)) { s with env := us.map (fun u => some u.slot) ++ List.replicate (d.many - us.length) none } (leaveQ s Q)) : okC (run P (k + 1)) fi us s Q := by
  unfold okC
  rw [run_at hP hl hl2]
  exact h
theorem Yields.of (h : okC C fi us s fun r => Yields n env r Φ) : Yields n env (C fi us s) Φ := h
theorem Yields.ofE {m : EM Out} (h : ok m s fun r => Yields n env r Φ) : Yields n env (m s) Φ := h
theorem Yields.mk {o : Out} {y : D} (b : Bag n y) (p : Φ o) : Yields n env (.ok o (st env y)) Φ := ⟨o, y, rfl, b, p⟩
end
/-! single operations (no definition is unfolded in what follows) -/
theorem go_eq {a b : D} : COp.eq.go a b = if okEq a b = true then some (eqD a b) else none := by simp only [COp.go]
theorem go_ne {a b : D} : COp.ne.go a b = if okEq a b = true then some (!eqD a b) else none := by simp only [COp.go]
theorem go_lt {a b : D} : COp.lt.go a b = ltD a b := by simp only [COp.go]
theorem go_le {a b : D} : COp.le.go a b = leD a b := by simp only [COp.go]
theorem go_gt {a b : D} : COp.gt.go a b = ltD b a := by simp only [COp.go]
theorem go_ge {a b : D} : COp.ge.go a b = leD b a := by simp only [COp.go]
theorem go_in {a b : D} : COp.isin.go a b = inD a b := by simp only [COp.go]
theorem go_notin {a b : D} : COp.notin.go a b = (inD a b).map (!·) := by simp only [COp.go]
theorem go_is {a b : D} : COp.is.go a b = isD a b := by simp only [COp.go]
theorem go_isnt {a b : D} : COp.isnt.go a b = (isD a b).map (!·) := by simp only [COp.go]
theorem lt_int {i j : Int} : ltD (.int i) (.int j) = some (decide (i < j)) := by simp only [ltD]
theorem le_int {i j : Int} : leD (.int i) (.int j) = some (decide (i ≤ j)) := by simp only [leD]
theorem add_int {i j : Int} : BOp.add.go (.int i) (.int j) = some (.d (.int (i + j))) := by simp only [BOp.go, addD]
theorem sub_int {i j : Int} : BOp.sub.go (.int i) (.int j) = some (.d (.int (i - j))) := by simp only [BOp.go, intsD, if_true]
theorem tup_add {xs ys : List D} (h : xs.length + ys.length ≤ 1000000) : BOp.add.go (.tup xs) (.tup ys) = some (.d (.tup (xs ++ ys))) := by simp only [BOp.go, addD, LIM, h, if_true]
theorem lst_add {xs ys : List D} (h : xs.length + ys.length ≤ 1000000) : BOp.add.go (.lst xs) (.lst ys) = some (.new (.lst (xs ++ ys))) := by simp only [BOp.go, addD, LIM, h, if_true]
theorem len_tup {xs : List D} : Bi.len.go [.tup xs] = some (.d (.int xs.length)) := by simp only [Bi.go]
theorem len_lst {xs : List D} : Bi.len.go [.lst xs] = some (.d (.int xs.length)) := by simp only [Bi.go]
theorem list_lst {xs : List D} : Bi.list.go [.lst xs] = some (.new (.lst xs)) := by simp only [Bi.go]
theorem list_tup {xs : List D} : Bi.list.go [.tup xs] = some (.new (.lst xs)) := by simp only [Bi.go]
theorem tuple_lst {xs : List D} : Bi.tuple.go [.lst xs] = some (.d (.tup xs)) := by simp only [Bi.go]
theorem tuple_tup {xs : List D} : Bi.tuple.go [.tup xs] = some (.d (.tup xs)) := by simp only [Bi.go]
theorem few_ok {n : Nat} {o : Out} (h : n ≤ 1000000) : few n o = some o := by simp only [few, LIM, h, if_true]
theorem app_ok {xs : List D} {y : D} (h : xs.length < 1000000) : Mt.append.go xs [y] = some (xs ++ [y], .non) := by simp only [Mt.go, LIM, h, if_true]
theorem show_go {u : D} (h : showOk u = true) : Bi.repr.go [u] = some (.d (.str u.py.shown)) := by simp only [Bi.go, h, if_true]
theorem isa_kind {u : D} {ts : List Ty} (h : u.kinded = true) : (if u.kinded = true then some (Out.d (.bl (ts.any fun t => t.has u))) else none) = some (.d (.bl (ts.any fun t => t.has u))) := if_pos h
end Ev

set_option Elab.async false
set_option linter.all false
set_option autoImplicit false
set_option maxHeartbeats 4000000
/-! Plain lemmas, part z: a law's own first pair; some questions drawn. -/
namespace Ev
open PySem
theorem ltD_q (p q : Qt) : ltD (qT p) (qT q) = some (ltQ p q) := by
  have h := alike_q p q
  have h2 := okQ p.1 q.1 p.2 q.2
  unfold ltD
  simp only [h2, h, D.isNon, Bool.not_false, Bool.and_self, if_true]
section
variable {P : Nat → Option Def} {k i b c sh al on : Nat} {s : S} {m : Mem}
def ldueB (on sh : Nat) : Call → SM := fun C => seq (sFor (.one 1) (seqE (Ev.call C on [var 0] [])) (seq (sFor (.one 2) (seqE (Ev.call C on [var 0] [])) (seq (sIf (andB (cmpB .lt (var 1) (var 2)) (ntB (tst (Ev.call C sh [var 1, var 2] [])))) (seq (sRet (tupE [(false, var 1), (false, var 2)])) skip) skip) skip)) skip)) (seq (sRet (lit .non)) skip)
theorem ldue_call (hP : P i = some ⟨3, 1, ldueB on sh⟩) (hO : P on = some ⟨3, 1, onceB⟩) (hS : P sh = some ⟨2, 2, shareB b⟩) (hB : P b = some ⟨3, 2, lbelowB c⟩) (hC : P c = some ⟨2, 1, allB⟩) {qs us : List Qt} (hl : qs.length < 500) (hq : ∀ o ∈ qs, Qn o.1 o.2) (hu : sortD ((dedupQ qs).map qT) = us.map qT) (hp : us.Perm (dedupQ qs)) :
    run P (k + 4) i [.d (.lst (qs.map qT))] s = .ok (.d (pairD (allP shQ ltQ us us))) s := by
  have hus : ∀ o ∈ us, Qn o.1 o.2 := fun o ho => hq o (mem_dedupQ.mp (hp.mem_iff.mp ho))
  suffices h : okC (run P (k + 4)) i [.d (.lst (qs.map qT))] s (fun r => r = .ok (.d (pairD (allP shQ ltQ us us))) s) from h
  have once : ∀ t : S, run P (k + 3) on [.d (.lst (qs.map qT))] t = .ok (.new (.lst (us.map qT))) t := fun t => by
    rw [once_call (k := k + 2) hO hl, hu]
  refine okC_run hP rfl (by show 1 ≤ 3; decide) ?_
  simp [ldueB]
  refine okC_eq (once _) ?_
  simp [walkD]
  refine loop_inv (fun ds t => ∃ r e1 e2, ds = r.map qT ∧ (∀ o ∈ r, Qn o.1 o.2) ∧ t = ⟨[some (.d (.lst (qs.map qT))), e1, e2], s.mem⟩ ∧ allP shQ ltQ us r = allP shQ ltQ us us) ?_ ?_ _ _ ⟨us, none, none, rfl, hus, rfl, rfl⟩
  · rintro x xs t ⟨r, e1, e2, h1, h2, rfl, h3⟩
    cases r with
    | nil => cases h1
    | cons q r =>
      cases h1
      refine ⟨_, rfl, ?_⟩
      simp
      refine okC_eq (once _) ?_
      simp [walkD]
      refine loop_inv (fun ds t => ∃ r2 e2, ds = r2.map qT ∧ (∀ o ∈ r2, Qn o.1 o.2) ∧ t = ⟨[some (.d (.lst (qs.map qT))), some (.d (qT q)), e2], s.mem⟩ ∧ us.find? (fun o => ltQ q o && !shQ q o) = r2.find? (fun o => ltQ q o && !shQ q o)) ?_ ?_ _ _ ⟨us, e2, rfl, hus, rfl, rfl⟩
      · rintro x xs t ⟨r2, e2, h4, h5, rfl, h6⟩
        cases r2 with
        | nil => cases h4
        | cons o r2 =>
          cases h4
          refine ⟨_, rfl, ?_⟩
          have q1 := h2 q List.mem_cons_self
          have o1 := h5 o List.mem_cons_self
          have hsh := fun t => lshare_call (k := k) (s := t) hS hB hC (c1 := q.1) (l1 := q.2) (c2 := o.1) (l2 := o.2) q1.len o1.len q1.so o1.so
          rw [List.find?_cons] at h6
          simp [COp.go, ltD_q]
          cases hlt : ltQ q o with
          | false =>
            simp [hlt] at h6 ⊢
            exact At.mk ⟨r2, _, rfl, fun x hx => h5 x (List.mem_cons_of_mem _ hx), rfl, h6⟩
          | true =>
            simp
            refine okC_eq (hsh _) ?_
            simp [truth]
            cases hs : shQ q o with
            | true =>
              have hs : shareF q.1 q.2 o.1 o.2 = true := hs
              simp [hlt, hs] at h6 ⊢
              exact At.mk ⟨r2, _, rfl, fun x hx => h5 x (List.mem_cons_of_mem _ hx), rfl, h6⟩
            | false =>
              have hs : shareF q.1 q.2 o.1 o.2 = false := hs
              simp [hlt, hs, few, LIM] at h6 ⊢
              rw [← h3, allP, h6]
      · rintro t ⟨r2, e2, h4, h5, rfl, h6⟩
        cases r2 with
        | cons o r2 => cases h4
        | nil =>
          simp
          refine At.mk ⟨r, _, _, rfl, fun x hx => h2 x (List.mem_cons_of_mem _ hx), rfl, ?_⟩
          rw [← h3, allP, h6]
          rfl
  · rintro t ⟨r, e1, e2, h1, h2, rfl, h3⟩
    cases r with
    | cons o r2 => cases h1
    | nil =>
      simp
      rw [← h3]
      rfl
end
end Ev

set_option Elab.async false
set_option linter.all false
set_option autoImplicit false
set_option maxHeartbeats 4000000
/-! Plain lemmas, part aa: some questions drawn. -/
namespace Ev
open PySem
theorem rng_nat {r : Int} (h0 : 0 ≤ r) (h1 : r ≤ 1000000) : rngD1 [.int r] = some (upto 0 r.toNat) := by
  have : ((LIM : Nat) : Int) = 1000000 := rfl
  show (if -(LIM : Int) ≤ r ∧ r ≤ LIM then some (upto 0 r.toNat) else none) = _
  rw [if_pos (by omega)]
theorem upto_len (lo : Int) (n : Nat) : (upto lo n).length = n := by simp [upto]
theorem map_len {α β : Type} (f : α → β) (l : List α) : (l.map f).length = l.length := List.length_map f
section
variable {P : Nat → Option Def} {k i mx t qu be on n : Nat} {env : Slots} {x : D}
def questionsB (mx t qu be on : Nat) : Call → SM := fun C => seq (sPar 3 4 (lstE [(false, Ev.call C mx [var 0, var 1] []), (false, Ev.call C mx [var 0, var 1] [])]) (lstE [])) (seq (sFor (.one 5) (rng1 (Ev.call C t [var 0, bin .add (var 2) (lit (.int 1))] [])) (seq (sIf (cmpB .eq (Ev.call C t [var 0, lit (.int 3)] []) (lit (.int 0))) (seq (sExpr (mt .append (var 4) [Ev.call C qu [var 0, var 1] []])) skip) (seq (sExpr (mt .append (var 4) [Ev.call C be [var 0, Ev.call C on [var 0, var 3] []] []])) skip)) skip)) (seq (sRet (var 4)) skip))
theorem questions_call (hP : P i = some ⟨6, 3, questionsB mx t qu be on⟩) (hM : P mx = some ⟨4, 2, mixedB t⟩) (hT : P t = some ⟨7, 2, takeB⟩) (hQ : P qu = some ⟨4, 2, questionB mx t⟩) (hE : P be = some ⟨3, 2, beginB t⟩) (hO : P on = some ⟨2, 2, oneB t⟩)
    {ws : List Str} (hw : Names ws) (h0 : 0 < ws.length) {most : Int} (m0 : 0 ≤ most) (m1 : most ≤ 40) (hn : n + 2000 ≤ BIG) (hx : Bag n x) :
    Yields (n + 2000) env (run P (k + 4) i [.ref 0, .d (.lst (ws.map .str)), .d (.int most)] (st env x)) fun o => ∃ qs : List Qt, o = .new (.lst (qs.map qT)) ∧ (qs.length : Int) ≤ most ∧ ∀ q ∈ qs, Qn q.1 q.2 := by
  have wl := hw.len
  refine Yields.of (okC_run hP rfl (by show 3 ≤ 6; decide) ?_)
  simp [questionsB]
  refine (mixed_call (k := k + 1) hM hT (xs := ws.map .str) rfl (by rw [map_len]; omega) (by rw [map_len]; show _ < 1000000; omega) hx).go ?_
  rintro _ y1 b1 ⟨_, rfl, p1'⟩
  obtain ⟨us1, rfl, p1⟩ := perm_map p1'
  simp
  refine (mixed_call (k := k + 1) hM hT (xs := ws.map .str) rfl (by rw [map_len]; omega) (by rw [map_len]; show _ < 1000000; omega) b1).go ?_
  rintro _ y2 b2 ⟨_, rfl, p2'⟩
  obtain ⟨us2, rfl, p2⟩ := perm_map p2'
  rw [map_len] at b2
  simp [few, LIM, BOp.go, addD]
  refine (take_call (k := k + 2) hT (by omega) (many := most + 1) (by omega) (by omega) b2).go ?_
  rintro _ y3 b3 ⟨r, rfl, r0, r1⟩
  simp [rng_nat r0 (show r ≤ 1000000 by omega)]
  have nu : ∀ us ∈ [us1, us2], Names us ∧ 0 < us.length := by
    intro us hu
    rcases List.mem_cons.mp hu with rfl | hu
    · exact ⟨hw.perm p1, by rw [p1.length_eq]; exact h0⟩
    · rw [List.mem_singleton.mp hu]
      exact ⟨hw.perm p2, by rw [p2.length_eq]; exact h0⟩
  refine loop_inv (fun ds s => ∃ (acc : List Qt) (e3 : Slot) (e5 : Option Slot) (z : D) (m : Nat), s = st [some (.ref 0), some (.d (.lst (ws.map .str))), some (.d (.int most)), some e3, some (.own (.lst (acc.map qT))), e5] z ∧ (e3 = .own (.lst ([us1, us2].map fun u => .lst (u.map .str))) ∨ e3 = .d (.lst ([us1, us2].map fun u => .lst (u.map .str)))) ∧
    Bag m z ∧ m + 20 * ds.length ≤ n + 1000 ∧ (acc.length : Int) + ds.length ≤ most ∧ ∀ q ∈ acc, Qn q.1 q.2) ?_ ?_ _ _ ⟨[], _, _, y3, _, rfl, .inl rfl, b3, by rw [upto_len]; omega, by rw [upto_len]; simp; omega, by simp⟩
  · rintro d ds s ⟨acc, e3, e5, z, m, rfl, h3, bz, hm, hl, hq⟩
    simp only [List.length_cons] at hm hl
    refine ⟨_, rfl, ?_⟩
    simp
    refine (take_call (k := k + 2) hT (by omega) (many := 3) (by decide) (by decide) bz).go ?_
    rintro _ z1 bz1 ⟨a, rfl, a0, a1⟩
    simp [COp.go, okI, eqI]
    by_cases ha : a = 0
    · simp [ha]
      refine (question_call (k := k) hQ hM hT hw h0 (by omega) bz1).go ?_
      rintro _ z2 bz2 ⟨cs, l, rfl, g⟩
      simp [asL, Mt.go, LIM, show acc.length < 1000000 by omega]
      refine At.mk ⟨acc ++ [(cs, l)], e3, some (.d d), z2, _, by simp, h3, bz2, by omega, by simp; omega, fun q h => ?_⟩
      rcases List.mem_append.mp h with h | h
      · exact hq q h
      · rw [List.mem_singleton.mp h]
        exact g
    · rcases h3 with rfl | rfl
      all_goals
        simp [ha]
        refine (one_call (k := k + 1) hO hT (xs := [us1, us2].map fun u => .lst (u.map .str)) (.inl rfl) (by omega) (by simp) (by simp [LIM]) bz1).go ?_
        rintro _ z2 bz2 ⟨_, hw2, rfl⟩
        obtain ⟨u, hu, rfl⟩ := List.mem_map.mp hw2
        obtain ⟨nu1, nu2⟩ := nu u hu
        simp
        refine (begin_call (k := k + 1) hE hT (ws := u) (.inl rfl) nu1 nu2 (by omega) bz2).go ?_
        rintro _ z3 bz3 ⟨cs, l, rfl, g⟩
        simp [asL, Mt.go, LIM, show acc.length < 1000000 by omega]
        refine At.mk ⟨acc ++ [(cs, l)], .d (.lst ([us1, us2].map fun u => .lst (u.map .str))), some (.d d), z3, _, by simp, .inr rfl, bz3, by omega, by simp; omega, fun q h => ?_⟩
        rcases List.mem_append.mp h with h | h
        · exact hq q h
        · rw [List.mem_singleton.mp h]
          exact g
  · rintro s ⟨acc, e3, e5, z, m, rfl, h3, bz, hm, hl, hq⟩
    simp
    exact Yields.mk (bz.up (by simp at hm; omega)) ⟨acc, rfl, by simpa using hl, by simpa using hq⟩
end
end Ev

set_option Elab.async false
set_option linter.all false
set_option autoImplicit false
set_option maxHeartbeats 4000000
/-! Plain lemmas, part ab: a comprehension that draws. -/
namespace Ev
open PySem
section
variable {α : Type} {f : α → D} {p : α → Prop} {v n c : Nat} {env : Slots} {el : EM Out} {x : D} {Q : Res Out → Prop}
theorem unwipe_one {env : Slots} {u : Option Slot} : unwipe env (env.set v u) [v] = env := by
  simp only [unwipe, List.set_set]
  rcases Nat.lt_or_ge v env.length with h | h
  · rw [List.getElem?_eq_getElem h]
    simp
  · rw [List.set_eq_of_length_le h]
theorem unwipe_self {env : Slots} : unwipe env env [v] = env := by
  simp only [unwipe]
  rcases Nat.lt_or_ge v env.length with h | h
  · rw [List.getElem?_eq_getElem h]
    simp
  · rw [List.set_eq_of_length_le h]
theorem unwipe_eq {e0 e : Slots} (h : e0[v]? = e[v]?) : unwipe e0 e [v] = e := by
  simp only [unwipe, h]
  exact unwipe_self
theorem unwipe_set {e0 e : Slots} {u : Option Slot} (h : e0[v]? = e[v]?) : unwipe e0 (e.set v u) [v] = e := by
  simp only [unwipe, h, List.set_set]
  exact unwipe_self
/-- [el for v in ds] where each el draws; what el reads may be frozen by it -/
theorem lc_draw2 {e0 : Slots} {ds : List D} (hl : ds.length < 1000000) (hx : Bag n x) (hn : n + c * ds.length ≤ BIG) (h0 : e0[v]? = env[v]?)
    (hel : ∀ d ∈ ds, ∀ m z e, (e = e0 ∨ e = env) → Bag m z → m + c ≤ BIG → Yields (m + c) (env.set v (some (.d d))) (el (st (e.set v (some (.d d))) z)) fun o => ∃ a, o = .d (f a) ∧ p a)
    (hq : ∀ (as : List α) y e, (e = e0 ∨ e = env) → as.length = ds.length → (∀ a ∈ as, p a) → Bag (n + c * ds.length) y → Q (.ok (.new (.lst (as.map f))) (st e y))) :
    ds.length < LIM ∧ ok (lcLoop [v] (.one v) yes el ds []) (st e0 x) (lcQ (st e0 x) [v] Q) := by
  refine ⟨hl, lc_inv (fun r acc s => ∃ (as : List α) (b e : Slots) (z : D) (m : Nat), acc = as.map f ∧ s = st e z ∧ (b = e0 ∨ b = env) ∧ (e = b ∨ ∃ u, e = b.set v u) ∧ Bag m z ∧ m + c * r.length = n + c * ds.length ∧ as.length + r.length = ds.length ∧ (∀ a ∈ as, p a) ∧ ∀ d ∈ r, d ∈ ds) ?_ ?_ ds [] _ ⟨[], e0, e0, x, n, rfl, rfl, .inl rfl, .inl rfl, hx, rfl, by simp, by simp, fun _ h => h⟩⟩
  · rintro d r acc s ⟨as, b, e, z, m, rfl, rfl, hb, he, bz, hm, hlen, hp, hr⟩
    simp only [List.length_cons] at hm hlen
    have hm2 : m + c + c * r.length = n + c * ds.length := by rw [← hm, Nat.mul_add]; omega
    refine ⟨b.set v (some (.d d)), ?_, ?_⟩
    · show some (((wipeE e [v])).set v (some (.d d))) = _
      rcases he with rfl | ⟨u, rfl⟩ <;> simp [wipeE, List.set_set]
    · obtain ⟨o, y, h1, b1, a, rfl, pa⟩ := hel d (hr d List.mem_cons_self) m z b hb bz (by omega)
      unfold ok
      simp only [EM.bind, yes, EM.pure, if_true]
      rw [show ({ env := b.set v (some (Slot.d d)), mem := (st e z).mem } : S) = st (b.set v (some (.d d))) z from rfl, h1]
      simp only [keep, EM.pure]
      exact ⟨as ++ [a], env, _, y, m + c, by simp, rfl, .inr rfl, .inr ⟨_, rfl⟩, b1, hm2, by simp; omega, fun b hb => by
        rcases List.mem_append.mp hb with hb | hb
        · exact hp b hb
        · rw [List.mem_singleton.mp hb]
          exact pa, fun b hb => hr b (List.mem_cons_of_mem _ hb)⟩
  · rintro acc s ⟨as, b, e, z, m, rfl, rfl, hb, he, bz, hm, hlen, hp, _⟩
    simp only [List.length_nil, Nat.mul_zero, Nat.add_zero] at hm hlen
    rw [lcQ_ok]
    have hv : e0[v]? = b[v]? := by rcases hb with rfl | rfl <;> first | rfl | exact h0
    have : unwipe (st e0 x).env (st e z).env [v] = b := by
      rcases he with rfl | ⟨u, rfl⟩
      · exact unwipe_eq hv
      · exact unwipe_set hv
    rw [this]
    subst hm
    exact hq as z b hb hlen hp bz
/-- the same, nothing being frozen -/
theorem lc_draw {ds : List D} (hl : ds.length < 1000000) (hx : Bag n x) (hn : n + c * ds.length ≤ BIG)
    (hel : ∀ d ∈ ds, ∀ m z, Bag m z → m + c ≤ BIG → Yields (m + c) (env.set v (some (.d d))) (el (st (env.set v (some (.d d))) z)) fun o => ∃ a, o = .d (f a) ∧ p a)
    (hq : ∀ (as : List α) y, as.length = ds.length → (∀ a ∈ as, p a) → Bag (n + c * ds.length) y → Q (.ok (.new (.lst (as.map f))) (st env y))) :
    ds.length < LIM ∧ ok (lcLoop [v] (.one v) yes el ds []) (st env x) (lcQ (st env x) [v] Q) :=
  lc_draw2 (f := f) (p := p) (e0 := env) (env := env) hl hx hn rfl (fun d hd m z e he => by rw [or_self_iff.mp he]; exact hel d hd m z) fun as y e he => by rw [or_self_iff.mp he]; exact hq as y
theorem wipe_set {e : Slots} {w : Option Slot} (h : e = env ∨ ∃ u, e = env.set v u) : (wipeE e [v]).set v w = env.set v w := by
  rcases h with rfl | ⟨u, rfl⟩ <;> simp [wipeE, List.set_set]
/-- a comprehension over things of a kind -/
theorem lc_atT {m : Mem} {it : EM (List D)} {cond : EM Bool} {q : α → Bool} {g : α → D} {s0 : S} {as : List α} (hi : it s0 = .ok (as.map f) ⟨env, m⟩) (hl : as.length < 1000000)
    (hd : ∀ a ∈ as, cond ⟨env.set v (some (.d (f a))), m⟩ = .ok (q a) ⟨env.set v (some (.d (f a))), m⟩ ∧ (q a = true → el ⟨env.set v (some (.d (f a))), m⟩ = .ok (.d (g a)) ⟨env.set v (some (.d (f a))), m⟩)) :
    lc [v] (.one v) it cond el s0 = .ok (.new (.lst ((as.filter q).map g))) ⟨env, m⟩ := by
  suffices h : ok (lc [v] (.one v) it cond el) s0 (fun r => r = .ok (.new (.lst ((as.filter q).map g))) ⟨env, m⟩) from h
  refine ok_lc ?_
  unfold ok
  rw [hi]
  refine ⟨by rw [List.length_map]; exact hl, ?_⟩
  refine lc_inv (fun ds acc s => ∃ (r pre : List α) (e : Slots), ds = r.map f ∧ as = pre ++ r ∧ acc = (pre.filter q).map g ∧ s = ⟨e, m⟩ ∧ (e = env ∨ ∃ u, e = env.set v u)) ?_ ?_ _ _ _ ⟨as, [], env, rfl, rfl, rfl, rfl, .inl rfl⟩
  · rintro d ds acc s ⟨r, pre, e, h1, h2, rfl, rfl, h3⟩
    cases r with
    | nil => cases h1
    | cons a r =>
      cases h1
      obtain ⟨k1, k2⟩ := hd a (by rw [h2]; simp)
      refine ⟨env.set v (some (.d (f a))), ?_, ?_⟩
      · show some ((wipeE e [v]).set v (some (.d (f a)))) = _
        rw [wipe_set h3]
      · unfold ok EM.bind
        simp only [k1]
        cases hq : q a with
        | true =>
          simp only [if_true, k2 hq, keep, EM.pure]
          exact ⟨r, pre ++ [a], _, rfl, by rw [h2]; simp, by rw [List.filter_append, List.map_append]; simp [hq], rfl, .inr ⟨_, rfl⟩⟩
        | false => exact ⟨r, pre ++ [a], _, rfl, by rw [h2]; simp, by rw [List.filter_append, List.map_append]; simp [hq], rfl, .inr ⟨_, rfl⟩⟩
  · rintro acc s ⟨r, pre, e, h1, h2, rfl, rfl, h3⟩
    cases r with
    | cons a r => cases h1
    | nil =>
      rw [List.append_nil] at h2
      subst h2
      rw [lcQ_ok]
      have : unwipe env e [v] = env := by
        rcases h3 with rfl | ⟨u, rfl⟩
        · exact unwipe_self
        · exact unwipe_one
      rw [show (⟨env, m⟩ : S).env = env from rfl, this]
end
end Ev

set_option Elab.async false
set_option linter.all false
set_option autoImplicit false
set_option maxHeartbeats 4000000
set_option maxRecDepth 100000
/-! Plain lemmas, part ac: the words: columns, questions, indexes. -/
namespace Ev
open PySem
/-! the forms of sets, step by step -/
section
variable {s : S} {Q : Res Out → Prop} {B : Res Bool → Prop} {a b c e : EM Out}
@[simp ↓] theorem ok_sortSet : ok (sortSet e) s Q = ok (args [e]) s (andThen (fun xs => (gets xs).bind fun us => Ev.opt (sortSetG us)) Q) := ok_bind
@[simp ↓] theorem ok_lenSet : ok (lenSet e) s Q = ok (args [e]) s (andThen (fun xs => (gets xs).bind fun us => Ev.opt (lenSetG us)) Q) := ok_bind
@[simp ↓] theorem ok_chnB {o1 o2 : COp} : ok (chnB o1 o2 a b c) s B = ok a s (andThen (fun x => b.bind fun y => (get x).bind fun u => (get y).bind fun v =>
  (Ev.opt (o1.go u v)).bind fun r => if r = true then c.bind fun z => (get y).bind fun v => (get z).bind fun w => Ev.opt (o2.go v w) else .pure false) B) := ok_bind
end
section
variable {P : Nat → Option Def} {k i col unl cols last : Nat} {s : S}
def isColB : Call → SM := fun C => seq (sIf (orB (ntB (tst (isa (var 0) [.str]))) (ntB (chnB .le .le (lit (.int 1)) (bi .len [var 0]) (lit (.int 8))))) (seq (sRet (lit (.bl false))) skip) skip) (seq (sRet (bi .all [lc [1] (.one 1) (seqE (var 0)) yes (cmp .isin (var 1) (lit (.str "abcdefghijklmnopqrstuvwxyz")))])) skip)
def isUnlB (col : Nat) : Call → SM := fun C => seq (sRet (andE (bi .all [lc [1] (.one 1) (seqE (var 0)) yes (Ev.call C col [var 1] [])]) (cmp .eq (lenSet (var 0)) (bi .len [var 0])))) skip
def isColsB (unl : Nat) : Call → SM := fun C => seq (sRet (andE (isa (var 0) [.tuple]) (andE (Ev.call C unl [var 0] []) (cmp .eq (bi .list [var 0]) (sortSet (var 0)))))) skip
def isLastB (col : Nat) : Call → SM := fun C => seq (sIf (ntB (tst (isa (var 0) [.str]))) (seq (sRet (lit (.bl false))) skip) skip) (seq (sRet (orE (cmp .eq (var 0) (lit (.str ""))) (andE (Ev.call C col [var 0] []) (cmp .notin (var 0) (var 1))))) skip)
def isQB (cols last : Nat) : Call → SM := fun C => seq (sIf (orB (ntB (tst (isa (var 0) [.tuple]))) (orB (cmpB .ne (bi .len [var 0]) (lit (.int 2))) (ntB (tst (Ev.call C cols [idx (var 0) (lit (.int 0))] []))))) (seq (sRet (lit (.bl false))) skip) skip) (seq (sRet (andE (Ev.call C last [idx (var 0) (lit (.int 1)), idx (var 0) (lit (.int 0))] []) (orE (cmp .gt (bi .len [idx (var 0) (lit (.int 0))]) (lit (.int 0))) (cmp .ne (idx (var 0) (lit (.int 1))) (lit (.str "")))))) skip)
theorem col_body : ∀ w ∈ menu, ∀ (C : Call) (m : Mem), isColB C ⟨[some (.d (.str w)), none], m⟩ = .ret (.d (.bl true)) ⟨[some (.d (.str w)), none], m⟩ := by
  intro w hw C m
  simp only [menu, List.mem_cons, List.not_mem_nil, or_false] at hw
  rcases hw with rfl | rfl | rfl | rfl | rfl | rfl | rfl | rfl | rfl | rfl | rfl | rfl <;> kernel_rfl
theorem col_call (hP : P i = some ⟨2, 1, isColB⟩) {w : Str} (hw : w ∈ menu) : run P (k + 1) i [.d (.str w)] s = .ok (.d (.bl true)) s := by
  rw [run_at hP rfl (by show 1 ≤ 2; decide)]
  show leave s (isColB (run P k) ⟨[some (.d (.str w)), none], s.mem⟩) = _
  rw [col_body w hw]
  exact leave_d ..
/-! sets of names -/
theorem dedup_self : ∀ {ks : List NK}, ks.Nodup → dedup ks = ks
  | [], _ => rfl
  | k :: ks, h => by
    have h := List.nodup_cons.mp h
    rw [dedup, dedup_self h.2, List.filter_eq_self.mpr fun x hx => ?_]
    exact nbeq_ne.mpr fun z => h.1 (z ▸ hx)
theorem ofNK_text (w : Str) : ofNK (.text w) = .str w := rfl
theorem ok_texts {ws : List Str} (h : ws.length ≤ 1000) : okSet (ws.map NestedKey.text) = true := by
  unfold okSet
  have h1 : (ws.map NestedKey.text).all NK.leaf = true := List.all_eq_true.mpr fun x hx => by
    obtain ⟨q, _, rfl⟩ := List.mem_map.mp hx
    rfl
  have h2 : (ws.map NestedKey.text).all (fun k => decide (k.depth ≤ 8)) = true := List.all_eq_true.mpr fun x hx => by
    obtain ⟨q, _, rfl⟩ := List.mem_map.mp hx
    rfl
  rw [h1, h2]
  simp [MANY]
  omega
theorem texts_nodup {ws : List Str} (h : ws.Nodup) : (ws.map NestedKey.text).Nodup := List.Pairwise.map NestedKey.text (fun a b n e => n (by cases e; rfl)) h
theorem lenSet_str {ws : List Str} (h : ws.Nodup) (hl : ws.length ≤ 1000) {T : D} (hT : T = .tup (ws.map .str) ∨ T = .lst (ws.map .str)) : lenSetG [T] = some (.d (.int ws.length)) := by
  have hi : items T = some (ws.map .str) := by rcases hT with rfl | rfl <;> rfl
  simp only [lenSetG, hi, Option.bind_some, nks_text]
  rw [if_pos (ok_texts hl), dedup_self (texts_nodup h), List.length_map]
theorem sortSet_str {ws : List Str} (h : ws.Nodup) (hl : ws.length ≤ 1000) {T : D} (hT : T = .tup (ws.map .str) ∨ T = .lst (ws.map .str)) : sortSetG [T] = some (.new (.lst ((sS ws).map .str))) := by
  have hi : items T = some (ws.map .str) := by rcases hT with rfl | rfl <;> rfl
  have e : (ws.map NestedKey.text).map ofNK = ws.map .str := by rw [List.map_map]; rfl
  simp only [sortSetG, hi, Option.bind_some, nks_text]
  rw [dedup_self (texts_nodup h), e, if_pos ⟨ok_texts hl, sortable_str ws⟩, sortD_str]
theorem lc_true {v : Nat} {env : Slots} {m : Mem} {it : EM (List D)} {el : EM Out} {s0 : S} {ds : List D} (hi : it s0 = .ok ds ⟨env, m⟩) (hl : ds.length < LIM) (h : ∀ d ∈ ds, el ⟨env.set v (some (.d d)), m⟩ = .ok (.d (.bl true)) ⟨env.set v (some (.d d)), m⟩) :
    lc [v] (.one v) it yes el s0 = .ok (.new (.lst (List.replicate ds.length (.bl true)))) ⟨env, m⟩ := by
  have h1 := lc_at (v := v) (c := yes) (el := el) (p := fun _ => true) (g := fun _ => .bl true) hi hl fun d hd => ⟨rfl, fun _ => h d hd⟩
  rw [List.filter_eq_self.mpr fun _ _ => rfl, List.map_const'] at h1
  exact h1
theorem allBls_rep (n : Nat) : allBls (List.replicate n (.bl true)) = some (List.replicate n true) := by
  have h := allBls_map (fun _ => true) (List.replicate n .non)
  rw [List.map_const', List.map_const', List.length_replicate] at h
  exact h
theorem all_rep (n : Nat) : (List.replicate n true).all id = true := by simp
theorem all_true (n : Nat) : Bi.all.go [.lst (List.replicate n (.bl true))] = some (.d (.bl true)) := by
  have h := allBls_map (fun _ => true) (List.replicate n .non)
  rw [List.map_const', List.map_const', List.length_replicate] at h
  simp only [Bi.go, h, Option.map_some]
  simp
theorem ok_eq {α : Type} {m : EM α} {s : S} {r : Res α} {Q : Res α → Prop} (h : m s = r) (hq : Q r) : ok m s Q := by
  unfold ok
  rw [h]
  exact hq
theorem unl_call (hP : P i = some ⟨2, 1, isUnlB col⟩) (hC : P col = some ⟨2, 1, isColB⟩) {ws : List Str} (nd : ws.Nodup) (sub : ∀ w ∈ ws, w ∈ menu) (hl : ws.length ≤ 1000) {T : D} (hT : T = .tup (ws.map .str) ∨ T = .lst (ws.map .str)) : run P (k + 2) i [.d T] s = .ok (.d (.bl true)) s := by
  suffices h : okC (run P (k + 2)) i [.d T] s (fun r => r = .ok (.d (.bl true)) s) from h
  refine okC_run hP rfl (by show 1 ≤ 2; decide) ?_
  have hw : walkD T = some (ws.map .str) := by rcases hT with rfl | rfl <;> rfl
  have hn : Bi.len.go [T] = some (.d (.int ws.length)) := by rcases hT with rfl | rfl <;> simp [Bi.go]
  have h1 := lc_true (v := 1) (env := [some (.d T), none]) (m := s.mem) (it := seqE (var 0)) (el := Ev.call (run P (k + 1)) col [var 1] []) (s0 := ⟨[some (.d T), none], s.mem⟩) (ds := ws.map .str) (by simp [seqE, EM.bind, var, keep, EM.pure, Ev.opt, hw]) (by rw [map_len]; show _ < 1000000; omega) fun d hd => by
    obtain ⟨w, hm, rfl⟩ := List.mem_map.mp hd
    simp [Ev.call, passes, pass, EM.bind, var, keep, EM.pure, col_call (P := P) (k := k) hC (sub w hm)]
  simp [isUnlB]
  refine ok_eq h1 ?_
  simp [all_true, lenSet_str nd hl hT, hn, COp.go, okI, eqI]
theorem cols_is (hP : P i = some ⟨1, 1, isColsB unl⟩) (hU : P unl = some ⟨2, 1, isUnlB col⟩) (hC : P col = some ⟨2, 1, isColB⟩) {ws : List Str} (nd : ws.Nodup) (sub : ∀ w ∈ ws, w ∈ menu) (hl : ws.length ≤ 1000) (hs : sS ws = ws) : run P (k + 3) i [.d (.tup (ws.map .str))] s = .ok (.d (.bl true)) s := by
  suffices h : okC (run P (k + 3)) i [.d (.tup (ws.map .str))] s (fun r => r = .ok (.d (.bl true)) s) from h
  refine okC_run hP rfl (by show 1 ≤ 1; decide) ?_
  simp [isColsB, D.kinded, Ty.has]
  refine okC_eq (unl_call (k := k) hU hC nd sub hl (.inl rfl)) ?_
  have e : eqD (.lst (ws.map .str)) (.lst (ws.map .str)) = true := eq_self (flatL ws)
  simp [Bi.go, sortSet_str nd hl (.inl rfl), hs, COp.go, okL, e]
theorem last_is (hP : P i = some ⟨2, 2, isLastB col⟩) (hC : P col = some ⟨2, 1, isColB⟩) {cs : List Str} {l : Str} (h : l = "" ∨ l ∈ menu) (ho : l ∉ cs) : run P (k + 2) i [.d (.str l), .d (.tup (cs.map .str))] s = .ok (.d (.bl true)) s := by
  suffices hh : okC (run P (k + 2)) i [.d (.str l), .d (.tup (cs.map .str))] s (fun r => r = .ok (.d (.bl true)) s) from hh
  refine okC_run hP rfl (by show 2 ≤ 2; decide) ?_
  simp [isLastB, D.kinded, Ty.has, COp.go, okS, eqS]
  by_cases hl : l = ""
  · simp [hl]
  · have hm := h.resolve_left hl
    simp [hl]
    refine okC_eq (col_call (k := k) hC hm) ?_
    have : inD (.str l) (.tup (cs.map .str)) = some false := by
      simp only [inD, D.flat, flatsS 60, Bool.and_self, if_true]
      refine congrArg some ?_
      cases hh : (List.map D.str cs).any fun y => eqD y (.str l) with
      | false => rfl
      | true => exact absurd (inS_iff.mp hh) ho
    simp [COp.go, this]
/-- a question is one -/
theorem isQ_call (hP : P i = some ⟨1, 1, isQB cols last⟩) (hK : P cols = some ⟨1, 1, isColsB unl⟩) (hU : P unl = some ⟨2, 1, isUnlB col⟩) (hC : P col = some ⟨2, 1, isColB⟩) (hL : P last = some ⟨2, 2, isLastB col⟩) {cs : List Str} {l : Str} (q : Qn cs l) : run P (k + 4) i [.d (qD cs l)] s = .ok (.d (.bl true)) s := by
  have hlen := q.len
  suffices hh : okC (run P (k + 4)) i [.d (qD cs l)] s (fun r => r = .ok (.d (.bl true)) s) from hh
  refine okC_run hP rfl (by show 1 ≤ 1; decide) ?_
  simp [isQB, D.kinded, Ty.has, COp.go, Bi.go, okI, eqI, idxD, pr0, pr1]
  refine okC_eq (cols_is (k := k) hK hU hC q.nd q.sub (by omega) q.so) ?_
  simp [idxD, pr0, pr1]
  refine okC_eq (last_is (k := k + 1) hL hC q.last q.out) ?_
  simp [COp.go, ltD, Bi.go, idxD, pr0, pr1]
  by_cases hz : cs = []
  · have := q.ne.resolve_left (fun h => h hz)
    simp [hz, okS, eqS, this]
  · exact fun z => absurd z hz
end
end Ev

set_option Elab.async false
set_option linter.all false
set_option autoImplicit false
set_option maxHeartbeats 4000000
set_option maxRecDepth 100000
/-! Plain lemmas, part ad: an Asked: how it is made, walked, listed. -/
namespace Ev
open PySem
/-! steps over instances -/
def mkQ (s : S) (Q : Res Out → Prop) (r : Res Out) : Prop := Q (match r with
  | .ok (.d .non) s' => (match s'.mem[s.mem.length]? with
    | some (.live x) => .ok (.new x) ⟨s.env, s'.mem.take s.mem.length⟩
    | _ => .bad)
  | .exc x s' => .exc x ⟨s.env, s'.mem.take s.mem.length⟩
  | _ => .bad)
def mkK (C : Call) (c f : Nat) (Q : Res Out → Prop) : Res (List Vl) → Prop
  | .ok us s => okC C f (.ref s.mem.length :: us) ⟨[], s.mem ++ [.live (.ins c [] [])]⟩ (mkQ s Q)
  | .exc x s => Q (.exc x s)
  | .bad => Q .bad
section
variable {C : Call} {c f : Nat} {s : S} {Q : Res Out → Prop} {es : List (EM Out)} {a e o : EM Out} {R : SR → Prop} {L : Res (List D) → Prop}
@[simp ↓] theorem mkK_ok {us : List Vl} : mkK C c f Q (.ok us s) = okC C f (.ref s.mem.length :: us) ⟨[], s.mem ++ [.live (.ins c [] [])]⟩ (mkQ s Q) := rfl
@[simp ↓] theorem ok_mkI : ok (mkI C c f es) s Q = ok (passes es) s (mkK C c f Q) := by
  unfold mkI
  rw [ok_bind]
  unfold ok
  cases passes es s <;> rfl
@[simp ↓] theorem ok_fld {nm : Str} {cs : List Nat} : ok (fld nm cs e) s Q = ok e s (andThen (fun x => (get x).bind fun u => Ev.opt (fieldD nm cs u)) Q) := ok_bind
@[simp ↓] theorem oks_fld {nm : Str} {cs : List Nat} : oks (sFldE nm cs o e) s R = ok e s (liftQ (fun y => Ev.lift (keep y) fun v => Ev.lift o fun x => Ev.lift (putIn x (setFD nm cs v)) fun _ => .next) R) := oks_lift
@[simp ↓] theorem ok_seqI {its : List (Nat × Str)} : ok (seqI its e) s L = ok e s (andThen (fun x => (keep x).bind fun u => Ev.opt (walkI its u)) L) := ok_bind
@[simp ↓] theorem ok_callM {ms : List (Nat × Nat)} {nm : Str} : ok (callM C ms nm o es) s Q = ok o s (andThen (fun x => (pass x).bind fun v => (getV v).bind fun u => (Ev.opt (mfind ms nm u)).bind fun f => (passes es).bind fun us => C f (v :: us)) Q) := ok_bind
@[simp ↓] theorem ok_getV_d {x : D} {R : Res D → Prop} : ok (getV (.d x)) s R = R (.ok x s) := rfl
@[simp ↓] theorem ok_getV_ref {k : Nat} {R : Res D → Prop} : ok (getV (.ref k)) s R = ok (get (.ref k)) s R := rfl
/-- a def that is asked by the machine -/
theorem ok_ask {us : List D} {x : D} {s3 : S} {R : Res D → Prop} (h : C f (us.map .d) ⟨[], []⟩ = .ok (.d x) s3) (ha : x.atom = true) (hq : R (.ok x s)) : ok (ask C f us) s R := by
  unfold ok ask
  rw [h]
  simp only [ha, if_true]
  exact hq
end
abbrev kq : Str := "kept_questions"
abbrev askedD (us : List Qt) : D := .ins 0 [kq] [.tup (us.map qT)]
@[simp] theorem walk_asked (us : List Qt) : walkI [(0, kq)] (askedD us) = some (us.map qT) := rfl
@[simp] theorem field_asked (us : List Qt) : fieldD kq [0] (askedD us) = some (.d (.tup (us.map qT))) := rfl
theorem walkI_lst {its : List (Nat × Str)} (xs : List D) : walkI its (.lst xs) = some xs := rfl
theorem walkI_tup {its : List (Nat × Str)} (xs : List D) : walkI its (.tup xs) = some xs := rfl
section
variable {P : Nat → Option Def} {k i isq cols last unl col n ln : Nat} {s : S}
def initB (isq : Nat) : Call → SM := fun C => seq (sIf (orB (ntB (tst (isa (var 1) [.list, .tuple]))) (ntB (tst (bi .all [lc [2] (.one 2) (seqE (var 1)) yes (Ev.call C isq [var 2] [])])))) (seq sBad skip) skip) (seq (sSet 3 (sortSet (var 1))) (seq (sIf (cmpB .gt (bi .len [var 3]) (lit (.int 48))) (seq sBad skip) skip) (seq (sFldE "kept_questions" [0] (var 0) (bi .tuple [var 3])) skip)))
/-- the facts about the words in a table -/
structure WordsP (P : Nat → Option Def) (isq cols unl col last : Nat) : Prop where
  q : P isq = some ⟨1, 1, isQB cols last⟩
  k : P cols = some ⟨1, 1, isColsB unl⟩
  u : P unl = some ⟨2, 1, isUnlB col⟩
  c : P col = some ⟨2, 1, isColB⟩
  l : P last = some ⟨2, 2, isLastB col⟩
theorem init_call (hP : P i = some ⟨4, 2, initB isq⟩) (W : WordsP P isq cols unl col last) {qs us : List Qt} {T : D} (hT : T = .lst (qs.map qT) ∨ T = .tup (qs.map qT)) (hq : ∀ o ∈ qs, Qn o.1 o.2) (hl : qs.length < 500) (hu : sortD ((dedupQ qs).map qT) = us.map qT) (h48 : us.length ≤ 48) {m : Mem} :
    run P (k + 5) i [.ref m.length, .d T] ⟨[], m ++ [.live (.ins 0 [] [])]⟩ = .ok (.d .non) ⟨[], m ++ [.live (askedD us)]⟩ := by
  suffices h : okC (run P (k + 5)) i [.ref m.length, .d T] ⟨[], m ++ [.live (.ins 0 [] [])]⟩ (fun r => r = .ok (.d .non) ⟨[], m ++ [.live (askedD us)]⟩) from h
  refine okC_run hP rfl (by show 2 ≤ 4; decide) ?_
  have hk : T.kinded = true := by rcases hT with rfl | rfl <;> rfl
  have ht : ¬ (Ty.list.has T = false ∧ Ty.tuple.has T = false) := by rcases hT with rfl | rfl <;> simp [Ty.has]
  have hw : walkD T = some (qs.map qT) := by rcases hT with rfl | rfl <;> rfl
  have hset := set_q (qs := qs) (u := T) hT (by omega)
  rw [hu] at hset
  have h1 := lc_true (v := 2) (env := [some (.ref m.length), some (.d T), none, none]) (m := m ++ [.live (.ins 0 [] [])]) (it := seqE (var 1)) (el := Ev.call (run P (k + 4)) isq [var 2] []) (s0 := ⟨[some (.ref m.length), some (.d T), none, none], m ++ [.live (.ins 0 [] [])]⟩) (ds := qs.map qT) (by simp [seqE, EM.bind, var, keep, EM.pure, Ev.opt, hw]) (by rw [map_len]; show _ < 1000000; omega) fun d hd => by
    obtain ⟨w, hm, rfl⟩ := List.mem_map.mp hd
    simp [Ev.call, passes, pass, EM.bind, var, keep, EM.pure, isQ_call (P := P) (k := k) W.q W.k W.u W.c W.l (hq w hm)]
  simp [initB, hk, ht]
  refine ok_eq h1 ?_
  have n48 : ¬ (48 : Int) < us.length := by omega
  simp [allBls_rep, all_rep, hset, COp.go, ltD, Bi.go, n48, setFD, putN, putV]
  exact List.take_of_length_le (by simp)
end
end Ev

set_option Elab.async false
set_option linter.all false
set_option autoImplicit false
set_option maxHeartbeats 4000000
set_option maxRecDepth 100000
/-! Plain lemmas, part ae: implied questions. -/
namespace Ev
open PySem
section
variable {P : Nat → Option Def} {k i fo cf fs wy n ln : Nat} {s : S}
def forcesB (f : Nat) : Call → SM := fun C => seq (sRet (cmp .isin (var 1) (Ev.call C f [var 0] []))) skip
theorem sortQ_in (qs : List Qt) (q : Qt) : inD (qT q) (.lst (sortD ((dedupQ qs).map qT))) = some (decide (q ∈ qs)) := by
  have hp := sortD_perm ((dedupQ qs).map qT)
  have f : D.flats 60 (sortD ((dedupQ qs).map qT)) = true := flats_of fun d hd => by
    obtain ⟨x, _, rfl⟩ := List.mem_map.mp (hp.subset hd)
    exact flatQ x.1 x.2
  simp only [inD, flatQ, f, Bool.and_self, if_true]
  rw [in_q hp]
  simp only [mem_dedupQ]
theorem forces_call (hP : P i = some ⟨2, 2, forcesB fo⟩) (hF : P fo = some ⟨4, 1, forcedB cf⟩) (hC : P cf = some ⟨3, 1, colsB⟩) {o q : Qt} (h : o.1.length ≤ 100) : run P (k + 3) i [.d (qT o), .d (qT q)] s = .ok (.d (.bl (decide (q ∈ forcedL o.1 o.2)))) s := by
  suffices hh : okC (run P (k + 3)) i [.d (qT o), .d (qT q)] s (fun r => r = .ok (.d (.bl (decide (q ∈ forcedL o.1 o.2)))) s) from hh
  refine okC_run hP rfl (by show 2 ≤ 2; decide) ?_
  simp [forcesB]
  refine okC_eq (forced_call (k := k) hF hC h) ?_
  have := sortQ_in (forcedL o.1 o.2) q
  simp [COp.go, this]
def whyF (us : List Qt) (q : Qt) : Option Qt := us.find? fun o => decide (o ≠ q) && decide (q ∈ forcedL o.1 o.2)
theorem whyF_nil (q : Qt) : whyF [] q = none := rfl
theorem whyF_cons (o : Qt) (r : List Qt) (q : Qt) : whyF (o :: r) q = if o ≠ q ∧ q ∈ forcedL o.1 o.2 then some o else whyF r q := by
  unfold whyF
  rw [List.find?_cons]
  by_cases h1 : o = q <;> by_cases h2 : q ∈ forcedL o.1 o.2 <;> simp [h1, h2]
abbrev qtD : Option Qt → D
  | some q => qT q
  | none => .non
theorem neQ (p q : Qt) : COp.ne.go (qT p) (qT q) = some (decide (p ≠ q)) := by
  have h := okQ p.1 q.1 p.2 q.2
  have e := eqQ p.1 q.1 p.2 q.2
  simp only [COp.go, h, if_true, e]
  refine congrArg some ?_
  by_cases hz : p = q
  · subst hz
    simp
  · have : ¬ (p.1 = q.1 ∧ p.2 = q.2) := fun ⟨a, b⟩ => hz (Prod.ext a b)
    simp [hz, this]
def whyB (fs : Nat) : Call → SM := fun C => seq (sFor (.one 2) (seqI [(0, "kept_questions")] (var 0)) (seq (sIf (andB (cmpB .ne (var 2) (var 1)) (tst (Ev.call C fs [var 2, var 1] []))) (seq (sRet (var 2)) skip) skip) skip)) (seq (sRet (lit .non)) skip)
theorem why_call (hP : P i = some ⟨3, 2, whyB fs⟩) (hS : P fs = some ⟨2, 2, forcesB fo⟩) (hF : P fo = some ⟨4, 1, forcedB cf⟩) (hC : P cf = some ⟨3, 1, colsB⟩) {us : List Qt} (hu : ∀ o ∈ us, o.1.length ≤ 100) (q : Qt) : run P (k + 4) i [.d (askedD us), .d (qT q)] s = .ok (.d (qtD (whyF us q))) s := by
  suffices hh : okC (run P (k + 4)) i [.d (askedD us), .d (qT q)] s (fun r => r = .ok (.d (qtD (whyF us q))) s) from hh
  refine okC_run hP rfl (by show 2 ≤ 3; decide) ?_
  simp [whyB]
  refine loop_inv (fun ds t => ∃ (r : List Qt) (e : Option Slot), ds = r.map qT ∧ (∀ o ∈ r, o ∈ us) ∧ t = ⟨[some (.d (askedD us)), some (.d (qT q)), e], s.mem⟩ ∧ whyF us q = whyF r q) ?_ ?_ _ _ ⟨us, none, rfl, fun _ h => h, rfl, rfl⟩
  · rintro d ds t ⟨r, e, h1, h2, rfl, h3⟩
    cases r with
    | nil => cases h1
    | cons o r =>
      cases h1
      refine ⟨_, rfl, ?_⟩
      rw [whyF_cons] at h3
      simp [neQ]
      by_cases hz : o = q
      · simp [hz] at h3 ⊢
        exact At.mk ⟨r, some (.d (qT q)), rfl, fun x hx => h2 x (List.mem_cons_of_mem _ hx), rfl, by simpa using h3⟩
      · simp [hz]
        refine okC_eq (forces_call (k := k) hS hF hC (hu o (h2 o List.mem_cons_self))) ?_
        by_cases hf : q ∈ forcedL o.1 o.2
        · rw [h3]
          simp [hz, hf]
        · simp [hz, hf] at h3 ⊢
          exact At.mk ⟨r, some (.d (qT o)), rfl, fun x hx => h2 x (List.mem_cons_of_mem _ hx), rfl, h3⟩
  · rintro t ⟨r, e, h1, h2, rfl, h3⟩
    cases r with
    | cons o r => cases h1
    | nil =>
      rw [h3, whyF_nil]
      simp
def impB (wy : Nat) : Call → SM := fun C => seq (sRet (lc [1] (.one 1) (seqI [(0, "kept_questions")] (var 0)) (cmpB .isnt (Ev.call C wy [var 0, var 1] []) (lit .non)) (var 1))) skip
def impF (us : List Qt) : List Qt := us.filter fun q => (whyF us q).isSome
theorem imp_call (hP : P i = some ⟨2, 1, impB wy⟩) (hW : P wy = some ⟨3, 2, whyB fs⟩) (hS : P fs = some ⟨2, 2, forcesB fo⟩) (hF : P fo = some ⟨4, 1, forcedB cf⟩) (hC : P cf = some ⟨3, 1, colsB⟩) {us : List Qt} (hl : us.length ≤ 1000) (hu : ∀ o ∈ us, o.1.length ≤ 100) : run P (k + 5) i [.d (askedD us)] s = .ok (.new (.lst ((impF us).map qT))) s := by
  suffices hh : okC (run P (k + 5)) i [.d (askedD us)] s (fun r => r = .ok (.new (.lst ((impF us).map qT))) s) from hh
  refine okC_run hP rfl (by show 1 ≤ 2; decide) ?_
  simp [impB]
  have h1 := lc_atT (f := qT) (v := 1) (env := [some (.d (askedD us)), none]) (m := s.mem) (it := seqI [(0, "kept_questions")] (var 0)) (cond := cmpB .isnt (Ev.call (run P (k + 4)) wy [var 0, var 1] []) (lit .non)) (el := var 1) (q := fun q => (whyF us q).isSome) (g := qT) (s0 := ⟨[some (.d (askedD us)), none], s.mem⟩) (as := us)
    (by simp [seqI, EM.bind, var, keep, EM.pure, Ev.opt]) (by omega) fun q hq => by
      have h2 := why_call (k := k) (s := ⟨[some (.d (askedD us)), some (.d (qT q))], s.mem⟩) hW hS hF hC hu q
      refine ⟨?_, fun _ => by simp [var]⟩
      simp [cmpB, EM.bind, var, Ev.call, passes, pass, keep, EM.pure, h2, lit, get, Out.look, Ev.opt, COp.go]
      cases whyF us q <;> rfl
  refine ok_eq h1 ?_
  simp [impF]
end
end Ev

set_option Elab.async false
set_option linter.all false
set_option maxRecDepth 100000
set_option maxHeartbeats 0
namespace K32
open PySem PySem.Spec PyProof.Rows L2 Ev
def top (i : Nat) : Stmt := PySem.Challenge.pw_narrowkeys_k32_implied_questions.main.body.getD i (.Pass ⟨0, 0, 0, 0⟩)
def topM (i j : Nat) : Stmt := match top i with
  | .ClassDef _ _ _ body .. => body.getD j (.Pass ⟨0, 0, 0, 0⟩)
  | _ => .Pass ⟨0, 0, 0, 0⟩
def r0 : DRow := ⟨"_wall", top 0, ["k"], ["k"], [], [], [], [], "_wall", none, false⟩
def r1 : DRow := ⟨"is_column", top 9, ["thing"], ["thing", "sign"], [], [], [], [], "is_column", none, false⟩
def r2 : DRow := ⟨"are_unlike", top 10, ["things"], ["things", "thing"], [], [], [], [], "are_unlike", none, false⟩
def r3 : DRow := ⟨"are_columns", top 11, ["thing"], ["thing"], [], [], [], [], "are_columns", none, false⟩
def r4 : DRow := ⟨"is_last", top 12, ["thing", "columns"], ["thing", "columns"], [], [], [], [], "is_last", none, false⟩
def r5 : DRow := ⟨"is_question", top 13, ["thing"], ["thing"], [], [], [], [], "is_question", none, false⟩
def r6 : DRow := ⟨"columns_of", top 15, ["question"], ["question", "columns", "last"], [], [], [], [], "columns_of", none, false⟩
def r7 : DRow := ⟨"forced", top 17, ["question"], ["question", "columns", "last", "found"], [], [], [], [], "forced", none, false⟩
def r8 : DRow := ⟨"forces", top 18, ["one", "other"], ["one", "other"], [], [], [], [], "forces", none, false⟩
def r9 : DRow := ⟨"why_implied", top 19, ["asked", "question"], ["asked", "question", "other"], [], [], [], [], "why_implied", none, true⟩
def r10 : DRow := ⟨"implied", top 20, ["asked"], ["asked", "question"], [], [], [], [], "implied", none, true⟩
def r11 : DRow := ⟨"_law_bag", top 24, ["_law_script"], ["_law_script", "_law_cell"], [], [], [], [], "_law_bag", none, false⟩
def r12 : DRow := ⟨"_law_take", top 25, ["_law_bag_here", "_law_many"], ["_law_bag_here", "_law_many", "_law_cell", "_law_mixed_here", "_law_drawn", "_law_begin", "_law_second"], [], [], [], [], "_law_take", none, false⟩
def r13 : DRow := ⟨"_law_one", top 26, ["_law_bag_here", "_law_some"], ["_law_bag_here", "_law_some"], [], [], [], [], "_law_one", none, false⟩
def r14 : DRow := ⟨"_law_mixed", top 27, ["_law_bag_here", "_law_things"], ["_law_bag_here", "_law_things", "_law_found", "_law_thing"], [], [], [], [], "_law_mixed", none, false⟩
def r15 : DRow := ⟨"_law_names", top 28, ["_law_bag_here", "_law_many"], ["_law_bag_here", "_law_many", "_law_menu"], [], [], [], [], "_law_names", none, false⟩
def r16 : DRow := ⟨"_law_question", top 29, ["_law_bag_here", "_law_names_here"], ["_law_bag_here", "_law_names_here", "_law_some", "_law_end"], [], [], [], [], "_law_question", none, false⟩
def r17 : DRow := ⟨"_law_once", top 30, ["_law_some"], ["_law_some", "_law_found", "_law_one_here"], [], [], [], [], "_law_once", none, false⟩
def r18 : DRow := ⟨"_law_alike", top 31, ["_law_found", "_law_due"], ["_law_found", "_law_due"], [], [], [], [], "_law_alike", none, false⟩
def r19 : DRow := ⟨"_law_forced_by", top 32, ["_law_question_here"], ["_law_question_here", "_law_some", "_law_found"], [], [], [], [], "_law_forced_by", none, false⟩
def r20 : DRow := ⟨"_law_small", top 33, ["_law_bag_here", "_law_names_here"], ["_law_bag_here", "_law_names_here", "_law_one_here", "_law_part", "_law_some"], [], [], [], [], "_law_small", none, false⟩
def r21 : DRow := ⟨"law", top 34, ["_law_script"], ["_law_script", "_law_bag_here", "_law_turn", "_law_names_here", "_law_some", "_law_k", "_law_row", "_law_size", "_law_asked", "_law_once_here", "_law_due", "_law_one_here", "_law_others", "_law_other", "_law_again", "_law_found"], [1], ["_law_alike"], [], [], "law", none, true⟩
def r22 : DRow := ⟨"__init__", topM 22 0, ["self", "questions"], ["self", "questions", "one", "unlike"], [], [], [], [], "Asked.__init__", some (0, "__init__"), false⟩
def r23 : DRow := ⟨"questions", topM 22 1, ["self"], ["self"], [], [], [], [], "Asked.questions", some (0, "questions"), false⟩
def r24 : DRow := ⟨"__or__", topM 22 7, ["self", "other"], ["self", "other"], [], [], [], [], "Asked.__or__", some (0, "__or__"), false⟩
def r25 : DRow := ⟨"__and__", topM 22 8, ["self", "other"], ["self", "other", "question"], [], [], [], [], "Asked.__and__", some (0, "__and__"), false⟩
def r26 : DRow := ⟨"__sub__", topM 22 9, ["self", "other"], ["self", "other", "question"], [], [], [], [], "Asked.__sub__", some (0, "__sub__"), false⟩
def r27 : DRow := ⟨"__contains__", topM 22 10, ["self", "question"], ["self", "question"], [], [], [], [], "Asked.__contains__", some (0, "__contains__"), false⟩
def r28 : DRow := ⟨"__len__", topM 22 12, ["self"], ["self"], [], [], [], [], "Asked.__len__", some (0, "__len__"), false⟩
def rows : List DRow := [r0, r1, r2, r3, r4, r5, r6, r7, r8, r9, r10, r11, r12, r13, r14, r15, r16, r17, r18, r19, r20, r21, r22, r23, r24, r25, r26, r27, r28]
def free : List Str := ["abs", "all", "int", "isinstance", "iter", "len", "list", "range", "repr", "set", "sorted", "str", "tuple"]
def crows : List CRow := [⟨"Asked", ["kept_questions"], some "kept_questions"⟩]
def con : List (Str × Ev.D) := [("LETTERS", .str "abcdefghijklmnopqrstuvwxyz"), ("LONGEST", .int 8), ("MOST_THINGS", .int 48)]
def tab : Tab := ⟨rows, free, crows, con⟩
/-! _wall(k); slots k -/
def b0 : Call → SM := fun C => seq sBad skip
/-! is_column(thing); slots thing, sign -/
def b1 : Call → SM := fun C => seq (sIf (orB (ntB (tst (isa (var 0) [.str]))) (ntB (chnB .le .le (lit (.int 1)) (bi .len [var 0]) (lit (.int 8))))) (seq (sRet (lit (.bl false))) skip) skip) (seq (sRet (bi .all [lc [1] (.one 1) (seqE (var 0)) yes (cmp .isin (var 1) (lit (.str "abcdefghijklmnopqrstuvwxyz")))])) skip)
/-! are_unlike(things); slots things, thing -/
def b2 : Call → SM := fun C => seq (sRet (andE (bi .all [lc [1] (.one 1) (seqE (var 0)) yes (Ev.call C 1 [var 1] [])]) (cmp .eq (lenSet (var 0)) (bi .len [var 0])))) skip
/-! are_columns(thing); slots thing -/
def b3 : Call → SM := fun C => seq (sRet (andE (isa (var 0) [.tuple]) (andE (Ev.call C 2 [var 0] []) (cmp .eq (bi .list [var 0]) (sortSet (var 0)))))) skip
/-! is_last(thing, columns); slots thing, columns -/
def b4 : Call → SM := fun C => seq (sIf (ntB (tst (isa (var 0) [.str]))) (seq (sRet (lit (.bl false))) skip) skip) (seq (sRet (orE (cmp .eq (var 0) (lit (.str ""))) (andE (Ev.call C 1 [var 0] []) (cmp .notin (var 0) (var 1))))) skip)
/-! is_question(thing); slots thing -/
def b5 : Call → SM := fun C => seq (sIf (orB (ntB (tst (isa (var 0) [.tuple]))) (orB (cmpB .ne (bi .len [var 0]) (lit (.int 2))) (ntB (tst (Ev.call C 3 [idx (var 0) (lit (.int 0))] []))))) (seq (sRet (lit (.bl false))) skip) skip) (seq (sRet (andE (Ev.call C 4 [idx (var 0) (lit (.int 1)), idx (var 0) (lit (.int 0))] []) (orE (cmp .gt (bi .len [idx (var 0) (lit (.int 0))]) (lit (.int 0))) (cmp .ne (idx (var 0) (lit (.int 1))) (lit (.str "")))))) skip)
/-! columns_of(question); slots question, columns, last -/
def b6 : Call → SM := fun C => seq (sUnp (.many [1, 2]) (var 0)) (seq (sRet (iteE (cmpB .eq (var 2) (lit (.str ""))) (var 1) (bi .tuple [bi .sorted [lstE [(true, var 1), (false, var 2)]]]))) skip)
/-! forced(question); slots question, columns, last, found -/
def b7 : Call → SM := fun C => seq (sUnp (.many [1, 2]) (var 0)) (seq (sSet 3 (lstE [(false, var 0)])) (seq (sIf (cmpB .gt (bi .len [var 1]) (lit (.int 0))) (seq (sExpr (mt .append (var 3) [tupE [(false, var 1), (false, lit (.str ""))]])) skip) skip) (seq (sIf (cmpB .eq (bi .len [var 1]) (lit (.int 1))) (seq (sExpr (mt .append (var 3) [tupE [(false, tupE []), (false, idx (var 1) (lit (.int 0)))]])) skip) skip) (seq (sIf (cmpB .ne (var 2) (lit (.str ""))) (seq (sExpr (mt .append (var 3) [tupE [(false, Ev.call C 6 [var 0] []), (false, lit (.str ""))]])) skip) skip) (seq (sRet (sortSet (var 3))) skip)))))
/-! forces(one, other); slots one, other -/
def b8 : Call → SM := fun C => seq (sRet (cmp .isin (var 1) (Ev.call C 7 [var 0] []))) skip
/-! why_implied(asked, question); slots asked, question, other -/
def b9 : Call → SM := fun C => seq (sFor (.one 2) (seqI [(0, "kept_questions")] (var 0)) (seq (sIf (andB (cmpB .ne (var 2) (var 1)) (tst (Ev.call C 8 [var 2, var 1] []))) (seq (sRet (var 2)) skip) skip) skip)) (seq (sRet (lit .non)) skip)
/-! implied(asked); slots asked, question -/
def b10 : Call → SM := fun C => seq (sRet (lc [1] (.one 1) (seqI [(0, "kept_questions")] (var 0)) (cmpB .isnt (Ev.call C 9 [var 0, var 1] []) (lit .non)) (var 1))) skip
/-! _law_bag(_law_script); slots _law_script, _law_cell -/
def b11 : Call → SM := fun C => seq (sRet (lstE [(false, lit (.int 0)), (false, lit (.int 1234567891)), (false, lit (.int 0)), (false, lc [1] (.one 1) (seqE (cut (var 0) none (some (lit (.int 63))))) yes (bi .abs [var 1]))])) skip
/-! _law_take(_law_bag_here, _law_many); slots _law_bag_here, _law_many, _law_cell, _law_mixed_here, _law_drawn, _law_begin, _law_second -/
def b12 : Call → SM := fun C => seq (sIf (cmpB .eq (idx (var 0) (lit (.int 0))) (lit (.int 0))) (seq (sSet 2 (lit (.int 0))) (seq (sIf (cmpB .lt (idx (var 0) (lit (.int 2))) (bi .len [idx (var 0) (lit (.int 3))])) (seq (sSet 2 (idx (idx (var 0) (lit (.int 3))) (idx (var 0) (lit (.int 2))))) skip) skip) (seq (sAugI .add (var 0) (lit (.int 2)) (lit (.int 1))) (seq (sIf (cmpB .ge (var 2) (lit (.int 1000000000000000000))) (seq (sPut (var 0) (lit (.int 0)) (var 2)) skip) skip) (seq (sSet 3 (bin .add (bin .add (bin .mul (idx (var 0) (lit (.int 1))) (lit (.int 48271))) (bin .mod (bi .int [var 2]) (lit (.int 2147483647)))) (bin .mul (lit (.int 7919)) (idx (var 0) (lit (.int 2)))))) (seq (sPut (var 0) (lit (.int 1)) (bin .mod (bi .int [var 3]) (lit (.int 2147483647)))) skip)))))) skip) (seq (sIf (cmpB .gt (idx (var 0) (lit (.int 0))) (lit (.int 0))) (seq (sSet 4 (bin .mod (bi .int [idx (var 0) (lit (.int 0))]) (var 1))) (seq (sPut (var 0) (lit (.int 0)) (bin .fdiv (bi .int [idx (var 0) (lit (.int 0))]) (var 1))) (seq (sRet (var 4)) skip))) skip) (seq (sSet 5 (bin .mod (bi .int [bin .mul (bin .add (idx (var 0) (lit (.int 1))) (lit (.int 1))) (lit (.int 39373))]) (lit (.int 1000000007)))) (seq (sSet 6 (bin .mod (bi .int [bin .mul (bin .mod (bi .int [bin .mul (var 5) (var 5)]) (lit (.int 998244353))) (lit (.int 30011))]) (lit (.int 998244353)))) (seq (sRet (bin .mod (bi .int [bin .fdiv (var 6) (lit (.int 7))]) (var 1))) skip))))
/-! _law_one(_law_bag_here, _law_some); slots _law_bag_here, _law_some -/
def b13 : Call → SM := fun C => seq (sRet (idx (var 1) (Ev.call C 12 [var 0, bi .len [var 1]] []))) skip
/-! _law_mixed(_law_bag_here, _law_things); slots _law_bag_here, _law_things, _law_found, _law_thing -/
def b14 : Call → SM := fun C => seq (sSet 2 (lstE [])) (seq (sFor (.one 3) (seqE (var 1)) (seq (sExpr (mt .insert (var 2) [Ev.call C 12 [var 0, bin .add (bi .len [var 2]) (lit (.int 1))] [], var 3])) skip)) (seq (sRet (var 2)) skip))
/-! _law_names(_law_bag_here, _law_many); slots _law_bag_here, _law_many, _law_menu -/
def b15 : Call → SM := fun C => seq (sSet 2 (lstE [(false, lit (.str "a")), (false, lit (.str "b")), (false, lit (.str "ab")), (false, lit (.str "ba")), (false, lit (.str "job")), (false, lit (.str "view")), (false, lit (.str "pin")), (false, lit (.str "quay")), (false, lit (.str "stock")), (false, lit (.str "golfer")), (false, lit (.str "exhumed")), (false, lit (.str "zzzzzzzz"))])) (seq (sRet (cut (Ev.call C 14 [var 0, var 2] []) none (some (var 1)))) skip)
/-! _law_question(_law_bag_here, _law_names_here); slots _law_bag_here, _law_names_here, _law_some, _law_end -/
def b16 : Call → SM := fun C => seq (sSet 2 (cut (Ev.call C 14 [var 0, var 1] []) none (some (bin .add (lit (.int 1)) (Ev.call C 12 [var 0, bi .len [var 1]] []))))) (seq (sSet 3 (iteE (cmpB .eq (Ev.call C 12 [var 0, lit (.int 2)] []) (lit (.int 0))) (mt .pop (var 2) []) (lit (.str "")))) (seq (sRet (tupE [(false, bi .tuple [bi .sorted [var 2]]), (false, var 3)])) skip))
/-! _law_once(_law_some); slots _law_some, _law_found, _law_one_here -/
def b17 : Call → SM := fun C => seq (sSet 1 (lstE [])) (seq (sFor (.one 2) (seqE (bi .sorted [var 0])) (seq (sIf (cmpB .notin (var 2) (var 1)) (seq (sExpr (mt .append (var 1) [var 2])) skip) skip) skip)) (seq (sRet (var 1)) skip))
/-! _law_alike(_law_found, _law_due); slots _law_found, _law_due -/
def b18 : Call → SM := fun C => seq (sRet (andE (cmp .eq (var 0) (var 1)) (cmp .eq (bi .repr [var 0]) (bi .repr [var 1])))) skip
/-! _law_forced_by(_law_question_here); slots _law_question_here, _law_some, _law_found -/
def b19 : Call → SM := fun C => seq (sPar 1 2 (idx (var 0) (lit (.int 0))) (lstE [(false, var 0)])) (seq (sIf (cmpB .ne (idx (var 0) (lit (.int 1))) (lit (.str ""))) (seq (sExpr (mt .append (var 2) [tupE [(false, bi .tuple [bi .sorted [bin .add (var 1) (tupE [(false, idx (var 0) (lit (.int 1)))])]]), (false, lit (.str ""))]])) (seq (sIf (cmpB .ne (var 1) (tupE [])) (seq (sExpr (mt .append (var 2) [tupE [(false, var 1), (false, lit (.str ""))]])) skip) skip) skip)) skip) (seq (sIf (cmpB .eq (bi .len [var 1]) (lit (.int 1))) (seq (sExpr (mt .append (var 2) [tupE [(false, tupE []), (false, idx (var 1) (lit (.int 0)))]])) skip) skip) (seq (sRet (var 2)) skip)))
/-! _law_small(_law_bag_here, _law_names_here); slots _law_bag_here, _law_names_here, _law_one_here, _law_part, _law_some -/
def b20 : Call → SM := fun C => seq (sSet 2 (Ev.call C 16 [var 0, var 1] [])) (seq (sIf (cmpB .eq (Ev.call C 12 [var 0, lit (.int 3)] []) (lit (.int 0))) (seq (sRet (var 2)) skip) skip) (seq (sSet 3 (cut (Ev.call C 14 [var 0, var 1] []) none (some (lit (.int 2))))) (seq (sSet 4 (lstE [(false, tupE [(false, bi .tuple [bi .sorted [var 3]]), (false, lit (.str ""))]), (false, tupE [(false, tupE [(false, idx (var 3) (lit (.int 0)))]), (false, lit (.str ""))]), (false, tupE [(false, tupE []), (false, idx (var 3) (lit (.int 0)))])])) (seq (sIf (cmpB .gt (bi .len [var 3]) (lit (.int 1))) (seq (sExpr (mt .append (var 4) [tupE [(false, tupE [(false, idx (var 3) (lit (.int 0)))]), (false, idx (var 3) (lit (.int 1)))]])) skip) skip) (seq (sRet (Ev.call C 13 [var 0, var 4] [])) skip)))))
/-! law(_law_script); slots _law_script, _law_bag_here, _law_turn, _law_names_here, _law_some, _law_k, _law_row, _law_size, _law_asked, _law_once_here, _law_due, _law_one_here, _law_others, _law_other, _law_again, _law_found -/
def b21 : Call → SM := fun C => seq (sCel 1 (Ev.call C 11 [var 0] [])) (seq (sFor (.one 2) (rng1 (lit (.int 5))) (seq (sSet 3 (Ev.call C 15 [var 1, Ev.call C 13 [var 1, lstE [(false, bin .add (lit (.int 1)) (Ev.call C 12 [var 1, lit (.int 4)] [])), (false, bin .add (lit (.int 1)) (Ev.call C 12 [var 1, lit (.int 4)] [])), (false, lit (.int 12))]] []] [])) (seq (sSet 4 (lc [5] (.one 5) (rng1 (Ev.call C 12 [var 1, lit (.int 11)] [])) yes (Ev.call C 20 [var 1, var 3] []))) (seq (sSet 6 (Ev.call C 14 [var 1, var 3] [])) (seq (sFor (.one 5) (rng1 (bin .mul (lit (.int 12)) (bi .int [cmp .gt (lenI C [(0, 28)] (var 3)) (lit (.int 4))]))) (seq (sSet 7 (bin .add (lit (.int 1)) (Ev.call C 12 [var 1, bin .sub (lenI C [(0, 28)] (var 6)) (lit (.int 1))] []))) (seq (sExpr (mt .append (var 4) [tupE [(false, bi .tuple [bi .sorted [cut (var 6) none (some (var 7))]]), (false, iteE (cmpB .eq (Ev.call C 12 [var 1, lit (.int 2)] []) (lit (.int 0))) (idx (var 6) (var 7)) (lit (.str "")))]])) skip))) (seq (sPar 8 9 (mkI C 0 22 [var 4]) (Ev.call C 17 [var 4] [])) (seq (sSet 10 (lstE [])) (seq (sFor (.one 11) (seqI [(0, "kept_questions")] (var 9)) (seq (sSet 12 (lc [13] (.one 13) (seqI [(0, "kept_questions")] (var 9)) (andB (cmpB .ne (var 13) (var 11)) (cmpB .isin (var 11) (Ev.call C 19 [var 13] []))) (var 13))) (seq (sIf (cmpB .ne (var 12) (lstE [])) (seq (sExpr (mt .append (var 10) [var 11])) skip) skip) (seq (sFor (.one 14) (rng1 (lit (.int 2))) (seq (sIf (ntB (tst (callB C 18 [Ev.call C 9 [var 8, var 11] [], iteE (cmpB .ne (var 12) (lstE [])) (idx (var 12) (lit (.int 0))) (lit .non)]))) (seq (sRet (lit (.bl false))) skip) skip) skip)) skip)))) (seq (sFor (.one 14) (rng1 (lit (.int 3))) (seq (sSet 15 (Ev.call C 10 [var 8] [])) (seq (sIf (orB (ntB (tst (isa (var 15) [.list]))) (ntB (tst (callB C 18 [var 15, var 10])))) (seq (sRet (lit (.bl false))) skip) skip) (seq (sExpr (mt .append (var 15) [lit .non])) skip)))) (seq (sIf (cmpB .ne (listI C [(0, 28)] [(0, "kept_questions")] (var 8)) (var 9)) (seq (sRet (lit (.bl false))) skip) skip) skip)))))))))) (seq (sRet (lit (.bl true))) skip))
/-! Asked.__init__(self, questions); slots self, questions, one, unlike -/
def b22 : Call → SM := fun C => seq (sIf (orB (ntB (tst (isa (var 1) [.list, .tuple]))) (ntB (tst (bi .all [lc [2] (.one 2) (seqE (var 1)) yes (Ev.call C 5 [var 2] [])])))) (seq sBad skip) skip) (seq (sSet 3 (sortSet (var 1))) (seq (sIf (cmpB .gt (bi .len [var 3]) (lit (.int 48))) (seq sBad skip) skip) (seq (sFldE "kept_questions" [0] (var 0) (bi .tuple [var 3])) skip)))
/-! Asked.questions(self); slots self -/
def b23 : Call → SM := fun C => seq (sRet (bi .list [fld "kept_questions" [0] (var 0)])) skip
/-! Asked.__or__(self, other); slots self, other -/
def b24 : Call → SM := fun C => seq (sRet (mkI C 0 22 [lstE [(true, fld "kept_questions" [0] (var 0)), (true, fld "kept_questions" [0] (var 1))]])) skip
/-! Asked.__and__(self, other); slots self, other, question -/
def b25 : Call → SM := fun C => seq (sRet (mkI C 0 22 [lc [2] (.one 2) (seqE (fld "kept_questions" [0] (var 0))) (cmpB .isin (var 2) (var 1)) (var 2)])) skip
/-! Asked.__sub__(self, other); slots self, other, question -/
def b26 : Call → SM := fun C => seq (sRet (mkI C 0 22 [lc [2] (.one 2) (seqE (fld "kept_questions" [0] (var 0))) (cmpB .notin (var 2) (var 1)) (var 2)])) skip
/-! Asked.__contains__(self, question); slots self, question -/
def b27 : Call → SM := fun C => seq (sRet (andE (Ev.call C 5 [var 1] []) (cmp .isin (var 1) (fld "kept_questions" [0] (var 0))))) skip
/-! Asked.__len__(self); slots self -/
def b28 : Call → SM := fun C => seq (sRet (bi .len [fld "kept_questions" [0] (var 0)])) skip
def bodies : List (Call → SM) := [b0, b1, b2, b3, b4, b5, b6, b7, b8, b9, b10, b11, b12, b13, b14, b15, b16, b17, b18, b19, b20, b21, b22, b23, b24, b25, b26, b27, b28]
end K32

set_option Elab.async false
set_option linter.all false
set_option maxRecDepth 100000
set_option maxHeartbeats 0
namespace K32
open PySem PySem.Spec PyProof.Rows L2 Ev
theorem c0 : r0.comp tab 40 = some b0 := by kernel_rfl
theorem c1 : r1.comp tab 40 = some b1 := by kernel_rfl
theorem c2 : r2.comp tab 40 = some b2 := by kernel_rfl
theorem c3 : r3.comp tab 40 = some b3 := by kernel_rfl
theorem c4 : r4.comp tab 40 = some b4 := by kernel_rfl
theorem c5 : r5.comp tab 40 = some b5 := by kernel_rfl
theorem c6 : r6.comp tab 40 = some b6 := by kernel_rfl
theorem c7 : r7.comp tab 40 = some b7 := by kernel_rfl
theorem c8 : r8.comp tab 40 = some b8 := by kernel_rfl
theorem c9 : r9.comp tab 40 = some b9 := by kernel_rfl
theorem c10 : r10.comp tab 40 = some b10 := by kernel_rfl
theorem c11 : r11.comp tab 40 = some b11 := by kernel_rfl
theorem c12 : r12.comp tab 40 = some b12 := by kernel_rfl
theorem c13 : r13.comp tab 40 = some b13 := by kernel_rfl
theorem c14 : r14.comp tab 40 = some b14 := by kernel_rfl
theorem c15 : r15.comp tab 40 = some b15 := by kernel_rfl
theorem c16 : r16.comp tab 40 = some b16 := by kernel_rfl
theorem c17 : r17.comp tab 40 = some b17 := by kernel_rfl
theorem c18 : r18.comp tab 40 = some b18 := by kernel_rfl
theorem c19 : r19.comp tab 40 = some b19 := by kernel_rfl
theorem c20 : r20.comp tab 40 = some b20 := by kernel_rfl
theorem c21 : r21.comp tab 40 = some b21 := by kernel_rfl
theorem c22 : r22.comp tab 40 = some b22 := by kernel_rfl
theorem c23 : r23.comp tab 40 = some b23 := by kernel_rfl
theorem c24 : r24.comp tab 40 = some b24 := by kernel_rfl
theorem c25 : r25.comp tab 40 = some b25 := by kernel_rfl
theorem c26 : r26.comp tab 40 = some b26 := by kernel_rfl
theorem c27 : r27.comp tab 40 = some b27 := by kernel_rfl
theorem c28 : r28.comp tab 40 = some b28 := by kernel_rfl
theorem sc0 : FnScope r0.N r0.ps (defScope r0.st) := ⟨by decide +kernel, by decide +kernel, by decide +kernel, by decide +kernel, by decide +kernel, by decide +kernel, by decide +kernel⟩
def d0 : He.DefD := ⟨("_wall", none), "_wall", "_wall", defArgs r0.st, defBody r0.st, defScope r0.st, [], []⟩
theorem sc1 : FnScope r1.N r1.ps (defScope r1.st) := ⟨by decide +kernel, by decide +kernel, by decide +kernel, by decide +kernel, by decide +kernel, by decide +kernel, by decide +kernel⟩
def d1 : He.DefD := ⟨("is_column", none), "is_column", "is_column", defArgs r1.st, defBody r1.st, defScope r1.st, [], []⟩
theorem sc2 : FnScope r2.N r2.ps (defScope r2.st) := ⟨by decide +kernel, by decide +kernel, by decide +kernel, by decide +kernel, by decide +kernel, by decide +kernel, by decide +kernel⟩
def d2 : He.DefD := ⟨("are_unlike", none), "are_unlike", "are_unlike", defArgs r2.st, defBody r2.st, defScope r2.st, [], []⟩
theorem sc3 : FnScope r3.N r3.ps (defScope r3.st) := ⟨by decide +kernel, by decide +kernel, by decide +kernel, by decide +kernel, by decide +kernel, by decide +kernel, by decide +kernel⟩
def d3 : He.DefD := ⟨("are_columns", none), "are_columns", "are_columns", defArgs r3.st, defBody r3.st, defScope r3.st, [], []⟩
theorem sc4 : FnScope r4.N r4.ps (defScope r4.st) := ⟨by decide +kernel, by decide +kernel, by decide +kernel, by decide +kernel, by decide +kernel, by decide +kernel, by decide +kernel⟩
def d4 : He.DefD := ⟨("is_last", none), "is_last", "is_last", defArgs r4.st, defBody r4.st, defScope r4.st, [], []⟩
theorem sc5 : FnScope r5.N r5.ps (defScope r5.st) := ⟨by decide +kernel, by decide +kernel, by decide +kernel, by decide +kernel, by decide +kernel, by decide +kernel, by decide +kernel⟩
def d5 : He.DefD := ⟨("is_question", none), "is_question", "is_question", defArgs r5.st, defBody r5.st, defScope r5.st, [], []⟩
theorem sc6 : FnScope r6.N r6.ps (defScope r6.st) := ⟨by decide +kernel, by decide +kernel, by decide +kernel, by decide +kernel, by decide +kernel, by decide +kernel, by decide +kernel⟩
def d6 : He.DefD := ⟨("columns_of", none), "columns_of", "columns_of", defArgs r6.st, defBody r6.st, defScope r6.st, [], []⟩
theorem sc7 : FnScope r7.N r7.ps (defScope r7.st) := ⟨by decide +kernel, by decide +kernel, by decide +kernel, by decide +kernel, by decide +kernel, by decide +kernel, by decide +kernel⟩
def d7 : He.DefD := ⟨("forced", none), "forced", "forced", defArgs r7.st, defBody r7.st, defScope r7.st, [], []⟩
theorem sc8 : FnScope r8.N r8.ps (defScope r8.st) := ⟨by decide +kernel, by decide +kernel, by decide +kernel, by decide +kernel, by decide +kernel, by decide +kernel, by decide +kernel⟩
def d8 : He.DefD := ⟨("forces", none), "forces", "forces", defArgs r8.st, defBody r8.st, defScope r8.st, [], []⟩
theorem sc9 : FnScope r9.N r9.ps (defScope r9.st) := ⟨by decide +kernel, by decide +kernel, by decide +kernel, by decide +kernel, by decide +kernel, by decide +kernel, by decide +kernel⟩
def d9 : He.DefD := ⟨("why_implied", none), "why_implied", "why_implied", defArgs r9.st, defBody r9.st, defScope r9.st, [], []⟩
theorem sc10 : FnScope r10.N r10.ps (defScope r10.st) := ⟨by decide +kernel, by decide +kernel, by decide +kernel, by decide +kernel, by decide +kernel, by decide +kernel, by decide +kernel⟩
def d10 : He.DefD := ⟨("implied", none), "implied", "implied", defArgs r10.st, defBody r10.st, defScope r10.st, [], []⟩
theorem sc11 : FnScope r11.N r11.ps (defScope r11.st) := ⟨by decide +kernel, by decide +kernel, by decide +kernel, by decide +kernel, by decide +kernel, by decide +kernel, by decide +kernel⟩
def d11 : He.DefD := ⟨("_law_bag", none), "_law_bag", "_law_bag", defArgs r11.st, defBody r11.st, defScope r11.st, [], []⟩
theorem sc12 : FnScope r12.N r12.ps (defScope r12.st) := ⟨by decide +kernel, by decide +kernel, by decide +kernel, by decide +kernel, by decide +kernel, by decide +kernel, by decide +kernel⟩
def d12 : He.DefD := ⟨("_law_take", none), "_law_take", "_law_take", defArgs r12.st, defBody r12.st, defScope r12.st, [], []⟩
theorem sc13 : FnScope r13.N r13.ps (defScope r13.st) := ⟨by decide +kernel, by decide +kernel, by decide +kernel, by decide +kernel, by decide +kernel, by decide +kernel, by decide +kernel⟩
def d13 : He.DefD := ⟨("_law_one", none), "_law_one", "_law_one", defArgs r13.st, defBody r13.st, defScope r13.st, [], []⟩
theorem sc14 : FnScope r14.N r14.ps (defScope r14.st) := ⟨by decide +kernel, by decide +kernel, by decide +kernel, by decide +kernel, by decide +kernel, by decide +kernel, by decide +kernel⟩
def d14 : He.DefD := ⟨("_law_mixed", none), "_law_mixed", "_law_mixed", defArgs r14.st, defBody r14.st, defScope r14.st, [], []⟩
theorem sc15 : FnScope r15.N r15.ps (defScope r15.st) := ⟨by decide +kernel, by decide +kernel, by decide +kernel, by decide +kernel, by decide +kernel, by decide +kernel, by decide +kernel⟩
def d15 : He.DefD := ⟨("_law_names", none), "_law_names", "_law_names", defArgs r15.st, defBody r15.st, defScope r15.st, [], []⟩
theorem sc16 : FnScope r16.N r16.ps (defScope r16.st) := ⟨by decide +kernel, by decide +kernel, by decide +kernel, by decide +kernel, by decide +kernel, by decide +kernel, by decide +kernel⟩
def d16 : He.DefD := ⟨("_law_question", none), "_law_question", "_law_question", defArgs r16.st, defBody r16.st, defScope r16.st, [], []⟩
theorem sc17 : FnScope r17.N r17.ps (defScope r17.st) := ⟨by decide +kernel, by decide +kernel, by decide +kernel, by decide +kernel, by decide +kernel, by decide +kernel, by decide +kernel⟩
def d17 : He.DefD := ⟨("_law_once", none), "_law_once", "_law_once", defArgs r17.st, defBody r17.st, defScope r17.st, [], []⟩
theorem sc18 : FnScope r18.N r18.ps (defScope r18.st) := ⟨by decide +kernel, by decide +kernel, by decide +kernel, by decide +kernel, by decide +kernel, by decide +kernel, by decide +kernel⟩
def d18 : He.DefD := ⟨("_law_alike", none), "_law_alike", "_law_alike", defArgs r18.st, defBody r18.st, defScope r18.st, [], []⟩
theorem sc19 : FnScope r19.N r19.ps (defScope r19.st) := ⟨by decide +kernel, by decide +kernel, by decide +kernel, by decide +kernel, by decide +kernel, by decide +kernel, by decide +kernel⟩
def d19 : He.DefD := ⟨("_law_forced_by", none), "_law_forced_by", "_law_forced_by", defArgs r19.st, defBody r19.st, defScope r19.st, [], []⟩
theorem sc20 : FnScope r20.N r20.ps (defScope r20.st) := ⟨by decide +kernel, by decide +kernel, by decide +kernel, by decide +kernel, by decide +kernel, by decide +kernel, by decide +kernel⟩
def d20 : He.DefD := ⟨("_law_small", none), "_law_small", "_law_small", defArgs r20.st, defBody r20.st, defScope r20.st, [], []⟩
theorem sc21 : FnScope r21.N r21.ps (defScope r21.st) := ⟨by decide +kernel, by decide +kernel, by decide +kernel, by decide +kernel, by decide +kernel, by decide +kernel, by decide +kernel⟩
def d21 : He.DefD := ⟨("law", none), "law", "law", defArgs r21.st, defBody r21.st, defScope r21.st, [], []⟩
theorem sc22 : FnScope r22.N r22.ps (defScope r22.st) := ⟨by decide +kernel, by decide +kernel, by decide +kernel, by decide +kernel, by decide +kernel, by decide +kernel, by decide +kernel⟩
def d22 : He.DefD := ⟨("Asked", some "__init__"), "__init__", "Asked.__init__", defArgs r22.st, defBody r22.st, defScope r22.st, [], []⟩
theorem sc23 : FnScope r23.N r23.ps (defScope r23.st) := ⟨by decide +kernel, by decide +kernel, by decide +kernel, by decide +kernel, by decide +kernel, by decide +kernel, by decide +kernel⟩
def d23 : He.DefD := ⟨("Asked", some "questions"), "questions", "Asked.questions", defArgs r23.st, defBody r23.st, defScope r23.st, [], []⟩
theorem sc24 : FnScope r24.N r24.ps (defScope r24.st) := ⟨by decide +kernel, by decide +kernel, by decide +kernel, by decide +kernel, by decide +kernel, by decide +kernel, by decide +kernel⟩
def d24 : He.DefD := ⟨("Asked", some "__or__"), "__or__", "Asked.__or__", defArgs r24.st, defBody r24.st, defScope r24.st, [], []⟩
theorem sc25 : FnScope r25.N r25.ps (defScope r25.st) := ⟨by decide +kernel, by decide +kernel, by decide +kernel, by decide +kernel, by decide +kernel, by decide +kernel, by decide +kernel⟩
def d25 : He.DefD := ⟨("Asked", some "__and__"), "__and__", "Asked.__and__", defArgs r25.st, defBody r25.st, defScope r25.st, [], []⟩
theorem sc26 : FnScope r26.N r26.ps (defScope r26.st) := ⟨by decide +kernel, by decide +kernel, by decide +kernel, by decide +kernel, by decide +kernel, by decide +kernel, by decide +kernel⟩
def d26 : He.DefD := ⟨("Asked", some "__sub__"), "__sub__", "Asked.__sub__", defArgs r26.st, defBody r26.st, defScope r26.st, [], []⟩
theorem sc27 : FnScope r27.N r27.ps (defScope r27.st) := ⟨by decide +kernel, by decide +kernel, by decide +kernel, by decide +kernel, by decide +kernel, by decide +kernel, by decide +kernel⟩
def d27 : He.DefD := ⟨("Asked", some "__contains__"), "__contains__", "Asked.__contains__", defArgs r27.st, defBody r27.st, defScope r27.st, [], []⟩
theorem sc28 : FnScope r28.N r28.ps (defScope r28.st) := ⟨by decide +kernel, by decide +kernel, by decide +kernel, by decide +kernel, by decide +kernel, by decide +kernel, by decide +kernel⟩
def d28 : He.DefD := ⟨("Asked", some "__len__"), "__len__", "Asked.__len__", defArgs r28.st, defBody r28.st, defScope r28.st, [], []⟩
def dI0 : He.DefD := ⟨("Asked", some "__iter__"), "__iter__", "Asked.__iter__", defArgs (topM 22 11), defBody (topM 22 11), defScope (topM 22 11), [], []⟩
theorem scI0 : FnScope ["self"] ["self"] (defScope (topM 22 11)) := ⟨by decide +kernel, by decide +kernel, by decide +kernel, by decide +kernel, by decide +kernel, by decide +kernel, by decide +kernel⟩
def fn : List He.DefD := [d0, d1, d2, d3, d4, d5, d6, d7, d8, d9, d10, d11, d12, d13, d14, d15, d16, d17, d18, d19, d20, d21, d22, d23, d24, d25, d26, d27, d28, dI0]
def fa : List He.Fa := [.glo "_wall", .glo "is_column", .glo "are_unlike", .glo "are_columns", .glo "is_last", .glo "is_question", .glo "columns_of", .glo "forced", .glo "forces", .glo "why_implied", .glo "implied", .glo "_law_bag", .glo "_law_take", .glo "_law_one", .glo "_law_mixed", .glo "_law_names", .glo "_law_question", .glo "_law_once", .glo "_law_alike", .glo "_law_forced_by", .glo "_law_small", .glo "law", .meth "Asked" "__init__", .meth "Asked" "questions", .meth "Asked" "__or__", .meth "Asked" "__and__", .meth "Asked" "__sub__", .meth "Asked" "__contains__", .meth "Asked" "__len__", .free "abs", .free "all", .free "int", .free "isinstance", .free "iter", .free "len", .free "list", .free "range", .free "repr", .free "set", .free "sorted", .free "str", .free "tuple", .glo "Asked", .cls "Asked", .mkr "Asked", .noat "Asked" "kept_questions", .meth "Asked" "__iter__", .str "LETTERS" "abcdefghijklmnopqrstuvwxyz", .int "LONGEST" 8, .int "MOST_THINGS" 48]
abbrev R : PySem.W.OpenRow := PySem.W.OpenLaw.row PySem.Challenge.rw_narrowkeys_k32_implied_questions
abbrev hk : PySem.W.Hook := He.hookD 4 fa fn
def ob (s : PySem.W.SharedT) : He.AlD := He.obsDG 4 fa fn (HandSHeadRun.getT s)
theorem ob_eq (s : PySem.W.SharedT) : ob s = hk.obs s.abs := He.obsDG_eq (HandSHeadRun.getT_eq s)
abbrev loose : List Str := ["_wall", "KeysError", "Wrong", "TooMany", "LETTERS", "LONGEST", "MOST_THINGS", "is_column", "are_unlike", "are_columns", "is_last", "is_question", "columns_of", "forced", "forces", "why_implied", "implied", "Asked", "_law_bag", "_law_take", "_law_one", "_law_mixed", "_law_names", "_law_question", "_law_once", "_law_alike", "_law_forced_by", "_law_small"]
theorem run_top (w : World) : HandSHeadRun.RunEq R (PySem.W.view R.prog [34]) hk ob 4000 loose w := by
  intro os
  kernel_rfl
/-- the classes' addresses -/
def tabK (K : PySem.W.Frag) : Ev.ClsTab := ⟨fun c => match c with
  | 0 => some (He.ga K "Asked")
  | _ => none⟩
section
variable {K : PySem.W.Frag} {mg : Str → Option Value} {h : Heap}
theorem rows_ok (X : K.In h) (G : h.Ns mainGlobals mg) (c : He.SaysD fa fn K) : ∀ (i : Nat) (d : DRow), rows[i]? = some d → ∃ f fd b, @DOk (tabK K) K mg d f fd ∧ bodies[i]? = some b ∧ d.comp tab 40 = some b := by
  letI : Ev.ClsTab := tabK K
  intro i d hd
  match i, hd with
  | 0, hd =>
    cases hd
    obtain ⟨fd, F⟩ := c.def_ 0 (d := d0) rfl
    exact ⟨_, fd, b0, ⟨⟨[], F⟩, (fun _ => He.glo_ok X G (c.fact 0 (f := .glo "_wall") rfl)), (fun _ _ h => by cases h), binds_none (FunD.bindsN (ps := r0.ps) F fun _ _ _ _ _ _ us hl => match us, hl with | [_], _ => rfl), (fun k nm h _ => by cases h), sc0, by decide +kernel⟩, rfl, c0⟩
  | 1, hd =>
    cases hd
    obtain ⟨fd, F⟩ := c.def_ 1 (d := d1) rfl
    exact ⟨_, fd, b1, ⟨⟨[], F⟩, (fun _ => He.glo_ok X G (c.fact 1 (f := .glo "is_column") rfl)), (fun _ _ h => by cases h), binds_none (FunD.bindsN (ps := r1.ps) F fun _ _ _ _ _ _ us hl => match us, hl with | [_], _ => rfl), (fun k nm h _ => by cases h), sc1, by decide +kernel⟩, rfl, c1⟩
  | 2, hd =>
    cases hd
    obtain ⟨fd, F⟩ := c.def_ 2 (d := d2) rfl
    exact ⟨_, fd, b2, ⟨⟨[], F⟩, (fun _ => He.glo_ok X G (c.fact 2 (f := .glo "are_unlike") rfl)), (fun _ _ h => by cases h), binds_none (FunD.bindsN (ps := r2.ps) F fun _ _ _ _ _ _ us hl => match us, hl with | [_], _ => rfl), (fun k nm h _ => by cases h), sc2, by decide +kernel⟩, rfl, c2⟩
  | 3, hd =>
    cases hd
    obtain ⟨fd, F⟩ := c.def_ 3 (d := d3) rfl
    exact ⟨_, fd, b3, ⟨⟨[], F⟩, (fun _ => He.glo_ok X G (c.fact 3 (f := .glo "are_columns") rfl)), (fun _ _ h => by cases h), binds_none (FunD.bindsN (ps := r3.ps) F fun _ _ _ _ _ _ us hl => match us, hl with | [_], _ => rfl), (fun k nm h _ => by cases h), sc3, by decide +kernel⟩, rfl, c3⟩
  | 4, hd =>
    cases hd
    obtain ⟨fd, F⟩ := c.def_ 4 (d := d4) rfl
    exact ⟨_, fd, b4, ⟨⟨[], F⟩, (fun _ => He.glo_ok X G (c.fact 4 (f := .glo "is_last") rfl)), (fun _ _ h => by cases h), binds_none (FunD.bindsN (ps := r4.ps) F fun _ _ _ _ _ _ us hl => match us, hl with | [_, _], _ => rfl), (fun k nm h _ => by cases h), sc4, by decide +kernel⟩, rfl, c4⟩
  | 5, hd =>
    cases hd
    obtain ⟨fd, F⟩ := c.def_ 5 (d := d5) rfl
    exact ⟨_, fd, b5, ⟨⟨[], F⟩, (fun _ => He.glo_ok X G (c.fact 5 (f := .glo "is_question") rfl)), (fun _ _ h => by cases h), binds_none (FunD.bindsN (ps := r5.ps) F fun _ _ _ _ _ _ us hl => match us, hl with | [_], _ => rfl), (fun k nm h _ => by cases h), sc5, by decide +kernel⟩, rfl, c5⟩
  | 6, hd =>
    cases hd
    obtain ⟨fd, F⟩ := c.def_ 6 (d := d6) rfl
    exact ⟨_, fd, b6, ⟨⟨[], F⟩, (fun _ => He.glo_ok X G (c.fact 6 (f := .glo "columns_of") rfl)), (fun _ _ h => by cases h), binds_none (FunD.bindsN (ps := r6.ps) F fun _ _ _ _ _ _ us hl => match us, hl with | [_], _ => rfl), (fun k nm h _ => by cases h), sc6, by decide +kernel⟩, rfl, c6⟩
  | 7, hd =>
    cases hd
    obtain ⟨fd, F⟩ := c.def_ 7 (d := d7) rfl
    exact ⟨_, fd, b7, ⟨⟨[], F⟩, (fun _ => He.glo_ok X G (c.fact 7 (f := .glo "forced") rfl)), (fun _ _ h => by cases h), binds_none (FunD.bindsN (ps := r7.ps) F fun _ _ _ _ _ _ us hl => match us, hl with | [_], _ => rfl), (fun k nm h _ => by cases h), sc7, by decide +kernel⟩, rfl, c7⟩
  | 8, hd =>
    cases hd
    obtain ⟨fd, F⟩ := c.def_ 8 (d := d8) rfl
    exact ⟨_, fd, b8, ⟨⟨[], F⟩, (fun _ => He.glo_ok X G (c.fact 8 (f := .glo "forces") rfl)), (fun _ _ h => by cases h), binds_none (FunD.bindsN (ps := r8.ps) F fun _ _ _ _ _ _ us hl => match us, hl with | [_, _], _ => rfl), (fun k nm h _ => by cases h), sc8, by decide +kernel⟩, rfl, c8⟩
  | 9, hd =>
    cases hd
    obtain ⟨fd, F⟩ := c.def_ 9 (d := d9) rfl
    exact ⟨_, fd, b9, ⟨⟨[], F⟩, (fun _ => He.glo_ok X G (c.fact 9 (f := .glo "why_implied") rfl)), (fun _ _ h => by cases h), binds_none (FunD.bindsN (ps := r9.ps) F fun _ _ _ _ _ _ us hl => match us, hl with | [_, _], _ => rfl), (fun k nm h _ => by cases h), sc9, by decide +kernel⟩, rfl, c9⟩
  | 10, hd =>
    cases hd
    obtain ⟨fd, F⟩ := c.def_ 10 (d := d10) rfl
    exact ⟨_, fd, b10, ⟨⟨[], F⟩, (fun _ => He.glo_ok X G (c.fact 10 (f := .glo "implied") rfl)), (fun _ _ h => by cases h), binds_none (FunD.bindsN (ps := r10.ps) F fun _ _ _ _ _ _ us hl => match us, hl with | [_], _ => rfl), (fun k nm h _ => by cases h), sc10, by decide +kernel⟩, rfl, c10⟩
  | 11, hd =>
    cases hd
    obtain ⟨fd, F⟩ := c.def_ 11 (d := d11) rfl
    exact ⟨_, fd, b11, ⟨⟨[], F⟩, (fun _ => He.glo_ok X G (c.fact 11 (f := .glo "_law_bag") rfl)), (fun _ _ h => by cases h), binds_none (FunD.bindsN (ps := r11.ps) F fun _ _ _ _ _ _ us hl => match us, hl with | [_], _ => rfl), (fun k nm h _ => by cases h), sc11, by decide +kernel⟩, rfl, c11⟩
  | 12, hd =>
    cases hd
    obtain ⟨fd, F⟩ := c.def_ 12 (d := d12) rfl
    exact ⟨_, fd, b12, ⟨⟨[], F⟩, (fun _ => He.glo_ok X G (c.fact 12 (f := .glo "_law_take") rfl)), (fun _ _ h => by cases h), binds_none (FunD.bindsN (ps := r12.ps) F fun _ _ _ _ _ _ us hl => match us, hl with | [_, _], _ => rfl), (fun k nm h _ => by cases h), sc12, by decide +kernel⟩, rfl, c12⟩
  | 13, hd =>
    cases hd
    obtain ⟨fd, F⟩ := c.def_ 13 (d := d13) rfl
    exact ⟨_, fd, b13, ⟨⟨[], F⟩, (fun _ => He.glo_ok X G (c.fact 13 (f := .glo "_law_one") rfl)), (fun _ _ h => by cases h), binds_none (FunD.bindsN (ps := r13.ps) F fun _ _ _ _ _ _ us hl => match us, hl with | [_, _], _ => rfl), (fun k nm h _ => by cases h), sc13, by decide +kernel⟩, rfl, c13⟩
  | 14, hd =>
    cases hd
    obtain ⟨fd, F⟩ := c.def_ 14 (d := d14) rfl
    exact ⟨_, fd, b14, ⟨⟨[], F⟩, (fun _ => He.glo_ok X G (c.fact 14 (f := .glo "_law_mixed") rfl)), (fun _ _ h => by cases h), binds_none (FunD.bindsN (ps := r14.ps) F fun _ _ _ _ _ _ us hl => match us, hl with | [_, _], _ => rfl), (fun k nm h _ => by cases h), sc14, by decide +kernel⟩, rfl, c14⟩
  | 15, hd =>
    cases hd
    obtain ⟨fd, F⟩ := c.def_ 15 (d := d15) rfl
    exact ⟨_, fd, b15, ⟨⟨[], F⟩, (fun _ => He.glo_ok X G (c.fact 15 (f := .glo "_law_names") rfl)), (fun _ _ h => by cases h), binds_none (FunD.bindsN (ps := r15.ps) F fun _ _ _ _ _ _ us hl => match us, hl with | [_, _], _ => rfl), (fun k nm h _ => by cases h), sc15, by decide +kernel⟩, rfl, c15⟩
  | 16, hd =>
    cases hd
    obtain ⟨fd, F⟩ := c.def_ 16 (d := d16) rfl
    exact ⟨_, fd, b16, ⟨⟨[], F⟩, (fun _ => He.glo_ok X G (c.fact 16 (f := .glo "_law_question") rfl)), (fun _ _ h => by cases h), binds_none (FunD.bindsN (ps := r16.ps) F fun _ _ _ _ _ _ us hl => match us, hl with | [_, _], _ => rfl), (fun k nm h _ => by cases h), sc16, by decide +kernel⟩, rfl, c16⟩
  | 17, hd =>
    cases hd
    obtain ⟨fd, F⟩ := c.def_ 17 (d := d17) rfl
    exact ⟨_, fd, b17, ⟨⟨[], F⟩, (fun _ => He.glo_ok X G (c.fact 17 (f := .glo "_law_once") rfl)), (fun _ _ h => by cases h), binds_none (FunD.bindsN (ps := r17.ps) F fun _ _ _ _ _ _ us hl => match us, hl with | [_], _ => rfl), (fun k nm h _ => by cases h), sc17, by decide +kernel⟩, rfl, c17⟩
  | 18, hd =>
    cases hd
    obtain ⟨fd, F⟩ := c.def_ 18 (d := d18) rfl
    exact ⟨_, fd, b18, ⟨⟨[], F⟩, (fun _ => He.glo_ok X G (c.fact 18 (f := .glo "_law_alike") rfl)), (fun _ _ h => by cases h), binds_none (FunD.bindsN (ps := r18.ps) F fun _ _ _ _ _ _ us hl => match us, hl with | [_, _], _ => rfl), (fun k nm h _ => by cases h), sc18, by decide +kernel⟩, rfl, c18⟩
  | 19, hd =>
    cases hd
    obtain ⟨fd, F⟩ := c.def_ 19 (d := d19) rfl
    exact ⟨_, fd, b19, ⟨⟨[], F⟩, (fun _ => He.glo_ok X G (c.fact 19 (f := .glo "_law_forced_by") rfl)), (fun _ _ h => by cases h), binds_none (FunD.bindsN (ps := r19.ps) F fun _ _ _ _ _ _ us hl => match us, hl with | [_], _ => rfl), (fun k nm h _ => by cases h), sc19, by decide +kernel⟩, rfl, c19⟩
  | 20, hd =>
    cases hd
    obtain ⟨fd, F⟩ := c.def_ 20 (d := d20) rfl
    exact ⟨_, fd, b20, ⟨⟨[], F⟩, (fun _ => He.glo_ok X G (c.fact 20 (f := .glo "_law_small") rfl)), (fun _ _ h => by cases h), binds_none (FunD.bindsN (ps := r20.ps) F fun _ _ _ _ _ _ us hl => match us, hl with | [_, _], _ => rfl), (fun k nm h _ => by cases h), sc20, by decide +kernel⟩, rfl, c20⟩
  | 21, hd =>
    cases hd
    obtain ⟨fd, F⟩ := c.def_ 21 (d := d21) rfl
    exact ⟨_, fd, b21, ⟨⟨[], F⟩, (fun _ => He.glo_ok X G (c.fact 21 (f := .glo "law") rfl)), (fun _ _ h => by cases h), binds_none (FunD.bindsN (ps := r21.ps) F fun _ _ _ _ _ _ us hl => match us, hl with | [_], _ => rfl), (fun k nm h _ => by cases h), sc21, by decide +kernel⟩, rfl, c21⟩
  | 22, hd =>
    cases hd
    obtain ⟨fd, F⟩ := c.def_ 22 (d := d22) rfl
    exact ⟨_, fd, b22, ⟨⟨[], F⟩, (fun h => by cases h), (fun _ _ h C hC => by cases h; cases hC; exact He.meth_ok (c.fact 22 (f := .meth "Asked" "__init__") rfl)), binds_none (FunD.bindsN (ps := r22.ps) F fun _ _ _ _ _ _ us hl => match us, hl with | [_, _], _ => rfl), (fun k nm h _ => by cases h), sc22, by decide +kernel⟩, rfl, c22⟩
  | 23, hd =>
    cases hd
    obtain ⟨fd, F⟩ := c.def_ 23 (d := d23) rfl
    exact ⟨_, fd, b23, ⟨⟨[], F⟩, (fun h => by cases h), (fun _ _ h C hC => by cases h; cases hC; exact He.meth_ok (c.fact 23 (f := .meth "Asked" "questions") rfl)), binds_none (FunD.bindsN (ps := r23.ps) F fun _ _ _ _ _ _ us hl => match us, hl with | [_], _ => rfl), (fun k nm h _ => by cases h), sc23, by decide +kernel⟩, rfl, c23⟩
  | 24, hd =>
    cases hd
    obtain ⟨fd, F⟩ := c.def_ 24 (d := d24) rfl
    exact ⟨_, fd, b24, ⟨⟨[], F⟩, (fun h => by cases h), (fun _ _ h C hC => by cases h; cases hC; exact He.meth_ok (c.fact 24 (f := .meth "Asked" "__or__") rfl)), binds_none (FunD.bindsN (ps := r24.ps) F fun _ _ _ _ _ _ us hl => match us, hl with | [_, _], _ => rfl), (fun k nm h _ => by cases h), sc24, by decide +kernel⟩, rfl, c24⟩
  | 25, hd =>
    cases hd
    obtain ⟨fd, F⟩ := c.def_ 25 (d := d25) rfl
    exact ⟨_, fd, b25, ⟨⟨[], F⟩, (fun h => by cases h), (fun _ _ h C hC => by cases h; cases hC; exact He.meth_ok (c.fact 25 (f := .meth "Asked" "__and__") rfl)), binds_none (FunD.bindsN (ps := r25.ps) F fun _ _ _ _ _ _ us hl => match us, hl with | [_, _], _ => rfl), (fun k nm h _ => by cases h), sc25, by decide +kernel⟩, rfl, c25⟩
  | 26, hd =>
    cases hd
    obtain ⟨fd, F⟩ := c.def_ 26 (d := d26) rfl
    exact ⟨_, fd, b26, ⟨⟨[], F⟩, (fun h => by cases h), (fun _ _ h C hC => by cases h; cases hC; exact He.meth_ok (c.fact 26 (f := .meth "Asked" "__sub__") rfl)), binds_none (FunD.bindsN (ps := r26.ps) F fun _ _ _ _ _ _ us hl => match us, hl with | [_, _], _ => rfl), (fun k nm h _ => by cases h), sc26, by decide +kernel⟩, rfl, c26⟩
  | 27, hd =>
    cases hd
    obtain ⟨fd, F⟩ := c.def_ 27 (d := d27) rfl
    exact ⟨_, fd, b27, ⟨⟨[], F⟩, (fun h => by cases h), (fun _ _ h C hC => by cases h; cases hC; exact He.meth_ok (c.fact 27 (f := .meth "Asked" "__contains__") rfl)), binds_none (FunD.bindsN (ps := r27.ps) F fun _ _ _ _ _ _ us hl => match us, hl with | [_, _], _ => rfl), (fun k nm h _ => by cases h), sc27, by decide +kernel⟩, rfl, c27⟩
  | 28, hd =>
    cases hd
    obtain ⟨fd, F⟩ := c.def_ 28 (d := d28) rfl
    exact ⟨_, fd, b28, ⟨⟨[], F⟩, (fun h => by cases h), (fun _ _ h C hC => by cases h; cases hC; exact He.meth_ok (c.fact 28 (f := .meth "Asked" "__len__") rfl)), binds_none (FunD.bindsN (ps := r28.ps) F fun _ _ _ _ _ _ us hl => match us, hl with | [_], _ => rfl), (fun k nm h _ => by cases h), sc28, by decide +kernel⟩, rfl, c28⟩
  | i + 29, hd => cases hd
theorem free_ok (X : K.In h) (G : h.Ns mainGlobals mg) (c : He.SaysD fa fn K) : ∀ x ∈ free, mg x = none := by
  intro x hx
  simp only [free, List.mem_cons, List.not_mem_nil, or_false] at hx
  rcases hx with rfl | rfl | rfl | rfl | rfl | rfl | rfl | rfl | rfl | rfl | rfl | rfl | rfl
  · exact He.free_ok X G (c.fact 29 (f := .free "abs") rfl)
  · exact He.free_ok X G (c.fact 30 (f := .free "all") rfl)
  · exact He.free_ok X G (c.fact 31 (f := .free "int") rfl)
  · exact He.free_ok X G (c.fact 32 (f := .free "isinstance") rfl)
  · exact He.free_ok X G (c.fact 33 (f := .free "iter") rfl)
  · exact He.free_ok X G (c.fact 34 (f := .free "len") rfl)
  · exact He.free_ok X G (c.fact 35 (f := .free "list") rfl)
  · exact He.free_ok X G (c.fact 36 (f := .free "range") rfl)
  · exact He.free_ok X G (c.fact 37 (f := .free "repr") rfl)
  · exact He.free_ok X G (c.fact 38 (f := .free "set") rfl)
  · exact He.free_ok X G (c.fact 39 (f := .free "sorted") rfl)
  · exact He.free_ok X G (c.fact 40 (f := .free "str") rfl)
  · exact He.free_ok X G (c.fact 41 (f := .free "tuple") rfl)
theorem cls_ok (X : K.In h) (G : h.Ns mainGlobals mg) (c : He.SaysD fa fn K) : ∀ (i : Nat) (r : CRow), crows[i]? = some r → @COk (tabK K) K mg i r := by
  letI : Ev.ClsTab := tabK K
  intro i r hr
  match i, hr with
  | 0, hr =>
    cases hr
    refine ⟨_, _, rfl, He.glo_ok X G (c.fact 42 (f := .glo "Asked") rfl), He.cls_ok (c.fact 43 (f := .cls "Asked") rfl), ?_, He.mkr_ok (c.fact 44 (f := .mkr "Asked") rfl), by decide +kernel, ?_⟩
    · intro nm hn
      simp only [List.mem_cons, List.not_mem_nil, or_false] at hn
      rcases hn with rfl
      · exact He.noat_ok (c.fact 45 (f := .noat "Asked" "kept_questions") rfl)
    · intro fl hf
      cases hf
      obtain ⟨fd, F⟩ := c.def_ 29 (d := dI0) rfl
      exact ⟨by simp, ⟨_, fd, _, _, "self", _, _, _, _, _, _, _, _, He.meth_ok (c.fact 46 (f := .meth "Asked" "__iter__") rfl), F, scI0, by decide +kernel, by decide +kernel, by decide +kernel, by decide +kernel, by decide +kernel, FunD.bindsN (ps := ["self"]) F fun _ _ _ _ _ _ us hl => match us, hl with | [_], _ => rfl⟩⟩
  | i + 1, hr => cases hr
theorem tab_ok (X : K.In h) (G : h.Ns mainGlobals mg) (c : He.SaysD fa fn K) : @TOk (tabK K) K mg tab bodies 40 := by
  letI : Ev.ClsTab := tabK K
  refine ⟨rows_ok X G c, free_ok X G c, cls_ok X G c, fun c C hC => ?_, fun x d hx => ?_, fun _ => ?_⟩
  · match c, hC with
    | 0, _ => exact ⟨_, rfl⟩
    | c + 1, hC => cases hC
  · have hx : (con.lookup x) = some d := hx
    simp only [con, List.lookup_cons, List.lookup_nil] at hx
    split at hx
    · rename_i e
      cases hx
      rw [beq_iff_eq.mp e]
      obtain ⟨t, e⟩ := He.str_ok X G (c.fact 47 (f := .str "LETTERS" "abcdefghijklmnopqrstuvwxyz") rfl)
      exact ⟨_, .str "abcdefghijklmnopqrstuvwxyz", e, ⟨_, rfl⟩, fun _ => .str _ (by decide +kernel)⟩
    split at hx
    · rename_i e
      cases hx
      rw [beq_iff_eq.mp e]
      obtain ⟨t, e⟩ := He.int_ok X G (c.fact 48 (f := .int "LONGEST" 8) rfl)
      exact ⟨_, .int 8, e, ⟨_, rfl⟩, fun _ => .int _⟩
    split at hx
    · rename_i e
      cases hx
      rw [beq_iff_eq.mp e]
      obtain ⟨t, e⟩ := He.int_ok X G (c.fact 49 (f := .int "MOST_THINGS" 48) rfl)
      exact ⟨_, .int 48, e, ⟨_, rfl⟩, fun _ => .int _⟩
    cases hx
  · exact free_ok X G c _ (by decide)
end
end K32

set_option Elab.async false
set_option linter.all false
set_option autoImplicit false
set_option maxHeartbeats 4000000
set_option maxRecDepth 100000
namespace K32
open PySem Ev
def deep : Nat := 12
abbrev P : Nat → Option Def := prog rows bodies
section
variable {k : Nat} {n : Nat} {s : S} {x : D}
theorem W : WordsP P 5 3 2 1 4 := ⟨rfl, rfl, rfl, rfl, rfl⟩
theorem h6 : P 6 = some ⟨3, 1, colsB⟩ := rfl
theorem h7 : P 7 = some ⟨4, 1, forcedB 6⟩ := rfl
theorem h8 : P 8 = some ⟨2, 2, forcesB 7⟩ := rfl
theorem h9 : P 9 = some ⟨3, 2, whyB 8⟩ := rfl
theorem h10 : P 10 = some ⟨2, 1, impB 9⟩ := rfl
theorem h11 : P 11 = some ⟨2, 1, bagB⟩ := rfl
theorem h12 : P 12 = some ⟨7, 2, takeB⟩ := rfl
theorem h13 : P 13 = some ⟨2, 2, oneB 12⟩ := rfl
theorem h14 : P 14 = some ⟨4, 2, mixedB 12⟩ := rfl
theorem h15 : P 15 = some ⟨3, 2, namesB 14⟩ := rfl
theorem h16 : P 16 = some ⟨4, 2, questionB 14 12⟩ := rfl
theorem h17 : P 17 = some ⟨3, 1, onceB⟩ := rfl
theorem h18 : P 18 = some ⟨2, 2, alikeB⟩ := rfl
theorem h22 : P 22 = some ⟨4, 2, initB 5⟩ := rfl
theorem len_is (us : List Qt) : run P (k + 1) 28 [.d (askedD us)] s = .ok (.d (.int us.length)) s := by
  suffices h : okC (run P (k + 1)) 28 [.d (askedD us)] s (fun r => r = .ok (.d (.int us.length)) s) from h
  refine okC_run (d := ⟨1, 1, b28⟩) rfl rfl (by show 1 ≤ 1; decide) ?_
  simp [b28, Bi.go]
/-! the law's own words for what is forced -/
def lfor (q : Qt) : List Qt := [q] ++ (if q.2 = "" then [] else (colsF q.1 q.2, ("" : Str)) :: if q.1 = [] then [] else [(q.1, "")]) ++ if q.1.length = 1 then [([], q.1.getD 0 "")] else []
theorem lfor_mem (q x : Qt) : x ∈ lfor q ↔ x ∈ forcedL q.1 q.2 := by
  obtain ⟨cs, l⟩ := q
  unfold lfor forcedL
  by_cases h1 : l = "" <;> by_cases h2 : cs = [] <;> by_cases h3 : cs.length = 1 <;> simp [h1, h2, h3] <;> grind
theorem lfor_call {q : Qt} (g : Qn q.1 q.2) : run P (k + 1) 19 [.d (qT q)] s = .ok (.new (.lst ((lfor q).map qT))) s := by
  have hl := g.len
  suffices h : okC (run P (k + 1)) 19 [.d (qT q)] s (fun r => r = .ok (.new (.lst ((lfor q).map qT))) s) from h
  refine okC_run (d := ⟨3, 1, b19⟩) rfl rfl (by show 1 ≤ 3; decide) ?_
  obtain ⟨cs, l⟩ := q
  have e1 : ∀ c : Str, L2.atI [D.str c] 0 = some (.str c) := fun c => rfl
  have okc : okEq (.tup (cs.map .str)) (.tup []) = true := okT cs []
  have eqc : eqD (.tup (cs.map .str)) (.tup []) = decide (cs = []) := eqT cs []
  have so : Bi.sorted.go [.tup (cs.map .str ++ [.str l])] = some (.new (.lst ((sS (cs ++ [l])).map .str))) := by
    have := sortt_bi (cs ++ [l])
    simpa using this
  have lim : cs.length + 1 ≤ 1000000 := by have : cs.length ≤ 12 := hl; omega
  match cs, l with
  | [], l =>
    have h1 : l ≠ "" := by rcases g.ne with h | h; exact absurd rfl h; exact h
    simp at so okc eqc
    simp [b19, idxD, pr0, pr1, few_ok, go_ne, go_eq, okS, eqS, okI, eqI, h1, tup_add, so, tuple_lst, app_ok, okc, eqc, len_tup, lfor, colsF]
  | [c], l =>
    simp at so okc eqc
    by_cases h1 : l = "" <;> simp [b19, idxD, pr0, pr1, few_ok, go_ne, go_eq, okS, eqS, okI, eqI, h1, tup_add, so, tuple_lst, app_ok, okc, eqc, len_tup, lfor, colsF, e1]
  | c :: d :: r, l =>
    have h3 : ¬ ((r.length : Int) + 1 + 1 = 1) := by omega
    have h4 : r.length + 1 + 1 + 1 ≤ 1000000 := by simp at lim; omega
    simp at so okc eqc
    by_cases h1 : l = "" <;> simp [b19, idxD, pr0, pr1, few_ok, go_ne, go_eq, okS, eqS, okI, eqI, h1, tup_add, so, tuple_lst, app_ok, okc, eqc, len_tup, lfor, colsF, e1, h3, h4]
/-! draws -/
theorem sS_nil : sS [] = [] := by simp [sS]
theorem sS_one (w : Str) : sS [w] = [w] := by simp [sS]
theorem Qn.one {w : Str} (h : w ∈ menu) : Qn [w] "" ∧ Qn [] w := by
  have nw : w ≠ "" := fun e => empty_out (e ▸ h)
  exact ⟨⟨sS_one w, fun c hc => by rw [List.mem_singleton.mp hc]; exact h, .inl rfl, by simp, by simp, fun e => nw (List.mem_singleton.mp e).symm, .inl (by simp)⟩,
    ⟨sS_nil, (fun c hc => by cases hc), .inr h, by simp, by simp, (fun e => by cases e), .inr nw⟩⟩
theorem small_call {env : Slots} {ws : List Str} (hw : Names ws) (h0 : 0 < ws.length) (hn : n + 40 ≤ BIG) (hx : Bag n x) : Yields (n + 40) env (run P (k + 4) 20 [.ref 0, .d (.lst (ws.map .str))] (st env x)) fun o => ∃ q : Qt, o = .d (qT q) ∧ Qn q.1 q.2 := by
  have wl := hw.len
  refine Yields.of (okC_run (d := ⟨5, 2, b20⟩) rfl rfl (by show 2 ≤ 5; decide) ?_)
  simp [b20]
  refine (question_call (k := k) h16 h14 h12 hw h0 (by omega) hx).go ?_
  rintro _ y1 b1 ⟨cs, l, rfl, g⟩
  simp
  refine (take_call (k := k + 2) h12 (by omega) (many := 3) (by decide) (by decide) b1).go ?_
  rintro _ y2 b2 ⟨r, rfl, r0, r1⟩
  simp [go_eq, okI, eqI]
  by_cases hr : r = 0
  · simp [hr]
    exact Yields.mk (b2.up (by omega)) ⟨cs, l, rfl, g⟩
  · simp [hr]
    refine (mixed_call (k := k + 1) h14 h12 (xs := ws.map .str) rfl (by rw [map_len]; omega) (by rw [map_len]; show _ < 1000000; omega) b2).go ?_
    rintro _ y3 b3 ⟨_, rfl, p1⟩
    obtain ⟨us, rfl, p2⟩ := perm_map p1
    rw [map_len] at b3
    have nu := hw.perm p2
    have u0 : 0 < us.length := by rw [p2.length_eq]; exact h0
    have cut2 : cutD none (some 2) (.lst (us.map .str)) = some (.new (.lst ((us.take 2).map .str))) := by
      rw [cutD, cut_map (by decide)]
      rfl
    simp [asI, cut2]
    have pick : ∀ (env : Slots) (L : List Qt) (y : D) (m : Nat), Bag m y → m + 1 ≤ n + 40 → 0 < L.length → L.length ≤ 10 → (∀ q ∈ L, Qn q.1 q.2) → okC (run P (k + 3)) 13 [.ref 0, .d (.lst (L.map qT))] (st env y) fun r => ∃ q ∈ L, ∃ z, r = .ok (.d (qT q)) (st env z) ∧ Bag (n + 40) z := fun env L y m bm hm l0 l1 hq =>
      (one_call (k := k + 1) h13 h12 (T := .lst (L.map qT)) (.inl rfl) (by omega) (by rw [map_len]; exact l0) (by rw [map_len]; show _ < 1000000; omega) bm).go fun o z b p => by
        obtain ⟨w, hw, rfl⟩ := p
        obtain ⟨q, hq, rfl⟩ := List.mem_map.mp hw
        exact ⟨q, hq, z, rfl, b.up hm⟩
    have fin : ∀ (env0 : Slots) (L : List Qt) (y : D) (m : Nat), Bag m y → m + 1 ≤ n + 40 → 0 < L.length → L.length ≤ 10 → (∀ q ∈ L, Qn q.1 q.2) → okC (run P (k + 3)) 13 [.ref 0, .d (.lst (L.map qT))] (st env0 y) (liftQ (fun o => SR.ret o) (thenS skip (leaveQ (st env x) fun r => Yields (n + 40) env r fun o => ∃ q : Qt, o = .d (qT q) ∧ Qn q.1 q.2))) := fun env0 L y m bm hm l0 l1 hq => by
      have h := pick env0 L y m bm hm l0 l1 hq
      obtain ⟨q, hq1, z, e, bz⟩ := h
      refine okC_eq e ?_
      simp
      exact Yields.mk bz ⟨q.1, q.2, rfl, hq q hq1⟩
    match us, nu, u0 with
    | [a], nu, _ =>
      have ha := nu.sub a (by simp)
      have s1 : Bi.sorted.go [.lst [D.str a]] = some (.new (.lst ([a].map .str))) := by
        have := sort_bi [a]
        rw [sS_one] at this
        exact this
      simp [s1, tuple_lst, few_ok, idxD, show L2.atI [D.str a] 0 = some (.str a) from rfl, len_lst, go_gt, lt_int]
      exact fin _ [([a], ""), ([a], ""), ([], a)] y3 _ b3 (by omega) (by simp) (by simp) fun q hq => by
        simp only [List.mem_cons, List.not_mem_nil, or_false] at hq
        rcases hq with rfl | rfl | rfl
        · exact (Qn.one ha).1
        · exact (Qn.one ha).1
        · exact (Qn.one ha).2
    | a :: b :: r, nu, _ =>
      have ha := nu.sub a (by simp)
      have hb := nu.sub b (by simp)
      have hab : a ≠ b := fun e => by
        have := nu.nd
        rw [e] at this
        simp at this
      have s1 : Bi.sorted.go [.lst [D.str a, D.str b]] = some (.new (.lst ((sS [a, b]).map .str))) := sort_bi [a, b]
      have n2 : Names [a, b] := (nu.take 2 : Names _)
      simp [s1, tuple_lst, few_ok, idxD, show L2.atI [D.str a, D.str b] 0 = some (.str a) from rfl, show L2.atI [D.str a, D.str b] 1 = some (.str b) from rfl, len_lst, go_gt, lt_int, app_ok]
      exact fin _ [(sS [a, b], ""), ([a], ""), ([], a), ([a], b)] y3 _ b3 (by omega) (by simp) (by simp) fun q hq => by
        simp only [List.mem_cons, List.not_mem_nil, or_false] at hq
        rcases hq with rfl | rfl | rfl | rfl
        · exact n2.of_sort (.inl rfl) (fun h => by
            rcases List.mem_cons.mp h with e | h
            · exact empty_out ((show ("" : Str) = a from e) ▸ ha)
            · exact empty_out ((show ("" : Str) = b from List.mem_singleton.mp h) ▸ hb)) (.inl (by simp))
        · exact (Qn.one ha).1
        · exact (Qn.one ha).2
        · exact ⟨sS_one a, (Qn.one ha).1.sub, .inr hb, by simp, by simp, fun h => hab (List.mem_singleton.mp h).symm, .inl (by simp)⟩
/-! what is shown -/
theorem q_show {q : Qt} (g : Qn q.1 q.2) : (qT q).flat 60 = true ∧ showOk (qT q) = true := by
  have h := g.small
  exact ⟨flat_le h.fl (by decide), show_of (flat_le h.fl (by decide)) h.sh h.st (Nat.le_trans h.wt (by decide))⟩
theorem o_show {o : Option Qt} (h : ∀ q, o = some q → Qn q.1 q.2) : (qtD o).flat 60 = true ∧ showOk (qtD o) = true := by
  cases o with
  | none => exact ⟨rfl, by decide +kernel⟩
  | some q => exact q_show (h q rfl)
theorem l_show {qs : List Qt} (hl : qs.length ≤ 100) (hq : ∀ o ∈ qs, Qn o.1 o.2) : (D.lst (qs.map qT)).flat 60 = true ∧ showOk (.lst (qs.map qT)) = true := by
  obtain ⟨h0, h1, _, h2⟩ := Small.list (ds := qs.map qT) (fun d hd => by
    obtain ⟨q, h, rfl⟩ := List.mem_map.mp hd
    exact (hq q h).small) (by rw [map_len]; omega)
  exact ⟨h0, h1⟩
theorem inQ (L : List Qt) (q : Qt) : inD (qT q) (.lst (L.map qT)) = some (decide (q ∈ L)) := by
  have f : D.flats 60 (L.map qT) = true := flats_of fun d hd => by
    obtain ⟨x, _, rfl⟩ := List.mem_map.mp hd
    exact flatQ x.1 x.2
  simp only [inD, flatQ, f, Bool.and_self, if_true]
  exact congrArg some (in_q (List.Perm.refl _) q)
theorem neNil (L : List Qt) (hl : L.length ≤ 100) (hq : ∀ o ∈ L, Qn o.1 o.2) : COp.ne.go (.lst (L.map qT)) (.lst []) = some (decide (L ≠ [])) := by
  have ok : okEq (.lst (L.map qT)) (.lst []) = true := okF (l_show hl hq).1 (by decide)
  rw [go_ne, if_pos ok]
  cases L <;> rfl
def othF (us : List Qt) (q : Qt) : List Qt := us.filter fun o => decide (o ≠ q) && decide (q ∈ lfor o)
theorem oth_head (us : List Qt) (q : Qt) : (othF us q).head? = whyF us q := by
  unfold othF whyF
  rw [List.head?_filter]
  congr 1
  funext o
  rw [decide_eq_decide.mpr (lfor_mem o q)]
/-! the law's turn -/
def tB7 : Call → SM := fun C => seq (sSet 12 (lc [13] (.one 13) (seqI [(0, "kept_questions")] (var 9)) (andB (cmpB .ne (var 13) (var 11)) (cmpB .isin (var 11) (Ev.call C 19 [var 13] []))) (var 13))) (seq (sIf (cmpB .ne (var 12) (lstE [])) (seq (sExpr (mt .append (var 10) [var 11])) skip) skip) (seq (sFor (.one 14) (rng1 (lit (.int 2))) (seq (sIf (ntB (tst (callB C 18 [Ev.call C 9 [var 8, var 11] [], iteE (cmpB .ne (var 12) (lstE [])) (idx (var 12) (lit (.int 0))) (lit .non)]))) (seq (sRet (lit (.bl false))) skip) skip) skip)) skip))
variable {sc t e3 e4 e5 e6 e7 e11 e12 e13 e14 e15 : Option Slot} {Q : SR → Prop}
abbrev envT (sc t e3 e4 e5 e6 e7 : Option Slot) (e8 : Slot) (us due : List Qt) (e11 e12 e13 e14 e15 : Option Slot) : Slots := [sc, some (.ref 0), t, e3, e4, e5, e6, e7, some e8, some (.d (.lst (us.map qT))), some (.own (.lst (due.map qT))), e11, e12, e13, e14, e15]
theorem tB7_ok {us due : List Qt} {q : Qt} {e8 : Slot} (h8 : e8 = .own (askedD us) ∨ e8 = .d (askedD us)) (hq : q ∈ us) (hu : ∀ o ∈ us, Qn o.1 o.2) (hl : us.length ≤ 48) (hd : due.length ≤ 48)
    (h : ∀ f8 f12 f13 f14, (f8 = .own (askedD us) ∨ f8 = .d (askedD us)) → Q (.next (st (envT sc t e3 e4 e5 e6 e7 f8 us (if (whyF us q).isSome = true then due ++ [q] else due) (some (.d (qT q))) f12 f13 f14 e15) x))) :
    oks (tB7 (run P (k + 5))) (st (envT sc t e3 e4 e5 e6 e7 e8 us due (some (.d (qT q))) e12 e13 e14 e15) x) Q := by
  have hlen : ∀ o ∈ us, o.1.length ≤ 100 := fun o ho => by have := (hu o ho).len; omega
  have hoth : ∀ o ∈ othF us q, Qn o.1 o.2 := fun o ho => hu o (List.mem_filter.mp ho).1
  have loth : (othF us q).length ≤ 48 := Nat.le_trans (List.length_filter_le _ _) hl
  have hwhy : ∀ o, whyF us q = some o → Qn o.1 o.2 := fun o ho => hu o (List.mem_of_find?_eq_some ho)
  unfold tB7
  rw [oks_seq, oks_set]
  have h1 := lc_atT (f := qT) (v := 13) (env := envT sc t e3 e4 e5 e6 e7 e8 us due (some (.d (qT q))) e12 e13 e14 e15) (m := [.live x]) (it := seqI [(0, "kept_questions")] (var 9)) (cond := andB (cmpB .ne (var 13) (var 11)) (cmpB .isin (var 11) (Ev.call (run P (k + 5)) 19 [var 13] []))) (el := var 13) (q := fun o => decide (o ≠ q) && decide (q ∈ lfor o)) (g := qT) (s0 := st (envT sc t e3 e4 e5 e6 e7 e8 us due (some (.d (qT q))) e12 e13 e14 e15) x) (as := us)
    (by simp [seqI, EM.bind, var, keep, EM.pure, Ev.opt, walkI_lst]) (by omega) fun o ho => by
      refine ⟨?_, fun _ => by simp [var]⟩
      have h2 := lfor_call (k := k + 4) (s := st (envT sc t e3 e4 e5 e6 e7 e8 us due (some (.d (qT q))) e12 (some (.d (qT o))) e14 e15) x) (hu o ho)
      by_cases hz : o = q
      · subst hz
        simp [andB, cmpB, EM.bind, var, Ev.get, Out.look, Ev.opt, neQ, EM.pure]
      · simp [andB, cmpB, EM.bind, var, Ev.get, Out.look, Ev.opt, neQ, EM.pure, hz, Ev.call, passes, pass, keep, h2, go_in, inQ]
  refine ok_eq h1 ?_
  change oks _ _ _
  rw [show (us.filter fun o => decide (o ≠ q) && decide (q ∈ lfor o)) = othF us q from rfl]
  have hh := oth_head us q
  have loop2 : ∀ (due2 : List Qt) (f12 : Slot), (f12 = .own (.lst ((othF us q).map qT)) ∨ f12 = .d (.lst ((othF us q).map qT))) → (∀ f8 f12 f14, (f8 = .own (askedD us) ∨ f8 = .d (askedD us)) → Q (.next (st (envT sc t e3 e4 e5 e6 e7 f8 us due2 (some (.d (qT q))) f12 e13 f14 e15) x))) → ∀ e14,
      oks (seq (sFor (.one 14) (rng1 (lit (.int 2))) (seq (sIf (ntB (tst (callB (run P (k + 5)) 18 [Ev.call (run P (k + 5)) 9 [var 8, var 11] [], iteE (cmpB .ne (var 12) (lstE [])) (idx (var 12) (lit (.int 0))) (lit .non)]))) (seq (sRet (lit (.bl false))) skip) skip) skip)) skip) (st (envT sc t e3 e4 e5 e6 e7 e8 us due2 (some (.d (qT q))) (some f12) e13 e14 e15) x) Q := fun due2 f12 hf hQ e14 => by
    simp [rng_nat (r := 2) (by decide) (by decide)]
    refine loop_inv (fun ds s => ∃ f8 f14, (f8 = .own (askedD us) ∨ f8 = .d (askedD us)) ∧ s = st (envT sc t e3 e4 e5 e6 e7 f8 us due2 (some (.d (qT q))) (some f12) e13 f14 e15) x) ?_ ?_ _ _ ⟨e8, e14, h8, rfl⟩
    · rintro d ds s ⟨f8, f14, hf8, rfl⟩
      refine ⟨_, rfl, ?_⟩
      have al := alike_call (k := k + 4) (s := ⟨[], []⟩) h18 (o_show hwhy).1 (o_show hwhy).2
      rcases hf with rfl | rfl <;> rcases hf8 with rfl | rfl
      all_goals
        simp
        refine okC_eq (why_call (k := k + 1) K32.h9 K32.h8 h7 h6 hlen q) ?_
        simp [few_ok, neNil _ (Nat.le_trans loth (by decide)) hoth]
        cases ho : othF us q with
        | nil =>
          rw [ho] at hh
          simp at hh
          rw [← hh] at al ⊢
          simp
          refine okC_eq al ?_
          simp [D.atom]
          exact At.mk ⟨.d (askedD us), some (.d d), .inr rfl, by simp [ho]⟩
        | cons o r =>
          rw [ho] at hh
          simp at hh
          rw [← hh] at al ⊢
          simp [idxD, show ∀ (L : List D), L2.atI (qT o :: L) 0 = some (qT o) from fun _ => atI_nat (by decide) rfl]
          refine okC_eq al ?_
          simp [D.atom]
          exact At.mk ⟨.d (askedD us), some (.d d), .inr rfl, by simp [ho]⟩
    · rintro s ⟨f8, f14, hf8, rfl⟩
      simp
      exact hQ _ _ _ hf8
  change oks _ (st (envT sc t e3 e4 e5 e6 e7 e8 us due (some (.d (qT q))) (some (.own (.lst ((othF us q).map qT)))) e13 e14 e15) x) Q
  rw [oks_seq, oks_if]
  have two : ∀ (due2 : List Qt), due2 = (if (whyF us q).isSome = true then due ++ [q] else due) → oks (seq (sFor (.one 14) (rng1 (lit (.int 2))) (seq (sIf (ntB (tst (callB (run P (k + 5)) 18 [Ev.call (run P (k + 5)) 9 [var 8, var 11] [], iteE (cmpB .ne (var 12) (lstE [])) (idx (var 12) (lit (.int 0))) (lit .non)]))) (seq (sRet (lit (.bl false))) skip) skip) skip)) skip) (st (envT sc t e3 e4 e5 e6 e7 e8 us due2 (some (.d (qT q))) (some (.own (.lst ((othF us q).map qT)))) e13 e14 e15) x) Q := fun due2 hdu => by
    refine loop2 due2 _ (.inl rfl) (fun f8 f12 f14 hf8 => ?_) e14
    rw [hdu]
    exact h _ _ _ _ hf8
  cases ho : othF us q with
  | nil =>
    rw [ho] at hh two
    simp at hh
    have ne := neNil [] (by simp) (by simp)
    simp at ne
    simp [few_ok, ne, -oks_seq]
    have := two due (by rw [← hh]; rfl)
    simpa [-oks_seq] using this
  | cons o r =>
    rw [ho] at hh two loth hoth
    simp at hh
    have ne := neNil (o :: r) (by omega) hoth
    simp at ne
    have ld : due.length < 1000000 := by omega
    have := two (due ++ [q]) (by rw [← hh]; rfl)
    simp [few_ok, ne, -oks_seq]
    rw [oks_seq]
    simp [app_ok, ld, -oks_seq]
    simpa [-oks_seq, envT] using this
/-! the end of a turn -/
def tB8 : Call → SM := fun C => seq (sSet 15 (Ev.call C 10 [var 8] [])) (seq (sIf (orB (ntB (tst (isa (var 15) [.list]))) (ntB (tst (callB C 18 [var 15, var 10])))) (seq (sRet (lit (.bl false))) skip) skip) (seq (sExpr (mt .append (var 15) [lit .non])) skip))
def tB9 : Call → SM := fun C => sIf (cmpB .ne (listI C [(0, 28)] [(0, "kept_questions")] (var 8)) (var 9)) (seq (sRet (lit (.bl false))) skip) skip
theorem tB8_ok {us : List Qt} {e8 : Slot} (h8 : e8 = .own (askedD us) ∨ e8 = .d (askedD us)) (hu : ∀ o ∈ us, Qn o.1 o.2) (hl : us.length ≤ 48) (h : ∀ f15, Q (.next (st (envT sc t e3 e4 e5 e6 e7 (.d (askedD us)) us (impF us) e11 e12 e13 e14 f15) x))) : oks (tB8 (run P (k + 5))) (st (envT sc t e3 e4 e5 e6 e7 e8 us (impF us) e11 e12 e13 e14 e15) x) Q := by
  have hlen : ∀ o ∈ us, o.1.length ≤ 100 := fun o ho => by have := (hu o ho).len; omega
  have hi : ∀ o ∈ impF us, Qn o.1 o.2 := fun o ho => hu o (List.mem_filter.mp ho).1
  have li : (impF us).length ≤ 48 := Nat.le_trans (List.length_filter_le _ _) hl
  have al := alike_call (k := k + 4) (s := ⟨[], []⟩) h18 (l_show (qs := impF us) (by omega) hi).1 (l_show (qs := impF us) (by omega) hi).2
  have li2 : (impF us).length < 1000000 := by omega
  unfold tB8
  rcases h8 with rfl | rfl
  all_goals
    simp
    refine okC_eq (imp_call (k := k) h10 h9 K32.h8 h7 h6 (by omega) hlen) ?_
    simp [D.kinded, Ty.has]
    refine okC_eq al ?_
    simp [D.atom, app_ok, li2]
    exact h _
theorem listI_at {C : Call} {e : EM Out} {us : List Qt} {s s1 : S} {R : Res Out → Prop} {o : Out} (he : e s = .ok o s1) (ho : o.look s1 = some (askedD us)) (hl : us.length < 1000000) (hC : C 28 [.d (askedD us)] ⟨[], []⟩ = .ok (.d (.int us.length)) ⟨[], []⟩) (hR : R (.ok (.new (.lst (us.map qT))) s1)) : ok (listI C [(0, 28)] [(0, kq)] e) s R := by
  unfold listI
  rw [ok_bind]
  refine ok_eq he ?_
  rw [andThen_ok, ok_bind]
  unfold ok
  have hget : Ev.get o s1 = .ok (askedD us) s1 := by
    unfold Ev.get
    rw [ho]
  rw [hget]
  show ok _ _ _
  have h1 : List.lookup 0 [((0 : Nat), (28 : Nat))] = some 28 := rfl
  simp [h1]
  refine ok_ask (us := [askedD us]) hC rfl ?_
  have h2 : numD (.int (us.length : Int)) = some (us.length : Int) := by
    show (if 0 ≤ (us.length : Int) ∧ (us.length : Int) < 1000000 then some (us.length : Int) else none) = _
    rw [if_pos ⟨by omega, by omega⟩]
  simp [h2]
  exact hR
theorem tB9_ok {us due : List Qt} {e8 : Slot} (h8 : e8 = .own (askedD us) ∨ e8 = .d (askedD us)) (hu : ∀ o ∈ us, Qn o.1 o.2) (hl : us.length ≤ 48) (h : ∀ f8 f9, Q (.next (st [sc, some (.ref 0), t, e3, e4, e5, e6, e7, f8, f9, some (.own (.lst (due.map qT))), e11, e12, e13, e14, e15] x))) : oks (tB9 (run P (k + 5))) (st (envT sc t e3 e4 e5 e6 e7 e8 us due e11 e12 e13 e14 e15) x) Q := by
  have s1 := l_show (qs := us) (by omega) hu
  unfold tB9
  simp
  obtain ⟨o, he, hlook⟩ : ∃ o, var 8 (st (envT sc t e3 e4 e5 e6 e7 e8 us due e11 e12 e13 e14 e15) x) = .ok o (st (envT sc t e3 e4 e5 e6 e7 e8 us due e11 e12 e13 e14 e15) x) ∧ o.look (st (envT sc t e3 e4 e5 e6 e7 e8 us due e11 e12 e13 e14 e15) x) = some (askedD us) := by
    rcases h8 with rfl | rfl
    · exact ⟨.own 8, rfl, rfl⟩
    · exact ⟨.d (askedD us), rfl, rfl⟩
  have hlen := len_is (k := k + 4) (s := ⟨[], []⟩) us
  have lt : us.length < 1000000 := by omega
  have r1 := @listI_at (Ev.run P (k + 5)) (var 8) us (st (envT sc t e3 e4 e5 e6 e7 e8 us due e11 e12 e13 e14 e15) x) (st (envT sc t e3 e4 e5 e6 e7 e8 us due e11 e12 e13 e14 e15) x)
  have r5 := fun R => r1 (R := R) he hlook lt hlen
  refine r5 _ ?_
  have e1 : eqD (.lst (us.map qT)) (.lst (us.map qT)) = true := eq_self s1.1
  simp [go_ne, okF s1.1 s1.1, e1]
  exact h _ _
theorem ok_lenI_lst {C : Call} {ms : List (Nat × Nat)} {e : EM Out} {s : S} {R : Res Out → Prop} : ok (lenI C ms e) s R = ok e s (andThen (fun x => (Ev.get x).bind fun u => match u with
  | .ins c _ _ => (Ev.opt (ms.lookup c)).bind fun f => (ask C f [u]).bind fun r => Ev.opt (match r with
    | .int n => if 0 ≤ n ∧ n < 2 ^ 63 then some (.d (.int n)) else none
    | _ => none)
  | u => Ev.opt (Bi.len.go [u])) R) := ok_bind
def tB4 : Call → SM := fun C => seq (sSet 7 (bin .add (lit (.int 1)) (Ev.call C 12 [var 1, bin .sub (lenI C [(0, 28)] (var 6)) (lit (.int 1))] []))) (seq (sExpr (mt .append (var 4) [tupE [(false, bi .tuple [bi .sorted [cut (var 6) none (some (var 7))]]), (false, iteE (cmpB .eq (Ev.call C 12 [var 1, lit (.int 2)] []) (lit (.int 0))) (idx (var 6) (var 7)) (lit (.str "")))]])) skip)
variable {e8 e9 e10 : Option Slot}
theorem tB4_ok {us : List Str} {qs : List Qt} (nu : Names us) (h4 : 4 < us.length) (hl : qs.length ≤ 30) (hq : ∀ o ∈ qs, Qn o.1 o.2) (hn : n + 2 ≤ BIG) (hx : Bag n x)
    (h : ∀ (q : Qt) f7 y, Qn q.1 q.2 → Bag (n + 2) y → Q (.next (st [sc, some (.ref 0), t, e3, some (.own (.lst ((qs ++ [q]).map qT))), e5, some (.own (.lst (us.map .str))), f7, e8, e9, e10, e11, e12, e13, e14, e15] y))) :
    oks (tB4 (run P (k + 5))) (st [sc, some (.ref 0), t, e3, some (.own (.lst (qs.map qT))), e5, some (.own (.lst (us.map .str))), e7, e8, e9, e10, e11, e12, e13, e14, e15] x) Q := by
  have ul := nu.len
  unfold tB4
  simp [ok_lenI_lst, len_lst, sub_int]
  refine (take_call (k := k + 4) h12 (by omega) (many := (us.length : Int) - 1) (by omega) (by omega) hx).go ?_
  rintro _ y1 b1 ⟨r, rfl, r0, r1⟩
  have cutr : cutD none (some (1 + r)) (.lst (us.map .str)) = some (.new (.lst ((us.take (1 + r).toNat).map .str))) := by
    rw [cutD, cut_map (by omega)]
  have hi : (1 + r).toNat < us.length := by omega
  have at_ : L2.atI (us.map D.str) (1 + r) = some (.str us[(1 + r).toNat]) := atI_nat (by omega) (by simp [hi])
  simp [add_int, asI, cutr]
  have so := sort_bi (us.take (1 + r).toNat)
  simp at so
  simp [so, tuple_lst]
  refine (take_call (k := k + 4) h12 (by omega) (many := 2) (by decide) (by decide) b1).go ?_
  rintro _ y2 b2 ⟨r2, rfl, r3, r4⟩
  have lq : qs.length < 1000000 := by omega
  have nt := nu.take (1 + r).toNat
  have ne : us.take (1 + r).toNat ≠ [] := fun z => by
    have h1 : (us.take (1 + r).toNat).length = 0 := by rw [z]; rfl
    rw [List.length_take, Nat.min_eq_left (by omega)] at h1
    omega
  simp [go_eq, okI, eqI]
  by_cases hr : r2 = 0
  · simp [hr, idxD, at_, few_ok, app_ok, lq]
    have := h (sS (us.take (1 + r).toNat), us[(1 + r).toNat]) (some (.d (.int (1 + r)))) y2 (nt.of_sort (.inr (nu.sub _ (List.getElem_mem hi))) (fun z => by
      obtain ⟨j, hj, e⟩ := List.mem_iff_getElem.mp z
      rw [List.getElem_take] at e
      rw [List.length_take] at hj
      have hj2 : j < (1 + r).toNat := by omega
      have := List.pairwise_iff_getElem.mp nu.nd j (1 + r).toNat (by omega) hi hj2
      exact this e) (.inl ne)) b2
    simpa using this
  · simp [hr, few_ok, app_ok, lq]
    have := h (sS (us.take (1 + r).toNat), "") (some (.d (.int (1 + r)))) y2 (nt.of_sort (.inl rfl) (fun z => empty_out (nt.sub _ z)) (.inl ne)) b2
    simpa using this

/-! the whole turn -/
def tC : Call → SM := fun C => seq (sSet 3 (Ev.call C 15 [var 1, Ev.call C 13 [var 1, lstE [(false, bin .add (lit (.int 1)) (Ev.call C 12 [var 1, lit (.int 4)] [])), (false, bin .add (lit (.int 1)) (Ev.call C 12 [var 1, lit (.int 4)] [])), (false, lit (.int 12))]] []] [])) (seq (sSet 4 (lc [5] (.one 5) (rng1 (Ev.call C 12 [var 1, lit (.int 11)] [])) yes (Ev.call C 20 [var 1, var 3] []))) (seq (sSet 6 (Ev.call C 14 [var 1, var 3] [])) skip))
def tD : Call → SM := fun C => sFor (.one 5) (rng1 (bin .mul (lit (.int 12)) (bi .int [cmp .gt (lenI C [(0, 28)] (var 3)) (lit (.int 4))]))) (tB4 C)
def tE : Call → SM := fun C => seq (sPar 8 9 (mkI C 0 22 [var 4]) (Ev.call C 17 [var 4] [])) (seq (sSet 10 (lstE [])) skip)
def tF : Call → SM := fun C => seq (sFor (.one 11) (seqI [(0, "kept_questions")] (var 9)) (tB7 C)) (seq (sFor (.one 14) (rng1 (lit (.int 3))) (tB8 C)) (seq (tB9 C) skip))
/-- the things drawn: names, questions, mixed names -/
theorem tC_ok (hn : n + 1000 ≤ BIG) (hx : Bag n x)
    (h : ∀ (ws us : List Str) (qs : List Qt) f3 f5 y, (f3 = .own (.lst (ws.map .str)) ∨ f3 = .d (.lst (ws.map .str))) → us.length = ws.length → Names us → qs.length ≤ 10 → (∀ o ∈ qs, Qn o.1 o.2) → Bag (n + 1000) y → Q (.next (st [sc, some (.ref 0), t, some f3, some (.own (.lst (qs.map qT))), f5, some (.own (.lst (us.map .str))), e7, e8, e9, e10, e11, e12, e13, e14, e15] y))) :
    ∀ {e3 e4 e5 e6}, oks (tC (run P (k + 5))) (st [sc, some (.ref 0), t, e3, e4, e5, e6, e7, e8, e9, e10, e11, e12, e13, e14, e15] x) Q := by
  intro e3 e4 e5 e6
  unfold tC
  simp
  refine (take_call (k := k + 4) h12 (by omega) (many := 4) (by decide) (by decide) hx).go ?_
  rintro _ y1 b1 ⟨r1, rfl, r10, r11⟩
  simp [add_int]
  refine (take_call (k := k + 4) h12 (by omega) (many := 4) (by decide) (by decide) b1).go ?_
  rintro _ y2 b2 ⟨r2, rfl, r20, r21⟩
  simp [add_int, few_ok]
  refine (one_call (k := k + 3) h13 h12 (xs := [.int (1 + r1), .int (1 + r2), .int 12]) (.inl rfl) (by omega) (by simp) (by simp [LIM]) b2).go ?_
  rintro _ y3 b3 ⟨z, hz, rfl⟩
  obtain ⟨j, rfl, j0⟩ : ∃ j : Int, z = .int j ∧ 1 ≤ j := by
    simp at hz
    rcases hz with rfl | rfl | rfl
    · exact ⟨_, rfl, by omega⟩
    · exact ⟨_, rfl, by omega⟩
    · exact ⟨_, rfl, by decide⟩
  simp
  refine (names_call (k := k + 2) h15 h14 h12 (j := j) (by omega) (by omega) b3).go ?_
  rintro _ y4 b4 ⟨ws, rfl, nw, lw⟩
  have w0 : 0 < ws.length := by omega
  have wl := nw.len
  simp
  refine ok_lc ?_
  simp
  refine (take_call (k := k + 4) h12 (by omega) (many := 11) (by decide) (by decide) b4).go ?_
  rintro _ y5 b5 ⟨r3, rfl, r30, r31⟩
  have hlen : (upto 0 r3.toNat).length ≤ 10 := by rw [upto_len]; omega
  simp [rng_nat (r := r3) r30 (by omega)]
  refine lc_draw2 (f := qT) (p := fun q => Qn q.1 q.2) (c := 40) (env := [sc, some (.ref 0), t, some (.d (.lst (ws.map .str))), e4, e5, e6, e7, e8, e9, e10, e11, e12, e13, e14, e15]) (by omega) b5 (by omega) rfl (fun d _ m z e he bz hm => ?_) fun qs y e he hl2 hq2 by_ => ?_
  · refine Yields.ofE ?_
    rcases he with rfl | rfl
    all_goals
      simp
      refine (small_call (k := k + 1) (n := m) nw w0 (by omega) bz).go ?_
      rintro _ z2 bz2 ⟨q, rfl, g⟩
      exact Yields.mk bz2 ⟨q, rfl, g⟩
  · rcases he with rfl | rfl
    all_goals
      simp
      refine (mixed_call (k := k + 3) h14 h12 (xs := ws.map .str) rfl (by rw [map_len]; omega) (by rw [map_len]; show _ < 1000000; omega) by_).go ?_
      rintro _ y6 b6 ⟨_, rfl, p1⟩
      obtain ⟨us, rfl, p2⟩ := perm_map p1
      rw [map_len] at b6
      simp
      exact h ws us qs _ _ _ (.inr rfl) p2.length_eq (nw.perm p2) (by omega) hq2 (b6.up (by omega))

theorem int_bl (b : Bool) : Bi.int.go [.bl b] = some (.d (.int (if b then 1 else 0))) := rfl
theorem loop4 {us : List Str} {f3 : Option Slot} (nu : Names us) (h4 : 4 < us.length) {ds : List D} {qs : List Qt} (hl : qs.length + ds.length ≤ 22) (hq : ∀ o ∈ qs, Qn o.1 o.2) (hn : n + 50 ≤ BIG) (hd : ds.length ≤ 12) (hx : Bag n x)
    (h : ∀ (qs : List Qt) f5 f7 y, qs.length ≤ 22 → (∀ o ∈ qs, Qn o.1 o.2) → Bag (n + 1000) y → Q (.next (st [sc, some (.ref 0), t, f3, some (.own (.lst (qs.map qT))), f5, some (.own (.lst (us.map .str))), f7, e8, e9, e10, e11, e12, e13, e14, e15] y))) {e5 e7 : Option Slot} :
    oks (loop (.one 5) (tB4 (run P (k + 5))) ds) (st [sc, some (.ref 0), t, f3, some (.own (.lst (qs.map qT))), e5, some (.own (.lst (us.map .str))), e7, e8, e9, e10, e11, e12, e13, e14, e15] x) Q := by
  refine loop_inv (fun ds s => ∃ (qs : List Qt) (f5 f7 : Option Slot) (y : D) (m : Nat), s = st [sc, some (.ref 0), t, f3, some (.own (.lst (qs.map qT))), f5, some (.own (.lst (us.map .str))), f7, e8, e9, e10, e11, e12, e13, e14, e15] y ∧ qs.length + ds.length ≤ 22 ∧ (∀ o ∈ qs, Qn o.1 o.2) ∧ Bag m y ∧ m + 2 * ds.length ≤ n + 24) ?_ ?_ _ _ ⟨qs, e5, e7, x, n, rfl, hl, hq, hx, by omega⟩
  · rintro d ds s ⟨qs, f5, f7, y, m, rfl, hl, hq, hy, hm⟩
    simp only [List.length_cons] at hm hl
    refine ⟨_, rfl, ?_⟩
    refine tB4_ok nu h4 (by omega) hq (by omega) hy fun q f7 y gq hy2 => ?_
    rw [turnQ_next]
    refine At.mk ⟨qs ++ [q], _, f7, y, _, rfl, by simp; omega, fun o ho => ?_, hy2, by omega⟩
    rcases List.mem_append.mp ho with ho | ho
    · exact hq o ho
    · rw [List.mem_singleton.mp ho]
      exact gq
  · rintro s ⟨qs, f5, f7, y, m, rfl, hl, hq, hy, hm⟩
    simp at hl hm
    exact h qs _ _ _ (by omega) hq (hy.up (by omega))
theorem tD_ok {ws us : List Str} {qs : List Qt} {f3 : Slot} (hf : f3 = .own (.lst (ws.map .str)) ∨ f3 = .d (.lst (ws.map .str))) (hlen : us.length = ws.length) (nu : Names us) (hl : qs.length ≤ 10) (hq : ∀ o ∈ qs, Qn o.1 o.2) (hn : n + 1000 ≤ BIG) (hx : Bag n x)
    (h : ∀ (qs : List Qt) f3 f5 f7 y, qs.length ≤ 22 → (∀ o ∈ qs, Qn o.1 o.2) → Bag (n + 1000) y → Q (.next (st [sc, some (.ref 0), t, f3, some (.own (.lst (qs.map qT))), f5, some (.own (.lst (us.map .str))), f7, e8, e9, e10, e11, e12, e13, e14, e15] y))) {e5 e7 : Option Slot} :
    oks (tD (run P (k + 5))) (st [sc, some (.ref 0), t, some f3, some (.own (.lst (qs.map qT))), e5, some (.own (.lst (us.map .str))), e7, e8, e9, e10, e11, e12, e13, e14, e15] x) Q := by
  have ul := nu.len
  have m1 : BOp.go .mul (.int 12) (.int 1) = some (.d (.int 12)) := rfl
  have m0 : BOp.go .mul (.int 12) (.int 0) = some (.d (.int 0)) := rfl
  unfold tD
  by_cases h4 : 4 < ws.length
  · have i4 : (4 : Int) < (ws.length : Int) := by omega
    rcases hf with rfl | rfl
    all_goals
      simp [ok_lenI_lst, len_lst, go_gt, lt_int, i4, int_bl, m1, rng_nat (r := 12) (by decide) (by decide)]
      refine loop4 nu (by omega) (by rw [upto_len]; omega) hq (by omega) (by rw [upto_len]; decide) hx fun qs f5 f7 y hl hq hy => h qs _ _ _ _ hl hq hy
  · have i4 : ¬ (4 : Int) < (ws.length : Int) := by omega
    rcases hf with rfl | rfl
    all_goals
      simp [ok_lenI_lst, len_lst, go_gt, lt_int, i4, int_bl, m0, rng_nat (r := 0) (by decide) (by decide)]
      exact h qs _ _ _ _ (by omega) hq (hx.up (by omega))

theorem tE_ok {us : List Qt} {qs : List Qt} (hu : sortD ((dedupQ qs).map qT) = us.map qT) (h48 : us.length ≤ 48) (hl : qs.length ≤ 22) (hq : ∀ o ∈ qs, Qn o.1 o.2) {e3 e5 e6 e7 : Option Slot}
    (h : Q (.next (st [sc, some (.ref 0), t, e3, some (.d (.lst (qs.map qT))), e5, e6, e7, some (.own (askedD us)), some (.own (.lst (us.map qT))), some (.own (.lst (([] : List Qt).map qT))), e11, e12, e13, e14, e15] x))) {e8 e9 e10 : Option Slot} :
    oks (tE (run P (k + 5))) (st [sc, some (.ref 0), t, e3, some (.own (.lst (qs.map qT))), e5, e6, e7, e8, e9, e10, e11, e12, e13, e14, e15] x) Q := by
  have h1 := init_call (k := k) (m := [.live x]) K32.h22 W (T := .lst (qs.map qT)) (.inl rfl) hq (by omega) hu h48
  unfold tE
  simp
  refine okC_eq h1 ?_
  simp [mkQ]
  refine okC_eq (once_call h17 (qs := qs) (by omega)) ?_
  rw [hu]
  simp
  exact h

theorem loop7 {us : List Qt} {e3 e4 e5 e6 e7 : Option Slot} (hu : ∀ o ∈ us, Qn o.1 o.2) (hl : us.length ≤ 48) {f8 : Slot} (h8 : f8 = .own (askedD us) ∨ f8 = .d (askedD us))
    (h : ∀ f8 e11 e12 e13 e14 e15, (f8 = .own (askedD us) ∨ f8 = .d (askedD us)) → Q (.next (st (envT sc t e3 e4 e5 e6 e7 f8 us (impF us) e11 e12 e13 e14 e15) x))) {e11 e12 e13 e14 e15 : Option Slot} :
    oks (loop (.one 11) (tB7 (run P (k + 5))) (us.map qT)) (st (envT sc t e3 e4 e5 e6 e7 f8 us [] e11 e12 e13 e14 e15) x) Q := by
  refine loop_inv (fun ds s => ∃ (pre r : List Qt) (f8 : Slot) (e11 e12 e13 e14 e15 : Option Slot), us = pre ++ r ∧ ds = r.map qT ∧ s = st (envT sc t e3 e4 e5 e6 e7 f8 us (pre.filter fun q => (whyF us q).isSome) e11 e12 e13 e14 e15) x ∧ (f8 = .own (askedD us) ∨ f8 = .d (askedD us))) ?_ ?_ _ _ ⟨[], us, f8, e11, e12, e13, e14, e15, rfl, rfl, rfl, h8⟩
  · rintro d ds s ⟨pre, r, f8, e11, e12, e13, e14, e15, hus, hds, rfl, h8⟩
    match r, hds with
    | q :: r, hds =>
      simp only [List.map_cons, List.cons.injEq] at hds
      obtain ⟨rfl, rfl⟩ := hds
      have lp : (pre.filter fun q => (whyF us q).isSome).length ≤ 48 := by
        have h1 := List.length_filter_le (fun q => (whyF us q).isSome) pre
        have h2 : us.length = pre.length + (r.length + 1) := by rw [hus]; simp
        omega
      refine ⟨_, rfl, ?_⟩
      refine tB7_ok h8 (q := q) (by rw [hus]; simp) hu hl lp fun f8 f12 f13 f14 h8 => ?_
      rw [turnQ_next]
      refine At.mk ⟨pre ++ [q], r, f8, some (.d (qT q)), f12, f13, f14, e15, by rw [hus]; simp, rfl, ?_, h8⟩
      rw [List.filter_append]
      by_cases hw : (whyF us q).isSome = true <;> simp [hw]
  · rintro s ⟨pre, r, f8, e11, e12, e13, e14, e15, hus, hds, rfl, h8⟩
    match r, hds with
    | [], _ =>
      rw [List.append_nil] at hus
      rw [← hus]
      exact h _ _ _ _ _ _ h8
theorem tF_ok {us : List Qt} {e3 e4 e5 e6 e7 : Option Slot} (hu : ∀ o ∈ us, Qn o.1 o.2) (hl : us.length ≤ 48)
    (h : ∀ env, env.length = 16 → env[0]? = some sc → env[1]? = some (some (.ref 0)) → Q (.next (st env x))) {e11 e12 e13 e14 e15 : Option Slot} :
    oks (tF (run P (k + 5))) (st [sc, some (.ref 0), t, e3, e4, e5, e6, e7, some (.own (askedD us)), some (.own (.lst (us.map qT))), some (.own (.lst (([] : List Qt).map qT))), e11, e12, e13, e14, e15] x) Q := by
  unfold tF
  simp [walkI_lst]
  refine loop7 (h8 := .inl rfl) hu hl fun f8 e11 e12 e13 e14 e15 h8 => ?_
  simp [rng_nat (r := 3) (by decide) (by decide)]
  refine loop_inv (fun ds s => ∃ (f8 : Slot) (e14 e15 : Option Slot), s = st (envT sc t e3 e4 e5 e6 e7 f8 us (impF us) e11 e12 e13 e14 e15) x ∧ (f8 = .own (askedD us) ∨ f8 = .d (askedD us))) ?_ ?_ _ _ ⟨f8, e14, e15, rfl, h8⟩
  · rintro d ds s ⟨f8, e14, e15, rfl, h8⟩
    refine ⟨_, rfl, ?_⟩
    refine tB8_ok h8 hu hl fun f15 => ?_
    rw [turnQ_next]
    exact At.mk ⟨_, _, f15, rfl, .inr rfl⟩
  · rintro s ⟨f8, e14, e15, rfl, h8⟩
    simp
    refine tB9_ok h8 hu hl fun f8 f9 => ?_
    simp
    exact h _ rfl rfl rfl
def turnB : Call → SM := fun C => seq (sSet 3 (Ev.call C 15 [var 1, Ev.call C 13 [var 1, lstE [(false, bin .add (lit (.int 1)) (Ev.call C 12 [var 1, lit (.int 4)] [])), (false, bin .add (lit (.int 1)) (Ev.call C 12 [var 1, lit (.int 4)] [])), (false, lit (.int 12))]] []] [])) (seq (sSet 4 (lc [5] (.one 5) (rng1 (Ev.call C 12 [var 1, lit (.int 11)] [])) yes (Ev.call C 20 [var 1, var 3] []))) (seq (sSet 6 (Ev.call C 14 [var 1, var 3] [])) (seq (tD C) (seq (sPar 8 9 (mkI C 0 22 [var 4]) (Ev.call C 17 [var 4] [])) (seq (sSet 10 (lstE [])) (tF C))))))
theorem law_parts (C : Call) : b21 C = seq (sCel 1 (Ev.call C 11 [var 0] [])) (seq (sFor (.one 2) (rng1 (lit (.int 5))) (turnB C)) (seq (sRet (lit (.bl true))) skip)) := rfl
theorem oks_more {a b c d : SM} {s : S} : oks (seq a (seq b (seq c d))) s Q ↔ oks (seq (seq a (seq b (seq c skip))) d) s Q := by
  simp only [oks, seq]
  cases a s <;> simp
  rename_i s1
  cases b s1 <;> simp
  rename_i s2
  cases c s2 <;> simp [skip]
theorem oks_more2 {a b c : SM} {s : S} : oks (seq a (seq b c)) s Q ↔ oks (seq (seq a (seq b skip)) c) s Q := by
  simp only [oks, seq]
  cases a s <;> simp
  rename_i s1
  cases b s1 <;> simp [skip]
theorem turn_ok (hn : n + 2000 ≤ BIG) (hx : Bag n x) (h : ∀ env y, env.length = 16 → env[0]? = some sc → env[1]? = some (some (.ref 0)) → Bag (n + 2000) y → Q (.next (st env y))) {e3 e4 e5 e6 e7 e8 e9 e10 e11 e12 e13 e14 e15 : Option Slot} :
    oks (turnB (run P (k + 5))) (st [sc, some (.ref 0), t, e3, e4, e5, e6, e7, e8, e9, e10, e11, e12, e13, e14, e15] x) Q := by
  unfold turnB
  rw [oks_more, oks_seq]
  refine tC_ok (by omega) hx fun ws us qs f3 f5 y hf hlen nu hl hq by_ => ?_
  rw [thenS_next, oks_seq]
  refine tD_ok hf hlen nu hl hq (by omega) by_ fun qs f3 f5 f7 y2 hl hq by2 => ?_
  rw [thenS_next, oks_more2, oks_seq]
  obtain ⟨vs, hv, hp⟩ := uniq_row qs
  have hv2 : ∀ o ∈ vs, Qn o.1 o.2 := fun o ho => hq o (mem_dedupQ.mp (hp.mem_iff.mp ho))
  have ld : ∀ qs : List Qt, (dedupQ qs).length ≤ qs.length := fun qs => by
    induction qs with
    | nil => exact Nat.le_refl _
    | cons q r ih =>
      rw [dedupQ, List.length_cons, List.length_cons]
      exact Nat.succ_le_succ (Nat.le_trans (List.length_filter_le _ _) ih)
  have lv : vs.length ≤ 48 := by
    rw [hp.length_eq]
    have := ld qs
    omega
  refine tE_ok hv lv hl hq ?_
  rw [thenS_next]
  refine tF_ok hv2 lv fun env l g0 g1 => ?_
  exact h env y2 l g0 g1 (by2.up (by omega))
end
theorem plain (ns : List Int) (hl : ns.length ≤ 63) : ∃ s', Ev.run (prog rows bodies) deep 21 [.d (.lz (ns.map .int))] ⟨[], []⟩ = .ok (.d (.bl true)) s' := by
  have hB : BIG = 10000000000000000000000 := rfl
  suffices h : okC (Ev.run P (11 + 1)) 21 [.d (.lz (ns.map .int))] ⟨[], []⟩ fun r => ∃ s', r = .ok (.d (.bl true)) s' from h
  refine okC_run (d := ⟨16, 1, b21⟩) rfl rfl (by show 1 ≤ 16; decide) ?_
  show oks (b21 _) _ _
  rw [law_parts]
  simp
  obtain ⟨x, h1, b1⟩ := Ev.bag_call (P := P) (i := 11) (k := 10) (s := ⟨[some (.d (.lz (ns.map .int))), none, none, none, none, none, none, none, none, none, none, none, none, none, none, none], []⟩) h11 ns
  refine okC_eq h1 ?_
  simp [rng_nat (r := 5) (by decide) (by decide)]
  refine loop_inv (fun ds s => ∃ env y m, s = st env y ∧ env.length = 16 ∧ env[0]? = some (some (.d (.lz (ns.map .int)))) ∧ env[1]? = some (some (.ref 0)) ∧ Bag m y ∧ m + 2000 * ds.length ≤ 60000) ?_ ?_ _ _ ⟨_, x, 0, rfl, rfl, rfl, rfl, b1, by rw [upto_len]; decide⟩
  · rintro d ds s ⟨env, y, m, rfl, le, g0, g1, by_, hm⟩
    simp only [List.length_cons] at hm
    match env, le, g0, g1 with
    | [a0, a1, a2, a3, a4, a5, a6, a7, a8, a9, a10, a11, a12, a13, a14, a15], _, g0, g1 =>
      simp at g0 g1
      subst g0
      subst g1
      refine ⟨_, rfl, ?_⟩
      refine turn_ok (k := 6) (n := m) (by rw [hB]; omega) by_ fun env y2 l2 f0 f1 b2 => ?_
      rw [turnQ_next]
      exact At.mk ⟨env, y2, _, rfl, l2, f0, f1, b2, by omega⟩
  · rintro s ⟨env, y, m, rfl, le, g0, g1, by_, hm⟩
    simp
end K32

set_option Elab.async false
set_option linter.all false
set_option maxRecDepth 100000
set_option maxHeartbeats 0
open PySem PySem.W PySem.Calls PyProof.Rows
theorem PySem.Challenge.cw_narrowkeys_k32_implied_questions_holds : PySem.Challenge.rw_narrowkeys_k32_implied_questions.Holds := by
  w_on; o_law
  refine HandSHeadRun.head_any (r := OpenLaw.row PySem.Challenge.rw_narrowkeys_k32_implied_questions) (q := view (OpenLaw.row PySem.Challenge.rw_narrowkeys_k32_implied_questions).prog [34]) (H := K32.hk) (ob := K32.ob) (M := 4000) (loose := K32.loose) (d := HandSHeadRun.topDef (OpenLaw.row PySem.Challenge.rw_narrowkeys_k32_implied_questions).prog 34) (kwd := []) K32.ob_eq
    (by kernel_rfl) (fun s => by kernel_rfl) K32.run_top (by kernel_rfl) (by kernel_rfl) (by kernel_rfl) (by rfl) (by first | assumption | decide +kernel) (by decide +kernel) ⟨rfl, rfl, rfl, rfl, rfl, by decide +kernel⟩ ?hw ?hc
  case hw => w_witness2
  case hc =>
    refine Ev.walk_G (l := PySem.Challenge.rw_narrowkeys_k32_implied_questions) (n := 63) (k := 4 * K32.deep) (x := "_law_script") rfl (by decide) (by kernel_rfl) ⟨rfl, by decide, by decide⟩ ?F
    intro w mg fa h Y G hmg0
    obtain ⟨K, KX, c⟩ := Y
    letI : Ev.ClsTab := K32.tabK K
    have hmg : mg ("law" : PySem.Str) = some (.ref fa) := by
      have e : (HandSHeadRun.topDef (OpenLaw.row PySem.Challenge.rw_narrowkeys_k32_implied_questions).prog 34).name = ("law" : PySem.Str) := by kernel_rfl
      rw [← e]
      exact hmg0
    have ok := K32.rows_ok KX G c
    obtain ⟨f, fd, b, D, _, _⟩ := ok 21 K32.r21 rfl
    have e2 : f = fa := by
      have := (D.at_ rfl).symm.trans hmg
      cases this
      rfl
    subst e2
    obtain ⟨kws, Dfn⟩ := D.fn
    have bind : ∀ (s : Shared) (u : Value), BindsTo s fd ⟨[u], []⟩ [("_law_script", u)] := fun s u => L2.FunD.bindsA (ps := K32.r21.ps) Dfn (fun _ _ _ _ _ _ us hl => match us, hl with | [_], _ => rfl) s [u] rfl
    exact ⟨K, fd, Ev.spF K (fun _ => none) (Ev.run (Ev.prog K32.tab.rows K32.bodies) K32.deep) 21 1, KX, bind, fun H a ns hl hS => (let ⟨s', e⟩ := K32.plain ns hl; Ev.sp_script hS e), fun base hb1 hb2 => Ev.prog_ok (K32.tab_ok hb1 hb2 c) (fun _ => none) K32.deep 21 K32.r21 f fd rfl D⟩
