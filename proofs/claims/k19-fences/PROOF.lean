import PyProof.Rows.All
import HandS.ForMost
import HandS.ForExc
import HandS.Walk
import HandS.Wide
import HandS.Deep
import HandS.TupAny
import HandS.TupMul
import HandS.TupLe
import HandS.IsInst
import HandS.Style
import HandS.Zip
import HandS.Text
import KE.DataFind
import KE.SortData
import KE.DataMinMax
import PyProof.ReprRoads
import PyProof.StrOps2
import KE.KTupSum
import HandS.Conv
import HandS.SetFor
import HandS.Replace
import PyProof.Rows.StrCountLaw
import KE.GoesEnum
import KE.GoesMore
import KE.GoesZip
import PyProof.Rows.EnumRows
import PySem.Challenge.RW_fewclues_k19_whole_fences
set_option Elab.async false
set_option linter.all false
set_option maxRecDepth 100000
section
/-! A small evaluator over pure data (PyData) with ownership flags: the program's defs as terms of it. -/
namespace PV
open PySem

abbrev D := PyData
/-- what a slot holds: nothing; shared data; a list or dict of its own; the caller's own, to be changed; one that is being walked; a list that is only read -/
inductive Cl where
  | un | sh (d : D) | ow (d : D) | io (d : D) | le (d : D) | fz (d : D)
def hel : Cl → Option D
  | .ow d => some d
  | .io d => some d
  | .le d => some d
  | _ => none
def muta : Cl → Option D
  | .ow d => some d
  | .io d => some d
  | _ => none
def remut : Cl → D → Cl
  | .io _, d => .io d
  | _, d => .ow d
abbrev En := List Cl
inductive R (α : Type) where
  | ok (a : α) | rz (x : D) (e : En) | no
def R.bind {α β : Type} : R α → (α → R β) → R β
  | .ok a, f => f a
  | .rz x e, _ => .rz x e
  | .no, _ => .no
/-- a def's end: its value (fresh or not), what its first argument (if it may change it) then is -/
inductive FR where
  | ok (r : Cl) (h : D) | rz (x : D) | no
structure FSig where
  /-- 0: plain; 1: the first argument is changed; 2: the first argument is a list only read -/
  kd : Nat
  sem : List D → FR

inductive BOp where | add | sub | mul | fdiv | mod | pow | shl | shr | band | bor | bxor
inductive COp where | eq | ne | lt | le | gt | ge | inn | nin | is | isn
inductive Bi where | len | int | str | abs | min | max | sum | sorted | tuple | list | all | any | repr | lenset | sortset
inductive Me where | index | count | join | get | split
inductive Ty where | int | bool | str | tuple | list | non

inductive CT where | nm (i : Nat) | tup (t : CT) | nil | cons (h t : CT)

mutual
inductive CE where
  | var (i : Nat)
  | lit (d : D)
  | glb (nm : Str) (d : D)
  | bin (op : BOp) (a b : CE)
  | neg (a : CE)
  | nt (a : CE)
  | cmp (op : COp) (a b : CE)
  | chn (o1 o2 : COp) (a b c : CE)
  | bop (isAnd : Bool) (es : CEs)
  | ife (c a b : CE)
  | tup (es : CEs)
  | lst (es : CEs)
  | idx (a i : CE)
  | slc (a lo hi : CE)
  | noe
  | rev (a : CE)
  | call (nm : Str) (F : FSig) (es : CEs)
  | bi (op : Bi) (es : CEs)
  | me (op : Me) (a : CE) (es : CEs)
  | isi (a : CE) (ts : List Ty)
  | lc (own : List (Str × Nat)) (tg : CT) (it : CI) (cond elt : CE)
  | pop (x : Nat) (es : CEs)
  | d0 (i : Nat)
  | rgl (t : Bool) (a : CE)
inductive CEs where
  | nil | cons (e : CE) (es : CEs)
inductive CI where
  | seq (e : CE) | fzd (e : CE) | rng (es : CEs) | enu (e : CE) | zip (es : CEs)
end
mutual
inductive CS where
  | asg (tg : CT) (e : CE)
  | par (is : List Nat) (es : CEs)
  | put (x : Nat) (i e : CE)
  | app (x : Nat) (e : CE)
  | ext (x : Nat) (e : CE)
  | exp (e : CE)
  | ite (c : CE) (a b : CSs)
  | fori (tg : CT) (it : CI) (b : CSs)
  | whl (m : En → Nat) (c : CE) (b : CSs)
  | ret (e : CE)
  | retN | brk | cnt | pas | nvr
inductive CSs where
  | nil | cons (s : CS) (ss : CSs)
end

def get (e : En) (i : Nat) : Cl := e.getD i .un
def put (e : En) (i : Nat) (c : Cl) : En := e.set i c

/-! ### operations on data -/
def mulOk (i j : Int) : Bool := decide (i.natAbs < 2 ^ 64) || decide (j.natAbs < 2 ^ 64) || decide (i.natAbs.log2 + j.natAbs.log2 < 1000000)
def addD : D → D → Option Cl
  | .int a, .int b => some (.sh (.int (a + b)))
  | .str a, .str b => if a.length + b.length ≤ sizeLine then some (.sh (.str (a ++ b))) else none
  | .list a, .list b => if a.length + b.length ≤ sizeLine then some (.ow (.list (a ++ b))) else none
  | .tuple a, .tuple b => if a.length + b.length ≤ sizeLine then some (.sh (.tuple (a ++ b))) else none
  | _, _ => none
def mulS (a : Str) (n : Nat) : Str := ⟨(List.replicate n a.cps.toList).flatten.toArray⟩
def mulD : D → D → Option Cl
  | .int a, .int b => if mulOk a b then some (.sh (.int (a * b))) else none
  | .list a, .int k => if -(2 ^ 63) ≤ k ∧ k < 2 ^ 63 ∧ a.length * k.toNat ≤ sizeLine then some (.ow (.list (List.replicate k.toNat a).flatten)) else none
  | .str a, .int k => if -1000000 ≤ k ∧ k ≤ 1000000 ∧ a.length * k.toNat ≤ 1000000 then some (.sh (.str (mulS a k.toNat))) else none
  | .tuple a, .int k => if k = 1 then some (.sh (.tuple a)) else if a ≠ [] ∧ 2 ≤ k ∧ k ≤ 1000 ∧ a.length ≤ 1000 then some (.sh (.tuple (List.replicate k.toNat a).flatten)) else none
  | _, _ => none
def binD : BOp → D → D → Option Cl
  | .add, a, b => addD a b
  | .mul, a, b => mulD a b
  | .sub, .int a, .int b => some (.sh (.int (a - b)))
  | .fdiv, .int a, .int b => if 0 < b ∧ b.natAbs.log2 < 9000 then some (.sh (.int (a / b))) else none
  | .mod, .int a, .int b => if 0 < b then some (.sh (.int (a % b))) else none
  | .pow, .int a, .int b => if 0 ≤ b ∧ b ≤ 1000000 ∧ a.natAbs < 2 ^ 64 then some (.sh (.int (a ^ b.toNat))) else none
  | .shl, .int a, .int b => if 0 ≤ b ∧ b ≤ 1000000 ∧ a.natAbs < 2 ^ 64 then some (.sh (.int (a * 2 ^ b.toNat))) else none
  | .shr, .int a, .int b => if 0 ≤ b then some (.sh (.int (a / 2 ^ b.toNat))) else none
  | .band, .int a, .int b => some (.sh (.int (Builtin.bitAnd a b)))
  | .bor, .int a, .int b => some (.sh (.int (Builtin.bitOr a b)))
  | .bxor, .int a, .int b => some (.sh (.int (Builtin.bitXor a b)))
  | _, _, _ => none
def eqD (a b : D) : Option Bool := if SeqAt.shaped a && SeqAt.shaped b then some (PyData.eqv a b) else none
def inD (a : D) : D → Option Bool
  | .list ds => if SeqAt.shaped a && SeqAt.shaped (.list ds) then some (ds.any fun z => PyData.eqv z a) else none
  | .tuple ds => if SeqAt.shaped a && SeqAt.shaped (.tuple ds) then some (ds.any fun z => PyData.eqv z a) else none
  | .str z => match a with
    | .str x => match x.cps.toList with
      | [c] => some (decide (c ∈ z.cps.toList))
      | _ => some (!(Builtin.Str.occurrences z x 0 z.length 1).isEmpty)
    | _ => none
  | _ => none
def ltD : D → D → Option Bool
  | .int a, .int b => some (decide (a < b))
  | .str a, .str b => some (decide (a.cps.toList < b.cps.toList))
  | _, _ => none
def isD : D → D → Option Bool
  | .none, .none => some true
  | .bool a, .bool b => some (decide (a = b))
  | _, .none => some false
  | _, _ => none
def leD : D → D → Option Bool
  | .int a, .int b => some (decide (a ≤ b))
  | .str a, .str b => some (!decide (b.cps.toList < a.cps.toList))
  | _, _ => none
def cmpD : COp → D → D → Option Bool
  | .eq, a, b => eqD a b
  | .ne, a, b => (eqD a b).map (!·)
  | .lt, a, b => ltD a b
  | .gt, a, b => ltD b a
  | .le, a, b => leD a b
  | .ge, a, b => leD b a
  | .inn, a, b => inD a b
  | .nin, a, b => (inD a b).map (!·)
  | .is, a, b => isD a b
  | .isn, a, b => (isD a b).map (!·)

def idxD : D → D → Option D
  | .list ds, .int i => L2.atI ds i
  | .tuple ds, .int i => L2.atI ds i
  | .str z, .int i => if z.length ≤ sizeLine then (L2.atI z.cps.toList i).map fun c => .str ⟨#[c]⟩ else none
  | _, _ => none
def cut {α : Type} (xs : List α) (lo hi : Option Int) : List α := (xs.drop (HT.sIx xs.length 0 lo)).take (HT.sIx xs.length xs.length hi - HT.sIx xs.length 0 lo)
def slcD : D → Option Int → Option Int → Option Cl
  | .list ds, lo, hi => some (.ow (.list (cut ds lo hi)))
  | .tuple ds, lo, hi => some (.sh (.tuple (cut ds lo hi)))
  | .str z, lo, hi => if z.length ≤ sizeLine then some (.sh (.str (L2.cutS z lo hi))) else none
  | _, _, _ => none
def intOf : D → Option Int
  | .int i => some i
  | _ => none
def boolOf : D → Option Bool
  | .bool b => some b
  | _ => none
def lenD : D → Option D
  | .list ds => some (.int ds.length)
  | .tuple ds => some (.int ds.length)
  | .str z => if z.length ≤ sizeLine then some (.int z.length) else none
  | _ => none
def intsL : List D → Option (List Int)
  | [] => some []
  | .int i :: r => (intsL r).map (i :: ·)
  | _ :: _ => none
def boolsL : List D → Option (List Bool)
  | [] => some []
  | .bool b :: r => (boolsL r).map (b :: ·)
  | _ :: _ => none
def tyD : Ty → D → Bool
  | .int, .int _ => true
  | .int, .bool _ => true
  | .bool, .bool _ => true
  | .str, .str _ => true
  | .tuple, .tuple _ => true
  | .list, .list _ => true
  | .non, .none => true
  | _, _ => false
def maxI : List Int → Int
  | [] => 0
  | [x] => x
  | x :: r => if x < maxI r then maxI r else x
def minI : List Int → Int
  | [] => 0
  | [x] => x
  | x :: r => if minI r < x then minI r else x
def tupItem : D → Bool
  | .tuple (_ :: _) => true
  | _ => false
def noTup : D → Bool
  | .tuple _ => false
  | .none => false
  | _ => true
/-- may be sorted: alike, all tuples with an item or none a tuple, not deep -/
def sortOk (ds : List D) : Bool := (ds.all fun d => ds.all fun d' => PySem.W.alike d d') && (ds.all tupItem || ds.all noTup) && ds.all fun d => decide (d.depth ≤ 60)
def minOk (ds : List D) : Bool := (ds.all fun d => ds.all fun d' => PySem.W.alike d d') && (ds.all fun d => match d with | .none => false | _ => true) && decide (PyData.depthAll ds ≤ 60)
/-- what repr can show -/
def shOk (d : D) : Bool := d.showable && decide (d.depth ≤ 60) && decide (d.shown.length ≤ sizeLine)
def biD : Bi → List D → Option Cl
  | .len, [d] => (lenD d).map .sh
  | .int, [.int i] => some (.sh (.int i))
  | .int, [.bool b] => some (.sh (.int (if b then 1 else 0)))
  | .abs, [.int i] => some (.sh (.int (if i < 0 then -i else i)))
  | .min, [.int i, .int j] => some (.sh (.int (if j < i then j else i)))
  | .max, [.int i, .int j] => some (.sh (.int (if j > i then j else i)))
  | .max, [.list ds] => (intsL ds).bind fun ns => if ns = [] then none else some (.sh (.int (maxI ns)))
  | .min, [.list ds] => match intsL ds with
    | some ns => if ns = [] then none else some (.sh (.int (minI ns)))
    | none => match ds with
      | x :: r => if minOk (x :: r) then some (.sh (PySem.W.minD x r)) else none
      | [] => none
  | .sorted, [.list ds] => if sortOk ds then some (.ow (.list (ds.mergeSort (PySem.W.dataLe false id)))) else none
  | .sum, [.list ds] => (intsL ds).map fun ns => .sh (.int ns.sum)
  | .sum, [.tuple ds] => (intsL ds).map fun ns => .sh (.int ns.sum)
  | .tuple, [.list ds] => some (.sh (.tuple ds))
  | .tuple, [.tuple ds] => some (.sh (.tuple ds))
  | .list, [.list ds] => some (.ow (.list ds))
  | .list, [.tuple ds] => some (.ow (.list ds))
  | .all, [.list ds] => (boolsL ds).map fun bs => .sh (.bool (bs.all id))
  | .any, [.list ds] => (boolsL ds).map fun bs => .sh (.bool (bs.any id))
  | .repr, [d] => if shOk d then some (.sh (.str d.shown)) else none
  | _, _ => none
def findD (d : D) : List D → Option Nat
  | [] => none
  | z :: r => if PyData.eqv z d then some 0 else (findD d r).map (· + 1)
def cntOk (ds : List D) (d : D) : Bool := PyData.plainAll ds && d.plain && decide (d.depth ≤ 60)
def strsL : List D → Option (List Str)
  | [] => some []
  | .str i :: r => (strsL r).map (i :: ·)
  | _ :: _ => none
/-- texts put together, with a text between -/
def joinS (a : Str) (ts : List Str) : Str := Txt.join a ts
def meD : Me → D → List D → Option Cl
  | .count, .list ds, [.int k] => (intsL ds).map fun ns => .sh (.int (ns.count k : Nat))
  | .count, .list ds, [d] => if cntOk ds d then some (.sh (.int (ds.countP fun y => y.eqv d : Nat))) else none
  | .count, .str z, [.str x] => match x.cps.toList with
    | [c] => some (.sh (.int (z.cps.toList.count c : Nat)))
    | _ => none
  | .index, .list ds, [.int k] => (intsL ds).bind fun ns => if k ∈ ns then some (.sh (.int (ns.idxOf k : Nat))) else none
  | .index, .str z, [.str x] => match x.cps.toList with
    | [c] => if c ∈ z.cps.toList then some (.sh (.int (z.cps.toList.idxOf c : Nat))) else none
    | _ => none
  | .join, .str z, [.list ds] => (strsL ds).bind fun ts => if (ts.map (·.length)).sum + ts.length * z.length ≤ 16777216 then some (.sh (.str (joinS z ts))) else none
  | _, _, _ => none

/-- a list's method, a text's method, none -/
def meG {α : Type} : Me → D → (En → R α) → (En → R α) → En → R α
  | .count, .list _, f, _, e => f e
  | .index, .list _, f, _, e => f e
  | .count, .str _, _, g, e => g e
  | .index, .str _, _, g, e => g e
  | .join, .str _, _, g, e => g e
  | _, _, _, _, _ => .no

/-! ### the evaluator -/
/-- an operand: a value, or a slot that is read later -/
inductive Op where | val (d : D) | slot (i : Nat)
def valOf : Cl → Option D
  | .sh d => some d
  | .ow d => some d
  | .io d => some d
  | .le d => some d
  | _ => none
def valW : Cl → Option D
  | .sh d => some d
  | .ow d => some d
  | .io d => some d
  | .le d => some d
  | .fz d => some d
  | .un => none
def Op.get (e : En) : Op → Option D
  | .val d => some d
  | .slot i => valOf (PV.get e i)
def Op.getW (e : En) : Op → Option D
  | .val d => some d
  | .slot i => valW (PV.get e i)
def valI : Cl → Option D
  | .sh d => some d
  | .ow d => some d
  | .le d => some d
  | .fz d => some d
  | _ => none
def Op.getI (e : En) : Op → Option D
  | .val d => some d
  | .slot i => valI (PV.get e i)
def lift {α : Type} : Option α → R α
  | some a => .ok a
  | none => .no
/-- a value that may be kept: a list of one's own is given away -/
def varV (i : Nat) (e : En) : R (Cl × En) :=
  match get e i with
  | .sh d => .ok (.sh d, e)
  | .ow d => .ok (.sh d, put e i (.sh d))
  | _ => .no
def opOf (a : CE) (r : En → R (Cl × En)) (e : En) : R (Op × En) :=
  match a with
  | .var i => match get e i with
    | .un => .no
    | _ => .ok (.slot i, e)
  | _ => (r e).bind fun (c, e) => match valOf c with
    | some d => .ok (.val d, e)
    | none => .no
def valR (r : En → R (Cl × En)) (e : En) : R (D × En) := (r e).bind fun (c, e) => match valOf c with
    | some d => .ok (d, e)
    | none => .no
/-- an optional bound -/
def optOf (a : CE) (r : En → R (Cl × En)) (e : En) : R (Option Int × En) :=
  match a with
  | .noe => .ok (none, e)
  | _ => (valR r e).bind fun (d, e) => match d with
    | .int i => .ok (some i, e)
    | _ => .no
def testR (r : En → R (Cl × En)) (e : En) : R (Bool × En) := (r e).bind fun (c, e) => match c with
    | .sh (.bool b) => .ok (b, e)
    | _ => .no

mutual
def bindT : CT → D → En → Option En
  | .nm i, d, e => match get e i with
    | .le _ => none
    | .fz _ => none
    | .io _ => none
    | _ => if i < e.length then some (put e i (.sh d)) else none
  | .tup t, .tuple ds, e => bindTs t ds e
  | _, _, _ => none
def bindTs : CT → List D → En → Option En
  | .nil, [], e => some e
  | .cons h t, d :: ds, e => (bindT h d e).bind (bindTs t ds)
  | _, _, _ => none
end
/-- own slots of a comprehension: must hold nothing of one's own -/
def wipeE (e : En) : List Nat → En
  | [] => e
  | v :: vs => put (wipeE e vs) v .un
def ownOk (e : En) (vs : List Nat) : Bool := vs.all fun v => match get e v with | .un => true | .sh _ => true | _ => false
def backE (e0 e : En) : List Nat → En
  | [] => e
  | v :: vs => put (backE e0 e vs) v (get e0 v)
/-- a comprehension's turns -/
def lcL (f : D → En → R (Option D × En)) : List D → List D → En → R (List D × En)
  | [], acc, e => .ok (acc, e)
  | x :: xs, acc, e => (f x e).bind fun (o, e) => match o with
    | some d => lcL f xs (acc ++ [d]) e
    | none => lcL f xs acc e
/-- the ints of a range -/
def rangeD (lo : Int) : Nat → List D
  | 0 => []
  | n + 1 => .int lo :: rangeD (lo + 1) n
def rangeC (lo c : Int) : Nat → List D
  | 0 => []
  | n + 1 => .int lo :: rangeC (lo + c) c n
def small62 (i : Int) : Bool := decide (-(2 ^ 62) ≤ i) && decide (i < 2 ^ 62)
def rngD : List D → Option (List D)
  | [.int j] => if small62 j && decide (j.toNat ≤ sizeLine) then some (rangeD 0 j.toNat) else none
  | [.int i, .int j] => if small62 i && small62 j && decide ((j - i).toNat ≤ sizeLine) then some (rangeD i (j - i).toNat) else none
  | [.int i, .int j, .int c] => if c ≠ 0 ∧ c.natAbs < 1073741824 ∧ Builtin.Range.small i j c = true ∧ (Builtin.Range.rangeSize i j c).toNat ≤ sizeLine then some (rangeC i c (Builtin.Range.rangeSize i j c).toNat) else none
  | _ => none
/-- list(range(n)), tuple(range(n)) -/
def rglD (t : Bool) : D → Option Cl
  | .int j => if small62 j && decide (j.toNat ≤ 1000000) then some (if t then .sh (.tuple (rangeD 0 j.toNat)) else .ow (.list (rangeD 0 j.toNat))) else none
  | _ => none
def enumD (n : Nat) : List D → List D
  | [] => []
  | d :: ds => .tuple [.int n, d] :: enumD (n + 1) ds
def zipD : List D → List D → List D
  | a :: as, b :: bs => .tuple [a, b] :: zipD as bs
  | _, _ => []
def seqD : D → Option (List D)
  | .list ds => some ds
  | .tuple ds => some ds
  | .str z => if z.cps.size ≤ sizeLine then some (z.cps.toList.map fun c => .str ⟨#[c]⟩) else none
  | _ => none
def enuD : D → Option (List D)
  | .list ds => some (enumD 0 ds)
  | .tuple ds => some (enumD 0 ds)
  | .str z => if z.cps.size ≤ sizeLine then some (enumD 0 (z.cps.toList.map fun c => .str ⟨#[c]⟩)) else none
  | _ => none
def zipDs : List D → Option (List D)
  | [.list a, .list b] => some (zipD a b)
  | [.str a, .str b] => if a.cps.size ≤ sizeLine ∧ b.cps.size ≤ sizeLine then some (zipD (a.cps.toList.map fun c => .str ⟨#[c]⟩) (b.cps.toList.map fun c => .str ⟨#[c]⟩)) else none
  | [.tuple a, .tuple b] => some (zipD a b)
  | [.str a, .list b] => if a.cps.size ≤ sizeLine then some (zipD (a.cps.toList.map fun c => .str ⟨#[c]⟩) b) else none
  | _ => none
def lend (e : En) : Op → En
  | .slot i => match get e i with
    | .ow d => put e i (.le d)
    | _ => e
  | _ => e
def unlend (e0 e : En) : Op → En
  | .slot i => match get e0 i with
    | .ow _ => match get e i with
      | .le d => put e i (.ow d)
      | _ => e
    | _ => e
  | _ => e
/-- a call by a def's signature -/
def callS (F : FSig) (x : Option Nat) (ds : List D) (e : En) : R (Cl × En) :=
  match F.kd, x with
  | 0, _ => match F.sem ds with
    | .ok r _ => .ok (r, e)
    | .rz x => .rz x e
    | .no => .no
  | 1, some i => match muta (get e i) with
    | some d => match F.sem (d :: ds) with
      | .ok r d' => .ok (r, put e i (remut (get e i) d'))
      | _ => .no
    | none => .no
  | 2, some i => match get e i with
    | .fz d => match F.sem (d :: ds) with
      | .ok r _ => .ok (r, e)
      | .rz x => .rz x e
      | .no => .no
    | _ => .no
  | _, _ => .no
def okArg (kd : Nat) (c : Cl) : Bool := if kd = 1 then (muta c).isSome else match c with
  | .fz _ => true
  | _ => false

mutual
def ev : CE → En → R (Cl × En)
  | .var i, e => varV i e
  | .lit d, e => .ok (.sh d, e)
  | .glb _ d, e => .ok (.sh d, e)
  | .bin op a b, e => (opOf a (ev a) e).bind fun (x, e) => (opOf b (ev b) e).bind fun (y, e) =>
    (lift (x.get e)).bind fun dx => (lift (y.get e)).bind fun dy => (lift (binD op dx dy)).bind fun r => .ok (r, e)
  | .neg a, e => (valR (ev a) e).bind fun (d, e) => match d with
    | .int i => .ok (.sh (.int (-i)), e)
    | _ => .no
  | .nt a, e => (testR (ev a) e).bind fun (b, e) => .ok (.sh (.bool (!b)), e)
  | .cmp op a b, e => (opOf a (ev a) e).bind fun (x, e) => (opOf b (ev b) e).bind fun (y, e) =>
    (lift (x.get e)).bind fun dx => (lift (y.get e)).bind fun dy => (lift (cmpD op dx dy)).bind fun r => .ok (.sh (.bool r), e)
  | .chn o1 o2 a b c, e => (valR (ev a) e).bind fun (x, e) => (valR (ev b) e).bind fun (y, e) => (lift (cmpD o1 x y)).bind fun r =>
    if r then (valR (ev c) e).bind fun (z, e) => (lift (cmpD o2 y z)).bind fun r => .ok (.sh (.bool r), e) else .ok (.sh (.bool false), e)
  | .bop isAnd es, e => evB es isAnd e
  | .ife c a b, e => (testR (ev c) e).bind fun (r, e) => if r then ev a e else ev b e
  | .tup es, e => (evs es e).bind fun (ds, e) => if ds.length ≤ sizeLine then .ok (.sh (.tuple ds), e) else .no
  | .lst es, e => (evs es e).bind fun (ds, e) => if ds.length ≤ sizeLine then .ok (.ow (.list ds), e) else .no
  | .idx a i, e => (opOf a (ev a) e).bind fun (x, e) => (valR (ev i) e).bind fun (j, e) =>
    (lift (x.getW e)).bind fun dx => (lift (idxD dx j)).bind fun r => .ok (.sh r, e)
  | .slc a lo hi, e => (opOf a (ev a) e).bind fun (x, e) => (optOf lo (ev lo) e).bind fun (l, e) => (optOf hi (ev hi) e).bind fun (h, e) =>
    (lift (x.getW e)).bind fun dx => (lift (slcD dx l h)).bind fun r => .ok (r, e)
  | .noe, _ => .no
  | .rev a, e => (opOf a (ev a) e).bind fun (x, e) => (lift (x.get e)).bind fun dx => match dx with
    | .list ds => .ok (.ow (.list ds.reverse), e)
    | .tuple ds => .ok (.sh (.tuple ds.reverse), e)
    | _ => .no
  | .call _ F es, e => if F.kd = 0 then (evs es e).bind fun (ds, e) => callS F none ds e
    else match es with
      | .nil => .no
      | .cons a es => match a with
        | .var i => if okArg F.kd (get e i) = true then (evs es e).bind fun (ds, e) => callS F (some i) ds e else .no
        | _ => .no
  | .bi op es, e => (evOs es e).bind fun (xs, e) => (lift (xs.mapM (Op.get e))).bind fun ds => (lift (biD op ds)).bind fun r => .ok (r, e)
  | .me op a es, e => (opOf a (ev a) e).bind fun (x, e) => (lift (x.get e)).bind fun d0 => meG op d0 (fun e => (evs es e).bind fun (ds, e) => (lift (x.get e)).bind fun d => (lift (meD op d ds)).bind fun r => .ok (r, e)) (fun e => (evs es e).bind fun (ds, e) => (lift (meD op d0 ds)).bind fun r => .ok (r, e)) e
  | .rgl t a, e => (valR (ev a) e).bind fun (d, e) => (lift (rglD t d)).bind fun r => .ok (r, e)
  | .isi a ts, e => (opOf a (ev a) e).bind fun (x, e) => (lift (x.get e)).bind fun d => .ok (.sh (.bool (ts.any fun t => tyD t d)), e)
  | .lc own tg it cond elt, e => (evI it e).bind fun ((xs, x), e) =>
    if ownOk e (own.map (·.2)) then
      match lcL (fun d e => (lift (bindT tg d e)).bind fun e => match cond with
        | .noe => (valR (ev elt) e).bind fun (v, e) => .ok (some v, wipeE e (own.map (·.2)))
        | _ => (testR (ev cond) e).bind fun (b, e) => if b then (valR (ev elt) e).bind fun (v, e) => .ok (some v, wipeE e (own.map (·.2))) else .ok (none, wipeE e (own.map (·.2)))) xs [] (wipeE (lend e x) (own.map (·.2))) with
      | .ok (ds, e') => .ok (.ow (.list ds), unlend e (backE e e' (own.map (·.2))) x)
      | _ => .no
    else .no
  | .d0 i, e => match get e i with
    | .sh d => .ok (.sh (.dict [(.int 0, d)]), e)
    | _ => .no
  | .pop x es, e => (evs es e).bind fun (ds, e) => match muta (get e x) with
    | some (.list xs) => match ds with
      | [] => match xs.getLast? with
        | some y => .ok (.sh y, put e x (remut (get e x) (.list xs.dropLast)))
        | none => .no
      | [.int i] => if -(2 ^ 63) ≤ i ∧ i < 2 ^ 63 then match L2.ixN xs.length i with
        | some k => match xs[k]? with
          | some y => .ok (.sh y, put e x (remut (get e x) (.list (xs.eraseIdx k))))
          | none => .no
        | none => .no else .no
      | _ => .no
    | _ => .no
/-- values that are kept -/
def evs : CEs → En → R (List D × En)
  | .nil, e => .ok ([], e)
  | .cons a es, e => (valR (ev a) e).bind fun (d, e) => (evs es e).bind fun (ds, e) => .ok (d :: ds, e)
/-- values as they come: fresh ones stay one's own -/
def evcs : CEs → En → R (List Cl × En)
  | .nil, e => .ok ([], e)
  | .cons a es, e => (ev a e).bind fun (d, e) => (evcs es e).bind fun (ds, e) => .ok (d :: ds, e)
/-- operands -/
def evOs : CEs → En → R (List Op × En)
  | .nil, e => .ok ([], e)
  | .cons a es, e => (opOf a (ev a) e).bind fun (d, e) => (evOs es e).bind fun (ds, e) => .ok (d :: ds, e)
/-- and, or -/
def evB : CEs → Bool → En → R (Cl × En)
  | .nil, _, _ => .no
  | .cons a es, isAnd, e => match es with
    | .nil => ev a e
    | _ => (testR (ev a) e).bind fun (b, e) => if b = isAnd then evB es isAnd e else .ok (.sh (.bool b), e)
/-- what is walked, and the slot that is lent -/
def evI : CI → En → R ((List D × Op) × En)
  | .seq a, e => (opOf a (ev a) e).bind fun (x, e) => (lift (x.getI e)).bind fun d => (lift (seqD d)).bind fun ds => .ok ((ds, x), e)
  | .fzd a, e => (valR (ev a) e).bind fun (d, e) => (lift (seqD d)).bind fun ds => .ok ((ds, .val d), e)
  | .rng es, e => (evs es e).bind fun (ds, e) => (lift (rngD ds)).bind fun xs => .ok ((xs, .val .none), e)
  | .enu a, e => (valR (ev a) e).bind fun (d, e) => (lift (enuD d)).bind fun ds => .ok ((ds, .val d), e)
  | .zip es, e => (evs es e).bind fun (ds, e) => (lift (zipDs ds)).bind fun xs => .ok ((xs, .val .none), e)
end

inductive SR where
  | nx (e : En) | rt (r : Cl) (e : En) | bk (e : En) | ct (e : En) | rz (x : D) (e : En) | no
def R.sr {α : Type} : R α → (α → SR) → SR
  | .ok a, f => f a
  | .rz x e, _ => .rz x e
  | .no, _ => .no
def SR.seq : SR → (En → SR) → SR
  | .nx e, f => f e
  | r, _ => r
def forL (f : D → En → SR) : List D → En → SR
  | [], e => .nx e
  | x :: xs, e => match f x e with
    | .nx e => forL f xs e
    | .ct e => forL f xs e
    | .bk e => .nx e
    | r => r
def whileL (c : En → R (Bool × En)) (f : En → SR) : Nat → En → SR
  | 0, _ => .no
  | n + 1, e => (c e).sr fun (b, e) => if b then (match f e with
    | .nx e => whileL c f n e
    | .ct e => whileL c f n e
    | .bk e => .nx e
    | r => r) else .nx e
/-- a value is stored in a slot -/
def store (e : En) (i : Nat) (r : Cl) : Option En :=
  match get e i with
  | .le _ => none
  | .fz _ => none
  | .io _ => none
  | _ => if i < e.length then (match r with
    | .sh d => some (put e i (.sh d))
    | .ow d => some (put e i (.ow d))
    | _ => none) else none
def storeT : CT → Cl → En → Option En
  | .nm i, r, e => store e i r
  | t, r, e => (valOf r).bind fun d => bindT t d e
def storeP : List Nat → List Cl → En → Option En
  | [], [], e => some e
  | i :: is, d :: ds, e => (store e i d).bind (storeP is ds)
  | _, _, _ => none
def setI (xs : List D) (i : Int) (d : D) : Option (List D) := (L2.ixN xs.length i).map fun k => xs.set k d
mutual
def ex : CS → En → SR
  | .asg tg a, e => (ev a e).sr fun (r, e) => match storeT tg r e with
    | some e => .nx e
    | none => .no
  | .par is es, e => (evcs es e).sr fun (ds, e) => match storeP is ds e with
    | some e => .nx e
    | none => .no
  | .put x i a, e => if (muta (get e x)).isSome then (valR (ev a) e).sr fun (d, e) => (valR (ev i) e).sr fun (j, e) => match muta (get e x) with
    | some (.list xs) => match j with
      | .int j => match setI xs j d with
        | some ys => .nx (PV.put e x (remut (get e x) (.list ys)))
        | none => .no
      | _ => .no
    | _ => .no else .no
  | .app x a, e => if (muta (get e x)).isSome then (valR (ev a) e).sr fun (d, e) => match muta (get e x) with
    | some (.list xs) => if xs.length < sizeLine then .nx (put e x (remut (get e x) (.list (xs ++ [d])))) else .no
    | _ => .no else .no
  | .ext x a, e => if (muta (get e x)).isSome then (valR (ev a) e).sr fun (d, e) => match muta (get e x) with
    | some (.list xs) => match d with
      | .list ys => if xs.length + ys.length ≤ sizeLine then .nx (put e x (remut (get e x) (.list (xs ++ ys)))) else .no
      | _ => .no
    | _ => .no else .no
  | .exp a, e => (ev a e).sr fun (_, e) => .nx e
  | .ite c a b, e => (testR (ev c) e).sr fun (r, e) => if r then exs a e else exs b e
  | .fori tg it b, e => (evI it e).sr fun ((xs, x), e) =>
    (forL (fun d e => match bindT tg d e with
      | some e => exs b e
      | none => .no) xs (lend e x)).seq fun e' => .nx (unlend e e' x)
  | .whl m c b, e => whileL (fun e => testR (ev c) e) (fun e => exs b e) (m e) e
  | .ret a, e => (ev a e).sr fun (r, e) => .rt r e
  | .retN, e => .rt (.sh .none) e
  | .brk, e => .bk e
  | .cnt, e => .ct e
  | .pas, e => .nx e
  | .nvr, _ => .no
def exs : CSs → En → SR
  | .nil, e => .nx e
  | .cons s ss, e => (ex s e).seq fun e => exs ss e
end
/-- the first argument's cell -/
def firstC (kd : Nat) (d : D) : Cl := if kd = 1 then .io d else if kd = 2 then .fz d else .sh d
def startE (kd : Nat) : List D → En
  | [] => []
  | d :: r => firstC kd d :: r.map .sh
def endF (kd : Nat) (r : Cl) (e : En) : FR := if kd = 1 then (match get e 0 with
  | .io d => .ok r d
  | _ => .no) else .ok r .none
/-- a def by its body: np parameters, n slots -/
def runF (np n kd : Nat) (b : CSs) (ds : List D) : FR :=
  if ds.length = np ∧ np ≤ n ∧ (kd = 0 ∨ 1 ≤ np) then
    match exs b (startE kd ds ++ List.replicate (n - ds.length) .un) with
    | .rt r e => endF kd r e
    | .nx e => endF kd (.sh .none) e
    | .rz x _ => .rz x
    | _ => .no
  else .no
end PV
end
section
namespace PV
open PySem L2 Classical

/-! ### data in the abstract heap -/
mutual
inductive Rp (K : PySem.W.Frag) (H : Hp) : V → D → Prop
  | non : Rp K H .non .none
  | bl (b : Bool) : Rp K H (.bl b) (.bool b)
  | int (i : Int) : Rp K H (.int i) (.int i)
  | str (x : Str) : Rp K H (.str x) (.str x)
  | lst {a : Addr} {xs : List V} {ds : List D} : H a = some (.lst xs) → RpAll K H xs ds → Rp K H (.ref a) (.list ds)
  | tup {a : Addr} {xs : List V} {ds : List D} : SqT K H a xs → RpAll K H xs ds → Rp K H (.ref a) (.tuple ds)
  | dct {a : Addr} : H a = some (.dK []) → Rp K H (.ref a) (.dict [])
  | dc1 {a : Addr} {v : V} {d : D} : H a = some (.dK [(.inl 0, v)]) → Rp K H v d → Rp K H (.ref a) (.dict [(.int 0, d)])
inductive RpAll (K : PySem.W.Frag) (H : Hp) : List V → List D → Prop
  | nil : RpAll K H [] []
  | cons {v : V} {vs : List V} {d : D} {ds : List D} : Rp K H v d → RpAll K H vs ds → RpAll K H (v :: vs) (d :: ds)
end
section
variable {K : PySem.W.Frag} {H H' : Hp}
theorem seqT_mono {a : Addr} {xs : List V} (m : Same H H') (h : SqT K H a xs) : SqT K H' a xs := by
  rcases h with (h | ⟨o, h⟩) | h
  · exact .inl (.inl (m _ _ h))
  · exact .inl (.inr ⟨o, m _ _ h⟩)
  · exact .inr h
mutual
theorem Rp.mono (m : Same H H') : ∀ {v : V} {d : D}, Rp K H v d → Rp K H' v d
  | _, _, .non => .non
  | _, _, .bl b => .bl b
  | _, _, .int i => .int i
  | _, _, .str x => .str x
  | _, _, .lst h r => .lst (m _ _ h) (RpAll.mono m r)
  | _, _, .tup h r => .tup (seqT_mono m h) (RpAll.mono m r)
  | _, _, .dct h => .dct (m _ _ h)
  | _, _, .dc1 h r => .dc1 (m _ _ h) (Rp.mono m r)
theorem RpAll.mono (m : Same H H') : ∀ {v : List V} {d : List D}, RpAll K H v d → RpAll K H' v d
  | _, _, .nil => .nil
  | _, _, .cons h r => .cons (Rp.mono m h) (RpAll.mono m r)
end
mutual
theorem Rp.dp : ∀ {v : V} {d : D}, d.hasDict = false → Rp K H v d → Dp K H v d
  | _, _, _, .non => .non
  | _, _, _, .bl b => .bl b
  | _, _, _, .int i => .int i
  | _, _, _, .str x => .str x
  | _, _, n, .lst h r => .lst (SqL.of h) (RpAll.dp (by simpa [PyData.hasDict] using n) r)
  | _, _, n, .tup h r => .tup h (RpAll.dp (by simpa [PyData.hasDict] using n) r)
  | _, _, n, .dct h => by simp [PyData.hasDict] at n
  | _, _, n, .dc1 h r => by simp [PyData.hasDict] at n
theorem RpAll.dp : ∀ {v : List V} {d : List D}, PyData.hasDictAll d = false → RpAll K H v d → DpAll K H v d
  | _, _, _, .nil => .nil
  | _, _, n, .cons h r => .cons (Rp.dp (by simp [PyData.hasDictAll] at n; exact n.1) h) (RpAll.dp (by simp [PyData.hasDictAll] at n; exact n.2) r)
end
theorem no_dict {d : D} (h : SeqAt.shaped d = true) : d.hasDict = false := PyData.hasDict_of_canLay d (SeqAt.canLay_of_shaped h)
theorem RpAll.length : ∀ {vs : List V} {ds : List D}, RpAll K H vs ds → vs.length = ds.length
  | _, _, .nil => rfl
  | _, _, .cons _ r => by simp [RpAll.length r]
theorem RpAll.get : ∀ {vs : List V} {ds : List D} {i : Nat} {d : D}, RpAll K H vs ds → ds[i]? = some d → ∃ v, vs[i]? = some v ∧ Rp K H v d
  | _, _, i, _, .nil, h => by simp at h
  | _, _, 0, _, .cons r _, h => by simp at h; subst h; exact ⟨_, by simp, r⟩
  | _, _, i + 1, _, .cons _ t, h => by
    obtain ⟨v, a, b⟩ := RpAll.get (i := i) t (by simpa using h)
    exact ⟨v, by simpa using a, b⟩
theorem RpAll.getV : ∀ {vs : List V} {ds : List D} {i : Nat} {v : V}, RpAll K H vs ds → vs[i]? = some v → ∃ d, ds[i]? = some d ∧ Rp K H v d
  | _, _, i, _, .nil, h => by simp at h
  | _, _, 0, _, .cons r _, h => by simp at h; subst h; exact ⟨_, by simp, r⟩
  | _, _, i + 1, _, .cons _ t, h => by
    obtain ⟨v, a, b⟩ := RpAll.getV (i := i) t (by simpa using h)
    exact ⟨v, by simpa using a, b⟩
theorem RpAll.append : ∀ {vs ws : List V} {ds es : List D}, RpAll K H vs ds → RpAll K H ws es → RpAll K H (vs ++ ws) (ds ++ es)
  | _, _, _, _, .nil, s => s
  | _, _, _, _, .cons r t, s => .cons r (RpAll.append t s)
theorem RpAll.one {v : V} {d : D} (h : Rp K H v d) : RpAll K H [v] [d] := .cons h .nil
theorem RpAll.take (n : Nat) : ∀ {vs : List V} {ds : List D}, RpAll K H vs ds → RpAll K H (vs.take n) (ds.take n) := by
  induction n with
  | zero => intro _ _ _; exact .nil
  | succ n ih => intro _ _ h; cases h with
    | nil => exact .nil
    | cons r t => exact .cons r (ih t)
theorem RpAll.drop (n : Nat) : ∀ {vs : List V} {ds : List D}, RpAll K H vs ds → RpAll K H (vs.drop n) (ds.drop n) := by
  induction n with
  | zero => intro _ _ h; exact h
  | succ n ih => intro _ _ h; cases h with
    | nil => exact .nil
    | cons r t => exact ih t
theorem RpAll.set {v : V} {d : D} (h : Rp K H v d) : ∀ {vs : List V} {ds : List D} (n : Nat), RpAll K H vs ds → RpAll K H (vs.set n v) (ds.set n d)
  | _, _, _, .nil => .nil
  | _, _, 0, .cons _ t => .cons h t
  | _, _, n + 1, .cons r t => .cons r (RpAll.set h n t)
theorem RpAll.eraseIdx : ∀ {vs : List V} {ds : List D} (n : Nat), RpAll K H vs ds → RpAll K H (vs.eraseIdx n) (ds.eraseIdx n)
  | _, _, _, .nil => .nil
  | _, _, 0, .cons _ t => t
  | _, _, n + 1, .cons r t => .cons r (RpAll.eraseIdx n t)
theorem RpAll.dropLast {vs : List V} {ds : List D} (h : RpAll K H vs ds) : RpAll K H vs.dropLast ds.dropLast := by
  rw [List.dropLast_eq_take, List.dropLast_eq_take, h.length]
  exact h.take _
theorem RpAll.reverse : ∀ {vs : List V} {ds : List D}, RpAll K H vs ds → RpAll K H vs.reverse ds.reverse
  | _, _, .nil => .nil
  | _, _, .cons r t => by
    rw [List.reverse_cons, List.reverse_cons]
    exact (RpAll.reverse t).append (.one r)
theorem RpAll.rep {vs : List V} {ds : List D} (h : RpAll K H vs ds) : ∀ n : Nat, RpAll K H (List.replicate n vs).flatten (List.replicate n ds).flatten
  | 0 => .nil
  | n + 1 => by
    rw [List.replicate_succ, List.replicate_succ, List.flatten_cons, List.flatten_cons]
    exact h.append (RpAll.rep h n)
theorem RpAll.ints : ∀ {vs : List V} {ds : List D} {ns : List Int}, RpAll K H vs ds → intsL ds = some ns → vs = ns.map V.int ∧ ds = ns.map .int
  | _, _, _, .nil, h => by cases h; exact ⟨rfl, rfl⟩
  | _, _, _, .cons (d := d) r t, h => by
    cases r with
    | int i =>
      simp only [intsL, Option.map_eq_some_iff] at h
      obtain ⟨ms, e, rfl⟩ := h
      obtain ⟨a, b⟩ := RpAll.ints t e
      exact ⟨by simp [a], by simp [b]⟩
    | _ => simp [intsL] at h
theorem RpAll.bools : ∀ {vs : List V} {ds : List D} {ns : List Bool}, RpAll K H vs ds → boolsL ds = some ns → vs = ns.map V.bl
  | _, _, _, .nil, h => by cases h; rfl
  | _, _, _, .cons (d := d) r t, h => by
    cases r with
    | bl i =>
      simp only [boolsL, Option.map_eq_some_iff] at h
      obtain ⟨ms, e, rfl⟩ := h
      simp [RpAll.bools t e]
    | _ => simp [boolsL] at h
theorem RpAll.of_ints : ∀ (ns : List Int), RpAll K H (ns.map V.int) (ns.map .int)
  | [] => .nil
  | n :: r => .cons (.int n) (RpAll.of_ints r)
theorem Rp.int_inv {v : V} {i : Int} (h : Rp K H v (.int i)) : v = .int i := by cases h; rfl
theorem Rp.bool_inv {v : V} {i : Bool} (h : Rp K H v (.bool i)) : v = .bl i := by cases h; rfl
theorem Rp.str_inv {v : V} {i : Str} (h : Rp K H v (.str i)) : v = .str i := by cases h; rfl
theorem Rp.none_inv {v : V} (h : Rp K H v .none) : v = .non := by cases h; rfl
theorem Rp.list_inv {v : V} {ds : List D} (h : Rp K H v (.list ds)) : ∃ a xs, v = .ref a ∧ H a = some (.lst xs) ∧ RpAll K H xs ds := by cases h; exact ⟨_, _, rfl, by assumption, by assumption⟩
theorem Rp.tup_inv {v : V} {ds : List D} (h : Rp K H v (.tuple ds)) : ∃ a xs, v = .ref a ∧ SqT K H a xs ∧ RpAll K H xs ds := by cases h; exact ⟨_, _, rfl, by assumption, by assumption⟩
end

/-- the heap without what is hidden -/
noncomputable def rst (H : Hp) (S : Addr → Prop) : Hp := fun b => if S b then none else H b
theorem rst_in {H : Hp} {S : Addr → Prop} {b : Addr} {o : HO} : rst H S b = some o ↔ H b = some o ∧ ¬ S b := by
  unfold rst; split <;> simp_all
theorem rst_same {H : Hp} {S : Addr → Prop} : Same (rst H S) H := fun b o h => (rst_in.mp h).1

/-- a list (later: a dict) of one's own -/
def OwR (K : PySem.W.Frag) (H Hm : Hp) (a : Addr) (d : D) : Prop := ∃ xs ds, d = .list ds ∧ H a = some (.lst xs) ∧ RpAll K Hm xs ds
/-- a list that is only read -/
def FzR (K : PySem.W.Frag) (Hm : Hp) (a : Addr) (d : D) : Prop := ∃ xs ds, d = .list ds ∧ SqL K Hm a xs ∧ RpAll K Hm xs ds
abbrev At (σ : St) (i : Nat) (v : V) : Prop := σ[i]? = some (some v)
theorem At.inj {σ : St} {i : Nat} {v w : V} (h : At σ i v) (g : At σ i w) : v = w := Option.some.inj (Option.some.inj (h.symm.trans g))
theorem At.ref {σ : St} {i : Nat} {v w : Addr} (h : At σ i (.ref v)) (g : At σ i (.ref w)) : v = w := V.ref.inj (h.inj g)
def OwA (e : En) (σ : St) (b : Addr) : Prop := ∃ i d, muta (get e i) = some d ∧ At σ i (.ref b)
def HeldA (e : En) (σ : St) (i : Nat) (b : Addr) : Prop := (∃ d, hel (get e i) = some d) ∧ At σ i (.ref b)
/-- the evaluator's environment stands for slots and heap; S: what is hidden -/
structure Rel (K : PySem.W.Frag) (S : Addr → Prop) (e : En) (σ : St) (H : Hp) : Prop where
  len : σ.length = e.length
  sh : ∀ i d, get e i = .sh d → ∃ v, At σ i v ∧ Rp K (rst H S) v d
  held : ∀ i d, hel (get e i) = some d → ∃ a, At σ i (.ref a) ∧ S a ∧ OwR K H (rst H S) a d
  fz : ∀ i d, get e i = .fz d → ∃ a, At σ i (.ref a) ∧ FzR K (rst H S) a d
  inj : ∀ i j b, HeldA e σ i b → HeldA e σ j b → i = j
  trk : ∀ b, S b → H b ≠ none
/-- what a stretch of evaluation leaves -/
structure Tr (σ : St) (S : Addr → Prop) (e : En) (H : Hp) (S' : Addr → Prop) (e' : En) (H' : Hp) : Prop where
  fr : ∀ b o, H b = some o → ¬ OwA e σ b → H' b = some o
  dom : ∀ b, H b ≠ none → H' b ≠ none
  gr : ∀ b o, H b = some o → ¬ S b → ¬ S' b
  hid : ∀ b, S b → ¬ OwA e σ b → S' b
  own : ∀ i d, get e' i = .ow d → ∃ d0, get e i = .ow d0
  io : ∀ i, (∃ d, get e i = .io d) ↔ ∃ d, get e' i = .io d
  le : ∀ i d, get e i = .le d ↔ get e' i = .le d
  len : e'.length = e.length
theorem mut_hel {c : Cl} {d : D} (h : muta c = some d) : hel c = some d := by cases c <;> first | exact h | cases h
theorem mut_cases {c : Cl} {d : D} (h : muta c = some d) : c = .ow d ∨ c = .io d := by cases c <;> first | (cases h; exact .inl rfl) | (cases h; exact .inr rfl) | cases h
section
variable {K : PySem.W.Frag} {σ : St} {S S' S'' : Addr → Prop} {e e' e'' : En} {H H' H'' : Hp}
theorem OwA.held {b : Addr} (h : OwA e σ b) : ∃ i, HeldA e σ i b := by
  obtain ⟨i, d, h1, h2⟩ := h
  exact ⟨i, ⟨d, mut_hel h1⟩, h2⟩
theorem Tr.refl : Tr σ S e H S e H := ⟨fun _ _ h _ => h, fun _ h => h, fun _ _ _ h => h, fun _ h _ => h, fun _ d h => ⟨d, h⟩, fun _ => Iff.rfl, fun _ _ => Iff.rfl, rfl⟩
theorem Tr.owa (t : Tr σ S e H S' e' H') {b : Addr} (h : OwA e' σ b) : OwA e σ b := by
  obtain ⟨i, d, h1, h2⟩ := h
  rcases mut_cases h1 with h1 | h1
  · obtain ⟨d0, h3⟩ := t.own i d h1
    exact ⟨i, d0, by rw [h3]; rfl, h2⟩
  · obtain ⟨d0, h3⟩ := (t.io i).mpr ⟨d, h1⟩
    exact ⟨i, d0, by rw [h3]; rfl, h2⟩
theorem Tr.trans (t : Tr σ S e H S' e' H') (u : Tr σ S' e' H' S'' e'' H'') : Tr σ S e H S'' e'' H'' where
  fr := fun b o h n => u.fr b o (t.fr b o h n) fun q => n (t.owa q)
  dom := fun b h => u.dom b (t.dom b h)
  gr := fun b o h n => by
    have hd := t.dom b (by rw [h]; simp)
    obtain ⟨o', ho'⟩ := Option.ne_none_iff_exists'.mp hd
    exact u.gr b o' ho' (t.gr b o h n)
  hid := fun b h n => u.hid b (t.hid b h n) fun q => n (t.owa q)
  own := fun i d h => by
    obtain ⟨d1, h1⟩ := u.own i d h
    exact t.own i d1 h1
  io := fun i => (t.io i).trans (u.io i)
  le := fun i d => (t.le i d).trans (u.le i d)
  len := u.len.trans t.len
theorem Rel.not_held (r : Rel K S e σ H) {b : Addr} (h : ¬ S b) {i : Nat} : ¬ HeldA e σ i b := fun ⟨⟨d, h1⟩, h2⟩ => by
  obtain ⟨a, h3, h4, _⟩ := r.held i d h1
  exact h (h2.ref h3 ▸ h4)
theorem Rel.not_ow (r : Rel K S e σ H) {b : Addr} (h : ¬ S b) : ¬ OwA e σ b := fun q => by
  obtain ⟨i, hi⟩ := q.held
  exact r.not_held h hi
theorem Tr.same (r : Rel K S e σ H) (t : Tr σ S e H S' e' H') : Same (rst H S) (rst H' S') := fun b o h => by
  obtain ⟨h1, h2⟩ := rst_in.mp h
  exact rst_in.mpr ⟨t.fr b o h1 (r.not_ow h2), t.gr b o h1 h2⟩
/-- at an owned slot no lent one is -/
theorem Rel.le_not_ow (r : Rel K S e σ H) {i : Nat} {d : D} {a : Addr} (h : get e i = .le d) (ha : At σ i (.ref a)) : ¬ OwA e σ a := fun ⟨j, d', h1, h2⟩ => by
  have := r.inj i j a ⟨⟨d, by rw [h]; rfl⟩, ha⟩ ⟨⟨d', mut_hel h1⟩, h2⟩
  subst this
  rw [h] at h1
  cases h1

/-! ### small facts of environments -/
theorem get_put_self {e : En} {i : Nat} {c : Cl} (h : i < e.length) : get (put e i c) i = c := by
  unfold get put; rw [List.getD_eq_getElem?_getD, List.getElem?_set_self h]; rfl
theorem get_put_ne {e : En} {i j : Nat} {c : Cl} (h : i ≠ j) : get (put e i c) j = get e j := by
  unfold get put; rw [List.getD_eq_getElem?_getD, List.getElem?_set_ne h, List.getD_eq_getElem?_getD]
theorem put_len {e : En} {i : Nat} {c : Cl} : (put e i c).length = e.length := by unfold put; simp
theorem get_lt {e : En} {i : Nat} (h : get e i ≠ .un) : i < e.length := by
  by_cases q : i < e.length
  · exact q
  · exact absurd (by unfold get; rw [List.getD_eq_getElem?_getD, List.getElem?_eq_none (by omega)]; rfl) h
theorem get_put {e : En} {i j : Nat} {c d : Cl} (h : get (put e i c) j = d) (hd : d ≠ .un) : (i = j ∧ d = c ∧ i < e.length) ∨ (i ≠ j ∧ get e j = d) := by
  by_cases q : i = j
  · subst q
    have hl : i < e.length := by
      have := get_lt (e := put e i c) (i := i) (by rw [h]; exact hd)
      rwa [put_len] at this
    rw [get_put_self hl] at h
    exact .inl ⟨rfl, h.symm, hl⟩
  · rw [get_put_ne q] at h
    exact .inr ⟨q, h⟩

/-- the heap's shared part grows: what was said of it stays -/
theorem Rel.grow (r : Rel K S e σ H) (sm : Same (rst H S) (rst H' S')) (k : ∀ i b o, HeldA e σ i b → H b = some o → H' b = some o ∧ S' b) (tk : ∀ b, S' b → H' b ≠ none) : Rel K S' e σ H' := by
  refine ⟨r.len, fun j d q => ?_, fun j d q => ?_, fun j d q => ?_, r.inj, tk⟩
  · obtain ⟨v, h1, h2⟩ := r.sh j d q
    exact ⟨v, h1, h2.mono sm⟩
  · obtain ⟨b, h1, h2, ys, es, h3, h4, h5⟩ := r.held j d q
    obtain ⟨k1, k2⟩ := k j b _ ⟨⟨d, q⟩, h1⟩ h4
    exact ⟨b, h1, k2, ys, es, h3, k1, h5.mono sm⟩
  · obtain ⟨b, h1, ys, es, h3, h4, h5⟩ := r.fz j d q
    exact ⟨b, h1, ys, es, h3, Same.seq sm h4, h5.mono sm⟩
/-- a slot's cell is replaced -/
theorem Rel.putc {i : Nat} {c : Cl} {σ' : St} {v : V} (r : Rel K S e σ H) (hi : i < e.length) (hσ : ∀ j, j ≠ i → σ'[j]? = σ[j]?) (hl : σ'.length = σ.length) (hv : At σ' i v)
    (hc : match c with
      | .un => True
      | .sh d => Rp K (rst H S) v d
      | .fz d => ∃ a, v = .ref a ∧ FzR K (rst H S) a d
      | c => ∃ a d, hel c = some d ∧ v = .ref a ∧ S a ∧ OwR K H (rst H S) a d ∧ ∀ j, j ≠ i → ¬ HeldA e σ j a) : Rel K S (PV.put e i c) σ' H := by
  have cas : ∀ j, (j = i ∧ get (PV.put e i c) j = c) ∨ (j ≠ i ∧ get (PV.put e i c) j = get e j ∧ σ'[j]? = σ[j]?) := fun j => by
    by_cases q : j = i
    · subst q; exact .inl ⟨rfl, get_put_self hi⟩
    · exact .inr ⟨q, get_put_ne fun z => q z.symm, hσ j q⟩
  have hs : ∀ d, hel c = some d → ∃ a, v = .ref a ∧ S a ∧ OwR K H (rst H S) a d ∧ ∀ j, j ≠ i → ¬ HeldA e σ j a := fun d hd => by
    cases c with
    | un => cases hd
    | sh _ => cases hd
    | fz _ => cases hd
    | _ =>
      obtain ⟨a, d', h1, h2, h3, h4, h5⟩ := hc
      rw [hd] at h1
      cases h1
      exact ⟨a, h2, h3, h4, h5⟩
  have back : ∀ j b, HeldA (PV.put e i c) σ' j b → (j = i ∧ v = .ref b) ∨ (j ≠ i ∧ HeldA e σ j b) := fun j b ⟨⟨d, h1⟩, h2⟩ => by
    rcases cas j with ⟨q, w⟩ | ⟨q, w, z⟩
    · subst q; exact .inl ⟨rfl, hv.inj h2⟩
    · rw [w] at h1
      exact .inr ⟨q, ⟨d, h1⟩, by unfold At; rw [← z]; exact h2⟩
  refine ⟨by rw [put_len, hl]; exact r.len, fun j d q => ?_, fun j d q => ?_, fun j d q => ?_, fun j k b hj hk => ?_, r.trk⟩
  · rcases cas j with ⟨z, w⟩ | ⟨z, w, y⟩
    · subst z
      rw [w] at q; subst q
      exact ⟨v, hv, hc⟩
    · rw [w] at q
      obtain ⟨x, h1, h2⟩ := r.sh j d q
      exact ⟨x, by unfold At; rw [y]; exact h1, h2⟩
  · rcases cas j with ⟨z, w⟩ | ⟨z, w, y⟩
    · subst z
      rw [w] at q
      obtain ⟨a, h2, h3, h4, _⟩ := hs d q
      exact ⟨a, h2 ▸ hv, h3, h4⟩
    · rw [w] at q
      obtain ⟨x, h1, h2⟩ := r.held j d q
      exact ⟨x, by unfold At; rw [y]; exact h1, h2⟩
  · rcases cas j with ⟨z, w⟩ | ⟨z, w, y⟩
    · subst z
      rw [w] at q; subst q
      obtain ⟨a, h1, h2⟩ := hc
      exact ⟨a, h1 ▸ hv, h2⟩
    · rw [w] at q
      obtain ⟨x, h1, h2⟩ := r.fz j d q
      exact ⟨x, by unfold At; rw [y]; exact h1, h2⟩
  · rcases back j b hj with ⟨z, w⟩ | ⟨z, w⟩
    · rcases back k b hk with ⟨z2, w2⟩ | ⟨z2, w2⟩
      · rw [z, z2]
      · exfalso
        obtain ⟨⟨d, h1⟩, _⟩ := hj
        rcases cas j with ⟨_, w3⟩ | ⟨q, _⟩
        · rw [w3] at h1
          obtain ⟨a, h2, _, _, h5⟩ := hs d h1
          rw [w] at h2
          cases h2
          exact h5 k z2 w2
        · exact q z
    · rcases back k b hk with ⟨z2, w2⟩ | ⟨z2, w2⟩
      · exfalso
        obtain ⟨⟨d, h1⟩, _⟩ := hk
        rcases cas k with ⟨_, w3⟩ | ⟨q, _⟩
        · rw [w3] at h1
          obtain ⟨a, h2, _, _, h5⟩ := hs d h1
          rw [w2] at h2
          cases h2
          exact h5 j z w
        · exact q z2
      · exact r.inj j k b w w2
/-- a list of one's own is given away -/
theorem Rel.freeze (r : Rel K S e σ H) {i : Nat} {d : D} (h : get e i = .ow d) : ∃ a, At σ i (.ref a) ∧ S a ∧ Rel K (fun b => S b ∧ b ≠ a) (put e i (.sh d)) σ H ∧
    Tr σ S e H (fun b => S b ∧ b ≠ a) (put e i (.sh d)) H ∧ Rp K (rst H fun b => S b ∧ b ≠ a) (.ref a) d := by
  obtain ⟨a, ha, hS, xs, ds, rfl, hH, hx⟩ := r.held i d (by rw [h]; rfl)
  have hl := get_lt (e := e) (i := i) (by rw [h]; simp)
  have sm : Same (rst H S) (rst H fun b => S b ∧ b ≠ a) := fun b o q => by
    obtain ⟨h1, h2⟩ := rst_in.mp q
    exact rst_in.mpr ⟨h1, fun z => h2 z.1⟩
  have rp : Rp K (rst H fun b => S b ∧ b ≠ a) (.ref a) (.list ds) := .lst (rst_in.mpr ⟨hH, fun z => z.2 rfl⟩) (hx.mono sm)
  have hA : HeldA e σ i a := ⟨⟨_, by rw [h]; rfl⟩, ha⟩
  -- first the slot is emptied, then the set shrinks, then it is filled
  have r1 : Rel K S (put e i .un) σ H := r.putc (v := .ref a) hl (fun _ _ => rfl) rfl ha trivial
  have nh : ∀ j, ¬ HeldA (put e i .un) σ j a := fun j ⟨⟨d, h1⟩, h2⟩ => by
    by_cases q : i = j
    · subst q; rw [get_put_self hl] at h1; cases h1
    · rw [get_put_ne q] at h1
      exact q (r.inj i j a hA ⟨⟨d, h1⟩, h2⟩)
  have r2 : Rel K (fun b => S b ∧ b ≠ a) (put e i .un) σ H := r1.grow sm (fun j b o hb ho => by
    obtain ⟨⟨d, h1⟩, h2⟩ := id hb
    obtain ⟨c, h3, h4, _⟩ := r1.held j d h1
    exact ⟨ho, h2.ref h3 ▸ h4, fun z => nh j (z ▸ hb)⟩) fun b q => r.trk b q.1
  have r3 := r2.putc (i := i) (c := .sh (.list ds)) (v := .ref a) (by rw [put_len]; exact hl) (fun _ _ => rfl) rfl ha rp
  have pp : PV.put (PV.put e i .un) i (.sh (.list ds)) = PV.put e i (.sh (.list ds)) := by unfold PV.put; rw [List.set_set]
  rw [pp] at r3
  have old : ∀ {j c}, c ≠ Cl.un → get (put e i (.sh (.list ds))) j = c → c ≠ .sh (.list ds) → j ≠ i ∧ get e j = c := fun {j c} hc q hn => by
    rcases get_put q hc with ⟨_, z, _⟩ | ⟨z, w⟩
    · exact absurd z hn
    · exact ⟨fun y => z y.symm, w⟩
  refine ⟨a, ha, hS, r3, ⟨fun _ _ h _ => h, fun _ h => h, fun b o h1 h2 h3 => h2 h3.1, fun b h1 h2 => ⟨h1, fun z => h2 (z ▸ ⟨i, _, by rw [h]; rfl, ha⟩)⟩, fun j d q => ⟨d, (old (by simp) q (by simp)).2⟩, fun j => ?_, fun j d => ?_, put_len⟩, rp⟩
  · constructor
    · rintro ⟨d, q⟩
      have : i ≠ j := fun z => by subst z; rw [h] at q; cases q
      exact ⟨d, by rw [get_put_ne this]; exact q⟩
    · rintro ⟨d, q⟩
      exact ⟨d, (old (by simp) q (by simp)).2⟩
  · constructor
    · intro q
      have : i ≠ j := fun z => by subst z; rw [h] at q; cases q
      rw [get_put_ne this]; exact q
    · intro q
      exact (old (by simp) q (by simp)).2
/-- a fresh list that nobody keeps any more is an ordinary one -/
theorem Rel.unhide {p : Addr} (r : Rel K S e σ H) (hp : ∀ i, ¬ HeldA e σ i p) : Rel K (fun b => S b ∧ b ≠ p) e σ H := by
  have sm : Same (rst H S) (rst H fun b => S b ∧ b ≠ p) := fun b o q => by
    obtain ⟨h1, h2⟩ := rst_in.mp q
    exact rst_in.mpr ⟨h1, fun z => h2 z.1⟩
  refine r.grow sm (fun j b o hb ho => ?_) fun b q => r.trk b q.1
  obtain ⟨⟨d, h1⟩, h2⟩ := id hb
  obtain ⟨c, h3, h4, _⟩ := r.held j d h1
  exact ⟨ho, h2.ref h3 ▸ h4, fun z => hp j (z ▸ hb)⟩
/-- a new object laid, not hidden -/
theorem Rel.lay {p : Addr} {o : HO} (r : Rel K S e σ H) (hp : H p = none) : Rel K S e σ (upd H p o) ∧ Tr σ S e H S e (upd H p o) ∧ Same (rst H S) (rst (upd H p o) S) ∧ ¬ S p := by
  have hS : ¬ S p := fun z => r.trk p z hp
  have k : ∀ b x, H b = some x → upd H p o b = some x := fun b x q => by rw [upd_ne (ne_of_none q hp)]; exact q
  have kn : ∀ b, H b ≠ none → upd H p o b ≠ none := fun b q => by
    obtain ⟨x, hx⟩ := Option.ne_none_iff_exists'.mp q
    rw [k b x hx]; simp
  have sm : Same (rst H S) (rst (upd H p o) S) := fun b x q => by
    obtain ⟨h1, h2⟩ := rst_in.mp q
    exact rst_in.mpr ⟨k b x h1, h2⟩
  refine ⟨r.grow sm (fun j b x hb hx => ⟨k b x hx, ?_⟩) fun b q => kn b (r.trk b q), ⟨fun b x q _ => k b x q, kn, fun _ _ _ q => q, fun _ q _ => q, fun j d q => ⟨d, q⟩, fun _ => Iff.rfl, fun _ _ => Iff.rfl, rfl⟩, sm, hS⟩
  obtain ⟨⟨d, h1⟩, h2⟩ := hb
  obtain ⟨c, h3, h4, _⟩ := r.held j d h1
  exact h2.ref h3 ▸ h4
/-- .. hidden -/
theorem Rel.layH {p : Addr} {o : HO} (r : Rel K S e σ H) (hp : H p = none) : Rel K (fun b => S b ∨ b = p) e σ (upd H p o) ∧ Tr σ S e H (fun b => S b ∨ b = p) e (upd H p o) ∧
    Same (rst H S) (rst (upd H p o) fun b => S b ∨ b = p) ∧ ∀ i, ¬ HeldA e σ i p := by
  have hS : ¬ S p := fun z => r.trk p z hp
  have k : ∀ b x, H b = some x → upd H p o b = some x := fun b x q => by rw [upd_ne (ne_of_none q hp)]; exact q
  have kn : ∀ b, H b ≠ none → upd H p o b ≠ none := fun b q => by
    obtain ⟨x, hx⟩ := Option.ne_none_iff_exists'.mp q
    rw [k b x hx]; simp
  have ne : ∀ b x, H b = some x → b ≠ p := fun b x q => ne_of_none q hp
  have sm : Same (rst H S) (rst (upd H p o) fun b => S b ∨ b = p) := fun b x q => by
    obtain ⟨h1, h2⟩ := rst_in.mp q
    exact rst_in.mpr ⟨k b x h1, fun z => z.elim h2 (ne b x h1)⟩
  refine ⟨r.grow sm (fun j b x hb hx => ⟨k b x hx, .inl ?_⟩) fun b q => ?_, ⟨fun b x q _ => k b x q, kn, fun b x q n z => z.elim n (ne b x q), fun _ q _ => .inl q, fun j d q => ⟨d, q⟩, fun _ => Iff.rfl, fun _ _ => Iff.rfl, rfl⟩, sm, fun i => r.not_held hS⟩
  · obtain ⟨⟨d, h1⟩, h2⟩ := hb
    obtain ⟨c, h3, h4, _⟩ := r.held j d h1
    exact h2.ref h3 ▸ h4
  · by_cases z : b = p
    · subst z; rw [upd_same]; simp
    · exact kn b (r.trk b (q.elim id fun y => absurd y z))
end

/-! ### the readings -/
/-- an expression's value: shared, or a new list of one's own -/
def RV (K : PySem.W.Frag) (H : Hp) (σ : St) (S' : Addr → Prop) (e' : En) (H' : Hp) (v : V) : Cl → Prop
  | .sh d => Rp K (rst H' S') v d
  | .ow d => ∃ p, v = .ref p ∧ H p = none ∧ S' p ∧ (∀ i, ¬ HeldA e' σ i p) ∧ OwR K H' (rst H' S') p d
  | _ => False
/-- how an exception's datum stands for it -/
def RX (K : PySem.W.Frag) (x : D) (C : Value) (da : Option Addr) (H' : Hp) : Prop := False
def Post (W : WX) (K : PySem.W.Frag) (σ : St) (S : Addr → Prop) (e : En) (H : Hp) {α : Type} (r : R (α × En)) (k : α → (Addr → Prop) → En → Hp → Prop) : Prop :=
  match r with
  | .ok (a, e') => ∀ S' H', Rel K S' e' σ H' → Tr σ S e H S' e' H' → k a S' e' H'
  | .rz x e' => ∀ C da S' H', Rel K S' e' σ H' → Tr σ S e H S' e' H' → RX K x C da H' → W C da σ H'
  | .no => False
section
variable {W : WX} {K : PySem.W.Frag} {σ : St} {S S' S'' : Addr → Prop} {e e' e'' : En} {H H' H'' : Hp} {α β : Type}
theorem Post.mono {r : R (α × En)} {k k' : α → (Addr → Prop) → En → Hp → Prop} (h : Post W K σ S e H r k) (m : ∀ a S' e' H', r = .ok (a, e') → Rel K S' e' σ H' → Tr σ S e H S' e' H' → k a S' e' H' → k' a S' e' H') : Post W K σ S e H r k' := by
  cases r with
  | ok a =>
    obtain ⟨a, e'⟩ := a
    exact fun S' H' r t => m a S' e' H' rfl r t (h S' H' r t)
  | rz x e' => exact h
  | no => exact h
theorem Post.bind {r : R (α × En)} {f : α × En → R (β × En)} {k : β → (Addr → Prop) → En → Hp → Prop} (h : Post W K σ S e H (r.bind f) k) :
    Post W K σ S e H r fun a S1 e1 H1 => Post W K σ S1 e1 H1 (f (a, e1)) fun b S2 e2 H2 => Tr σ S e H S2 e2 H2 → k b S2 e2 H2 := by
  cases r with
  | ok a =>
    obtain ⟨a, e1⟩ := a
    intro S1 H1 r1 t1
    have h : Post W K σ S e H (f (a, e1)) k := h
    show Post W K σ S1 e1 H1 (f (a, e1)) _
    cases q : f (a, e1) with
    | ok b =>
      obtain ⟨b, e2⟩ := b
      rw [q] at h
      exact fun S2 H2 r2 t2 t => h S2 H2 r2 t
    | rz x e2 =>
      rw [q] at h
      exact fun C da S2 H2 r2 t2 z => h C da S2 H2 r2 (t1.trans t2) z
    | no =>
      rw [q] at h
      exact h
  | rz x e' => exact h
  | no => exact h
theorem Post.lift {o : Option β} {f : β → R (α × En)} {k : α → (Addr → Prop) → En → Hp → Prop} (h : Post W K σ S e H ((lift o).bind f) k) : ∃ b, o = some b ∧ Post W K σ S e H (f b) k := by
  cases o with
  | none => exact h.elim
  | some b => exact ⟨b, rfl, h⟩
theorem Post.now {a : α} {k : α → (Addr → Prop) → En → Hp → Prop} (r : Rel K S e σ H) (h : Post W K σ S e H (.ok (a, e)) k) : k a S e H := h S H r .refl
def tEv (W : WX) (K : PySem.W.Frag) (f : En → R (Cl × En)) : TE := fun σ H Q => ∃ S e, Rel K S e σ H ∧ Post W K σ S e H (f e) fun r S' e' H' => ∀ v, RV K H σ S' e' H' v r → Q v H'
/-- an operand's value, if it was evaluated -/
def OpV (K : PySem.W.Frag) (σ : St) (S' : Addr → Prop) (H' : Hp) (v : V) : Op → Prop
  | .val d => Rp K (rst H' S') v d
  | .slot i => At σ i v
def tOpd (W : WX) (K : PySem.W.Frag) (f : En → R (Op × En)) : TE := fun σ H Q => ∃ S e, Rel K S e σ H ∧ Post W K σ S e H (f e) fun r S' e' H' => ∀ v, OpV K σ S' H' v r → Q v H'
def tVal (W : WX) (K : PySem.W.Frag) (f : En → R (D × En)) : TE := fun σ H Q => ∃ S e, Rel K S e σ H ∧ Post W K σ S e H (f e) fun r S' e' H' => ∀ v, Rp K (rst H' S') v r → Q v H'
def tTst (W : WX) (K : PySem.W.Frag) (f : En → R (Bool × En)) : TT := fun σ H Q => ∃ S e, Rel K S e σ H ∧ Post W K σ S e H (f e) fun r S' e' H' => Q r H'
def tOps (W : WX) (K : PySem.W.Frag) (f : En → R (List Op × En)) : TA := fun σ H Q => ∃ S e, Rel K S e σ H ∧ Post W K σ S e H (f e) fun r S' e' H' => ∀ v, Paired (OpV K σ S' H') v r → Q v H'
def tVals (W : WX) (K : PySem.W.Frag) (f : En → R (List D × En)) : TA := fun σ H Q => ∃ S e, Rel K S e σ H ∧ Post W K σ S e H (f e) fun r S' e' H' => ∀ v, RpAll K (rst H' S') v r → Q v H'

theorem wPE {X : Cx} {x : Expr} {t t' : TE} (h : PE X x t) (w : ∀ σ H Q, t' σ H Q → t σ H Q) : PE X x t' := ⟨fun pins s σ H Q I q => h.run pins s σ H Q I (w σ H Q q)⟩
theorem wPT {X : Cx} {x : Expr} {t t' : TT} (h : PT X x t) (w : ∀ σ H Q, t' σ H Q → t σ H Q) : PT X x t' := ⟨fun pins s σ H Q I q => h.run pins s σ H Q I (w σ H Q q)⟩
theorem wPA {X : Cx} {x : List Expr} {t t' : TA} (h : PA X x t) (w : ∀ σ H Q, t' σ H Q → t σ H Q) : PA X x t' := ⟨fun p pins s σ H Q I q => h.run p pins s σ H Q I (w σ H Q q)⟩
theorem wPS {X : Cx} {x : Stmt} {t t' : TS} (h : PS X x t) (w : ∀ D σ H, t' D σ H → t D σ H) : PS X x t' := ⟨fun pins s σ H D I q => h.run pins s σ H D I (w D σ H q)⟩
theorem wPSs {X : Cx} {x : List Stmt} {t t' : TS} (h : PSs X x t) (w : ∀ D σ H, t' D σ H → t D σ H) : PSs X x t' := ⟨fun pins s σ H D I q => h.run pins s σ H D I (w D σ H q)⟩
theorem wPI {X : Cx} {tg x : Expr} {t t' : TI} (h : PI X tg x t) (w : ∀ σ H R, t' σ H R → t σ H R) : PI X tg x t' := ⟨fun pins s σ H D I q => h.run pins s σ H D I (w σ H D q)⟩

theorem RV.dom {r : Cl} {v : V} (h : RV K H' σ S'' e'' H'' v r) (t : Tr σ S e H S' e' H') : RV K H σ S'' e'' H'' v r := by
  cases r with
  | ow d =>
    obtain ⟨p, h1, h2, h3⟩ := h
    refine ⟨p, h1, ?_, h3⟩
    cases q : H p with
    | none => rfl
    | some o => exact absurd h2 (t.dom p (by rw [q]; simp))
  | _ => exact h
/-- a fresh value given away -/
theorem RV.give {r : Cl} {v : V} {d : D} (R0 : Rel K S' e' σ H') (t : Tr σ S e H S' e' H') (tk : ∀ b, S b → H b ≠ none) (h : RV K H σ S' e' H' v r) (hd : valOf r = some d) : ∃ S'', Rel K S'' e' σ H' ∧ Tr σ S e H S'' e' H' ∧ Rp K (rst H' S'') v d := by
  cases r with
  | sh x => cases hd; exact ⟨S', R0, t, h⟩
  | ow x =>
    cases hd
    obtain ⟨p, rfl, hn, hS, hh, xs, ds, rfl, hH, hx⟩ := h
    refine ⟨fun b => S' b ∧ b ≠ p, R0.unhide hh, ⟨t.fr, t.dom, fun b o h1 h2 h3 => t.gr b o h1 h2 h3.1, fun b h1 h2 => ⟨t.hid b h1 h2, fun z => tk b h1 (z ▸ hn)⟩, t.own, t.io, t.le, t.len⟩, .lst (rst_in.mpr ⟨hH, fun z => z.2 rfl⟩) (hx.mono fun b o q => ?_)⟩
    obtain ⟨h1, h2⟩ := rst_in.mp q
    exact rst_in.mpr ⟨h1, fun z => h2 z.1⟩
  | _ => exact h.elim
theorem val_of {X : Cx} {x : Expr} {f : En → R (Cl × En)} (h : PE X x (tEv W K f)) : PE X x (tVal W K (valR f)) := by
  refine wPE h fun σ H Q ⟨S, e, R0, P⟩ => ⟨S, e, R0, ?_⟩
  refine (Post.bind P).mono fun r S1 e1 H1 hr R1 t1 P1 v hv => ?_
  cases q : valOf r with
  | none => simp only [q] at P1; exact P1.elim
  | some d =>
    simp only [q] at P1
    obtain ⟨S2, R2, t2, rp⟩ := RV.give R1 t1 R0.trk hv q
    -- the value at the smaller hidden set
    have P := P
    unfold valR R.bind at P
    simp only [hr, q] at P
    exact P S2 H1 R2 t2 v rp
theorem opd_of {X : Cx} {x : Expr} {a : CE} {f : En → R (Cl × En)} (h : PE X x (tEv W K f)) (na : ∀ i, a ≠ .var i) : PE X x (tOpd W K (opOf a f)) := by
  refine wPE h fun σ H Q ⟨S, e, R0, P⟩ => ⟨S, e, R0, ?_⟩
  have ho : opOf a f e = (f e).bind fun (c, e) => match valOf c with
    | some d => .ok (.val d, e)
    | none => .no := by
    cases a with
    | var i => exact absurd rfl (na i)
    | _ => rfl
  rw [ho] at P
  refine (Post.bind P).mono fun r S1 e1 H1 hr R1 t1 P1 v hv => ?_
  cases q : valOf r with
  | none => simp only [q] at P1; exact P1.elim
  | some d =>
    obtain ⟨S2, R2, t2, rp⟩ := RV.give R1 t1 R0.trk hv q
    unfold R.bind at P
    simp only [hr, q] at P
    exact P S2 H1 R2 t2 v rp
theorem opd_var {X : Cx} {x : Expr} {i : Nat} {f : En → R (Cl × En)} (h : PE X x (tVar i)) : PE X x (tOpd W K (opOf (.var i) f)) := by
  refine wPE h fun σ H Q ⟨S, e, R0, P⟩ => ?_
  unfold opOf at P
  cases q : get e i with
  | un => simp only [q] at P; exact P.elim
  | sh d =>
    simp only [q] at P
    obtain ⟨v, h1, _⟩ := R0.sh i d q
    exact ⟨v, h1, P S H R0 .refl v h1⟩
  | ow d =>
    simp only [q] at P
    obtain ⟨v, h1, _⟩ := R0.held i d (by rw [q]; rfl)
    exact ⟨_, h1, P S H R0 .refl _ h1⟩
  | io d =>
    simp only [q] at P
    obtain ⟨v, h1, _⟩ := R0.held i d (by rw [q]; rfl)
    exact ⟨_, h1, P S H R0 .refl _ h1⟩
  | le d =>
    simp only [q] at P
    obtain ⟨v, h1, _⟩ := R0.held i d (by rw [q]; rfl)
    exact ⟨_, h1, P S H R0 .refl _ h1⟩
  | fz d =>
    simp only [q] at P
    obtain ⟨v, h1, _⟩ := R0.fz i d q
    exact ⟨_, h1, P S H R0 .refl _ h1⟩
/-! ### operands by values -/
def OpB (K : PySem.W.Frag) (S : Addr → Prop) (H : Hp) (v : V) (d : D) : Prop := Rp K (rst H S) v d ∨ ∃ a, v = .ref a ∧ OwR K H (rst H S) a d
def OpW (K : PySem.W.Frag) (S : Addr → Prop) (H : Hp) (v : V) (d : D) : Prop := OpB K S H v d ∨ ∃ a, v = .ref a ∧ FzR K (rst H S) a d
theorem OpV.mono {v : V} {o : Op} (R0 : Rel K S e σ H) (t : Tr σ S e H S' e' H') (h : OpV K σ S H v o) : OpV K σ S' H' v o := by
  cases o with
  | val d => exact Rp.mono (t.same R0) h
  | slot i => exact h
theorem OpV.get {v : V} {o : Op} {d : D} (R0 : Rel K S e σ H) (h : OpV K σ S H v o) (g : o.get e = some d) : OpB K S H v d := by
  cases o with
  | val d' => cases g; exact .inl h
  | slot i =>
    have g : valOf (PV.get e i) = some d := g
    cases q : PV.get e i with
    | sh d' =>
      rw [q] at g; cases g
      obtain ⟨w, h1, h2⟩ := R0.sh i _ q
      exact .inl (At.inj h h1 ▸ h2)
    | ow d' =>
      rw [q] at g; cases g
      obtain ⟨w, h1, _, h2⟩ := R0.held i d (by rw [q]; rfl)
      exact .inr ⟨w, At.inj h h1, h2⟩
    | io d' =>
      rw [q] at g; cases g
      obtain ⟨w, h1, _, h2⟩ := R0.held i d (by rw [q]; rfl)
      exact .inr ⟨w, At.inj h h1, h2⟩
    | le d' =>
      rw [q] at g; cases g
      obtain ⟨w, h1, _, h2⟩ := R0.held i d (by rw [q]; rfl)
      exact .inr ⟨w, At.inj h h1, h2⟩
    | un => rw [q] at g; cases g
    | fz d' => rw [q] at g; cases g
theorem OpV.getW {v : V} {o : Op} {d : D} (R0 : Rel K S e σ H) (h : OpV K σ S H v o) (g : o.getW e = some d) : OpW K S H v d := by
  cases o with
  | val d' => cases g; exact .inl (.inl h)
  | slot i =>
    have g : valW (PV.get e i) = some d := g
    cases q : PV.get e i with
    | sh d' =>
      rw [q] at g; cases g
      obtain ⟨w, h1, h2⟩ := R0.sh i _ q
      exact .inl (.inl (At.inj h h1 ▸ h2))
    | ow d' =>
      rw [q] at g; cases g
      obtain ⟨w, h1, _, h2⟩ := R0.held i d (by rw [q]; rfl)
      exact .inl (.inr ⟨w, At.inj h h1, h2⟩)
    | io d' =>
      rw [q] at g; cases g
      obtain ⟨w, h1, _, h2⟩ := R0.held i d (by rw [q]; rfl)
      exact .inl (.inr ⟨w, At.inj h h1, h2⟩)
    | le d' =>
      rw [q] at g; cases g
      obtain ⟨w, h1, _, h2⟩ := R0.held i d (by rw [q]; rfl)
      exact .inl (.inr ⟨w, At.inj h h1, h2⟩)
    | un => rw [q] at g; cases g
    | fz d' =>
      rw [q] at g; cases g
      obtain ⟨w, h1, h2⟩ := R0.fz i _ q
      exact .inr ⟨w, At.inj h h1, h2⟩
theorem OpB.full {v : V} {d : D} (h : OpB K S H v d) : Rp K H v d := by
  rcases h with h | ⟨a, rfl, xs, ds, rfl, hH, hx⟩
  · exact h.mono rst_same
  · exact .lst hH (hx.mono rst_same)
theorem OpB.list {v : V} {ds : List D} (h : OpB K S H v (.list ds)) : ∃ a xs, v = .ref a ∧ H a = some (.lst xs) ∧ RpAll K (rst H S) xs ds := by
  rcases h with h | ⟨a, rfl, xs, ds', e, hH, hx⟩
  · obtain ⟨a, xs, rfl, h1, h2⟩ := h.list_inv
    exact ⟨a, xs, rfl, rst_same _ _ h1, h2⟩
  · cases e
    exact ⟨a, xs, rfl, hH, hx⟩
theorem OpB.tuple {v : V} {ds : List D} (h : OpB K S H v (.tuple ds)) : ∃ a xs, v = .ref a ∧ SqT K H a xs ∧ RpAll K (rst H S) xs ds ∧ Rp K (rst H S) v (.tuple ds) := by
  rcases h with h | ⟨a, rfl, xs, ds', e, hH, hx⟩
  · obtain ⟨a, xs, rfl, h1, h2⟩ := h.tup_inv
    exact ⟨a, xs, rfl, seqT_mono rst_same h1, h2, .tup h1 h2⟩
  · cases e
theorem OpB.int {v : V} {i : Int} (h : OpB K S H v (.int i)) : v = .int i := h.full.int_inv
theorem OpB.bool {v : V} {i : Bool} (h : OpB K S H v (.bool i)) : v = .bl i := h.full.bool_inv
theorem OpB.str {v : V} {i : Str} (h : OpB K S H v (.str i)) : v = .str i := h.full.str_inv
theorem OpB.none {v : V} (h : OpB K S H v .none) : v = .non := h.full.none_inv
theorem OpW.list {v : V} {ds : List D} (h : OpW K S H v (.list ds)) : ∃ a xs, v = .ref a ∧ SqL K H a xs ∧ RpAll K (rst H S) xs ds := by
  rcases h with h | ⟨a, rfl, xs, ds', e, hH, hx⟩
  · obtain ⟨a, xs, rfl, h1, h2⟩ := h.list
    exact ⟨a, xs, rfl, .of h1, h2⟩
  · cases e
    exact ⟨a, xs, rfl, Same.seq rst_same hH, hx⟩
theorem OpW.b {v : V} {d : D} (h : OpW K S H v d) (n : ∀ ds, d ≠ .list ds) : OpB K S H v d := by
  rcases h with h | ⟨a, rfl, xs, ds', e, hH, hx⟩
  · exact h
  · exact absurd e (n _)
/-- what may be handed back -/
def FinOk (K : PySem.W.Frag) (S : Addr → Prop) (H : Hp) (Q : VK) : Cl → Prop
  | .sh d => (∀ v, Rp K (rst H S) v d → Q v H) ∧ (∀ ds, d = .tuple ds → ∀ p xs, H p = Option.none → RpAll K (rst H S) xs ds → Q (.ref p) (upd H p (.tup xs)))
  | .ow d => ∀ ds, d = .list ds → ∀ p xs, H p = Option.none → RpAll K (rst H S) xs ds → Q (.ref p) (upd H p (.lst xs))
  | _ => False
theorem Post.fin {Q : VK} {c : Cl} (R1 : Rel K S' e' σ H') (t1 : Tr σ S e H S' e' H') (h : Post W K σ S' e' H' (.ok (c, e')) fun r S2 e2 H2 => Tr σ S e H S2 e2 H2 → ∀ v, RV K H σ S2 e2 H2 v r → Q v H2) (hc : (∃ d, c = .sh d) ∨ ∃ ds, c = .ow (.list ds)) : FinOk K S' H' Q c := by
  rcases hc with ⟨d, rfl⟩ | ⟨ds, rfl⟩
  · refine ⟨fun v hv => h S' H' R1 .refl t1 v hv, fun ds e p xs hp hx => ?_⟩
    subst e
    obtain ⟨a, b, c, n⟩ := R1.lay (o := .tup xs) hp
    exact h S' _ a b (t1.trans b) _ (.tup (.inl (.inl (rst_in.mpr ⟨upd_same, n⟩))) (hx.mono c))
  · intro ds' e p xs hp hx
    cases e
    obtain ⟨a, b, c, n⟩ := R1.layH (o := .lst xs) hp
    refine h _ _ a b (t1.trans b) _ ⟨p, rfl, ?_, .inr rfl, n, xs, ds, rfl, upd_same, hx.mono c⟩
    cases q : H p with
    | none => rfl
    | some o => exact absurd hp (t1.dom p (by rw [q]; simp))
end
end PV
end
section
set_option maxHeartbeats 4000000
namespace PV
open PySem L2 Classical PyProof.Rows HT

/-! ### a tuple from behind -/
theorem adjust_rev (n : Nat) : Builtin.Slice.sliceAdjust none none (-1) (n : Int) = ((n : Int) - 1, -1) := by
  simp [Builtin.Slice.sliceAdjust]
theorem places_rev (n : Nat) : Builtin.Slice.slicePlaces ((n : Int) - 1) (-1) (-1) = n := by
  unfold Builtin.Slice.slicePlaces
  simp
  omega
theorem all_get {α : Type} : ∀ l : List α, (List.range l.length).filterMap (fun m => l[m]?) = l
  | [] => rfl
  | x :: l => by
    have h := all_get l
    rw [List.length_cons, List.range_succ_eq_map, List.filterMap_cons, List.filterMap_map]
    show x :: (List.range l.length).filterMap (fun m => l[m]?) = _
    rw [h]
theorem fm_congr {α β : Type} {f g : α → Option β} : ∀ {l : List α}, (∀ x ∈ l, f x = g x) → l.filterMap f = l.filterMap g
  | [], _ => rfl
  | x :: l, h => by
    rw [List.filterMap_cons, List.filterMap_cons, h x List.mem_cons_self, fm_congr fun y hy => h y (List.mem_cons_of_mem _ hy)]
theorem pick_rev (xs : Array Value) : ((List.range xs.size).filterMap fun (m : Nat) => xs[(((xs.size : Int) - 1) + (m : Int) * (-1)).toNat]?).toArray = xs.toList.reverse.toArray := by
  congr 1
  have h := all_get xs.toList.reverse
  rw [List.length_reverse, Array.length_toList] at h
  rw [← h]
  apply fm_congr
  intro m hm
  have hm : m < xs.size := List.mem_range.mp hm
  rw [List.getElem?_reverse (by rw [Array.length_toList]; exact hm), Array.length_toList, Array.getElem?_toList]
  congr 1
  omega
section
variable {prog : Program} {w : World} {A : Around} {E : Value → Shared → Prop} {s : Shared}
theorem applied_rev {sl : Addr} {vl vu vs : Value} {n : Nat} {Q : Int × Int × Nat → Shared → Prop} (hs : s.heap.IsSliceOf sl vl vu vs) (pl : IsPart vl none) (pu : IsPart vu none) (ps : IsPart vs (some (-1))) (h : Q ((n : Int) - 1, -1, n) s) :
    wpAny (model prog w) A (Builtin.Slice.sliceApplied (.ref sl) (pure (n : Int))) Q E s := by
  obtain ⟨os, o1, o2, o3⟩ := id hs
  unfold Builtin.Slice.sliceApplied Builtin.Slice.sliceFields
  refine wpAny_bind (wpAny_bind (wpAny_field o1 o3 (x := vl) rfl (wpAny_bind (wpAny_field o1 o3 (x := vu) rfl (wpAny_bind (wpAny_field o1 o3 (x := vs) rfl (wpAny_pure ?_)))))))
  refine wpAny_bind (slicePart_ ps ?_)
  show wpAny _ _ (if ((-1 : Int) == 0) = true then _ else _) _ _ s
  rw [if_neg (by decide)]
  refine wpAny_bind (slicePart_ pl (wpAny_bind (slicePart_ pu (wpAny_bind (wpAny_pure ?_)))))
  show wpAny _ _ (match Builtin.Slice.sliceAdjust none none (-1) (n : Int) with | (a, b) => pure (a, (-1 : Int), Builtin.Slice.slicePlaces a b (-1))) _ _ s
  rw [adjust_rev n]
  show wpAny _ _ (pure (((n : Int) - 1), (-1 : Int), Builtin.Slice.slicePlaces ((n : Int) - 1) (-1) (-1))) _ _ s
  rw [places_rev]
  exact wpAny_pure h
theorem item_rev {t sl : Addr} {xs : Array Value} {vl vu vs : Value} {Q : Value → Shared → Prop} (ht : IsTup s.heap t xs) (hs : s.heap.IsSliceOf sl vl vu vs) (pl : IsPart vl none) (pu : IsPart vu none) (ps : IsPart vs (some (-1)))
    (h : Q (.ref s.heap.objs.size) { s with heap := s.heap.push { cls := .type "tuple", data := .seq xs.toList.reverse.toArray } }) (hz : xs.size ≤ sizeLine) : wpAny (model prog w) A (getItem (.ref t) (.ref sl)) Q E s := by
  have hk : sizeOk (.seq xs.toList.reverse.toArray) := by show xs.toList.reverse.toArray.size ≤ sizeLine; simpa using hz
  obtain ⟨os, o1, o2, o3⟩ := id hs
  have hT : s.TypeIs (.ref sl) "slice" := ⟨os, o1, o2⟩
  unfold getItem
  try with_reducible refine wpAny_holding ?_
  first | refine wpAny_bind (wpAny_pure ?_) | skip
  refine wpAny_bind (wpAny_sequenceKey ht.typeIs (by decide) (wpAny_bind (wpAny_callSpecial?_slot (name := Str.ofString "__getitem__") ht.typeIs PyProof.Rows.slot_tuple_getitem (wpAny_call_entry PyProof.Rows.slot_tuple_getitem ht.typeIs entry_tuple_getitem ?_ (args_tuple_getitem _ _)))))
  show wpAny _ _ (Builtin.Tuple.tupleItemsOf (.ref t) >>= _) _ _ s
  refine wpAny_bind (tupleItemsOf_ ht (wpAny_bind (wpAny_typeOf hT ?_)))
  rw [if_pos (by decide)]
  refine wpAny_bind (applied_rev hs pl pu ps ?_)
  have hno : ¬ ((((xs.size : Int) - 1) == 0 && (-1 : Int) == 1 && xs.size == xs.size) = true) := by simp
  show wpAny _ _ (if ((((xs.size : Int) - 1)) == 0 && (-1 : Int) == 1 && xs.size == xs.size) = true then _ else _) _ _ s
  rw [if_neg hno, pick_rev]
  first
    | exact wpAny_bind (m := Builtin.Tuple.tupleExact _) (wpAny_newObj_type (wpAny_pure ⟨_, rfl, wpAny_pure h⟩) hk)
    | exact wpAny_bind (m := Builtin.Tuple.tupleExact _) (wpAny_newObj_type (wpAny_bind (wpAny_pure (wpAny_pure ⟨_, rfl, wpAny_pure h⟩))) hk)
    | exact wpAny_bind (wpAny_bind (m := Builtin.Tuple.tupleExact _) (wpAny_newObj_type (wpAny_pure (wpAny_pure ⟨_, rfl, wpAny_pure h⟩)) hk))
    | exact wpAny_bind (wpAny_bind (m := Builtin.Tuple.tupleExact _) (wpAny_newObj_type (wpAny_pure ⟨_, rfl, wpAny_pure h⟩) hk))
/-- e[::-1], e a list (a new list) or a tuple (a new tuple) -/
def tRevT (K : PySem.W.Frag) (te : TE) : TE := fun σ H Q => te σ H fun x H1 => ∃ a xs, x = .ref a ∧ ((SqL K H1 a xs ∧ ∀ p, H1 p = none → Q (.ref p) (upd H1 p (.lst xs.reverse))) ∨ (SqT K H1 a xs ∧ ∀ p, H1 p = none → Q (.ref p) (upd H1 p (.tup xs.reverse))))
theorem pe_revT {X : Cx} {e : Expr} {te : TE} {k : Nat} {p1 p2 p3 pos : Pos} (he : PE X e te) : PE X (.Subscript e (.Slice none none (some (.UnaryOp .USub (.Constant (.int 1) k p1) p2)) p3) pos) (tRevT X.K te) := by
  refine ⟨fun pins s σ H Q I h => ?_⟩
  refine Subscript_ (thn (he.run pins s σ H _ I h) fun v s1 ⟨x, H1, I1, r1, a, xs, ex, hx⟩ => ?_)
  subst ex
  cases r1
  have hst : PO X (some (.UnaryOp .USub (.Constant (.int 1) k p1) p2)) (tPart (tUn (rU fun i => .int (-i)) (tC (.int 1)))) := po_some (pe_un un_neg pe_int)
  refine wpAny_Slice (thn (po_none.run pins s1 σ H1 (fun o H2 => o = none ∧ H2 = H1) I1 ⟨rfl, rfl⟩) fun vl s2 ⟨l, H2, I2, pl, e1, e2⟩ => ?_)
  subst e1 e2
  refine thn (po_none.run pins s2 σ H2 (fun o H3 => o = none ∧ H3 = H2) I2 ⟨rfl, rfl⟩) fun vu s3 ⟨u, H3, I3, pu, e1, e2⟩ => ?_
  subst e1 e2
  refine thn (hst.run pins s3 σ H3 (fun o H4 => o = some (-1) ∧ H4 = H3) I3 ⟨1, rfl, -1, rfl, rfl, rfl⟩) fun vs s4 ⟨o, H4, I4, ps, e1, e2⟩ => ?_
  subst e1 e2
  have I5 : Inv X pins σ H4 { s4 with heap := s4.heap.push { cls := .type "slice", data := .fields #[vl, vu, vs] } } := I4.kept (t' := s4.toks) fun b ob q => Heap.get?_push_of_some _ q
  rcases hx with ⟨hx, q⟩ | ⟨hx, q⟩
  · obtain ⟨its, r, ht, hz⟩ := I5.list hx
    have hlen := r.length
    refine tail_any (ops := [.ref a, .ref s4.heap.objs.size]) ht.isList.typeIs (PySem.slot_list_getitem.lookup) (wpAny_getItem_list_slice ht.isList (Heap.IsSliceOf.new _ vl vu vs) pl pu ps (by decide) ?_ (by rw [List.size_toArray]; omega)) (by with_unfolding_all rfl)
    rw [PySem.W.krv_pick]
    refine ⟨.ref _, _, I5.laid (t' := s4.toks) (o := .lst xs.reverse) (fun b ob q => Heap.get?_push_of_some _ q) (Nat.le_refl _) ⟨by rw [List.length_reverse]; exact hz, _, 0, r.reverse, Heap.get?_push_size _ rfl⟩, rfl, q _ (I5.hok.fresh (Nat.le_refl _))⟩
  · obtain ⟨its, r, ht, hz⟩ := I5.tuple hx
    have hlen := r.length
    refine tail_any (ops := [.ref a, .ref s4.heap.objs.size]) ht.typeIs (PyProof.Rows.slot_tuple_getitem.lookup) (item_rev ht (Heap.IsSliceOf.new _ vl vu vs) pl pu ps ?_ (by rw [List.size_toArray]; omega)) (by with_unfolding_all rfl)
    refine ⟨.ref _, _, I5.laid (t' := s4.toks) (o := .tup xs.reverse) (fun b ob q => Heap.get?_push_of_some _ q) (Nat.le_refl _) ⟨by rw [List.length_reverse]; exact hz, _, r.reverse, IsTup.new _ _⟩, rfl, q _ (I5.hok.fresh (Nat.le_refl _))⟩
end
end PV
namespace PV
open PySem L2 PySem.Spec PyProof.Rows
/-! ### a tuple once -/
theorem tuple_onceW (l : Addr) (xs : Array Value) (n : Nat) (dd : Option Addr) (sl : Array (Option Value)) (u : Tok) :
    Meets (Builtin.«tuple.__mul__» ⟨[.ref l, .int 1 u], []⟩) (fun _ R s => s.heap.get? l = some { cls := .type "tuple", dict := dd, data := .seq xs n, slots := sl } ∧ R (.ok (.ret (Value.ref l))) { s with toks := s.toks }) :=
  .of_wp fun prog w A R s h => by
    obtain ⟨hp, g, d, tk, os⟩ := s
    obtain ⟨hl, h⟩ := h
    have f1 := AutoSeq1.idx_int
    have c1 : (xs.isEmpty || (1 : Int) == 1) = true := by simp
    wp_walk using wpAny_loadPart' hl
    repeat (first
      | (refine wpAny_ite_false (decide_eq_false (by decide)) ?_; wp_walk using wpAny_loadPart' hl)
      | (refine wpAny_ite_true (decide_eq_true (by exact c1)) ?_; wp_walk using wpAny_loadPart' hl))
    exact ⟨_, rfl, h⟩
def rOnceT (K : PySem.W.Frag) : R2 := fun x y H Q => ∃ l xs, x = .ref l ∧ y = .int 1 ∧ SqT K H l xs ∧ Q (.ref l) H
theorem op_onceT {X : Cx} : OpR X (binaryOp .Mult) (rOnceT X.K) := by
  intro pins s σ H x y v u Q I rx ry ⟨l, xs, ex, ey, hT, q⟩
  subst ex ey
  cases rx
  obtain ⟨t, rfl⟩ := ry
  obtain ⟨its, r, ⟨⟨cls, dd, data, sl⟩, ho, hc, n, hd⟩, hs⟩ := I.tuple hT
  simp only at hc hd
  subst hc hd
  refine wpAny_binaryOp_repeat_ref (T := "tuple") (U := "int") (by decide) ⟨_, ho, rfl⟩ (fun s' => typeIs_int s' 1 t) noFill_tuple_mul F.fills_int_mul F.slot_int_rmul repeat_tuple F.slot_int_index.lookup (call_meets F.slot_int_rmul (typeIs_int s 1 t) F.entry_int_rmul (F.args_int_rmul_2 _ _) (int_rmul_tuple 1 t l its.toArray n dd sl) ⟨ho, rfl, ⟨_, ho, rfl⟩, call_meets F.slot_tuple_mul ⟨_, ho, rfl⟩ F.entry_tuple_mul (F.args_tuple_mul_2 _ _) (tuple_onceW l its.toArray n dd sl t) ⟨ho, ?_⟩⟩)
  exact ⟨.ref l, H, I, rfl, q⟩
end PV
end
section
namespace PV
open PySem L2 Classical

def boO : BOp → Operator
  | .add => .Add | .sub => .Sub | .mul => .Mult | .fdiv => .FloorDiv | .mod => .Mod | .pow => .Pow | .shl => .LShift | .shr => .RShift | .band => .BitAnd | .bor => .BitOr | .bxor => .BitXor
def coO : COp → CmpOp
  | .eq => .Eq | .ne => .NotEq | .lt => .Lt | .le => .LtE | .gt => .Gt | .ge => .GtE | .inn => .In | .nin => .NotIn | .is => .Is | .isn => .IsNot
section
variable {X : Cx}
theorem mulOk_ok {i j : Int} (h : mulOk i j = true) : PySem.IntMulOk i j := by
  unfold mulOk at h
  simp only [Bool.or_eq_true, decide_eq_true_eq] at h
  rcases h with (h | h) | h
  · exact CMul.ok (.inl (by omega))
  · exact CMul.ok (.inr (by omega))
  · exact CMulW.ok h
def rBin (K : PySem.W.Frag) (op : BOp) : R2 := fun x y H Q => ∃ S dx dy c, OpB K S H x dx ∧ OpB K S H y dy ∧ binD op dx dy = some c ∧ FinOk K S H Q c
theorem rBin_int {op : BOp} {C : Int → Int → Prop} {g : Int → Int → Int} (hc : ∀ dx dy c, binD op dx dy = some c → ∃ i j, dx = .int i ∧ dy = .int j ∧ C i j ∧ c = .sh (.int (g i j)))
    (ho : OpR X (binaryOp (boO op)) (rI C fun i j => .int (g i j))) : OpR X (binaryOp (boO op)) (rBin X.K op) := by
  intro pins s σ H x y v u Q I rx ry ⟨S, dx, dy, c, hx, hy, hb, hf⟩
  obtain ⟨i, j, rfl, rfl, hC, rfl⟩ := hc _ _ _ hb
  exact ho pins s σ H x y v u Q I rx ry ⟨i, j, hx.int, hy.int, hC, hf.1 _ (.int _)⟩
theorem op_mulOk : OpR X (binaryOp .Mult) (rI (fun i j => mulOk i j = true) fun i j => .int (i * j)) := opI fun _ _ _ _ _ _ _ hc q => PyProof.Rows.mul_int q (mulOk_ok hc)
theorem flat_rep (n : Nat) (a : Array Nat) : List.foldl (fun x y => x ++ y) #[] (List.replicate n a) = ((List.replicate n a.toList).flatten).toArray := by
  have h : ∀ (n : Nat) (z : Array Nat), List.foldl (fun x y => x ++ y) z (List.replicate n a) = z ++ ((List.replicate n a.toList).flatten).toArray := by
    intro n
    induction n with
    | zero => intro z; simp
    | succ n ih =>
      intro z
      rw [List.replicate_succ, List.foldl_cons, ih, List.replicate_succ, List.flatten_cons]
      apply Array.ext'
      simp
  rw [h]
  simp
/-- a text some times -/
theorem op_mulS : OpR X (binaryOp .Mult) (fun x y H Q => ∃ a k, x = .str a ∧ y = .int k ∧ (-1000000 ≤ k ∧ k ≤ 1000000 ∧ a.length * k.toNat ≤ 1000000) ∧ Q (.str (mulS a k.toNat)) H) := by
  intro pins s σ H x y v u Q I rx ry ⟨a, k, e1, e2, ⟨h1, h2, h3⟩, q⟩
  subst e1 e2
  obtain ⟨t, rfl⟩ := rx
  obtain ⟨t', rfl⟩ := ry
  have hE : ∀ (b : Str) (tk : Tok) (s' : Shared), b = mulS a k.toNat → Inv X pins σ H s' → EP X pins σ Q (.str b tk) s' := fun b tk s' e I' => ⟨.str b, H, I', ⟨tk, rfl⟩, by rw [e]; exact q⟩
  refine PySem.P.mul_str ?_ (fun hk _ => ?_) (fun hk _ => ?_) ?_
  · simp only [Bool.or_eq_false_iff, decide_eq_false_iff_not]; omega
  · have hk' : 0 < k := by omega
    have hkn : (k.toNat : Int) = k := Int.toNat_of_nonneg (by omega)
    have h4 : (a.length : Int) * k ≤ 1000000 := by
      have h6 : ((a.length * k.toNat : Nat) : Int) ≤ 1000000 := by omega
      rw [Int.natCast_mul, hkn] at h6
      exact h6
    have h5 : (1000000 : Int) ≤ (2 ^ 63 - 1) := by decide
    have : (a.length : Int) ≤ (2 ^ 63 - 1) / k := (Int.le_ediv_iff_mul_le hk').mpr (Int.le_trans h4 h5)
    omega
  · unfold Builtin.Str.tooLong
    simp only [decide_eq_false_iff_not]
    have : (1000000 : Nat) ≤ sizeLine := by decide
    omega
  · split
    · rename_i hk
      have hz : k.toNat = 0 := by omega
      exact ⟨Nat.zero_le _, hE _ _ _ (by rw [mulS, hz]; rfl) (I.tok _)⟩
    · rename_i hk
      split
      · rename_i hc
        refine hE _ _ _ ?_ I
        simp only [Bool.or_eq_true, beq_iff_eq] at hc
        unfold mulS
        rcases hc with hc | hc
        · have hz : k.toNat = 1 := by omega
          rw [hz]
          cases a
          simp
        · have ha : a.cps = #[] := Array.eq_empty_of_size_eq_zero hc
          have : (List.replicate k.toNat a.cps.toList).flatten = [] := by rw [ha]; simp
          rw [this]
          cases a
          simp at ha
          rw [ha]
      · have hl : (Str.mk (List.foldl (fun x y => x ++ y) #[] (List.replicate k.toNat a.cps))) = mulS a k.toNat := by rw [mulS, flat_rep]
        rw [hl]
        refine ⟨?_, hE _ _ _ rfl (I.tok _)⟩
        have h7 : (mulS a k.toNat).length = a.length * k.toNat := by
          show (List.replicate k.toNat a.cps.toList).flatten.toArray.size = a.cps.size * k.toNat
          simp [Nat.mul_comm]
        rw [h7]
        exact Nat.le_trans h3 (by decide)
theorem op_bin (op : BOp) : OpR X (binaryOp (boO op)) (rBin X.K op) := by
  cases op with
  | add =>
    intro pins s σ H x y v u Q I rx ry ⟨S, dx, dy, c, hx, hy, hb, hf⟩
    have hb : addD dx dy = some c := hb
    unfold addD at hb
    split at hb
    · cases hb
      exact op_add pins s σ H x y v u Q I rx ry ⟨_, _, hx.int, hy.int, hf.1 _ (.int _)⟩
    · split at hb
      · cases hb
        exact op_add_str pins s σ H x y v u Q I rx ry ⟨_, _, hx.str, hy.str, by assumption, hf.1 _ (.str _)⟩
      · cases hb
    · split at hb
      · cases hb
        obtain ⟨a, xs, rfl, ha, hxs⟩ := hx.list
        obtain ⟨b, ys, rfl, hb, hys⟩ := hy.list
        exact op_cat pins s σ H _ _ v u Q I rx ry ⟨a, b, xs, ys, rfl, rfl, ha, hb, by rw [hxs.length, hys.length]; assumption, fun p hp => hf _ rfl p _ hp (hxs.append hys)⟩
      · cases hb
    · split at hb
      · cases hb
        obtain ⟨a, xs, rfl, ha, hxs, hx⟩ := hx.tuple
        obtain ⟨b, ys, rfl, hb, hys, hy⟩ := hy.tuple
        refine op_catA pins s σ H _ _ v u Q I rx ry ⟨a, b, xs, ys, rfl, rfl, ha, hb, by rw [hxs.length, hys.length]; assumption, fun e => ?_, fun _ e => ?_, fun _ _ p hp => hf.2 _ rfl p _ hp (hxs.append hys)⟩
        · subst e
          cases hxs
          exact hf.1 _ (by rw [List.nil_append]; exact hy)
        · subst e
          cases hys
          exact hf.1 _ (by rw [List.append_nil]; exact hx)
      · cases hb
    · cases hb
  | mul =>
    intro pins s σ H x y v u Q I rx ry ⟨S, dx, dy, c, hx, hy, hb, hf⟩
    have hb : mulD dx dy = some c := hb
    unfold mulD at hb
    split at hb
    · split at hb
      · cases hb
        exact op_mulOk pins s σ H x y v u Q I rx ry ⟨_, _, hx.int, hy.int, by assumption, hf.1 _ (.int _)⟩
      · cases hb
    · split at hb
      · rename_i h
        cases hb
        obtain ⟨a, xs, rfl, ha, hxs⟩ := hx.list
        exact op_rep pins s σ H _ _ v u Q I rx ry ⟨a, _, xs, rfl, hy.int, ha, h.1, h.2.1, by rw [hxs.length]; exact h.2.2, fun p hp => hf _ rfl p _ hp (hxs.rep _)⟩
      · cases hb
    · split at hb
      · cases hb
        exact op_mulS pins s σ H x y v u Q I rx ry ⟨_, _, hx.str, hy.int, by assumption, hf.1 _ (.str _)⟩
      · cases hb
    · split at hb
      · rename_i h1
        cases hb
        obtain ⟨a, xs, rfl, ha, hxs, hx⟩ := hx.tuple
        exact op_onceT pins s σ H _ _ v u Q I rx ry ⟨a, xs, rfl, by rw [hy.int, h1], ha, hf.1 _ hx⟩
      split at hb
      · rename_i h
        cases hb
        obtain ⟨a, xs, rfl, ha, hxs, hx⟩ := hx.tuple
        refine op_repT pins s σ H _ _ v u Q I rx ry ⟨a, _, xs, rfl, hy.int, ha, ?_, h.2.1, h.2.2.1, by rw [hxs.length]; exact h.2.2.2, fun p hp => hf.2 _ rfl p _ hp (hxs.rep _)⟩
        intro z
        subst z
        cases hxs
        exact h.1 rfl
      · cases hb
    · cases hb
  | sub => exact rBin_int (C := fun _ _ => True) (g := fun i j => i - j) (fun dx dy c h => by
      cases dx <;> cases dy <;> simp only [binD] at h <;> first | (cases h; exact ⟨_, _, rfl, rfl, trivial, rfl⟩) | cases h) (opI fun _ _ _ _ _ _ _ _ q => PyProof.Rows.sub_int q)
  | fdiv => exact rBin_int (C := CDivW) (g := fun i j => i / j) (fun dx dy c h => by
      cases dx <;> cases dy <;> simp only [binD] at h <;> first | (split at h <;> first | (cases h; exact ⟨_, _, rfl, rfl, by assumption, rfl⟩) | cases h) | cases h) op_fdivW
  | mod => exact rBin_int (C := fun _ j => 0 < j) (g := fun i j => i % j) (fun dx dy c h => by
      cases dx <;> cases dy <;> simp only [binD] at h <;> first | (split at h <;> first | (cases h; exact ⟨_, _, rfl, rfl, by assumption, rfl⟩) | cases h) | cases h) op_mod
  | pow => exact rBin_int (C := CPow) (g := fun i j => i ^ j.toNat) (fun dx dy c h => by
      cases dx <;> cases dy <;> simp only [binD] at h <;> first | (split at h <;> first | (cases h; exact ⟨_, _, rfl, rfl, by assumption, rfl⟩) | cases h) | cases h) op_pow
  | shl => exact rBin_int (C := CPow) (g := fun i j => i * 2 ^ j.toNat) (fun dx dy c h => by
      cases dx <;> cases dy <;> simp only [binD] at h <;> first | (split at h <;> first | (cases h; exact ⟨_, _, rfl, rfl, by assumption, rfl⟩) | cases h) | cases h) op_shl
  | shr => exact rBin_int (C := fun _ j => 0 ≤ j) (g := fun i j => i / 2 ^ j.toNat) (fun dx dy c h => by
      cases dx <;> cases dy <;> simp only [binD] at h <;> first | (split at h <;> first | (cases h; exact ⟨_, _, rfl, rfl, by assumption, rfl⟩) | cases h) | cases h) op_shr
  | band => exact rBin_int (C := fun _ _ => True) (g := fun i j => Builtin.bitAnd i j) (fun dx dy c h => by
      cases dx <;> cases dy <;> simp only [binD] at h <;> first | (cases h; exact ⟨_, _, rfl, rfl, trivial, rfl⟩) | cases h) (opI fun _ _ _ _ _ _ _ _ q => PyProof.Rows.and_int q)
  | bor => exact rBin_int (C := fun _ _ => True) (g := fun i j => Builtin.bitOr i j) (fun dx dy c h => by
      cases dx <;> cases dy <;> simp only [binD] at h <;> first | (cases h; exact ⟨_, _, rfl, rfl, trivial, rfl⟩) | cases h) (opI fun _ _ _ _ _ _ _ _ q => PyProof.Rows.or_int q)
  | bxor => exact rBin_int (C := fun _ _ => True) (g := fun i j => Builtin.bitXor i j) (fun dx dy c h => by
      cases dx <;> cases dy <;> simp only [binD] at h <;> first | (cases h; exact ⟨_, _, rfl, rfl, trivial, rfl⟩) | cases h) (opI fun _ _ _ _ _ _ _ _ q => PyProof.Rows.xor_int q)
theorem bin_val {op : BOp} {a b : D} {c : Cl} (h : binD op a b = some c) : (∃ d, c = .sh d) ∨ ∃ ds, c = .ow (.list ds) := by
  cases op <;> cases a <;> cases b <;> simp only [binD, addD, mulD] at h <;> first | (cases h; done) | (cases h; exact .inl ⟨_, rfl⟩) | (split at h <;> first | (cases h; done) | (cases h; exact .inl ⟨_, rfl⟩) | (cases h; exact .inr ⟨_, rfl⟩) | (split at h <;> first | (cases h; done) | (cases h; exact .inl ⟨_, rfl⟩)))

/-! comparisons -/
def rCmp (K : PySem.W.Frag) (op : COp) : R2 := fun x y H Q => ∃ S dx dy c, OpB K S H x dx ∧ OpB K S H y dy ∧ cmpD op dx dy = some c ∧ Q (.bl c) H
theorem eqD_ok {a b : D} {c : Bool} (h : eqD a b = some c) : SeqAt.shaped a = true ∧ SeqAt.shaped b = true ∧ PyData.eqv a b = c := by
  unfold eqD at h
  split at h
  · rename_i q
    simp only [Bool.and_eq_true] at q
    cases h
    exact ⟨q.1, q.2, rfl⟩
  · cases h
theorem room64 {k : Nat} (hr : Room k X.A) : X.A.units + 65 < cLine := by have := hr.un; omega
/-- in, over a tuple of data -/
theorem op_inT (neg : Bool) (hu : X.A.units + 65 < cLine) : OpR X (compareOp (if neg then .NotIn else .In)) (fun x y H Q => ∃ d ds, Dp X.K H x d ∧ Dp X.K H y (.tuple ds) ∧ SeqAt.shaped d = true ∧ SeqAt.shaped (.tuple ds) = true ∧ Q (.bl (if neg then !(ds.any fun z => PyData.eqv z d) else ds.any fun z => PyData.eqv z d)) H) := by
  intro pins s σ H x y v u Q I rx ry h
  obtain ⟨d, ds, hd, he, sd, se, q⟩ := h
  obtain ⟨as, r1⟩ := Dp.reads I d x v hd rx
  obtain ⟨bs, r2⟩ := Dp.reads I (.tuple ds) y u he ry
  have hr : X.A.units + 1 + min (PyData.depthAll ds) d.depth < cLine := by
    have h1 := SeqAt.depth_of_shaped sd
    have h2 : min (PyData.depthAll ds) d.depth ≤ d.depth := Nat.min_le_right _ _
    omega
  cases neg with
  | false => exact SeqAt.in_tuple_reads r2 r1 (SeqAt.canLay_of_shaped se) (SeqAt.canLay_of_shaped sd) hr ⟨.bl _, H, I, rfl, q⟩
  | true => exact SeqAt.notIn_tuple_reads r2 r1 (SeqAt.canLay_of_shaped se) (SeqAt.canLay_of_shaped sd) hr ⟨.bl _, H, I, rfl, q⟩
theorem op_cmp (hr : ∃ k, Room k X.A) (op : COp) : OpR X (compareOp (coO op)) (rCmp X.K op) := by
  obtain ⟨k, hr⟩ := hr
  have hu : X.A.units + 64 < cLine := hr.units
  have hu5 := room64 hr
  have lt : OpR X (compareOp .Lt) (fun x y H Q => ∃ S dx dy c, OpB X.K S H x dx ∧ OpB X.K S H y dy ∧ ltD dx dy = some c ∧ Q (.bl c) H) := by
    intro pins s σ H x y v u Q I rx ry ⟨S, dx, dy, c, hx, hy, hb, hf⟩
    unfold ltD at hb
    split at hb
    · cases hb; exact op_lt pins s σ H x y v u Q I rx ry ⟨_, _, hx.int, hy.int, hf⟩
    · cases hb; exact op_lt_str pins s σ H x y v u Q I rx ry ⟨_, _, hx.str, hy.str, hf⟩
    · cases hb
  have gt : OpR X (compareOp .Gt) (fun x y H Q => ∃ S dx dy c, OpB X.K S H x dx ∧ OpB X.K S H y dy ∧ ltD dy dx = some c ∧ Q (.bl c) H) := by
    intro pins s σ H x y v u Q I rx ry ⟨S, dx, dy, c, hx, hy, hb, hf⟩
    unfold ltD at hb
    split at hb
    · cases hb; exact op_gt pins s σ H x y v u Q I rx ry ⟨_, _, hx.int, hy.int, hf⟩
    · cases hb; exact op_gt_str pins s σ H x y v u Q I rx ry ⟨_, _, hx.str, hy.str, hf⟩
    · cases hb
  have le : OpR X (compareOp .LtE) (fun x y H Q => ∃ S dx dy c, OpB X.K S H x dx ∧ OpB X.K S H y dy ∧ leD dx dy = some c ∧ Q (.bl c) H) := by
    intro pins s σ H x y v u Q I rx ry ⟨S, dx, dy, c, hx, hy, hb, hf⟩
    unfold leD at hb
    split at hb
    · cases hb; exact op_le pins s σ H x y v u Q I rx ry ⟨_, _, hx.int, hy.int, hf⟩
    · cases hb; exact op_le_str pins s σ H x y v u Q I rx ry ⟨_, _, hx.str, hy.str, hf⟩
    · cases hb
  have ge : OpR X (compareOp .GtE) (fun x y H Q => ∃ S dx dy c, OpB X.K S H x dx ∧ OpB X.K S H y dy ∧ leD dy dx = some c ∧ Q (.bl c) H) := by
    intro pins s σ H x y v u Q I rx ry ⟨S, dx, dy, c, hx, hy, hb, hf⟩
    unfold leD at hb
    split at hb
    · cases hb; exact op_ge pins s σ H x y v u Q I rx ry ⟨_, _, hx.int, hy.int, hf⟩
    · cases hb; exact op_ge_str pins s σ H x y v u Q I rx ry ⟨_, _, hx.str, hy.str, hf⟩
    · cases hb
  cases op with
  | lt => exact lt
  | le => exact le
  | gt => exact gt
  | ge => exact ge
  | eq =>
    intro pins s σ H x y v u Q I rx ry ⟨S, dx, dy, c, hx, hy, hb, hf⟩
    obtain ⟨h1, h2, h3⟩ := eqD_ok hb
    exact op_eqD hu pins s σ H x y v u Q I rx ry ⟨dx, dy, Rp.dp (no_dict h1) hx.full, Rp.dp (no_dict h2) hy.full, h1, h2, by rw [h3]; exact hf⟩
  | ne =>
    intro pins s σ H x y v u Q I rx ry ⟨S, dx, dy, c, hx, hy, hb, hf⟩
    obtain ⟨c', hb', rfl⟩ := Option.map_eq_some_iff.mp (show (eqD dx dy).map (!·) = some c from hb)
    obtain ⟨h1, h2, h3⟩ := eqD_ok hb'
    exact op_neD hu pins s σ H x y v u Q I rx ry ⟨dx, dy, Rp.dp (no_dict h1) hx.full, Rp.dp (no_dict h2) hy.full, h1, h2, by rw [h3]; exact hf⟩
  | inn =>
    intro pins s σ H x y v u Q I rx ry ⟨S, dx, dy, c, hx, hy, hb, hf⟩
    have hb : inD dx dy = some c := hb
    unfold inD at hb
    split at hb
    · split at hb
      · rename_i q
        simp only [Bool.and_eq_true] at q
        cases hb
        exact op_inD hu5 pins s σ H x y v u Q I rx ry ⟨_, _, Rp.dp (no_dict q.1) hx.full, Rp.dp (no_dict q.2) hy.full, q.1, q.2, hf⟩
      · cases hb
    · split at hb
      · rename_i q
        simp only [Bool.and_eq_true] at q
        cases hb
        exact op_inT false hu5 pins s σ H x y v u Q I rx ry ⟨_, _, Rp.dp (no_dict q.1) hx.full, Rp.dp (no_dict q.2) hy.full, q.1, q.2, hf⟩
      · cases hb
    · split at hb
      · have ex := hx.str
        have ey := hy.str
        split at hb
        · rename_i c hc
          cases hb
          refine op_in_sign pins s σ H x y v u Q I rx ry ⟨c, _, ?_, ey, hf⟩
          rw [ex, ← hc]
        · cases hb
          exact op_in_str pins s σ H x y v u Q I rx ry ⟨_, _, ex, ey, hf⟩
      · cases hb
    · cases hb
  | nin =>
    intro pins s σ H x y v u Q I rx ry ⟨S, dx, dy, c, hx, hy, hb, hf⟩
    obtain ⟨c', hb', rfl⟩ := Option.map_eq_some_iff.mp (show (inD dx dy).map (!·) = some c from hb)
    clear hb
    have hb := hb'
    clear hb'
    unfold inD at hb
    split at hb
    · split at hb
      · rename_i q
        simp only [Bool.and_eq_true] at q
        cases hb
        exact op_notInD hu5 pins s σ H x y v u Q I rx ry ⟨_, _, Rp.dp (no_dict q.1) hx.full, Rp.dp (no_dict q.2) hy.full, q.1, q.2, hf⟩
      · cases hb
    · split at hb
      · rename_i q
        simp only [Bool.and_eq_true] at q
        cases hb
        exact op_inT true hu5 pins s σ H x y v u Q I rx ry ⟨_, _, Rp.dp (no_dict q.1) hx.full, Rp.dp (no_dict q.2) hy.full, q.1, q.2, hf⟩
      · cases hb
    · split at hb
      · have ex := hx.str
        have ey := hy.str
        split at hb
        · rename_i c hc
          cases hb
          refine op_notIn_sign pins s σ H x y v u Q I rx ry ⟨c, _, ?_, ey, hf⟩
          rw [ex, ← hc]
        · cases hb
          exact op_notin_str pins s σ H x y v u Q I rx ry ⟨_, _, ex, ey, hf⟩
      · cases hb
    · cases hb
  | is =>
    intro pins s σ H x y v u Q I rx ry ⟨S, dx, dy, c, hx, hy, hb, hf⟩
    have hb : isD dx dy = some c := hb
    unfold isD at hb
    split at hb
    · cases hb
      refine op_isN pins s σ H x y v u Q I rx ry ⟨hy.none, ?_⟩
      rw [hx.none]; exact hf
    · cases hb
      refine op_is_bl pins s σ H x y v u Q I rx ry ⟨_, _, hx.bool, hy.bool, ?_⟩
      exact hf
    · cases hb
      refine op_isN pins s σ H x y v u Q I rx ry ⟨hy.none, ?_⟩
      rw [decide_eq_false]
      · exact hf
      · intro z
        subst z
        have := hx.full
        cases this
        simp_all
    · cases hb
  | isn =>
    intro pins s σ H x y v u Q I rx ry ⟨S, dx, dy, c, hx, hy, hb, hf⟩
    obtain ⟨c', hb', rfl⟩ := Option.map_eq_some_iff.mp (show (isD dx dy).map (!·) = some c from hb)
    clear hb
    have hb := hb'
    clear hb'
    unfold isD at hb
    split at hb
    · cases hb
      refine op_notN pins s σ H x y v u Q I rx ry ⟨hy.none, ?_⟩
      rw [hx.none]; exact hf
    · cases hb
      refine op_isnot_bl pins s σ H x y v u Q I rx ry ⟨_, _, hx.bool, hy.bool, ?_⟩
      exact hf
    · cases hb
      refine op_notN pins s σ H x y v u Q I rx ry ⟨hy.none, ?_⟩
      rw [decide_eq_false]
      · exact hf
      · intro z
        subst z
        have := hx.full
        cases this
        simp_all
    · cases hb
/-! subscripts -/
theorem atI_get {α : Type} {xs : List α} {i : Int} {v : α} (h : atI xs i = some v) : ∃ j : Nat, ixN xs.length i = some j ∧ xs[j]? = some v := by
  unfold atI at h
  rw [Option.bind_eq_some_iff] at h
  exact h
theorem atI_rp {K : PySem.W.Frag} {H : Hp} {vs : List V} {ds : List D} {i : Int} {d : D} (r : RpAll K H vs ds) (h : atI ds i = some d) : ∃ v, atI vs i = some v ∧ Rp K H v d := by
  obtain ⟨j, h1, h2⟩ := atI_get h
  obtain ⟨v, h3, h4⟩ := r.get h2
  refine ⟨v, ?_, h4⟩
  unfold atI
  rw [r.length, h1]
  exact h3
def rIdx (K : PySem.W.Frag) : R2 := fun x y H Q => ∃ S dx dy d, OpW K S H x dx ∧ Rp K H y dy ∧ idxD dx dy = some d ∧ ∀ v, Rp K (rst H S) v d → Q v H
theorem ix_any : IxR X (rIdx X.K) := by
  intro value slice pins s σ H x y v u Q I rx ry ⟨S, dx, dy, d, hx, hy, hd, q⟩
  unfold idxD at hd
  split at hd
  · obtain ⟨a, xs, rfl, h1, h2⟩ := hx.list
    obtain ⟨w, h3, h4⟩ := atI_rp h2 hd
    exact ix_list value slice pins s σ H _ y v u Q I rx ry ⟨a, xs, _, w, rfl, hy.int_inv, h1, h3, q w h4⟩
  · obtain ⟨a, xs, rfl, h1, h2, _⟩ := (hx.b (by intro ds z; cases z)).tuple
    obtain ⟨w, h3, h4⟩ := atI_rp h2 hd
    exact ix_tup value slice pins s σ H _ y v u Q I rx ry ⟨a, xs, _, w, rfl, hy.int_inv, h1, h3, q w h4⟩
  · split at hd
    · rw [Option.map_eq_some_iff] at hd
      obtain ⟨c, h1, rfl⟩ := hd
      exact ix_str value slice pins s σ H x y v u Q I rx ry ⟨_, _, c, (hx.b (by intro ds z; cases z)).str, hy.int_inv, by assumption, h1, q _ (.str _)⟩
    · cases hd
  · cases hd
theorem cut_rp {K : PySem.W.Frag} {H : Hp} {vs : List V} {ds : List D} (lo hi : Option Int) (r : RpAll K H vs ds) : RpAll K H (cutV vs lo hi) (cut ds lo hi) := by
  unfold cutV cut
  rw [r.length]
  exact (r.drop _).take _
def rSlc (K : PySem.W.Frag) : V → Option Int → Option Int → Hp → VK → Prop := fun x lo hi H Q => ∃ S dx c, OpW K S H x dx ∧ slcD dx lo hi = some c ∧ FinOk K S H Q c
theorem sl_any : SlR X (rSlc X.K) := by
  intro pins s σ H x v vl vu lo hi sl Q I rx hs pl pu ⟨S, dx, c, hx, hd, q⟩
  unfold slcD at hd
  split at hd
  · cases hd
    obtain ⟨a, xs, rfl, h1, h2⟩ := hx.list
    exact sl_list pins s σ H _ v vl vu _ _ sl Q I rx hs pl pu ⟨a, xs, rfl, h1, fun p hp => q _ rfl p _ hp (cut_rp _ _ h2)⟩
  · cases hd
    obtain ⟨a, xs, rfl, h1, h2, h3⟩ := (hx.b (by intro ds z; cases z)).tuple
    refine sl_tupA pins s σ H _ v vl vu _ _ sl Q I rx hs pl pu ⟨a, xs, rfl, h1, fun e => ?_, fun _ p hp => q.2 _ rfl p _ hp (cut_rp _ _ h2)⟩
    refine q.1 _ ?_
    have : ∀ ds : List D, xs.length = ds.length → cut ds lo hi = ds := fun ds hl => by
      unfold cut
      rw [← hl, e.1, e.2, List.drop_zero, Nat.sub_zero, hl, List.take_length]
    rw [this _ h2.length]
    exact h3
  · split at hd
    · cases hd
      exact sl_str pins s σ H x v vl vu _ _ sl Q I rx hs pl pu ⟨_, (hx.b (by intro ds z; cases z)).str, by assumption, q.1 _ (.str _)⟩
    · cases hd
  · cases hd
theorem slc_val {a : D} {lo hi : Option Int} {c : Cl} (h : slcD a lo hi = some c) : (∃ d, c = .sh d) ∨ ∃ ds, c = .ow (.list ds) := by
  unfold slcD at h
  split at h
  · cases h; exact .inr ⟨_, rfl⟩
  · cases h; exact .inl ⟨_, rfl⟩
  · split at h
    · cases h; exact .inl ⟨_, rfl⟩
    · cases h
  · cases h
end
end PV
end
section
namespace PV
open PySem L2 Classical

/-! ### sorted, min of data -/
theorem sortOk_all {ds : List D} (h : sortOk ds = true) : PySem.W.AllAlike ds ∧ PySem.W.Sortable ds ∧ ∀ d ∈ ds, d.depth ≤ 60 := by
  unfold sortOk at h
  rw [Bool.and_eq_true, Bool.and_eq_true, Bool.or_eq_true] at h
  obtain ⟨⟨h1, h2⟩, h3⟩ := h
  refine ⟨fun d hd d' hd' => ?_, ?_, fun d hd => ?_⟩
  · exact List.all_eq_true.mp (List.all_eq_true.mp h1 d hd) d' hd'
  · rcases h2 with h2 | h2
    · refine .inl fun d hd => ?_
      have := List.all_eq_true.mp h2 d hd
      unfold tupItem at this
      split at this
      · exact ⟨_, _, rfl⟩
      · cases this
    · refine .inr fun d hd => ?_
      have := List.all_eq_true.mp h2 d hd
      unfold noTup at this
      split at this
      · cases this
      · cases this
      · rename_i n1 n2
        exact ⟨fun e => n2 e, fun xs e => n1 xs e⟩
  · exact of_decide_eq_true (List.all_eq_true.mp h3 d hd)
/-! ### data are read -/
section
variable {X : Cx} {pins : List (Addr × Obj)} {σ : St} {H : Hp} {s : Shared}
theorem dk_obj (I : Inv X pins σ H s) {a : Addr} (h : H a = some (.dK [])) : (a == sysModules) = false ∧ ∃ o n, s.heap.get? a = some o ∧ o.cls = .type "dict" ∧ o.data = .dict #[] n := by
  obtain ⟨_, h1, vs, h2, o, es, ep, h3, h4, h5, _, h6, _⟩ := dk_of I.hok h
  have hv : vs = [] := by cases h2; rfl
  subst hv
  have he : es.toList = [] := by
    generalize es.toList = l at h6
    cases h6; rfl
  have he : es = #[] := by simpa using he
  subst he
  exact ⟨h1, o, ep, h3, h4.1, h5⟩
theorem dk1_obj (I : Inv X pins σ H s) {a : Addr} {x : V} (h : H a = some (.dK [(.inl 0, x)])) : (a == sysModules) = false ∧ ∃ o es n e t, s.heap.get? a = some o ∧ o.cls = .type "dict" ∧ o.data = .dict es n ∧ es.toList = [e] ∧ e.key = .int 0 t ∧ RelV x e.val := by
  obtain ⟨_, h1, vs, h2, o, es, ep, h3, h4, h5, _, h6, _⟩ := dk_of I.hok h
  cases h2 with
  | cons q1 q2 =>
    cases q2
    generalize hes : es.toList = l at h6
    cases h6 with
    | cons k1 k2 k3 =>
      cases k3
      rename_i e' _ _ _
      have q0 := q1.1
      rw [← q0] at k1
      have k1 : keyIs (.inl 0) _ = true := k1
      rcases keyIs_shape k1 with ⟨i, t, e1, e2⟩ | ⟨y, t, e1, e2⟩
      · injection e1 with e1
        subst e1
        exact ⟨h1, o, es, ep, _, t, h3, h4.1, h5, hes, e2, by rw [k2]; exact q1.2⟩
      · exact nomatch e1
mutual
theorem Rp.reads (I : Inv X pins σ H s) : ∀ {v : V} {d : D} {u : Value}, Rp X.K H v d → RelV v u → ∃ as, Reads s.heap u d as
  | _, _, _, .non, r => by cases r; exact ⟨_, .none⟩
  | _, _, _, .bl b, r => by cases r; exact ⟨_, .bool b⟩
  | _, _, _, .int i, r => by obtain ⟨t, rfl⟩ := r; exact ⟨_, .int i t⟩
  | _, _, _, .str i, r => by obtain ⟨t, rfl⟩ := r; exact ⟨_, .str i t⟩
  | _, _, _, .lst h q, r => by
    cases r
    obtain ⟨its, rv, ⟨o, n, ho, hc, _, hd⟩, _⟩ := I.list (.of h)
    obtain ⟨as, hr⟩ := RpAll.reads I q rv
    exact ⟨_, .list ho hc hd hr⟩
  | _, _, _, .tup h q, r => by
    cases r
    obtain ⟨its, rv, ⟨o, ho, hc, n, hd⟩, _⟩ := I.tuple h
    obtain ⟨as, hr⟩ := RpAll.reads I q rv
    exact ⟨_, .tuple ho hc hd hr⟩
  | _, _, _, .dct h, r => by
    cases r
    obtain ⟨_, o, n, ho, hc, hd⟩ := dk_obj I h
    exact ⟨_, .dict ho hc hd .nil .nil⟩
  | _, _, _, .dc1 h q, r => by
    cases r
    obtain ⟨_, o, es, n, e, t, ho, hc, hd, he, hk, hv⟩ := dk1_obj I h
    obtain ⟨as, hr⟩ := Rp.reads I q hv
    exact ⟨_, .dict ho hc hd (by rw [he]; show ReadsAll _ [e.key] [.int 0] _; rw [hk]; exact .cons (.int 0 t) .nil) (by rw [he]; exact .cons hr .nil)⟩
theorem RpAll.reads (I : Inv X pins σ H s) : ∀ {vs : List V} {ds : List D} {us : List Value}, RpAll X.K H vs ds → Vals vs us → ∃ as, ReadsAll s.heap us ds as
  | _, _, _, .nil, r => by cases r; exact ⟨_, .nil⟩
  | _, _, _, .cons h q, r => by
    cases r with
    | cons r1 r2 =>
      obtain ⟨as, h1⟩ := Rp.reads I h r1
      obtain ⟨bs, h2⟩ := RpAll.reads I q r2
      exact ⟨_, .cons h1 h2⟩
end
end
section
variable {X : Cx}
def Bnd (K : PySem.W.Frag) (H : Hp) (v : Value) (b : V × D) : Prop := RelV b.1 v ∧ Rp K H b.1 b.2
theorem bnd_all {K : PySem.W.Frag} {H : Hp} : ∀ {xs : List V} {its : List Value} {ds : List D}, Vals xs its → RpAll K H xs ds → PySem.W.EachIs (Bnd K H) its (xs.zip ds)
  | _, _, _, .nil, .nil => .nil
  | _, _, _, .cons r rs, .cons q qs => .cons ⟨r, q⟩ (bnd_all rs qs)
theorem bnd_vals {K : PySem.W.Frag} {H : Hp} : ∀ {its : List Value} {bs : List (V × D)}, PySem.W.EachIs (Bnd K H) its bs → Vals (bs.map (·.1)) its ∧ RpAll K H (bs.map (·.1)) (bs.map (·.2))
  | _, _, .nil => ⟨.nil, .nil⟩
  | _, _, .cons h t => ⟨.cons h.1 (bnd_vals t).1, .cons h.2 (bnd_vals t).2⟩
def rSortedD (K : PySem.W.Frag) : List V → Hp → VK → Prop := fun vs H Q => ∃ (a : Addr) (xs : List V) (ds : List D) (S : Addr → Prop), vs = [V.ref a] ∧ H a = some (.lst xs) ∧ RpAll K (rst H S) xs ds ∧ sortOk ds = true ∧
  ∀ ys p, RpAll K (rst H S) ys (ds.mergeSort (PySem.W.dataLe false id)) → H p = none → Q (.ref p) (upd H p (.lst ys))
theorem cr_sortedD (hu : X.A.units + 64 < cLine) : CallR X (.builtin "sorted") (rSortedD X.K) := by
  intro pins s σ H vs us Q I r h
  obtain ⟨a, xs, ds, S, rfl, ha, hx, hok, q⟩ := h
  obtain ⟨its, rv, hl, hz⟩ := I.list (.of ha)
  rw [Vals.ref1 r]
  obtain ⟨h1, h2, h3⟩ := sortOk_all hok
  have hlen : xs.length = ds.length := hx.length
  have e2 : (xs.zip ds).map (·.2) = ds := List.map_snd_zip (by omega)
  have hb : PySem.W.EachIs (Bnd X.K (rst H S)) its (xs.zip ds) := bnd_all rv hx
  have her : PySem.W.EachIs (fun v b => ∃ as, Reads s.heap v (b : V × D).2 as) its (xs.zip ds) := hb.mono fun v b h => (h.2.mono rst_same).reads I h.1
  have hzl : (xs.zip ds).length = ds.length := by rw [List.length_zip]; omega
  refine PySem.W.sorted_data (enc := fun b : V × D => b.2) hl.isList hb her (by rw [e2]; exact h1) (by rw [e2]; exact h2) (by rw [hzl, ← hlen]; exact hz) (fun b hbm => ?_) fun out o1 o2 => ?_
  · have := h3 b.2 (by rw [← e2]; exact List.mem_map.mpr ⟨b, hbm, rfl⟩)
    omega
  · obtain ⟨ep, he'⟩ := PyProof.Rows.sortedAll_at s.heap its out.toArray
    obtain ⟨v1, v2⟩ := bnd_vals o2
    have e3 : ((xs.zip ds).mergeSort (PySem.W.dataLe false fun b : V × D => b.2)).map (·.2) = ds.mergeSort (PySem.W.dataLe false id) := by
      rw [List.map_mergeSort (r := PySem.W.dataLe false fun b : V × D => b.2) (s := PySem.W.dataLe false id) (fun a _ b _ => rfl), e2]
    rw [e3] at v2
    have hyl : (((xs.zip ds).mergeSort (PySem.W.dataLe false fun b : V × D => b.2)).map (·.1)).length ≤ sizeLine := by
      rw [List.length_map, List.length_mergeSort, hzl, ← hlen]; exact hz
    exact ⟨.ref _, upd H (s.heap.objs.size + 1) (.lst (((xs.zip ds).mergeSort (PySem.W.dataLe false fun b : V × D => b.2)).map (·.1))), I.laid (t' := s.toks) (fun _ _ => PyProof.Rows.sortedAll_old) (Nat.le_succ _) ⟨hyl, out, ep, v1, he'⟩, rfl, q _ _ v2 (I.hok.fresh (Nat.le_succ _))⟩
theorem minOk_all {ds : List D} (h : minOk ds = true) : PySem.W.AlikeAll ds ∧ PyData.depthAll ds ≤ 60 := by
  unfold minOk at h
  rw [Bool.and_eq_true, Bool.and_eq_true] at h
  obtain ⟨⟨h1, h2⟩, h3⟩ := h
  refine ⟨⟨fun d hd d' hd' => List.all_eq_true.mp (List.all_eq_true.mp h1 d hd) d' hd', fun d hd e => ?_⟩, of_decide_eq_true h3⟩
  subst e
  have := List.all_eq_true.mp h2 _ hd
  cases this
theorem minD_mem (x : D) (xs : List D) : PySem.W.minD x xs ∈ x :: xs := by
  unfold PySem.W.minD
  induction xs generalizing x with
  | nil => exact List.mem_cons_self
  | cons y ys ih =>
    rw [List.foldl_cons]
    split
    · exact List.mem_cons_of_mem _ (ih y)
    · rcases List.mem_cons.mp (ih x) with h | h
      · rw [h]; exact List.mem_cons_self
      · exact List.mem_cons_of_mem _ (List.mem_cons_of_mem _ h)
def rMinD (K : PySem.W.Frag) : List V → Hp → VK → Prop := fun vs H Q => ∃ (a : Addr) (xs : List V) (x : D) (ds : List D) (S : Addr → Prop), vs = [V.ref a] ∧ H a = some (.lst xs) ∧ RpAll K (rst H S) xs (x :: ds) ∧ minOk (x :: ds) = true ∧
  ∀ v, Rp K (rst H S) v (PySem.W.minD x ds) → Q v H
theorem cr_minD (hc : X.calm = true) (hu : X.A.units + 64 < cLine) : CallR X (.builtin "min") (rMinD X.K) := by
  intro pins s σ H vs us Q I r h
  obtain ⟨a, xs, x, ds, S, rfl, ha, hx, hok, q⟩ := h
  obtain ⟨its, rv, hl, hz⟩ := I.list (.of ha)
  rw [Vals.ref1 r]
  obtain ⟨h1, h2⟩ := minOk_all hok
  obtain ⟨as, hr⟩ := (hx.mono rst_same).reads I rv
  refine PySem.W.min_list_data (I.ok.hd hc) hl.isList (by simpa using hr) h1 (by omega) fun i v h' tk bs hv hrd hk => ?_
  have hv' : its[i]? = some v := by simpa using hv
  have hi : i < its.length := (List.getElem?_eq_some_iff.mp hv').1
  have hlx := rv.length
  have hld := hx.length
  obtain ⟨w, hw⟩ : ∃ w, xs[i]? = some w := ⟨xs[i], List.getElem?_eq_getElem (by omega)⟩
  obtain ⟨u, hu1, hu2⟩ := rv.get hw
  rw [hv'] at hu1
  cases hu1
  obtain ⟨d, hd, hrp⟩ := hx.getV hw
  obtain ⟨as2, hr2⟩ := (hrp.mono rst_same).reads I hu2
  have hdm : d ∈ x :: ds := List.mem_of_getElem? hd
  have e := PySem.W.alike_unique _ _ _ _ _ (h1.1 _ hdm _ (minD_mem x ds)) (PyProof.Rows.Reads.keeps hk hr2) hrd
  subst e
  exact ⟨w, H, I.kept hk, hu2, q w hrp⟩
end
end PV
end
section
namespace PV
open PySem L2 Classical

/-! ### repr of data -/
section
variable {X : Cx} {pins : List (Addr × Obj)} {σ : St} {H : Hp} {s : Shared}
mutual
theorem Rp.rk (I : Inv X pins σ H s) : ∀ {v : V} {d : D} {u : Value}, Rp X.K H v d → RelV v u → d.showable = true → d.shown.length ≤ sizeLine →
    ∃ as bs, Reads s.heap u d as ∧ ReadAtMost s.heap d.depth bs ∧ ReprK X.prog X.w bs s.heap d.depth u d.shown
  | _, _, _, .non, r, _, _ => by
    cases r
    exact ⟨_, [], .none, (fun _ h => nomatch h), by simp only [PyData.shown]; exact .of_is ReprIs.none _ _ _⟩
  | _, _, _, .bl b, r, _, _ => by
    cases r
    exact ⟨_, [], .bool b, (fun _ h => nomatch h), by simp only [PyData.shown]; exact .of_is (ReprIs.bool b) _ _ _⟩
  | _, _, _, .int i, r, hs, _ => by
    obtain ⟨t, rfl⟩ := r
    exact ⟨_, [], .int i t, (fun _ h => nomatch h), by simp only [PyData.shown]; exact .of_is (ReprIs.int t (by simpa [PyData.showable] using hs)) _ _ _⟩
  | _, _, _, .str x, r, _, hz => by
    obtain ⟨t, rfl⟩ := r
    exact ⟨_, [], .str x t, (fun _ h => nomatch h), by simp only [PyData.shown]; exact .of_is (ReprIs.str x t (by simpa only [PyData.shown] using hz)) _ _ _⟩
  | _, _, _, .lst (a := a) (ds := ds) h q, r, hs, hz => by
    cases r
    obtain ⟨its, rv, ⟨o, n, ho, hc, _, hd⟩, _⟩ := I.list (.of h)
    have hz' : (listText (PyData.shownAll ds)).length ≤ sizeLine := by simpa only [PyData.shown] using hz
    obtain ⟨as, bs, ra, hb, hk⟩ := RpAll.rk I q rv (by simpa [PyData.showable] using hs) (fun t ht => Nat.le_trans (listText_mem_le ht) hz')
    have rd : Reads s.heap (.ref a) (.list ds) _ := .list ho hc hd ra
    have hna : a ∉ bs := not_mem_of_deeper rd (by simp only [PyData.depth]; omega) hb
    refine ⟨_, a :: bs, rd, ReadAtMost.cons rd (by simp only [PyData.depth]; omega) hb, ?_⟩
    simp only [PyData.depth, PyData.shown]
    cases its with
    | nil =>
      cases ra
      simp only [PyData.shownAll, listText_nil]
      exact ReprK.listEmpty ho hc hd
    | cons x l => exact ReprK.list ho hc hd hna (by simpa using hk.length_eq) (fun i y e => hk.item i y (by simpa using e))
  | _, _, _, .tup (a := a) (ds := ds) h q, r, hs, hz => by
    cases r
    obtain ⟨its, rv, ⟨o, ho, hc, n, hd⟩, _⟩ := I.tuple h
    have hz' : (tupleText (PyData.shownAll ds)).length ≤ sizeLine := by simpa only [PyData.shown] using hz
    obtain ⟨as, bs, ra, hb, hk⟩ := RpAll.rk I q rv (by simpa [PyData.showable] using hs) (fun t ht => Nat.le_trans (tupleText_mem_le ht) hz')
    have rd : Reads s.heap (.ref a) (.tuple ds) _ := .tuple ho hc hd ra
    have hna : a ∉ bs := not_mem_of_deeper rd (by simp only [PyData.depth]; omega) hb
    refine ⟨_, a :: bs, rd, ReadAtMost.cons rd (by simp only [PyData.depth]; omega) hb, ?_⟩
    simp only [PyData.depth, PyData.shown]
    exact ReprK.tuple ho hc hd hna hk
  | _, _, _, .dct (a := a) h, r, hs, hz => by
    cases r
    obtain ⟨hsys, o, n, ho, hc, hd⟩ := dk_obj I h
    have rd : Reads s.heap (.ref a) (.dict []) _ := .dict ho hc hd .nil .nil
    refine ⟨_, [a], rd, ReadAtMost.cons rd (Nat.le_refl _) (fun _ h => nomatch h), ?_⟩
    simp only [PyData.depth, PyData.shown, PyData.shownKv]
    exact ReprK.dict ho hc hd hsys (by simp) .nil
  | _, _, _, .dc1 (a := a) (d := d) h q, r, hs, hz => by
    cases r
    obtain ⟨hsys, o, es, n, e, t, ho, hc, hd, he, hk, hv⟩ := dk1_obj I h
    have hz' : (dictText [PyData.shown (.int 0) ++ ": " ++ d.shown]).length ≤ sizeLine := by simpa only [PyData.shown, PyData.shownKv] using hz
    have hzd : d.shown.length ≤ sizeLine := by
      have h1 := dictText_mem_le (ps := [PyData.shown (.int 0) ++ ": " ++ d.shown]) (List.mem_cons_self ..)
      rw [strLen_append] at h1
      omega
    obtain ⟨as, bs, ra, hb, hr⟩ := Rp.rk I q hv (by simp [PyData.showable, PyData.showableKv] at hs; exact hs) hzd
    have rd : Reads s.heap (.ref a) (.dict [(.int 0, d)]) _ := .dict ho hc hd (by rw [he]; show ReadsAll _ [e.key] [.int 0] _; rw [hk]; exact .cons (.int 0 t) .nil) (by rw [he]; exact .cons ra .nil)
    have hdp : PyData.depth (.dict [(.int 0, d)]) = d.depth + 1 := by simp [PyData.depth, PyData.depthKv]
    have hna : a ∉ bs := not_mem_of_deeper rd (by rw [hdp]; omega) hb
    refine ⟨_, a :: bs, rd, ReadAtMost.cons rd (Nat.le_refl _) (fun b hm => by
      obtain ⟨d', as', r', hd'⟩ := hb b hm
      exact ⟨d', as', r', by rw [hdp]; omega⟩), ?_⟩
    rw [hdp]
    have hsh : PyData.shown (.dict [(.int 0, d)]) = dictText [PyData.shown (.int 0) ++ ": " ++ d.shown] := by simp only [PyData.shown, PyData.shownKv]
    rw [hsh]
    refine ReprK.dict ho hc hd hsys hna ?_
    rw [he]
    refine .cons ?_ hr .nil
    rw [hk]
    simp only [PyData.shown]
    exact .of_is (ReprIs.int t (by decide)) _ _ _
theorem RpAll.rk (I : Inv X pins σ H s) : ∀ {vs : List V} {ds : List D} {us : List Value}, RpAll X.K H vs ds → Vals vs us → PyData.showableAll ds = true → (∀ t ∈ PyData.shownAll ds, t.length ≤ sizeLine) →
    ∃ as bs, ReadsAll s.heap us ds as ∧ ReadAtMost s.heap (PyData.depthAll ds) bs ∧ ReprAllK X.prog X.w bs s.heap (PyData.depthAll ds) us (PyData.shownAll ds)
  | _, _, _, .nil, r, _, _ => by
    cases r
    exact ⟨_, [], .nil, (fun _ h => nomatch h), by simp only [PyData.shownAll]; exact .nil⟩
  | _, _, _, .cons (d := d) (ds := ds) h q, r, hs, hz => by
    cases r with
    | cons r1 r2 =>
      have hs' : d.showable = true ∧ PyData.showableAll ds = true := by simpa [PyData.showableAll] using hs
      obtain ⟨a1, b1, ra1, hb1, k1⟩ := Rp.rk I h r1 hs'.1 (hz _ (by simp only [PyData.shownAll]; exact List.mem_cons_self ..))
      obtain ⟨a2, b2, ra2, hb2, k2⟩ := RpAll.rk I q r2 hs'.2 (fun t ht => hz t (by simp only [PyData.shownAll]; exact List.mem_cons_of_mem _ ht))
      refine ⟨_, b1 ++ b2, .cons ra1 ra2, ?_, ?_⟩
      · intro b hm
        simp only [PyData.depthAll]
        rcases List.mem_append.mp hm with hm | hm
        · obtain ⟨d', as', r', hd'⟩ := hb1 b hm
          exact ⟨d', as', r', Nat.le_trans hd' (Nat.le_max_left _ _)⟩
        · obtain ⟨d', as', r', hd'⟩ := hb2 b hm
          exact ⟨d', as', r', Nat.le_trans hd' (Nat.le_max_right _ _)⟩
      · simp only [PyData.depthAll, PyData.shownAll]
        exact .cons ((k1.more fun b hb => List.mem_append_left _ hb).level_le (Nat.le_max_left _ _)) (k2.more_le (fun b hb => List.mem_append_right _ hb) (Nat.le_max_right _ _))
end
end
section
variable {X : Cx}
def rRepr (K : PySem.W.Frag) : List V → Hp → VK → Prop := fun vs H Q => ∃ (v : V) (d : D), vs = [v] ∧ Rp K H v d ∧ shOk d = true ∧ Q (.str d.shown) H
theorem cr_repr {k : Nat} (hgd : X.A.guards = some []) (hr : Room k X.A) : CallR X (.builtin "repr") (rRepr X.K) := by
  intro pins s σ H vs us Q I r h
  obtain ⟨v, d, rfl, hv, hok, q⟩ := h
  unfold shOk at hok
  rw [Bool.and_eq_true, Bool.and_eq_true, decide_eq_true_eq, decide_eq_true_eq] at hok
  obtain ⟨⟨hs, h60⟩, hz⟩ := hok
  obtain ⟨u, rfl, ru⟩ := vals1 r
  have hu : X.A.units + 64 < cLine := hr.units
  have fin : ∀ h' t tk, (∀ b o, s.heap.get? b = some o → h'.get? b = some o) → ∃ (v : V) (H' : Hp), Inv X pins σ H' { s with heap := h', toks := tk } ∧ RelV v (.str d.shown t) ∧ Q v H' := fun h' t tk hk => ⟨.str d.shown, H, I.kept hk, ⟨t, rfl⟩, q⟩
  cases hv with
  | non =>
    cases ru
    exact P.repr_of_none (by have q2 := fin s.heap s.toks (s.toks + 1) fun _ _ e => e; simp only [PyData.shown] at q2; exact q2)
  | bl b =>
    cases ru
    exact P.repr_of_bool (by have q2 := fin s.heap s.toks (s.toks + 1) fun _ _ e => e; simp only [PyData.shown] at q2; exact q2)
  | int i =>
    obtain ⟨t, rfl⟩ := ru
    exact P.repr_of_int (by simpa [PyData.showable] using hs) (by have q2 := fin s.heap s.toks (s.toks + 1) fun _ _ e => e; simp only [PyData.shown] at q2; exact q2)
  | str x =>
    obtain ⟨t, rfl⟩ := ru
    exact P.repr_of_str (by have q2 := fin s.heap s.toks (s.toks + 1) fun _ _ e => e; simp only [PyData.shown] at q2; exact q2) (by simpa only [PyData.shown] using hz)
  | @lst a xs ds ha hx =>
    cases ru
    obtain ⟨its, rv, ⟨o, n, ho, hc, _, hd⟩, _⟩ := I.list (.of ha)
    have hz' : (listText (PyData.shownAll ds)).length ≤ sizeLine := by simpa only [PyData.shown] using hz
    obtain ⟨as, bs, ra, hb, hk⟩ := RpAll.rk I hx rv (by simpa [PyData.showable] using hs) (fun t ht => Nat.le_trans (listText_mem_le ht) hz')
    have rd : Reads s.heap (.ref a) (.list ds) _ := .list ho hc hd ra
    have hna : a ∉ bs := not_mem_of_deeper rd (by simp only [PyData.depth]; omega) hb
    simp only [PyData.depth] at h60
    refine call_repr_slot (by omega) ⟨o, ho, hc⟩ F.slot_list_repr.toG ?_
    cases its with
    | nil =>
      cases ra
      have e : PyData.shown (.list []) = ("[]" : Str) := by simp only [PyData.shown, PyData.shownAll, listText_nil]
      rw [e] at fin
      exact call_list_repr_empty ⟨o, ho, hc⟩ ho hd ⟨_, _, rfl, fin s.heap _ _ fun _ _ e => e⟩
    | cons x l =>
      simp only [PyData.shown] at fin
      exact call_list_reprK ho hc hd hna (by simpa using hk.length_eq) (fun i y e => hk.item i y (by simpa using e)) hgd (fun b _ => Clear.nil b) (by show X.A.units + 1 + _ < cLine; omega) (fun _ _ e => e) (fun h' u tk hk' => ⟨_, _, rfl, fin h' u tk hk'⟩) hz'
  | @tup a xs ds ha hx =>
    cases ru
    obtain ⟨its, rv, ⟨o, ho, hc, n, hd⟩, _⟩ := I.tuple ha
    have hz' : (tupleText (PyData.shownAll ds)).length ≤ sizeLine := by simpa only [PyData.shown] using hz
    obtain ⟨as, bs, ra, hb, hk⟩ := RpAll.rk I hx rv (by simpa [PyData.showable] using hs) (fun t ht => Nat.le_trans (tupleText_mem_le ht) hz')
    have rd : Reads s.heap (.ref a) (.tuple ds) _ := .tuple ho hc hd ra
    have hna : a ∉ bs := not_mem_of_deeper rd (by simp only [PyData.depth]; omega) hb
    simp only [PyData.depth] at h60
    simp only [PyData.shown] at fin
    refine call_repr_slot (by omega) ⟨o, ho, hc⟩ F.slot_tuple_repr ?_
    exact call_tuple_reprK ho hc hd hna hk hgd (fun b _ => Clear.nil b) (by show X.A.units + 1 + _ < cLine; omega) (fun _ _ e => e) (fun h' u tk hk' => ⟨_, _, rfl, fin h' u tk hk'⟩) hz'
  | @dct a ha =>
    cases ru
    obtain ⟨hsys, o, n, ho, hc, hd⟩ := dk_obj I ha
    have e : PyData.shown (.dict []) = dictText [] := by simp only [PyData.shown, PyData.shownKv]
    rw [e] at fin hz
    refine call_repr_slot (by omega) ⟨o, ho, hc⟩ F.slot_dict_repr ?_
    exact call_dict_reprK (as := []) (d := 0) ho hc hd hsys (by simp) .nil hgd (fun b _ => Clear.nil b) (by show X.A.units + 1 + 1 < cLine; omega) (fun _ _ e => e) (fun h' u tk hk' => ⟨_, _, rfl, fin h' u tk hk'⟩) hz
  | @dc1 a x d ha hx =>
    cases ru
    obtain ⟨hsys, o, es, n, e, t, ho, hc, hd, he, hk, hv⟩ := dk1_obj I ha
    have e1 : PyData.shown (.dict [(.int 0, d)]) = dictText [PyData.shown (.int 0) ++ ": " ++ d.shown] := by simp only [PyData.shown, PyData.shownKv]
    rw [e1] at fin hz
    have hzd : d.shown.length ≤ sizeLine := by
      have h1 := dictText_mem_le (ps := [PyData.shown (.int 0) ++ ": " ++ d.shown]) (List.mem_cons_self ..)
      rw [strLen_append] at h1
      omega
    obtain ⟨as, bs, ra, hb, hr⟩ := Rp.rk I hx hv (by simp [PyData.showable, PyData.showableKv] at hs; exact hs) hzd
    have rd : Reads s.heap (.ref a) (.dict [(.int 0, d)]) _ := .dict ho hc hd (by rw [he]; show ReadsAll _ [e.key] [.int 0] _; rw [hk]; exact .cons (.int 0 t) .nil) (by rw [he]; exact .cons ra .nil)
    have hdp : PyData.depth (.dict [(.int 0, d)]) = d.depth + 1 := by simp [PyData.depth, PyData.depthKv]
    rw [hdp] at h60
    have hna : a ∉ bs := not_mem_of_deeper rd (by rw [hdp]; omega) hb
    refine call_repr_slot (by omega) ⟨o, ho, hc⟩ F.slot_dict_repr ?_
    have hE : ReprEntriesK X.prog X.w bs s.heap d.depth es.toList [PyData.shown (.int 0) ++ ": " ++ d.shown] := by
      rw [he]
      refine .cons ?_ hr .nil
      rw [hk]
      simp only [PyData.shown]
      exact .of_is (ReprIs.int t (by decide)) _ _ _
    exact call_dict_reprK (as := bs) ho hc hd hsys hna hE hgd (fun b _ => Clear.nil b) (by show X.A.units + 1 + _ < cLine; omega) (fun _ _ e => e) (fun h' u tk hk' => ⟨_, _, rfl, fin h' u tk hk'⟩) hz
end
end PV
end
section
namespace PV
open PySem L2 Classical

/-! ### built-in functions by values -/
def biNm : Bi → Str
  | .len => "len" | .int => "int" | .str => "str" | .abs => "abs" | .min => "min" | .max => "max" | .sum => "sum" | .sorted => "sorted" | .tuple => "tuple" | .list => "list"
  | .all => "all" | .any => "any" | .repr => "repr" | .lenset => "len" | .sortset => "sorted"
def biFn : Bi → Value
  | .len => .builtin "len" | .int => .type "int" | .str => .type "str" | .abs => .builtin "abs" | .min => .builtin "min" | .max => .builtin "max" | .sum => .builtin "sum" | .sorted => .builtin "sorted"
  | .tuple => .type "tuple" | .list => .type "list" | .all => .builtin "all" | .any => .builtin "any" | .repr => .builtin "repr" | .lenset => .builtin "len" | .sortset => .builtin "sorted"
def bltNames : List Str := ["len", "int", "str", "abs", "min", "max", "sum", "sorted", "tuple", "list", "all", "any", "repr", "isinstance", "range", "enumerate", "zip", "bool", "set"]
section
variable {X : Cx}
inductive OpBs (K : PySem.W.Frag) (S : Addr → Prop) (H : Hp) : List V → List D → Prop
  | nil : OpBs K S H [] []
  | cons {v vs d ds} : OpB K S H v d → OpBs K S H vs ds → OpBs K S H (v :: vs) (d :: ds)
theorem OpBs.one {K : PySem.W.Frag} {S : Addr → Prop} {H : Hp} {vs : List V} {d : D} (h : OpBs K S H vs [d]) : ∃ v, vs = [v] ∧ OpB K S H v d := by
  cases h with
  | cons a b => cases b; exact ⟨_, rfl, a⟩
theorem OpBs.two {K : PySem.W.Frag} {S : Addr → Prop} {H : Hp} {vs : List V} {d e : D} (h : OpBs K S H vs [d, e]) : ∃ v w, vs = [v, w] ∧ OpB K S H v d ∧ OpB K S H w e := by
  cases h with
  | cons a b => cases b with
    | cons b c => cases c; exact ⟨_, _, rfl, a, b⟩
theorem cr_sumT {X : Cx} (hc : X.calm = true) : CallR X (.builtin "sum") (fun vs H Q => ∃ (a : Addr) (ns : List Int), vs = [V.ref a] ∧ SqT X.K H a (ns.map V.int) ∧ Q (.int ns.sum) H) := by
  intro pins s σ H vs us Q I r h
  obtain ⟨a, ns, rfl, hs, q⟩ := h
  obtain ⟨its, rv, hl, _⟩ := I.tuple hs
  rw [Vals.ref1 r]
  have hi := rv.ints
  obtain ⟨xs, hx⟩ := hi.allInts.items
  have hn : PySem.numsOf its.toArray.toList = ns := by rw [show its.toArray.toList = its from rfl, hi.numsOf]
  rw [hx] at hl hn
  rw [PySem.nums_intItems] at hn
  refine PySem.W.ktm_sumG (I.ok.hd hc) hl fun h' tk t' hk => ?_
  rw [PySem.preSum_eq, List.take_of_length_le (by simp), hn]
  exact ⟨.int _, H, I.kept hk, ⟨_, rfl⟩, q⟩
def rBi (K : PySem.W.Frag) (op : Bi) : List V → Hp → VK → Prop := fun xs H Q => ∃ S ds c, OpBs K S H xs ds ∧ biD op ds = some c ∧ FinOk K S H Q c
theorem maxI_spec : ∀ (ns : List Int), ns ≠ [] → maxI ns ∈ ns ∧ ∀ y ∈ ns, y ≤ maxI ns
  | [], h => absurd rfl h
  | [x], _ => by simp [maxI]
  | x :: y :: r, _ => by
    obtain ⟨h1, h2⟩ := maxI_spec (y :: r) (by simp)
    rw [maxI]
    · split
      · refine ⟨List.mem_cons_of_mem _ h1, fun z hz => ?_⟩
        rcases List.mem_cons.mp hz with rfl | hz
        · omega
        · exact h2 z hz
      · refine ⟨List.mem_cons_self, fun z hz => ?_⟩
        rcases List.mem_cons.mp hz with rfl | hz
        · omega
        · have := h2 z hz; omega
    · simp
theorem minI_spec : ∀ (ns : List Int), ns ≠ [] → minI ns ∈ ns ∧ ∀ y ∈ ns, minI ns ≤ y
  | [], h => absurd rfl h
  | [x], _ => by simp [minI]
  | x :: y :: r, _ => by
    obtain ⟨h1, h2⟩ := minI_spec (y :: r) (by simp)
    rw [minI]
    · split
      · refine ⟨List.mem_cons_of_mem _ h1, fun z hz => ?_⟩
        rcases List.mem_cons.mp hz with rfl | hz
        · omega
        · exact h2 z hz
      · refine ⟨List.mem_cons_self, fun z hz => ?_⟩
        rcases List.mem_cons.mp hz with rfl | hz
        · omega
        · have := h2 z hz; omega
    · simp
theorem maxI_uniq {ns : List Int} {m : Int} (h1 : m ∈ ns) (h2 : ∀ y ∈ ns, y ≤ m) : m = maxI ns := by
  obtain ⟨a, b⟩ := maxI_spec ns (List.ne_nil_of_mem h1)
  have := h2 _ a; have := b _ h1; omega
theorem minI_uniq {ns : List Int} {m : Int} (h1 : m ∈ ns) (h2 : ∀ y ∈ ns, m ≤ y) : m = minI ns := by
  obtain ⟨a, b⟩ := minI_spec ns (List.ne_nil_of_mem h1)
  have := h2 _ a; have := b _ h1; omega
theorem call_bi (hc : X.calm = true) (hgd : X.A.guards = some []) (hr : ∃ k, Room k X.A) (op : Bi) : CallR X (biFn op) (rBi X.K op) := by
  intro pins s σ H xs us Q I r ⟨S, ds, c, hxs, hb, q⟩
  unfold biD at hb
  split at hb
  · -- len
    obtain ⟨x, rfl, hx⟩ := hxs.one
    rw [Option.map_eq_some_iff] at hb
    obtain ⟨d, hd, rfl⟩ := hb
    unfold lenD at hd
    split at hd
    · cases hd
      obtain ⟨a, ys, rfl, h1, h2⟩ := hx.list
      refine call_len_seq pins s σ H _ us Q I r ⟨a, ys, rfl, .inl (.of h1), ?_⟩
      rw [h2.length]
      exact q.1 _ (.int _)
    · cases hd
      obtain ⟨a, ys, rfl, h1, h2, _⟩ := hx.tuple
      refine call_len_seq pins s σ H _ us Q I r ⟨a, ys, rfl, .inr h1, ?_⟩
      rw [h2.length]
      exact q.1 _ (.int _)
    · split at hd
      · cases hd
        exact call_len_str pins s σ H _ us Q I r ⟨_, by rw [hx.str], by assumption, q.1 _ (.int _)⟩
      · cases hd
    · cases hd
  · cases hb
    obtain ⟨x, rfl, hx⟩ := hxs.one
    exact call_int1 pins s σ H _ us Q I r (.inl ⟨_, by rw [hx.int], q.1 _ (.int _)⟩)
  · cases hb
    obtain ⟨x, rfl, hx⟩ := hxs.one
    exact call_int1 pins s σ H _ us Q I r (.inr ⟨_, by rw [hx.bool], q.1 _ (.int _)⟩)
  · cases hb
    obtain ⟨x, rfl, hx⟩ := hxs.one
    exact call_abs pins s σ H _ us Q I r ⟨_, by rw [hx.int], q.1 _ (.int _)⟩
  · cases hb
    obtain ⟨x, y, rfl, hx, hy⟩ := hxs.two
    exact call_min2 hc pins s σ H _ us Q I r ⟨_, _, by rw [hx.int, hy.int], q.1 _ (.int _)⟩
  · cases hb
    obtain ⟨x, y, rfl, hx, hy⟩ := hxs.two
    exact call_max2 hc pins s σ H _ us Q I r ⟨_, _, by rw [hx.int, hy.int], q.1 _ (.int _)⟩
  · obtain ⟨x, rfl, hx⟩ := hxs.one
    rw [Option.bind_eq_some_iff] at hb
    obtain ⟨ns, h1, h2⟩ := hb
    by_cases hne : ns = []
    · rw [if_pos hne] at h2
      cases h2
    · rw [if_neg hne] at h2
      cases h2
      obtain ⟨a, ys, rfl, h3, h4⟩ := hx.list
      obtain ⟨rfl, _⟩ := h4.ints h1
      refine cr_max hc pins s σ H _ us Q I r ⟨a, ns, rfl, .of h3, List.length_pos_iff.mpr hne, fun m m1 m2 => ?_⟩
      rw [maxI_uniq m1 m2]
      exact q.1 _ (.int _)
  · obtain ⟨x, rfl, hx⟩ := hxs.one
    obtain ⟨kr, hr⟩ := hr
    have hu : X.A.units + 64 < cLine := hr.units
    split at hb
    rotate_left
    · split at hb
      · split at hb
        · rename_i hok
          cases hb
          obtain ⟨a, ys, rfl, h3, h4⟩ := hx.list
          exact cr_minD hc hu pins s σ H _ us Q I r ⟨a, ys, _, _, S, rfl, h3, h4, hok, fun v hv => q.1 v hv⟩
        · cases hb
      · cases hb
    rename_i ns h1
    have h2 := hb
    by_cases hne : ns = []
    · rw [if_pos hne] at h2
      cases h2
    · rw [if_neg hne] at h2
      cases h2
      obtain ⟨a, ys, rfl, h3, h4⟩ := hx.list
      obtain ⟨rfl, _⟩ := h4.ints h1
      refine cr_min hc pins s σ H _ us Q I r ⟨a, ns, rfl, .of h3, List.length_pos_iff.mpr hne, fun m m1 m2 => ?_⟩
      rw [minI_uniq m1 m2]
      exact q.1 _ (.int _)
  · split at hb
    · rename_i hok
      cases hb
      obtain ⟨x, rfl, hx⟩ := hxs.one
      obtain ⟨a, ys, rfl, h3, h4⟩ := hx.list
      obtain ⟨kr, hr⟩ := hr
      have hu : X.A.units + 64 < cLine := hr.units
      exact cr_sortedD hu pins s σ H _ us Q I r ⟨a, ys, _, S, rfl, h3, h4, hok, fun zs p hz hp => q _ rfl p _ hp hz⟩
    · cases hb
  · obtain ⟨x, rfl, hx⟩ := hxs.one
    rw [Option.map_eq_some_iff] at hb
    obtain ⟨ns, h1, rfl⟩ := hb
    obtain ⟨a, ys, rfl, h3, h4⟩ := hx.list
    obtain ⟨rfl, _⟩ := h4.ints h1
    exact cr_sum hc pins s σ H _ us Q I r ⟨a, ns, rfl, .of h3, q.1 _ (.int _)⟩
  · obtain ⟨x, rfl, hx⟩ := hxs.one
    rw [Option.map_eq_some_iff] at hb
    obtain ⟨ns, h1, rfl⟩ := hb
    obtain ⟨a, ys, rfl, h3, h4, _⟩ := hx.tuple
    obtain ⟨rfl, _⟩ := h4.ints h1
    exact cr_sumT hc pins s σ H _ us Q I r ⟨a, ns, rfl, h3, q.1 _ (.int _)⟩
  · cases hb
    obtain ⟨x, rfl, hx⟩ := hxs.one
    obtain ⟨a, ys, rfl, h3, h4⟩ := hx.list
    exact call_tuple_of pins s σ H _ us Q I r ⟨a, ys, rfl, .inl ⟨.of h3, fun p hp => q.2 _ rfl p _ hp h4⟩⟩
  · cases hb
    obtain ⟨x, rfl, hx⟩ := hxs.one
    obtain ⟨a, ys, rfl, h3, h4, h5⟩ := hx.tuple
    exact call_tuple_of pins s σ H _ us Q I r ⟨a, ys, rfl, .inr ⟨h3, q.1 _ h5⟩⟩
  · cases hb
    obtain ⟨x, rfl, hx⟩ := hxs.one
    obtain ⟨a, ys, rfl, h3, h4⟩ := hx.list
    exact call_list_of pins s σ H _ us Q I r ⟨a, ys, rfl, .inl (.of h3), fun p hp => q _ rfl p _ hp h4⟩
  · cases hb
    obtain ⟨x, rfl, hx⟩ := hxs.one
    obtain ⟨a, ys, rfl, h3, h4, h5⟩ := hx.tuple
    exact call_list_of pins s σ H _ us Q I r ⟨a, ys, rfl, .inr h3, fun p hp => q _ rfl p _ hp h4⟩
  · obtain ⟨x, rfl, hx⟩ := hxs.one
    rw [Option.map_eq_some_iff] at hb
    obtain ⟨ns, h1, rfl⟩ := hb
    obtain ⟨a, ys, rfl, h3, h4⟩ := hx.list
    have e := h4.bools h1
    subst e
    exact cr_all hc pins s σ H _ us Q I r ⟨a, ns, rfl, .of h3, q.1 _ (.bl _)⟩
  · obtain ⟨x, rfl, hx⟩ := hxs.one
    rw [Option.map_eq_some_iff] at hb
    obtain ⟨ns, h1, rfl⟩ := hb
    obtain ⟨a, ys, rfl, h3, h4⟩ := hx.list
    have e := h4.bools h1
    subst e
    exact cr_any hc pins s σ H _ us Q I r ⟨a, ns, rfl, .of h3, q.1 _ (.bl _)⟩
  · split at hb
    · rename_i hok
      cases hb
      obtain ⟨x, rfl, hx⟩ := hxs.one
      obtain ⟨kr, hr⟩ := hr
      exact cr_repr hgd hr pins s σ H _ us Q I r ⟨x, _, rfl, hx.full, hok, q.1 _ (.str _)⟩
    · cases hb
  · cases hb
theorem bi_val {op : Bi} {ds : List D} {c : Cl} (h : biD op ds = some c) : (∃ d, c = .sh d) ∨ ∃ ds, c = .ow (.list ds) := by
  unfold biD at h
  split at h
  · rw [Option.map_eq_some_iff] at h
    obtain ⟨d, _, rfl⟩ := h
    exact .inl ⟨_, rfl⟩
  · cases h; exact .inl ⟨_, rfl⟩
  · cases h; exact .inl ⟨_, rfl⟩
  · cases h; exact .inl ⟨_, rfl⟩
  · cases h; exact .inl ⟨_, rfl⟩
  · cases h; exact .inl ⟨_, rfl⟩
  · rw [Option.bind_eq_some_iff] at h
    obtain ⟨ns, _, h2⟩ := h
    split at h2
    · cases h2
    · cases h2; exact .inl ⟨_, rfl⟩
  · split at h
    · split at h
      · cases h
      · cases h; exact .inl ⟨_, rfl⟩
    · split at h
      · split at h
        · cases h; exact .inl ⟨_, rfl⟩
        · cases h
      · cases h
  · split at h
    · cases h; exact .inr ⟨_, rfl⟩
    · cases h
  · rw [Option.map_eq_some_iff] at h
    obtain ⟨d, _, rfl⟩ := h
    exact .inl ⟨_, rfl⟩
  · rw [Option.map_eq_some_iff] at h
    obtain ⟨d, _, rfl⟩ := h
    exact .inl ⟨_, rfl⟩
  · cases h; exact .inl ⟨_, rfl⟩
  · cases h; exact .inl ⟨_, rfl⟩
  · cases h; exact .inr ⟨_, rfl⟩
  · cases h; exact .inr ⟨_, rfl⟩
  · rw [Option.map_eq_some_iff] at h
    obtain ⟨d, _, rfl⟩ := h
    exact .inl ⟨_, rfl⟩
  · rw [Option.map_eq_some_iff] at h
    obtain ⟨d, _, rfl⟩ := h
    exact .inl ⟨_, rfl⟩
  · split at h
    · cases h; exact .inl ⟨_, rfl⟩
    · cases h
  · cases h

/-! isinstance -/
def tyNm : Ty → String
  | .int => "int" | .bool => "bool" | .str => "str" | .tuple => "tuple" | .list => "list" | .non => "NoneType"
def tyOf : D → String
  | .none => "NoneType" | .bool _ => "bool" | .int _ => "int" | .str _ => "str" | .list _ => "list" | .tuple _ => "tuple" | .dict _ => "dict"
theorem rp_ty {K : PySem.W.Frag} {H : Hp} {v : V} {d : D} (h : Rp K H v d) : TyX K H v (.type (tyOf d)) := by
  cases h with
  | non => exact .base .non
  | bl b => exact .base (.bl b)
  | int b => exact .base (.int b)
  | str b => exact .base (.str b)
  | lst h _ => exact .base (.lst h)
  | tup h _ =>
    rcases h with (h | ⟨o, h⟩) | ⟨o, its, n, h, hc, _⟩
    · exact .base (.tup h)
    · exact .fTuple h
    · exact .kTuple h hc
  | dct h => exact .base (.dK h)
  | dc1 h _ => exact .base (.dK h)
theorem kit_tyD (K : PySem.W.Frag) (t : Ty) (d : D) (hn : t ≠ .non) : PySem.W.kitOne K (.type (tyOf d)) (.type (tyNm t)) = some (tyD t d) := by
  cases t <;> first | exact absurd rfl hn | (cases d <;> refine kit_ty ?_ <;> simp only [tyOf, tyD, tyNm] <;> decide +kernel)
end
end PV
end
section
namespace PV
open PySem L2 Classical

section
variable {X : Cx} {W : WX} {ea eb ec : Expr} {pos : Pos} {fa fb : En → R (Op × En)}
theorem s_var {i : Nat} {x : Expr} (h : PE X x (tVar i)) : PE X x (tEv W X.K (varV i)) := by
  refine wPE h fun σ H Q ⟨S, e, R0, P⟩ => ?_
  unfold varV at P
  cases q : get e i with
  | sh d =>
    simp only [q] at P
    obtain ⟨v, h1, h2⟩ := R0.sh i d q
    exact ⟨v, h1, P S H R0 Tr.refl v h2⟩
  | ow d =>
    simp only [q] at P
    obtain ⟨a, h1, _, r, t, h2⟩ := R0.freeze q
    exact ⟨_, h1, P _ H r t _ h2⟩
  | un => simp only [q] at P; exact P.elim
  | io d => simp only [q] at P; exact P.elim
  | le d => simp only [q] at P; exact P.elim
  | fz d => simp only [q] at P; exact P.elim
theorem s_const {x : Expr} {v : V} {d : D} (h : PE X x (tC v)) (hr : ∀ H, Rp X.K H v d) : PE X x (tEv W X.K fun e => .ok (.sh d, e)) := by
  refine wPE h fun σ H Q ⟨S, e, R0, P⟩ => ?_
  exact P S H R0 Tr.refl v (hr _)
theorem s_dct : PE X (.Dict [] [] pos) (tEv W X.K fun e => .ok (.sh (.dict []), e)) := by
  refine wPE pe_dnewK fun σ H Q ⟨S, e, R0, P⟩ => ?_
  intro p hp
  obtain ⟨a, b, c, n⟩ := R0.lay (o := .dK []) hp
  exact P S _ a b _ (.dct (rst_in.mpr ⟨upd_same, n⟩))
theorem s_d0 {i : Nat} {ek x : Expr} (hk : PE X ek (tC (.int 0))) (hv : PE X x (tVar i)) : PE X (.Dict [some ek] [x] pos) (tEv W X.K fun e => match get e i with
    | .sh d => .ok (.sh (.dict [(.int 0, d)]), e)
    | _ => .no) := by
  refine wPE (pe_disp (X := X) (pos := pos) (pps_cons hk hv pps_nil) rfl rfl (by simp) (by simp)) fun σ H Q ⟨S, e, R0, P⟩ => ?_
  cases q : get e i with
  | sh d =>
    simp only [q] at P
    obtain ⟨v, h1, h2⟩ := R0.sh i d q
    intro p hp
    refine ⟨v, h1, upd_same, [(.inl 0, v)], rfl, by simp, ?_⟩
    rw [upd_upd, show mergeK [] [((.inl 0 : Key), v)] = [(.inl 0, v)] from rfl]
    obtain ⟨a, b, c, n⟩ := R0.lay (o := .dK [(.inl 0, v)]) hp
    exact P S _ a b _ (.dc1 (rst_in.mpr ⟨upd_same, n⟩) (h2.mono c))
  | _ => simp only [q] at P; exact P.elim
theorem s_bin {op : BOp} (ha : PE X ea (tOpd W X.K fa)) (hb : PE X eb (tOpd W X.K fb)) :
    PE X (.BinOp ea (boO op) eb pos) (tEv W X.K fun e => (fa e).bind fun (x, e) => (fb e).bind fun (y, e) =>
    (lift (x.get e)).bind fun dx => (lift (y.get e)).bind fun dy => (lift (binD op dx dy)).bind fun r => .ok (r, e)) := by
  refine wPE (pe_op (op_bin op) ha hb) fun σ H Q ⟨S, e, R0, P⟩ => ?_
  refine ⟨S, e, R0, (Post.bind P).mono fun x S1 e1 H1 _ R1 t1 P1 v hv => ⟨S1, e1, R1, (Post.bind P1).mono fun y S2 e2 H2 _ R2 t2 P2 w hw => ?_⟩⟩
  obtain ⟨dx, h1, P3⟩ := P2.lift
  obtain ⟨dy, h2, P4⟩ := P3.lift
  obtain ⟨r, h3, P5⟩ := P4.lift
  have P6 : Post W X.K σ S2 e2 H2 (.ok (r, e2)) fun r S3 e3 H3 => Tr σ S e H S3 e3 H3 → ∀ v, RV X.K H σ S3 e3 H3 v r → Q v H3 :=
    P5.mono fun a S3 e3 H3 _ R3 t3 p t v hv => p (t2.trans t3) (t1.trans (t2.trans t3)) v hv
  exact ⟨S2, dx, dy, r, (hv.mono R1 t2).get R2 h1, hw.get R2 h2, h3, P6.fin R2 (t1.trans t2) (bin_val h3)⟩
/-- a value handed on as it is -/
theorem Post.sh {K : PySem.W.Frag} {σ : St} {S S' : Addr → Prop} {e e' : En} {H H' : Hp} {Q : VK} {d : D} {v : V} {k : Cl → (Addr → Prop) → En → Hp → Prop} (R1 : Rel K S' e' σ H')
    (h : Post W K σ S' e' H' (.ok (.sh d, e')) k) (hk : ∀ r S2 e2 H2, k r S2 e2 H2 → e2 = e' → S2 = S' → H2 = H' → RV K H σ S2 e2 H2 v r → Q v H2) (hv : Rp K (rst H' S') v d) : Q v H' :=
  hk _ _ _ _ (h S' H' R1 Tr.refl) rfl rfl rfl hv
theorem s_neg {f : En → R (D × En)} (ha : PE X ea (tVal W X.K f)) : PE X (.UnaryOp .USub ea pos) (tEv W X.K fun e => (f e).bind fun (d, e) => match d with
    | .int i => .ok (.sh (.int (-i)), e)
    | _ => .no) := by
  refine wPE (pe_un un_neg ha) fun σ H Q ⟨S, e, R0, P⟩ => ?_
  refine ⟨S, e, R0, (Post.bind P).mono fun x S1 e1 H1 _ R1 t1 P1 v hv => ?_⟩
  cases x with
  | int i => exact ⟨i, hv.int_inv, P1 S1 H1 R1 Tr.refl t1 _ (.int _)⟩
  | _ => exact P1.elim
theorem s_nt {f : En → R (Cl × En)} (ha : PE X ea (tEv W X.K f)) : PE X (.UnaryOp .Not ea pos) (tEv W X.K fun e => (testR f e).bind fun (b, e) => .ok (.sh (.bool (!b)), e)) := by
  refine wPE (pe_not ha) fun σ H Q ⟨S, e, R0, P⟩ => ?_
  unfold testR at P
  refine ⟨S, e, R0, (Post.bind (Post.bind P)).mono fun x S1 e1 H1 hx R1 t1 P1 v hv => ?_⟩
  cases x with
  | sh d => cases d with
    | bool b =>
      have := hv.bool_inv
      subst this
      exact ⟨b, rfl, P1 S1 H1 R1 Tr.refl t1 S1 H1 R1 Tr.refl t1 _ (.bl _)⟩
    | _ => exact P1.elim
  | _ => exact P1.elim
theorem cmp_w {op : COp} {σ : St} {H : Hp} {Q : VK} (h : tEv W X.K (fun e => (fa e).bind fun (x, e) => (fb e).bind fun (y, e) =>
    (lift (x.get e)).bind fun dx => (lift (y.get e)).bind fun dy => (lift (cmpD op dx dy)).bind fun r => .ok (.sh (.bool r), e)) σ H Q) : tOp (rCmp X.K op) (tOpd W X.K fa) (tOpd W X.K fb) σ H Q := by
  obtain ⟨S, e, R0, P⟩ := h
  refine ⟨S, e, R0, (Post.bind P).mono fun x S1 e1 H1 _ R1 t1 P1 v hv => ⟨S1, e1, R1, (Post.bind P1).mono fun y S2 e2 H2 _ R2 t2 P2 w hw => ?_⟩⟩
  obtain ⟨dx, h1, P3⟩ := P2.lift
  obtain ⟨dy, h2, P4⟩ := P3.lift
  obtain ⟨r, h3, P5⟩ := P4.lift
  exact ⟨S2, dx, dy, r, (hv.mono R1 t2).get R2 h1, hw.get R2 h2, h3, P5 S2 H2 R2 Tr.refl t2 (t1.trans t2) _ (.bl _)⟩
theorem s_cmp {op : COp} (hr : ∃ k, Room k X.A) (ha : PE X ea (tOpd W X.K fa)) (hb : PE X eb (tOpd W X.K fb)) (hm : behindInMarks (coO op) eb = false) :
    PE X (.Compare ea [coO op] [eb] pos) (tEv W X.K fun e => (fa e).bind fun (x, e) => (fb e).bind fun (y, e) =>
    (lift (x.get e)).bind fun dx => (lift (y.get e)).bind fun dy => (lift (cmpD op dx dy)).bind fun r => .ok (.sh (.bool r), e)) :=
  wPE (pe_cmpR (op_cmp hr op) ha hb hm) fun _ _ _ => cmp_w
theorem tst_ev {f : En → R (Cl × En)} {σ : St} {H : Hp} {Q : Bool → Hp → Prop} (h : tTst W X.K (testR f) σ H Q) : tEv W X.K f σ H fun x H' => ∃ c, x = .bl c ∧ Q c H' := by
  obtain ⟨S, e, R0, P⟩ := h
  refine ⟨S, e, R0, (Post.bind P).mono fun x S1 e1 H1 hx R1 t1 P1 v hv => ?_⟩
  cases x with
  | sh d => cases d with
    | bool b => exact ⟨b, hv.bool_inv, P1 S1 H1 R1 Tr.refl t1⟩
    | _ => exact P1.elim
  | _ => exact P1.elim
theorem t_cmp {op : COp} (hr : ∃ k, Room k X.A) (ha : PE X ea (tOpd W X.K fa)) (hb : PE X eb (tOpd W X.K fb)) (hm : behindInMarks (coO op) eb = false) :
    PT X (.Compare ea [coO op] [eb] pos) (tTst W X.K (testR fun e => (fa e).bind fun (x, e) => (fb e).bind fun (y, e) =>
    (lift (x.get e)).bind fun dx => (lift (y.get e)).bind fun dy => (lift (cmpD op dx dy)).bind fun r => .ok (.sh (.bool r), e))) :=
  wPT (pt_cmpR (op_cmp hr op) ha hb hm) fun _ _ _ h => cmp_w (tst_ev h)
theorem t_val {x : Expr} {f : En → R (Cl × En)} (h : PE X x (tEv W X.K f)) (he : ∀ whole, isTrue x X.env whole = (do let v ← whole; standAt x.pos; holding [v] (truthy v))) : PT X x (tTst W X.K (testR f)) :=
  wPT (pt_val h he) fun _ _ _ h => tst_ev h
theorem chn_w {o1 o2 : COp} {f g h : En → R (D × En)} {σ : St} {H : Hp} {Q : VK} (hh : tEv W X.K (fun e => (f e).bind fun (x, e) => (g e).bind fun (y, e) => (lift (cmpD o1 x y)).bind fun r =>
    if r then (h e).bind fun (z, e) => (lift (cmpD o2 y z)).bind fun r => .ok (.sh (.bool r), e) else .ok (.sh (.bool false), e)) σ H Q) :
    tChain (rCmp X.K o1) (rCmp X.K o2) (tVal W X.K f) (tVal W X.K g) (tVal W X.K h) σ H Q := by
  obtain ⟨S, e, R0, P⟩ := hh
  refine ⟨S, e, R0, (Post.bind P).mono fun x S1 e1 H1 _ R1 t1 P1 v hv => ⟨S1, e1, R1, (Post.bind P1).mono fun y S2 e2 H2 _ R2 t2 P2 w hw => ?_⟩⟩
  obtain ⟨r, h3, P5⟩ := P2.lift
  refine ⟨S2, x, y, r, .inl (hv.mono (t2.same R1)), .inl hw, h3, r, rfl, ?_⟩
  cases r with
  | true =>
    refine iteT ⟨S2, e2, R2, (Post.bind P5).mono fun z S3 e3 H3 _ R3 t3 P6 u hu => ?_⟩
    obtain ⟨r, h4, P7⟩ := P6.lift
    exact ⟨S3, y, z, r, .inl (hw.mono (t3.same R2)), .inl hu, h4, P7 S3 H3 R3 Tr.refl t3 (t2.trans t3) (t1.trans (t2.trans t3)) _ (.bl _)⟩
  | false => exact iteF (P5 S2 H2 R2 Tr.refl t2 (t1.trans t2) _ (.bl _))
theorem s_chn {o1 o2 : COp} {f g h : En → R (D × En)} (hr : ∃ k, Room k X.A) (ha : PE X ea (tVal W X.K f)) (hb : PE X eb (tVal W X.K g)) (hc : PE X ec (tVal W X.K h)) (hm : lastMarks [coO o1, coO o2] [eb, ec] = false) :
    PE X (.Compare ea [coO o1, coO o2] [eb, ec] pos) (tEv W X.K fun e => (f e).bind fun (x, e) => (g e).bind fun (y, e) => (lift (cmpD o1 x y)).bind fun r =>
    if r then (h e).bind fun (z, e) => (lift (cmpD o2 y z)).bind fun r => .ok (.sh (.bool r), e) else .ok (.sh (.bool false), e)) :=
  wPE (pe_chain (op_cmp hr o1) (op_cmp hr o2) ha hb hc hm) fun _ _ _ => chn_w
theorem t_chn {o1 o2 : COp} {f g h : En → R (D × En)} (hr : ∃ k, Room k X.A) (ha : PE X ea (tVal W X.K f)) (hb : PE X eb (tVal W X.K g)) (hc : PE X ec (tVal W X.K h)) (hm : lastMarks [coO o1, coO o2] [eb, ec] = false) :
    PT X (.Compare ea [coO o1, coO o2] [eb, ec] pos) (tTst W X.K (testR fun e => (f e).bind fun (x, e) => (g e).bind fun (y, e) => (lift (cmpD o1 x y)).bind fun r =>
    if r then (h e).bind fun (z, e) => (lift (cmpD o2 y z)).bind fun r => .ok (.sh (.bool r), e) else .ok (.sh (.bool false), e))) :=
  wPT (pt_chain (op_cmp hr o1) (op_cmp hr o2) ha hb hc hm) fun _ _ _ h => chn_w (tst_ev h)
theorem t_nt {f : En → R (Cl × En)} (ha : PT X ea (tTst W X.K (testR f))) : PT X (.UnaryOp .Not ea pos) (tTst W X.K (testR fun e => (testR f e).bind fun (b, e) => .ok (.sh (.bool (!b)), e))) := by
  refine wPT (pt_not ha) fun σ H Q ⟨S, e, R0, P⟩ => ?_
  unfold testR at P
  refine ⟨S, e, R0, (Post.bind (Post.bind P)).mono fun x S1 e1 H1 hx R1 t1 P1 => ?_⟩
  exact P1 S1 H1 R1 Tr.refl t1 S1 H1 R1 Tr.refl t1
/-- and, or -/
def bopV (b : Bool) (f g : En → R (Cl × En)) (e : En) : R (Cl × En) := (testR f e).bind fun (t, e) => if t = b then g e else .ok (.sh (.bool t), e)
theorem s_and {f g : En → R (Cl × En)} {rest : List Expr} (ha : PE X ea (tEv W X.K f)) (hb : PE X (.BoolOp .And (eb :: rest) pos) (tEv W X.K g)) : PE X (.BoolOp .And (ea :: eb :: rest) pos) (tEv W X.K (bopV true f g)) := by
  refine wPE (pe_and ha hb) fun σ H Q ⟨S, e, R0, P⟩ => ?_
  unfold bopV testR at P
  refine ⟨S, e, R0, (Post.bind (Post.bind P)).mono fun x S1 e1 H1 hx R1 t1 P1 v hv => ?_⟩
  cases x with
  | sh d => cases d with
    | bool b =>
      refine ⟨b, hv.bool_inv, ?_⟩
      have P2 := P1 S1 H1 R1 Tr.refl t1
      cases b with
      | true =>
        refine iteT ⟨S1, e1, R1, Post.mono P2 fun r S2 e2 H2 _ R2 t2 p v hv => p (t1.trans t2) v ?_⟩
        exact hv.dom t1
      | false => exact iteF (P2 S1 H1 R1 Tr.refl t1 _ (.bl _))
    | _ => exact P1.elim
  | _ => exact P1.elim
theorem s_or {f g : En → R (Cl × En)} {rest : List Expr} (ha : PE X ea (tEv W X.K f)) (hb : PE X (.BoolOp .Or (eb :: rest) pos) (tEv W X.K g)) : PE X (.BoolOp .Or (ea :: eb :: rest) pos) (tEv W X.K (bopV false f g)) := by
  refine wPE (pe_or ha hb) fun σ H Q ⟨S, e, R0, P⟩ => ?_
  unfold bopV testR at P
  refine ⟨S, e, R0, (Post.bind (Post.bind P)).mono fun x S1 e1 H1 hx R1 t1 P1 v hv => ?_⟩
  cases x with
  | sh d => cases d with
    | bool b =>
      refine ⟨b, hv.bool_inv, ?_⟩
      have P2 := P1 S1 H1 R1 Tr.refl t1
      cases b with
      | false =>
        refine iteF ⟨S1, e1, R1, Post.mono P2 fun r S2 e2 H2 _ R2 t2 p v hv => p (t1.trans t2) v ?_⟩
        exact hv.dom t1
      | true => exact iteT (P2 S1 H1 R1 Tr.refl t1 _ (.bl _))
    | _ => exact P1.elim
  | _ => exact P1.elim
theorem wPW {X : Cx} {x : Expr} {t t' : TT} (h : PW X x t) (w : ∀ σ H Q, t' σ H Q → t σ H Q) : PW X x t' := ⟨fun wh pins s σ H Q I q => h.run wh pins s σ H Q I (w σ H Q q)⟩
theorem R.bind_assoc {α β γ : Type} (r : R α) (f : α → R β) (g : β → R γ) : (r.bind f).bind g = r.bind fun x => (f x).bind g := by cases r <;> rfl
theorem testR_bop {b : Bool} {f g : En → R (Cl × En)} {e : En} : testR (bopV b f g) e = (testR f e).bind fun (t, e) => if t = b then testR g e else .ok (t, e) := by
  show R.bind (R.bind _ _) _ = _
  rw [R.bind_assoc]
  congr 1
  funext ⟨t, e⟩
  by_cases h : t = b
  · simp only [if_pos h]; rfl
  · simp only [if_neg h]; rfl
theorem w_and {f g : En → R (Cl × En)} {rest : List Expr} (ha : PT X ea (tTst W X.K (testR f))) (hb : PW X (.BoolOp .And (eb :: rest) pos) (tTst W X.K (testR g))) : PW X (.BoolOp .And (ea :: eb :: rest) pos) (tTst W X.K (testR (bopV true f g))) := by
  refine wPW (pw_and ha hb) fun σ H Q ⟨S, e, R0, P⟩ => ?_
  rw [testR_bop] at P
  refine ⟨S, e, R0, (Post.bind P).mono fun b S1 e1 H1 hx R1 t1 P1 => ?_⟩
  cases b with
  | true => exact iteT ⟨S1, e1, R1, Post.mono P1 fun r S2 e2 H2 _ R2 t2 p => p (t1.trans t2)⟩
  | false => exact iteF (P1 S1 H1 R1 Tr.refl t1)
theorem w_or {f g : En → R (Cl × En)} {rest : List Expr} (ha : PT X ea (tTst W X.K (testR f))) (hb : PW X (.BoolOp .Or (eb :: rest) pos) (tTst W X.K (testR g))) : PW X (.BoolOp .Or (ea :: eb :: rest) pos) (tTst W X.K (testR (bopV false f g))) := by
  refine wPW (pw_or ha hb) fun σ H Q ⟨S, e, R0, P⟩ => ?_
  rw [testR_bop] at P
  refine ⟨S, e, R0, (Post.bind P).mono fun b S1 e1 H1 hx R1 t1 P1 => ?_⟩
  cases b with
  | false => exact iteF ⟨S1, e1, R1, Post.mono P1 fun r S2 e2 H2 _ R2 t2 p => p (t1.trans t2)⟩
  | true => exact iteT (P1 S1 H1 R1 Tr.refl t1)
theorem s_ife {fc : En → R (Cl × En)} {f g : En → R (Cl × En)} (hc : PT X ec (tTst W X.K (testR fc))) (ha : PE X ea (tEv W X.K f)) (hb : PE X eb (tEv W X.K g)) :
    PE X (.IfExp ec ea eb pos) (tEv W X.K fun e => (testR fc e).bind fun (r, e) => if r then f e else g e) := by
  refine wPE (pe_ifExp hc ha hb) fun σ H Q ⟨S, e, R0, P⟩ => ?_
  refine ⟨S, e, R0, (Post.bind P).mono fun b S1 e1 H1 hx R1 t1 P1 => ?_⟩
  cases b with
  | true => exact iteT ⟨S1, e1, R1, Post.mono P1 fun r S2 e2 H2 _ R2 t2 p v hv => p (t1.trans t2) v (hv.dom t1)⟩
  | false => exact iteF ⟨S1, e1, R1, Post.mono P1 fun r S2 e2 H2 _ R2 t2 p v hv => p (t1.trans t2) v (hv.dom t1)⟩
/-! lists of expressions -/
variable {es : List Expr}
theorem vals_nil : PA X [] (tVals W X.K fun e => .ok ([], e)) := wPA pa_nil fun σ H Q ⟨S, e, R0, P⟩ => P S H R0 Tr.refl _ .nil
theorem vals_cons {f : En → R (D × En)} {g : En → R (List D × En)} (ha : PE X ea (tVal W X.K f)) (hr : PA X es (tVals W X.K g)) (hs : starEach (ea :: es) X.env = (false, eval ea X.env) :: starEach es X.env) :
    PA X (ea :: es) (tVals W X.K fun e => (f e).bind fun (d, e) => (g e).bind fun (ds, e) => .ok (d :: ds, e)) := by
  refine wPA (pa_cons ha hr hs) fun σ H Q ⟨S, e, R0, P⟩ => ?_
  refine ⟨S, e, R0, (Post.bind P).mono fun d S1 e1 H1 hx R1 t1 P1 v hv => ⟨S1, e1, R1, (Post.bind P1).mono fun ds S2 e2 H2 hx R2 t2 P2 vs hvs => ?_⟩⟩
  exact P2 S2 H2 R2 Tr.refl t2 (t1.trans t2) _ (.cons (hv.mono (t2.same R1)) hvs)
theorem ops_nil : PA X [] (tOps W X.K fun e => .ok ([], e)) := wPA pa_nil fun σ H Q ⟨S, e, R0, P⟩ => P S H R0 Tr.refl _ .nil
theorem ops_cons {g : En → R (List Op × En)} (ha : PE X ea (tOpd W X.K fa)) (hr : PA X es (tOps W X.K g)) (hs : starEach (ea :: es) X.env = (false, eval ea X.env) :: starEach es X.env) :
    PA X (ea :: es) (tOps W X.K fun e => (fa e).bind fun (d, e) => (g e).bind fun (ds, e) => .ok (d :: ds, e)) := by
  refine wPA (pa_cons ha hr hs) fun σ H Q ⟨S, e, R0, P⟩ => ?_
  refine ⟨S, e, R0, (Post.bind P).mono fun d S1 e1 H1 hx R1 t1 P1 v hv => ⟨S1, e1, R1, (Post.bind P1).mono fun ds S2 e2 H2 hx R2 t2 P2 vs hvs => ?_⟩⟩
  exact P2 S2 H2 R2 Tr.refl t2 (t1.trans t2) _ (.cons (hv.mono R1 t2) hvs)
theorem ops_get {K : PySem.W.Frag} {σ : St} {S : Addr → Prop} {e : En} {H : Hp} (R0 : Rel K S e σ H) : ∀ {vs : List V} {xs : List Op} {ds : List D}, Paired (OpV K σ S H) vs xs → xs.mapM (Op.get e) = some ds → OpBs K S H vs ds
  | _, [], ds, .nil, h => by
    rw [List.mapM_nil] at h
    cases h
    exact .nil
  | _, x :: xs, ds, .cons r t, h => by
    rw [List.mapM_cons] at h
    cases q : Op.get e x with
    | none => rw [q] at h; cases h
    | some d =>
      rw [q] at h
      cases q2 : xs.mapM (Op.get e) with
      | none => rw [q2] at h; cases h
      | some ds' =>
        rw [q2] at h
        cases h
        exact .cons (r.get R0 q) (ops_get R0 t q2)
theorem s_tup {k : Nat} {f : En → R (List D × En)} (h : PA X es (tVals W X.K f)) : PE X (.Tuple es k pos) (tEv W X.K fun e => (f e).bind fun (ds, e) => if ds.length ≤ sizeLine then .ok (.sh (.tuple ds), e) else .no) := by
  refine wPE (pe_tup h) fun σ H Q ⟨S, e, R0, P⟩ => ?_
  refine ⟨S, e, R0, (Post.bind P).mono fun ds S1 e1 H1 hx R1 t1 P1 vs hvs => ?_⟩
  by_cases hl : ds.length ≤ sizeLine
  · simp only [if_pos hl] at P1
    exact ⟨by rw [hvs.length]; exact hl, fun p hp => ((P1.fin R1 t1 (.inl ⟨_, rfl⟩)).2 _ rfl p _ hp hvs)⟩
  · simp only [if_neg hl] at P1
    exact P1.elim
theorem s_lst {f : En → R (List D × En)} (h : PA X es (tVals W X.K f)) : PE X (.List es pos) (tEv W X.K fun e => (f e).bind fun (ds, e) => if ds.length ≤ sizeLine then .ok (.ow (.list ds), e) else .no) := by
  refine wPE (pe_lst h) fun σ H Q ⟨S, e, R0, P⟩ => ?_
  refine ⟨S, e, R0, (Post.bind P).mono fun ds S1 e1 H1 hx R1 t1 P1 vs hvs => ?_⟩
  by_cases hl : ds.length ≤ sizeLine
  · simp only [if_pos hl] at P1
    exact ⟨by rw [hvs.length]; exact hl, fun p hp => ((P1.fin R1 t1 (.inr ⟨_, rfl⟩)) _ rfl p _ hp hvs)⟩
  · simp only [if_neg hl] at P1
    exact P1.elim
theorem s_idx {f : En → R (D × En)} (ha : PE X ea (tOpd W X.K fa)) (hb : PE X eb (tVal W X.K f)) (hs : PlainIx eb) :
    PE X (.Subscript ea eb pos) (tEv W X.K fun e => (fa e).bind fun (x, e) => (f e).bind fun (j, e) => (lift (x.getW e)).bind fun dx => (lift (idxD dx j)).bind fun r => .ok (.sh r, e)) := by
  refine wPE (pe_ix ix_any ha hb hs) fun σ H Q ⟨S, e, R0, P⟩ => ?_
  refine ⟨S, e, R0, (Post.bind P).mono fun x S1 e1 H1 _ R1 t1 P1 v hv => ⟨S1, e1, R1, (Post.bind P1).mono fun y S2 e2 H2 _ R2 t2 P2 w hw => ?_⟩⟩
  obtain ⟨dx, h1, P3⟩ := P2.lift
  obtain ⟨d, h2, P4⟩ := P3.lift
  exact ⟨S2, dx, y, d, (hv.mono R1 t2).getW R2 h1, hw.mono rst_same, h2, fun v hv => P4 S2 H2 R2 Tr.refl t2 (t1.trans t2) v hv⟩
/-- an optional bound -/
def tOptV (W : WX) (K : PySem.W.Frag) (f : En → R (Option Int × En)) : TO := fun σ H Q => ∃ S e, Rel K S e σ H ∧ Post W K σ S e H (f e) fun r S' e' H' => Q r H'
theorem wPO {X : Cx} {x : Option Expr} {t t' : TO} (h : PO X x t) (w : ∀ σ H Q, t' σ H Q → t σ H Q) : PO X x t' := ⟨fun pins s σ H Q I q => h.run pins s σ H Q I (w σ H Q q)⟩
theorem o_none : PO X none (tOptV W X.K fun e => .ok (none, e)) := wPO po_none fun σ H Q ⟨S, e, R0, P⟩ => P S H R0 Tr.refl
theorem o_some {f : En → R (D × En)} (h : PE X ea (tVal W X.K f)) : PO X (some ea) (tOptV W X.K fun e => (f e).bind fun (d, e) => match d with
    | .int i => .ok (some i, e)
    | _ => .no) := by
  refine wPO (po_some h) fun σ H Q ⟨S, e, R0, P⟩ => ?_
  refine ⟨S, e, R0, (Post.bind P).mono fun x S1 e1 H1 _ R1 t1 P1 v hv => ?_⟩
  cases x with
  | int i => exact ⟨i, hv.int_inv, P1 S1 H1 R1 Tr.refl t1⟩
  | _ => exact P1.elim
theorem s_slc {lo hi : Option Expr} {p2 : Pos} {f g : En → R (Option Int × En)} (ha : PE X ea (tOpd W X.K fa)) (hl : PO X lo (tOptV W X.K f)) (hu : PO X hi (tOptV W X.K g)) :
    PE X (.Subscript ea (.Slice lo hi none p2) pos) (tEv W X.K fun e => (fa e).bind fun (x, e) => (f e).bind fun (l, e) => (g e).bind fun (h, e) =>
    (lift (x.getW e)).bind fun dx => (lift (slcD dx l h)).bind fun r => .ok (r, e)) := by
  refine wPE (pe_slice sl_any ha hl hu) fun σ H Q ⟨S, e, R0, P⟩ => ?_
  refine ⟨S, e, R0, (Post.bind P).mono fun x S1 e1 H1 _ R1 t1 P1 v hv => ⟨S1, e1, R1, (Post.bind P1).mono fun y S2 e2 H2 _ R2 t2 P2 => ⟨S2, e2, R2, (Post.bind P2).mono fun z S3 e3 H3 _ R3 t3 P3 => ?_⟩⟩⟩
  obtain ⟨dx, h1, P4⟩ := P3.lift
  obtain ⟨c, h2, P5⟩ := P4.lift
  have P6 : Post W X.K σ S3 e3 H3 (.ok (c, e3)) fun r S' e' H' => Tr σ S e H S' e' H' → ∀ v, RV X.K H σ S' e' H' v r → Q v H' :=
    P5.mono fun a S' e' H' _ R' t' p t v hv => p (t3.trans t') (t2.trans (t3.trans t')) t v hv
  exact ⟨S3, dx, c, (hv.mono R1 (t2.trans t3)).getW R3 h1, h2, P6.fin R3 (t1.trans (t2.trans t3)) (slc_val h2)⟩
theorem s_rev {k : Nat} {p1 p2 p3 : Pos} (ha : PE X ea (tOpd W X.K fa)) : PE X (.Subscript ea (.Slice none none (some (.UnaryOp .USub (.Constant (.int 1) k p1) p2)) p3) pos)
    (tEv W X.K fun e => (fa e).bind fun (x, e) => (lift (x.get e)).bind fun dx => match dx with
    | .list ds => .ok (.ow (.list ds.reverse), e)
    | .tuple ds => .ok (.sh (.tuple ds.reverse), e)
    | _ => .no) := by
  refine wPE (pe_revT ha) fun σ H Q ⟨S, e, R0, P⟩ => ?_
  refine ⟨S, e, R0, (Post.bind P).mono fun x S1 e1 H1 _ R1 t1 P1 v hv => ?_⟩
  obtain ⟨dx, h1, P2⟩ := P1.lift
  cases dx with
  | list ds =>
    obtain ⟨a, xs, rfl, h2, h3⟩ := (hv.get R1 h1).list
    exact ⟨a, xs, rfl, .inl ⟨.of h2, fun p hp => (P2.fin R1 t1 (.inr ⟨_, rfl⟩)) _ rfl p _ hp h3.reverse⟩⟩
  | tuple ds =>
    obtain ⟨a, xs, rfl, h2, h3, h4⟩ := (hv.get R1 h1).tuple
    exact ⟨a, xs, rfl, .inr ⟨h2, fun p hp => (P2.fin R1 t1 (.inl ⟨_, rfl⟩)).2 _ rfl p _ hp h3.reverse⟩⟩
  | _ => exact P2.elim
theorem s_bi {op : Bi} {x : Str} {p : Pos} {f : En → R (List Op × En)} (hgd : X.A.guards = some []) (hr : ∃ k, Room k X.A) (hc : X.calm = true) (hg : Gl X x) (hm : X.mg x = none) (hv : bootBuiltins x = some (biFn op)) (ha : PA X (ea :: es) (tOps W X.K f)) (hn : x ≠ "__name__") (hdb : (x == ("__debug__" : Str)) = false)
    (hs : starEach (ea :: es) X.env = (false, eval ea X.env) :: starEach es X.env) (hpl : ∀ pos, (backTo pos (starEach es X.env)).any (·.1) = false) :
    PE X (.Call (.Name x p) (ea :: es) [] pos) (tEv W X.K fun e => (f e).bind fun (xs, e) => (lift (xs.mapM (Op.get e))).bind fun ds => (lift (biD op ds)).bind fun r => .ok (r, e)) := by
  have main : PE X (.Call (.Name x p) (ea :: es) [] pos) (tCB (rBi X.K op) (tOps W X.K f)) := by
    have h := call_bi (X := X) hc hgd hr op
    cases q : biFn op with
    | builtin id => exact pe_callB (id := id) (q ▸ h) hg hm (q ▸ hv) ha hn hdb hs (hpl _)
    | type T => exact pe_callTy (T := T) (q ▸ h) hg hm (q ▸ hv) ha hn hdb hs (hpl _)
    | _ => cases op <;> cases q
  refine wPE main fun σ H Q ⟨S, e, R0, P⟩ => ?_
  refine ⟨S, e, R0, (Post.bind P).mono fun xs S1 e1 H1 _ R1 t1 P1 vs hvs => ?_⟩
  obtain ⟨ds, h1, P2⟩ := P1.lift
  obtain ⟨c, h2, P3⟩ := P2.lift
  exact ⟨S1, ds, c, ops_get R1 hvs h1, h2, P3.fin R1 t1 (bi_val h2)⟩
theorem rp_rng {K : PySem.W.Frag} {H : Hp} : ∀ (m : Nat) (lo : Int), RpAll K H ((List.range m).map fun i : Nat => V.int (lo + (i : Nat))) (rangeD lo m)
  | 0, _ => .nil
  | m + 1, lo => by
    rw [List.range_succ_eq_map, List.map_cons, List.map_map, rangeD]
    refine .cons (by rw [show lo + ((0 : Nat) : Int) = lo by omega]; exact .int _) ?_
    have h := rp_rng (K := K) (H := H) m (lo + 1)
    have e : ((fun i : Nat => V.int (lo + (i : Nat))) ∘ Nat.succ) = fun i : Nat => V.int (lo + 1 + (i : Nat)) := by
      funext i
      show V.int _ = V.int _
      congr 1
      have : ((Nat.succ i : Nat) : Int) = (i : Int) + 1 := by omega
      omega
    rw [e]
    exact h
theorem s_rgl {t : Bool} {f : En → R (D × En)} {p1 p2 p3 p : Pos} (hc : X.calm = true) (hg : Gl X (if t then "tuple" else "list" : Str)) (hm : X.mg (if t then "tuple" else "list" : Str) = none) (hg2 : Gl X "range") (hm2 : X.mg "range" = none) (ha : PE X ea (tVal W X.K f)) (na : starEach [ea] X.env = (false, eval ea X.env) :: starEach [] X.env) :
    PE X (.Call (.Name (if t then "tuple" else "list" : Str) p1) [.Call (.Name "range" p2) [ea] [] p3] [] p) (tEv W X.K fun e => (f e).bind fun (d, e) => (lift (rglD t d)).bind fun r => .ok (r, e)) := by
  have ok : ∀ {n : Int} {r : Cl}, rglD t (.int n) = some r → RgOk 0 n ∧ r = (if t then .sh (.tuple (rangeD 0 n.toNat)) else .ow (.list (rangeD 0 n.toNat))) := fun {n r} h => by
    have h : (if small62 n && decide (n.toNat ≤ 1000000) then some (if t then Cl.sh (.tuple (rangeD 0 n.toNat)) else .ow (.list (rangeD 0 n.toNat))) else none) = some r := h
    split at h
    · rename_i q
      rw [Bool.and_eq_true, decide_eq_true_eq] at q
      have q1 := q.1
      unfold small62 at q1
      rw [Bool.and_eq_true, decide_eq_true_eq, decide_eq_true_eq] at q1
      have q2 := q.2
      cases h
      exact ⟨⟨by omega, by omega, q1.1, q1.2, by omega⟩, rfl⟩
    · cases h
  have rp : ∀ {K : PySem.W.Frag} {H : Hp} (n : Int), RpAll K H (rgV 0 n) (rangeD 0 n.toNat) := fun n => by
    unfold rgV
    rw [Int.sub_zero]
    exact rp_rng _ 0
  cases t with
  | false =>
    refine wPE (pe_listRg hc hg hm (prg_1 hg2 hm2 ha na) rfl) fun σ H Q ⟨S, e, R0, P⟩ => ?_
    refine ⟨S, e, R0, (Post.bind P).mono fun d S1 e1 H1 _ R1 t1 P1 v hv => ?_⟩
    obtain ⟨r, h1, P2⟩ := P1.lift
    cases d with
    | int n =>
      obtain ⟨q, rfl⟩ := ok h1
      exact ⟨n, hv.int_inv, q, fun a hq => (P2.fin R1 t1 (.inr ⟨_, rfl⟩)) _ rfl a _ hq (rp n)⟩
    | _ => cases h1
  | true =>
    refine wPE (pe_tupRg hc hg hm (prg_1 hg2 hm2 ha na) rfl) fun σ H Q ⟨S, e, R0, P⟩ => ?_
    refine ⟨S, e, R0, (Post.bind P).mono fun d S1 e1 H1 _ R1 t1 P1 v hv => ?_⟩
    obtain ⟨r, h1, P2⟩ := P1.lift
    cases d with
    | int n =>
      obtain ⟨q, rfl⟩ := ok h1
      exact ⟨n, hv.int_inv, q, fun a hq => (P2.fin R1 t1 (.inl ⟨_, rfl⟩)).2 _ rfl a _ hq (rp n)⟩
    | _ => cases h1
end
end PV
end
section
namespace PV
open PySem L2 Classical PySem.Spec PyProof.Rows

/-! ### promises of defs that may count on no guard being held -/
structure FnG (P : Program) (w : World) (K : PySem.W.Frag) (mg : Str → Option Value) (base : Heap) (CX : CXT) (k : Nat) (f : Addr) (fd : FuncData) (ps : List Str) (sp : Sp) : Prop where
  many : ∀ {vs H Q E}, sp vs H Q E → vs.length = ps.length
  goes : ∀ {A : Around} {out : List Env} {st : Shared} {H : Hp} {ar : Args} {us : List Value} {vs : List V} {Q : VK} {E : XK}, A.guards = some [] → Room k A → Env0 P w K mg base A out st H → BindsTo st fd ar (ps.zip us) → Vals vs us → sp vs H Q E →
    codeAny (model P w) A (.call (.ref f) ar) (CR CX out P w H st Q E) st
section
variable {P : Program} {w : World} {K : PySem.W.Frag} {mg : Str → Option Value} {base : Heap} {CX : CXT}
theorem FnG.up {j k : Nat} {f : Addr} {fd : FuncData} {ps : List Str} {sp : Sp} (G : FnG P w K mg base CX j f fd ps sp) (h : j ≤ k) : FnG P w K mg base CX k f fd ps sp :=
  ⟨G.many, fun hg hr => G.goes hg (hr.mono h)⟩
/-- the text's def, by its body -/
theorem fn_g {x qual : Str} {st : Stmt} {f : Addr} {fd : FuncData} {N ps : List Str} {k : Nat} {sp : Sp} (D0 : Fun K x qual st f fd) (SC0 : FnScope N ps (defScope st)) (hn : ∀ {vs H Q E}, sp vs H Q E → vs.length = ps.length)
    (hb : ∀ (cv : Value) (A : Around) (out : List Env) (t : Shared) (H : Hp) (vs : List V) (Q : VK) (E : XK), A.guards = some [] → Room k (A.deeper (envOfC qual (defScope st) t.heap.objs.size f cv)) → sp vs H Q E →
      ∃ b, PSs (cxOf (L2.CX P w) P w K mg base N qual (defScope st) f cv A out t H E) (defBody st) b ∧ b { nx := fun _ H' => Q .non H', rt := Q } (start N vs) H) : FnG P w K mg base (L2.CX P w) (k + 1) f fd ps sp := by
  obtain ⟨oc, od, kV, doc, pm, an, cv, ct, osl, rfl, look, code⟩ := D0.ex
  constructor
  · exact hn
  intro A out t H ar us vs Q E hg hr e0 bnd rv hs
  have keep : ∀ b o, base.get? b = some o → t.heap.get? b = some o := fun b o e => (e0.bs b o e).1
  have inK : K.In t.heap := e0.mod.kin.keeps keep
  have places : ∀ z ∈ ps.zip us, (defScope st).names.lookup z.1 = some .local ∨ ((defScope st).names.lookup z.1 = some .cell ∧ ((cellsFrom (t.heap.objs.size + 1) (defScope st).names []).lookup z.1).isSome = true) := by
    rintro ⟨n, u⟩ hz
    have hmem := (List.of_mem_zip hz).1
    cases SC0.par n hmem with
    | inl q => exact Or.inl q
    | inr q => exact Or.inr ⟨q, PySem.W.cellsFrom_some _ _ _ (Or.inl q)⟩
  apply codeAny_call_function hr.depth (inK _ _ look) rfl SC0.co SC0.gen rfl (PySem.W.codeRec_of inK code)
  apply bnd
  apply wpAny_newFunctionEnv_cells SC0.kind places
  intro env henv t1 ic
  subst henv
  refine And.intro ((e0.mod.nolimit.keeps keep).keeps ic.toInCall.keep) (codeAny_func ?_)
  obtain ⟨b, hb1, hb2⟩ := hb cv A out t H vs Q E hg (hr.deeper _) hs
  have I0 : Inv (cxOf (L2.CX P w) P w K mg base N qual (defScope st) f cv A out t H E) [] (start N vs) H t1 := inv_start SC0 hr.hd e0 (hn hs) rv ic
  apply wpAny_mono (hb1.run [] t1 (start N vs) H _ I0 hb2)
  · intro fl t2 h2
    cases fl with
    | next =>
      obtain ⟨τ, H2, J, q⟩ := h2
      exact ⟨V.non, H2, J.os, J.bare, J.base, J.hok, rfl, q⟩
    | ret u =>
      obtain ⟨v, τ, H2, J, r2, q⟩ := h2
      exact ⟨v, H2, J.os, J.bare, J.base, J.hok, r2, q⟩
    | brk => exact h2.choose_spec.choose_spec.2.elim
    | cont => exact h2.choose_spec.choose_spec.2.elim
  · exact fun _ _ h2 => h2
end
section
variable {X : Cx} {CX : CXT} {k : Nat} {f : Addr} {fd : FuncData} {ps : List Str} {sp : Sp} {E : L2.St → XK} {x : Str} {p pos : Pos} {e : Expr} {es : List Expr} {t : TA}
theorem run_g {pins : List (Addr × Obj)} {σ : L2.St} {H : Hp} {s : Shared} {Q : VK} {us : List Value} {vs : List V} (G : FnG X.prog X.w X.K X.mg X.base CX k f fd ps sp) (hgd : X.A.guards = some []) (hr : Room k X.A) (bd : Binds X.K fd ps []) (pa : PassesAt CX X σ (E σ))
    (I : Inv X pins σ H s) (rv : Vals vs us) (hs : sp vs H Q (E σ)) : wpAny (model X.prog X.w) X.A (call (.ref f) us) (EP X pins σ Q) X.xe s := by
  have n1 : us.length = ps.length := rv.length.symm.trans (G.many hs)
  have b1 : BindsTo s fd ⟨us, []⟩ (ps.zip us) := by
    have b2 := bd s us I.kIn (by simpa using n1)
    rwa [List.append_nil] at b2
  refine wpAny_call (codeAny_mono (G.goes hgd hr I.env0 b1 rv hs) ?_)
  intro r s' hq
  cases r with
  | ok fl =>
    cases fl with
    | ret u => exact I.after hq
    | _ => exact hq.elim
  | error er => exact pa pins H s er s' I hq
theorem call_g (G : FnG X.prog X.w X.K X.mg X.base CX k f fd ps sp) (hgd : X.A.guards = some []) (hr : Room k X.A) (gl : Gl X x) (hm : X.mg x = some (.ref f)) (kp : PySem.W.keepIn X.K (.ref f) = true) (bd : Binds X.K fd ps []) (pa : ∀ σ, PassesAt CX X σ (E σ))
    (ha : PA X (e :: es) t) (hdb : (x == ("__debug__" : Str)) = false) (se : starEach (e :: es) X.env = (false, eval e X.env) :: starEach es X.env) (pl : (backTo pos (starEach es X.env)).any (·.1) = false) :
    PE X (.Call (.Name x p) (e :: es) [] pos) (tCallS sp E t) := by
  constructor
  intro pins s σ H Q I h
  apply wpAny_Call_Name_kw (ld_glob I gl hm _ hdb)
  apply PySem.W.callWith_K (h₀ := X.base) I.ok.mod.kin kp _ se pl
  refine thn (ha.run pos pins s σ H _ I h) ?_
  rintro us s1 ⟨vs, H1, I1, r, q⟩
  exact ⟨I1.kIn, run_g G hgd hr bd (pa σ) I1 r q⟩
end
end PV
end
section
namespace PV
open PySem L2 Classical

/-! ### methods of texts and lists -/
def meNm : Me → Str
  | .index => "index" | .count => "count" | .join => "join" | .get => "get" | .split => "split"
/-- one sign's first place -/
theorem occ_idx {z : Str} {c : Nat} (h : c ∈ z.cps.toList) : ∃ r, Builtin.Str.occurrences z ⟨#[c]⟩ 0 z.length 1 = z.cps.toList.idxOf c :: r := by
  rcases StrLaws.occ_head z ⟨#[c]⟩ 1 (Nat.le_refl _) with ⟨_, h2⟩ | ⟨i, r, h1, h2, h3⟩
  · obtain ⟨i, hi, e⟩ := List.getElem_of_mem h
    exact absurd ((StrLaws.subAt_one z c i).mpr (by rw [List.getElem?_eq_getElem hi, e])) (h2 i)
  · refine ⟨r, ?_⟩
    have hi := (StrLaws.subAt_one z c i).mp h2
    have h3' : ∀ k, k < i → z.cps.toList[k]? ≠ some c := fun k hk e => h3 k hk ((StrLaws.subAt_one z c k).mpr e)
    rw [h1]
    congr 1
    generalize z.cps.toList = l at hi h3'
    clear h h1 h2 h3
    induction l generalizing i with
    | nil => simp at hi
    | cons x l ih =>
      rw [List.idxOf_cons]
      cases i with
      | zero =>
        have : x = c := by simpa using hi
        subst this
        simp
      | succ i =>
        have hx : (x == c) = false := by
          have := h3' 0 (Nat.succ_pos _)
          simpa using this
        rw [hx]
        simp only [cond_false]
        rw [ih i (by simpa using hi) (fun k hk e => h3' (k + 1) (by omega) (by simpa using e))]
/-- one sign's number -/
theorem cnt_one (z : Str) (c : Nat) : Txt.count z ⟨#[c]⟩ = (z.cps.toList.count c : Nat) := by
  rw [PyProof.Rows.count_is]
  generalize z.cps.toList = l
  have : ∀ l : List Nat, PyProof.Rows.cnt c l = (l.count c : Nat) := by
    intro l
    induction l with
    | nil => rfl
    | cons x l ih =>
      rw [PyProof.Rows.cnt_cons, ih, List.count_cons]
      by_cases h : x = c
      · subst h; simp; omega
      · simp [h]
  exact this l
section
variable {X : Cx} {W : WX} {ea : Expr} {pos : Pos} {fa : En → R (Op × En)}
/-- a list's number of things that are like one -/
def rCntD (K : PySem.W.Frag) : V → List V → Hp → VK → Prop := fun x xs H Q => ∃ (p : Addr) (vs : List V) (ds : List D) (y : V) (d : D) (S : Addr → Prop), x = .ref p ∧ xs = [y] ∧ H p = some (.lst vs) ∧ RpAll K (rst H S) vs ds ∧ Rp K H y d ∧ cntOk ds d = true ∧
  Q (.int (ds.countP fun y => y.eqv d : Nat)) H
theorem mt_cntD (hu : X.A.units + 64 < cLine) : MtR X "list.count" (rCntD X.K) := by
  intro pins s σ H x xs v us Q I rx rxs h
  obtain ⟨p, vs, ds, y, d, S, rfl, rfl, hp, hx, hy, hok, q⟩ := h
  cases rx
  obtain ⟨u, rfl, ru⟩ := Vals.one rxs
  obtain ⟨its, rv, hl, hz⟩ := I.list (.of hp)
  obtain ⟨as, h1⟩ := (hx.mono rst_same).reads I rv
  obtain ⟨bs, h2⟩ := hy.reads I ru
  unfold cntOk at hok
  simp only [Bool.and_eq_true, decide_eq_true_eq] at hok
  refine SeqAt.count_list_data hl.isList (by simpa using h1) h2 hok.1.1 hok.1.2 ?_ ⟨.int _, H, I.tok _, ⟨s.toks, rfl⟩, q⟩
  have := Nat.min_le_right (PyData.depthAll ds) d.depth
  have := hok.2
  omega
def tMth (K : PySem.W.Frag) (X : Cx) (name : Str) (to : TE) (t : TA) : TE := fun σ H Q => to σ H fun x H1 => ∃ T id r, PlainAttrs T ∧ Slot T name id ∧ typeOf (.builtin id) = pure (.type "method_descriptor") ∧ MtR X id r ∧ tyV K T x H1 ∧ t σ H1 fun xs H2 => r x xs H2 Q
/-- a method whose kind is told by what it is asked of -/
theorem pe_mth {o e : Expr} {to : TE} {t : TA} {name : Str} {apos cpos : Pos} (ho : PE X o to) (ha : PA X [e] t) (hbase : attributeBase o name X.env (eval o X.env) = eval o X.env)
    (hs : starEach [e] X.env = (false, eval e X.env) :: starEach [] X.env) (hln : (apos.endLine == cpos.line) = true) :
    PE X (.Call (.Attribute o name apos) [e] [] cpos) (tMth X.K X name to t) := by
  refine ⟨fun pins s σ H Q I h => ?_⟩
  refine wpAny_Call_method_late hbase (by rw [hs]; rfl) hln rfl (thn (ho.run pins s σ H _ I h) ?_)
  rintro v s1 ⟨x, H1, I1, r1, T, id, r, pa, slot, hty, hm, ty, q1⟩
  obtain ⟨h1, h2⟩ := tyV_is I1 r1 ty
  refine ⟨T, id, pa, slot, hty, h1, h2, ?_⟩
  have hA := ha.run cpos pins s1 σ H1 _ I1 q1
  rw [hs]
  refine Calls.callWith_builtin rfl (Calls.evalArgs_plain (thn (by rw [hs] at hA; exact hA) ?_))
  rintro us s2 ⟨vs, H2, I2, r2, q2⟩
  exact hm pins s2 σ H2 x vs v us Q I2 r1 r2 q2
theorem strs_vals {K : PySem.W.Frag} {H : Hp} : ∀ {vs : List V} {ds : List D} {ts : List Str}, RpAll K H vs ds → strsL ds = some ts → vs = ts.map V.str
  | _, [], ts, .nil, h => by cases h; rfl
  | _, d :: ds, ts, .cons q qs, h => by
    cases d <;> first
      | (rename_i t
         obtain ⟨ts', h1, rfl⟩ := Option.map_eq_some_iff.mp (show (strsL ds).map (t :: ·) = some ts from h)
         rw [q.str_inv, strs_vals qs h1]; rfl)
      | cases h
theorem me_cnt {z : Str} {r : Cl} : ∀ {ds : List D}, meD .count (.str z) ds = some r → ∃ x c, ds = [.str x] ∧ x.cps.toList = [c] ∧ r = .sh (.int (z.cps.toList.count c : Nat))
  | [], h => by cases h
  | _ :: _ :: _, h => by unfold meD at h; split at h <;> simp_all
  | [d], h => by
    cases d <;> first
      | (rename_i x
         have h : (match x.cps.toList with
           | [c] => some (Cl.sh (.int (z.cps.toList.count c : Nat)))
           | _ => none) = some r := h
         split at h
         · rename_i c hc
           cases h
           exact ⟨_, c, rfl, hc, rfl⟩
         · cases h)
      | cases h
theorem me_idx {z : Str} {r : Cl} : ∀ {ds : List D}, meD .index (.str z) ds = some r → ∃ x c, ds = [.str x] ∧ x.cps.toList = [c] ∧ c ∈ z.cps.toList ∧ r = .sh (.int (z.cps.toList.idxOf c : Nat))
  | [], h => by cases h
  | _ :: _ :: _, h => by unfold meD at h; split at h <;> simp_all
  | [d], h => by
    cases d <;> first
      | (rename_i x
         have h : (match x.cps.toList with
           | [c] => if c ∈ z.cps.toList then some (Cl.sh (.int (z.cps.toList.idxOf c : Nat))) else none
           | _ => none) = some r := h
         split at h
         · rename_i c hc
           split at h
           · cases h
             exact ⟨_, c, rfl, hc, by assumption, rfl⟩
           · cases h
         · cases h)
      | cases h
theorem me_join {z : Str} {r : Cl} : ∀ {ds : List D}, meD .join (.str z) ds = some r → ∃ xs ts, ds = [.list xs] ∧ strsL xs = some ts ∧ (ts.map (·.length)).sum + ts.length * z.length ≤ 16777216 ∧ r = .sh (.str (joinS z ts))
  | [], h => by cases h
  | _ :: _ :: _, h => by unfold meD at h; split at h <;> simp_all
  | [d], h => by
    cases d <;> first
      | (rename_i xs
         have h : ((strsL xs).bind fun ts => if (ts.map (·.length)).sum + ts.length * z.length ≤ 16777216 then some (Cl.sh (.str (joinS z ts))) else none) = some r := h
         obtain ⟨ts, h1, h2⟩ := Option.bind_eq_some_iff.mp h
         split at h2
         · cases h2
           exact ⟨_, ts, rfl, h1, by assumption, rfl⟩
         · cases h2)
      | cases h
theorem cps_one {x : Str} {c : Nat} (h : x.cps.toList = [c]) : x = ⟨#[c]⟩ := by
  cases x with
  | mk a =>
    have : a = #[c] := by
      apply Array.ext'
      exact h
    rw [this]
theorem me_lcnt {d : D} {ds : List D} {r : Cl} (hd : ∀ z, d ≠ .str z) (h : meD .count d ds = some r) : (∃ ds' k ns, d = .list ds' ∧ ds = [.int k] ∧ intsL ds' = some ns ∧ r = .sh (.int (ns.count k : Nat))) ∨ ∃ ds' d', d = .list ds' ∧ ds = [d'] ∧ cntOk ds' d' = true ∧ r = .sh (.int (ds'.countP fun y => y.eqv d' : Nat)) := by
  obtain ⟨ds0, rfl⟩ : ∃ ds0, d = .list ds0 := by
    cases d <;> first
      | exact ⟨_, rfl⟩
      | exact absurd rfl (hd _)
      | (unfold meD at h; cases h)
  match ds, h with
  | [], h => cases h
  | _ :: _ :: _, h => unfold meD at h; split at h <;> simp_all
  | [x], h =>
    by_cases hx : ∃ k, x = .int k
    · obtain ⟨k, rfl⟩ := hx
      obtain ⟨ns, hns, e'⟩ := Option.map_eq_some_iff.mp (show (intsL ds0).map (fun ns => Cl.sh (.int (ns.count k : Nat))) = some r from h)
      exact .inl ⟨ds0, k, ns, rfl, rfl, hns, e'.symm⟩
    · have h : (if cntOk ds0 x then some (Cl.sh (.int (ds0.countP fun y => y.eqv x : Nat))) else none) = some r := by
        cases x <;> first | exact absurd ⟨_, rfl⟩ hx | exact h
      split at h
      · cases h
        exact .inr ⟨ds0, x, rfl, rfl, by assumption, rfl⟩
      · cases h
theorem me_lidx {d : D} {ds : List D} {r : Cl} (hd : ∀ z, d ≠ .str z) (h : meD .index d ds = some r) : ∃ ds' k ns, d = .list ds' ∧ ds = [.int k] ∧ intsL ds' = some ns ∧ k ∈ ns ∧ r = .sh (.int (ns.idxOf k : Nat)) := by
  obtain ⟨ds0, rfl⟩ : ∃ ds0, d = .list ds0 := by
    cases d <;> first
      | exact ⟨_, rfl⟩
      | exact absurd rfl (hd _)
      | (unfold meD at h; cases h)
  match ds, h with
  | [], h => cases h
  | _ :: _ :: _, h => unfold meD at h; split at h <;> simp_all
  | [x], h =>
    cases x with
    | int k =>
      obtain ⟨ns, hns, e'⟩ := Option.bind_eq_some_iff.mp (show ((intsL ds0).bind fun ns => if k ∈ ns then some (Cl.sh (.int (ns.idxOf k : Nat))) else none) = some r from h)
      split at e'
      · cases e'
        exact ⟨ds0, k, ns, rfl, rfl, hns, by assumption, rfl⟩
      · cases e'
    | _ => unfold meD at h; cases h
theorem s_me {op : Me} {o : Expr} {p1 p2 : Pos} {f : En → R (List D × En)} (hu : X.A.units + 64 < cLine) (ho : PE X o (tOpd W X.K fa)) (ha : PA X [ea] (tVals W X.K f)) (hbase : attributeBase o (meNm op) X.env (eval o X.env) = eval o X.env) (hs : starEach [ea] X.env = (false, eval ea X.env) :: starEach [] X.env) (hln : (p1.endLine == p2.line) = true) :
    PE X (.Call (.Attribute o (meNm op) p1) [ea] [] p2) (tEv W X.K fun e => (fa e).bind fun (x, e) => (lift (x.get e)).bind fun d0 => meG op d0 (fun e => (f e).bind fun (ds, e) => (lift (x.get e)).bind fun d => (lift (meD op d ds)).bind fun r => .ok (r, e)) (fun e => (f e).bind fun (ds, e) => (lift (meD op d0 ds)).bind fun r => .ok (r, e)) e) := by
  refine wPE (pe_mth ho ha hbase hs hln) fun σ H Q ⟨S, e, R0, P⟩ => ?_
  refine ⟨S, e, R0, (Post.bind P).mono fun x S1 e1 H1 _ R1 t1 P1 v hv => ?_⟩
  obtain ⟨d0, h0, P2⟩ := P1.lift
  cases d0 with
  | list ds0 =>
    obtain ⟨a, xs, rfl, h2, h3⟩ := (hv.get R1 h0).list
    cases op with
    | count =>
      have hr : MtR X "list.count" fun x xs H Q => rCntI X.K x xs H Q ∨ rCntD X.K x xs H Q := fun pins s σ H x xs v us Q I rx rxs h => by
        rcases h with h | h
        · exact mt_lcount pins s σ H x xs v us Q I rx rxs h
        · exact mt_cntD hu pins s σ H x xs v us Q I rx rxs h
      refine ⟨"list", "list.count", _, PySem.F.plainAttrs_list, PySem.F.slot_list_count, PySem.F.type_list_count, hr, .inl ⟨rfl, xs, .of h2⟩, S1, e1, R1, (Post.bind P2).mono fun ds S2 e2 H2 _ R2 t2 P3 us hus => ?_⟩
      obtain ⟨d, h4, P4⟩ := P3.lift
      obtain ⟨r, h5, P5⟩ := P4.lift
      have P6 : Post W X.K σ S2 e2 H2 (.ok (r, e2)) fun r S' e' H' => Tr σ S e H S' e' H' → ∀ v, RV X.K H σ S' e' H' v r → Q v H' :=
        P5.mono fun a S' e' H' _ R' t' p t v hv => p (t2.trans t') t v hv
      have hg := (hv.mono R1 t2).get R2 h4
      rcases me_lcnt (fun z e => by subst e; have := hg.str; cases this) h5 with ⟨ds', k, ns, rfl, rfl, hns, rfl⟩ | ⟨ds', d', rfl, rfl, hok, rfl⟩
      · obtain ⟨c, ys, e', h6, h7⟩ := hg.list
        cases e'
        obtain ⟨rfl, _⟩ := h7.ints hns
        cases hus with
        | cons q1 q2 =>
          cases q2
          exact .inl ⟨_, ns, k, rfl, by rw [q1.int_inv], .of h6, (P6.fin R2 (t1.trans t2) (.inl ⟨_, rfl⟩)).1 _ (.int _)⟩
      · obtain ⟨c, ys, e', h6, h7⟩ := hg.list
        cases e'
        cases hus with
        | cons q1 q2 =>
          cases q2
          exact .inr ⟨_, ys, ds', _, d', S2, rfl, rfl, h6, h7, q1.mono rst_same, hok, (P6.fin R2 (t1.trans t2) (.inl ⟨_, rfl⟩)).1 _ (.int _)⟩
    | index =>
      refine ⟨"list", "list.index", _, PySem.F.plainAttrs_list, PySem.F.slot_list_index, PySem.F.type_list_index, mt_index, .inl ⟨rfl, xs, .of h2⟩, S1, e1, R1, (Post.bind P2).mono fun ds S2 e2 H2 _ R2 t2 P3 us hus => ?_⟩
      obtain ⟨d, h4, P4⟩ := P3.lift
      obtain ⟨r, h5, P5⟩ := P4.lift
      have P6 : Post W X.K σ S2 e2 H2 (.ok (r, e2)) fun r S' e' H' => Tr σ S e H S' e' H' → ∀ v, RV X.K H σ S' e' H' v r → Q v H' :=
        P5.mono fun a S' e' H' _ R' t' p t v hv => p (t2.trans t') t v hv
      have hg := (hv.mono R1 t2).get R2 h4
      obtain ⟨ds', k, ns, rfl, rfl, hns, hk, rfl⟩ := me_lidx (fun z e => by subst e; have := hg.str; cases this) h5
      obtain ⟨c, ys, e', h6, h7⟩ := hg.list
      cases e'
      obtain ⟨rfl, _⟩ := h7.ints hns
      cases hus with
      | cons q1 q2 =>
        cases q2
        have hi : ns.idxOf k < ns.length := List.idxOf_lt_length_iff.mpr hk
        refine ⟨_, ns.map V.int, .int k, ns.idxOf k, .int k, rfl, by rw [q1.int_inv], .of h6, rfl, by simp [flatV], ?_, by simp [eqV], fun m z' hm hz => ?_, (P6.fin R2 (t1.trans t2) (.inl ⟨_, rfl⟩)).1 _ (.int _)⟩
        · rw [List.getElem?_map, List.getElem?_eq_getElem hi, List.getElem_idxOf hi]
          rfl
        · rw [List.getElem?_map, Option.map_eq_some_iff] at hz
          obtain ⟨a, ha, rfl⟩ := hz
          show (a == k) = false
          have := List.not_of_lt_findIdx (p := (· == k)) (xs := ns) (i := m) hm
          have hm2 : m < ns.length := Nat.lt_trans hm hi
          rw [List.getElem?_eq_getElem hm2] at ha
          cases ha
          simpa using this
    | _ => exact P2.elim
  | str z =>
    have hz := (hv.get R1 h0).str
    subst hz
    cases op with
    | get => exact P2.elim
    | split => exact P2.elim
    | count =>
      refine ⟨"str", "str.count", _, PySem.F.plainAttrs_str, PySem.F.slot_str_count, PySem.F.type_str_count, mt_count, rfl, S1, e1, R1, (Post.bind P2).mono fun ds S2 e2 H2 _ R2 t2 P3 us hus => ?_⟩
      obtain ⟨r, h5, P5⟩ := P3.lift
      have P6 : Post W X.K σ S2 e2 H2 (.ok (r, e2)) fun r S' e' H' => Tr σ S e H S' e' H' → ∀ v, RV X.K H σ S' e' H' v r → Q v H' :=
        P5.mono fun a S' e' H' _ R' t' p t v hv => p (t2.trans t') t v hv
      obtain ⟨x', c, rfl, hc, rfl⟩ := me_cnt h5
      cases hus with
      | cons q1 q2 =>
        cases q2
        refine ⟨z, x', rfl, by rw [q1.str_inv], ?_⟩
        rw [cps_one hc, cnt_one]
        exact (P6.fin R2 (t1.trans t2) (.inl ⟨_, rfl⟩)).1 _ (.int _)
    | index =>
      refine ⟨"str", "str.index", _, PySem.F.plainAttrs_str, PySem.F.slot_str_index, PySem.F.type_str_index, mt_sindex, rfl, S1, e1, R1, (Post.bind P2).mono fun ds S2 e2 H2 _ R2 t2 P3 us hus => ?_⟩
      obtain ⟨r, h5, P5⟩ := P3.lift
      have P6 : Post W X.K σ S2 e2 H2 (.ok (r, e2)) fun r S' e' H' => Tr σ S e H S' e' H' → ∀ v, RV X.K H σ S' e' H' v r → Q v H' :=
        P5.mono fun a S' e' H' _ R' t' p t v hv => p (t2.trans t') t v hv
      obtain ⟨x', c, rfl, hc, hm, rfl⟩ := me_idx h5
      obtain ⟨rr, ho⟩ := occ_idx hm
      cases hus with
      | cons q1 q2 =>
        cases q2
        refine ⟨z, x', _, rr, rfl, by rw [q1.str_inv], by rw [cps_one hc]; exact ho, ?_⟩
        exact (P6.fin R2 (t1.trans t2) (.inl ⟨_, rfl⟩)).1 _ (.int _)
    | join =>
      refine ⟨"str", "str.join", _, PySem.F.plainAttrs_str, PySem.F.slot_str_join, PySem.F.type_str_join, mt_join, rfl, S1, e1, R1, (Post.bind P2).mono fun ds S2 e2 H2 _ R2 t2 P3 us hus => ?_⟩
      obtain ⟨r, h5, P5⟩ := P3.lift
      have P6 : Post W X.K σ S2 e2 H2 (.ok (r, e2)) fun r S' e' H' => Tr σ S e H S' e' H' → ∀ v, RV X.K H σ S' e' H' v r → Q v H' :=
        P5.mono fun a S' e' H' _ R' t' p t v hv => p (t2.trans t') t v hv
      obtain ⟨xs, ts, rfl, hts, hl, rfl⟩ := me_join h5
      cases hus with
      | cons q1 q2 =>
        cases q2
        obtain ⟨a, vs, rfl, h6, h7⟩ := q1.list_inv
        have h8 := strs_vals h7 hts
        subst h8
        exact ⟨z, a, ts, rfl, rfl, .inl (.of (rst_same _ _ h6)), hl, (P6.fin R2 (t1.trans t2) (.inl ⟨_, rfl⟩)).1 _ (.str _)⟩
  | _ => cases op <;> exact P2.elim
end
end PV
end
section
namespace PV
open PySem L2 Classical

/-! ### a def's promise -/
def ArgR (K : PySem.W.Frag) (S : Addr → Prop) (H : Hp) (kd : Nat) (vs : List V) (ds : List D) : Prop :=
  if kd = 0 then RpAll K (rst H S) vs ds
  else ∃ a vs' d ds', vs = .ref a :: vs' ∧ ds = d :: ds' ∧ RpAll K (rst H S) vs' ds' ∧ if kd = 1 then S a ∧ OwR K H (rst H S) a d else FzR K (rst H S) a d
def IoA (kd : Nat) (vs : List V) (b : Addr) : Prop := kd = 1 ∧ ∃ vs', vs = .ref b :: vs'
def RVf (K : PySem.W.Frag) (H H' : Hp) (S' : Addr → Prop) (v : V) : Cl → Prop
  | .sh d => Rp K (rst H' S') v d
  | .ow d => ∃ p, v = .ref p ∧ H p = none ∧ S' p ∧ OwR K H' (rst H' S') p d
  | _ => False
structure FnPost (S : Addr → Prop) (H : Hp) (kd : Nat) (vs : List V) (S' : Addr → Prop) (H' : Hp) : Prop where
  keep : ∀ b o, H b = some o → ¬ IoA kd vs b → H' b = some o
  dom : ∀ b, H b ≠ none → H' b ≠ none
  hid : ∀ b, S b → S' b
  gr : ∀ b o, H b = some o → ¬ S b → ¬ S' b
  trk : ∀ b, S' b → H' b ≠ none
def FnEnd (K : PySem.W.Frag) (S : Addr → Prop) (H : Hp) (kd : Nat) (vs : List V) (Q : VK) (E : XK) : FR → Prop
  | .ok r h => ∀ v H' S', FnPost S H kd vs S' H' → (∀ a, IoA kd vs a → OwR K H' (rst H' S') a h) → RVf K H H' S' v r → Q v H'
  | .rz x => kd ≠ 1 ∧ ∀ C da H' S', FnPost S H kd vs S' H' → RX K x C da H' → E C da H'
  | .no => False
def spOf (K : PySem.W.Frag) (F : FSig) : Sp := fun vs H Q E => ∃ (S : Addr → Prop) (ds : List D), (∀ b, S b → H b ≠ none) ∧ ArgR K S H F.kd vs ds ∧ FnEnd K S H F.kd vs Q E (F.sem ds)

section
variable {X : Cx} {W : WX} {ea eb ec : Expr} {pos : Pos} {es : List Expr} {K : PySem.W.Frag} {σ : St} {S S' S1 : Addr → Prop} {e e' e1 : En} {H H' H1 : Hp}
theorem Rel.tracked (r : Rel K S e σ H) {i : Nat} {b : Addr} (h : HeldA e σ i b) : H b ≠ none := by
  obtain ⟨⟨d, h1⟩, h2⟩ := h
  obtain ⟨a, h3, h4, _⟩ := r.held i d h1
  exact h2.ref h3 ▸ r.trk _ h4
theorem FnPost.same {vs : List V} {kd : Nat} (p : FnPost S H kd vs S' H') (hio : ∀ a, IoA kd vs a → S a) : Same (rst H S) (rst H' S') := fun b o q => by
  obtain ⟨h1, h2⟩ := rst_in.mp q
  exact rst_in.mpr ⟨p.keep b o h1 fun z => h2 (hio b z), p.gr b o h1 h2⟩
/-- behind a call that leaves the slots as they are -/
theorem call_plain {vs : List V} {kd : Nat} (R1 : Rel K S e σ H) (p : FnPost S H kd vs S' H') (hk : ∀ b, ¬ IoA kd vs b) : Rel K S' e σ H' ∧ Tr σ S e H S' e H' :=
  ⟨R1.grow (p.same fun a z => absurd z (hk a)) (fun i b o hb ho => ⟨p.keep b o ho (hk b), by
    obtain ⟨⟨d, h1⟩, h2⟩ := hb
    obtain ⟨a, h3, h4, _⟩ := R1.held i d h1
    exact p.hid _ (h2.ref h3 ▸ h4)⟩) p.trk,
   ⟨fun b o h _ => p.keep b o h (hk b), p.dom, p.gr, fun b h _ => p.hid b h, fun i d h => ⟨d, h⟩, fun _ => Iff.rfl, fun _ _ => Iff.rfl, rfl⟩⟩
theorem RVf.rv {r : Cl} {v : V} (R1 : Rel K S1 e1 σ H1) (t1 : Tr σ S e H S1 e1 H1) (hh : ∀ i b, HeldA e' σ i b → HeldA e1 σ i b) (h : RVf K H1 H' S' v r) : RV K H σ S' e' H' v r := by
  cases r with
  | ow d =>
    obtain ⟨p, h1, h2, h3, h4⟩ := h
    refine ⟨p, h1, ?_, h3, fun i z => R1.tracked (hh i p z) h2, h4⟩
    cases q : H p with
    | none => rfl
    | some o => exact absurd h2 (t1.dom p (by rw [q]; simp))
  | _ => exact h
theorem callS0 {F : FSig} (hk : F.kd = 0) (ds : List D) (e : En) (x : Option Nat) : callS F x ds e = match F.sem ds with
    | .ok r _ => .ok (r, e)
    | .rz x => .rz x e
    | .no => .no := by
  unfold callS
  rw [hk]
  cases x <;> rfl
theorem s_call_core {F : FSig} {ds : List D} {vs : List V} {Q : VK} (hk : F.kd = 0) (R0 : Rel X.K S e σ H) (R1 : Rel X.K S1 e1 σ H1) (t1 : Tr σ S e H S1 e1 H1) (hvs : RpAll X.K (rst H1 S1) vs ds)
    (P : Post W X.K σ S1 e1 H1 (callS F none ds e1) fun r S2 e2 H2 => ∀ v, RV X.K H σ S2 e2 H2 v r → Q v H2) : spOf X.K F vs H1 Q (WE W σ) := by
  rw [callS0 hk] at P
  refine ⟨S1, ds, R1.trk, by unfold ArgR; rw [if_pos hk]; exact hvs, ?_⟩
  have hio : ∀ b, ¬ IoA F.kd vs b := fun b z => by rw [hk] at z; exact absurd z.1 (by decide)
  cases q : F.sem ds with
  | ok r h =>
    rw [q] at P
    intro v H' S' p _ hr
    obtain ⟨R2, t2⟩ := call_plain R1 p hio
    exact P S' H' R2 t2 v (hr.rv R1 t1 fun i b z => z)
  | rz x =>
    rw [q] at P
    refine ⟨by rw [hk]; decide, fun C da H' S' p hx => ?_⟩
    obtain ⟨R2, t2⟩ := call_plain R1 p hio
    exact P C da S' H' R2 t2 hx
  | no => rw [q] at P; exact P.elim
theorem s_call {F : FSig} {k : Nat} {f : Addr} {fd : FuncData} {ps : List Str} {x : Str} {p : Pos} {g : En → R (List D × En)} (hkd : F.kd = 0) (tk : Takes X W)
    (ok : FnG X.prog X.w X.K X.mg X.base (L2.CX X.prog X.w) k f fd ps (spOf X.K F)) (hgd : X.A.guards = some []) (hr : Room k X.A) (hg : Gl X x) (hm : X.mg x = some (.ref f)) (hk : PySem.W.keepIn X.K (.ref f) = true) (hb : Binds X.K fd ps [])
    (ha : PA X (ea :: es) (tVals W X.K g)) (hdb : (x == ("__debug__" : Str)) = false) (hs : starEach (ea :: es) X.env = (false, eval ea X.env) :: starEach es X.env) (hpl : ∀ pos, (backTo pos (starEach es X.env)).any (·.1) = false) :
    PE X (.Call (.Name x p) (ea :: es) [] pos) (tEv W X.K fun e => (g e).bind fun (ds, e) => callS F none ds e) := by
  refine wPE (call_g ok hgd hr hg hm hk hb (fun σ => passAt tk σ) ha hdb hs (hpl _)) fun σ H Q ⟨S, e, R0, P⟩ => ?_
  refine ⟨S, e, R0, (Post.bind P).mono fun ds S1 e1 H1 _ R1 t1 P1 vs hvs => ?_⟩
  exact s_call_core hkd R0 R1 t1 hvs (P1.mono fun r S2 e2 H2 _ R2 t2 p => p (t1.trans t2))
theorem pe_callS0 {k : Nat} {f : Addr} {fd : FuncData} {ps : List Str} {sp : Sp} {x : Str} {p : Pos} {CX : CXT} {E : St → XK} (F : FnG X.prog X.w X.K X.mg X.base CX k f fd ps sp) (hgd : X.A.guards = some []) (hr : Room k X.A) (hg : Gl X x) (hm : X.mg x = some (.ref f)) (hk : PySem.W.keepIn X.K (.ref f) = true) (hb : Binds X.K fd ps []) (hx : ∀ σ, PassesAt CX X σ (E σ))
    (hdb : (x == ("__debug__" : Str)) = false) : PE X (.Call (.Name x p) [] [] pos) (tCallS sp E tNil) := by
  refine ⟨fun pins s σ H Q I h => ?_⟩
  refine wpAny_Call_Name_kw (ld_glob I hg hm ?_ hdb)
  exact PySem.W.callWith_K0 I.kIn hk (run_g (us := []) F hgd hr hb (hx σ) I .nil h)
theorem s_call0 {F : FSig} {k : Nat} {f : Addr} {fd : FuncData} {ps : List Str} {x : Str} {p : Pos} (hkd : F.kd = 0) (tk : Takes X W)
    (ok : FnG X.prog X.w X.K X.mg X.base (L2.CX X.prog X.w) k f fd ps (spOf X.K F)) (hgd : X.A.guards = some []) (hr : Room k X.A) (hg : Gl X x) (hm : X.mg x = some (.ref f)) (hk : PySem.W.keepIn X.K (.ref f) = true) (hb : Binds X.K fd ps [])
    (hdb : (x == ("__debug__" : Str)) = false) :
    PE X (.Call (.Name x p) [] [] pos) (tEv W X.K fun e => R.bind (.ok ([], e)) fun (ds, e) => callS F none ds e) := by
  refine wPE (pe_callS0 ok hgd hr hg hm hk hb (fun σ => passAt tk σ) hdb) fun σ H Q ⟨S, e, R0, P⟩ => ?_
  exact s_call_core hkd R0 R0 Tr.refl .nil P
/-- a slot's own list has changed -/
theorem Rel.changed {i : Nat} {a : Addr} {d d' : D} (R1 : Rel K S e σ H) (hd : muta (get e i) = some d) (ha : At σ i (.ref a)) (keep : ∀ b o, H b = some o → b ≠ a → H' b = some o) (dom : ∀ b, H b ≠ none → H' b ≠ none) (hid : ∀ b, S b → S' b) (gr : ∀ b o, H b = some o → ¬ S b → ¬ S' b) (trk : ∀ b, S' b → H' b ≠ none)
    (ow : OwR K H' (rst H' S') a d') : Rel K S' (put e i (remut (get e i) d')) σ H' ∧ Tr σ S e H S' (put e i (remut (get e i) d')) H' ∧ ∀ j b, HeldA (put e i (remut (get e i) d')) σ j b → HeldA e σ j b := by
  have hne : get e i ≠ .un := by
    intro z; rw [z] at hd; cases hd
  have hl := get_lt hne
  have hA : HeldA e σ i a := ⟨⟨d, mut_hel hd⟩, ha⟩
  obtain ⟨c, h3, hSa, _⟩ := R1.held i d (mut_hel hd)
  have : c = a := h3.ref ha
  subst this
  have r1 : Rel K S (put e i .un) σ H := R1.putc (v := .ref c) hl (fun _ _ => rfl) rfl ha trivial
  have nh : ∀ j, ¬ HeldA (put e i .un) σ j c := fun j ⟨⟨d, h1⟩, h2⟩ => by
    by_cases q : i = j
    · subst q; rw [get_put_self hl] at h1; cases h1
    · rw [get_put_ne q] at h1
      exact q (R1.inj i j c hA ⟨⟨d, h1⟩, h2⟩)
  have sm : Same (rst H S) (rst H' S') := fun b o q => by
    obtain ⟨h1, h2⟩ := rst_in.mp q
    exact rst_in.mpr ⟨keep b o h1 fun z => h2 (z ▸ hSa), gr b o h1 h2⟩
  have r2 : Rel K S' (put e i .un) σ H' := r1.grow sm (fun j b o hb ho => by
    obtain ⟨⟨d, h1⟩, h2⟩ := id hb
    obtain ⟨y, h3, h4, _⟩ := r1.held j d h1
    exact ⟨keep b o ho fun z => nh j (z ▸ hb), hid b (h2.ref h3 ▸ h4)⟩) trk
  have hrm : hel (remut (get e i) d') = some d' := by cases q : get e i <;> rfl
  have r3 := r2.putc (i := i) (c := remut (get e i) d') (v := .ref c) (by rw [put_len]; exact hl) (fun _ _ => rfl) rfl ha (by
    have : ∃ a d, hel (remut (get e i) d') = some d ∧ V.ref c = .ref a ∧ S' a ∧ OwR K H' (rst H' S') a d ∧ ∀ j, j ≠ i → ¬ HeldA (put e i .un) σ j a := ⟨c, d', hrm, rfl, hid c hSa, ow, fun j _ => nh j⟩
    rcases mut_cases hd with q | q <;> (rw [q] at this ⊢; exact this))
  have pp : PV.put (PV.put e i .un) i (remut (get e i) d') = PV.put e i (remut (get e i) d') := by unfold PV.put; rw [List.set_set]
  rw [pp] at r3
  refine ⟨r3, ⟨fun b o h n => keep b o h fun z => n (z ▸ ⟨i, d, hd, ha⟩), dom, gr, fun b h _ => hid b h, fun j x q => ?_, fun j => ?_, fun j x => ?_, put_len⟩, fun j b ⟨⟨x, h1⟩, h2⟩ => ?_⟩
  · rcases get_put q (by simp) with ⟨z, w, _⟩ | ⟨z, w⟩
    · subst z
      rcases mut_cases hd with q2 | q2
      · exact ⟨_, q2⟩
      · rw [q2] at w; cases w
    · exact ⟨x, w⟩
  · by_cases z : i = j
    · subst z
      rw [get_put_self hl]
      rcases mut_cases hd with q2 | q2 <;> rw [q2] <;> simp [remut]
    · rw [get_put_ne z]
  · by_cases z : i = j
    · subst z
      rw [get_put_self hl]
      rcases mut_cases hd with q2 | q2 <;> rw [q2] <;> simp [remut]
    · rw [get_put_ne z]
  · by_cases z : i = j
    · subst z
      exact ⟨⟨d, mut_hel hd⟩, h2⟩
    · rw [get_put_ne z] at h1
      exact ⟨⟨x, h1⟩, h2⟩
/-- f(x, ..), x changed -/
theorem s_callIo {F : FSig} {k i : Nat} {f : Addr} {fd : FuncData} {ps : List Str} {x : Str} {p : Pos} {g : En → R (List D × En)} (hkd : F.kd = 1) (tk : Takes X W)
    (ok : FnG X.prog X.w X.K X.mg X.base (L2.CX X.prog X.w) k f fd ps (spOf X.K F)) (hgd : X.A.guards = some []) (hr : Room k X.A) (hg : Gl X x) (hm : X.mg x = some (.ref f)) (hk : PySem.W.keepIn X.K (.ref f) = true) (hb : Binds X.K fd ps [])
    (hv : PE X ea (tVar i)) (ha : PA X es (tVals W X.K g)) (hdb : (x == ("__debug__" : Str)) = false) (hs : starEach (ea :: es) X.env = (false, eval ea X.env) :: starEach es X.env) (hpl : ∀ pos, (backTo pos (starEach es X.env)).any (·.1) = false) :
    PE X (.Call (.Name x p) (ea :: es) [] pos) (tEv W X.K fun e => if okArg F.kd (get e i) = true then (g e).bind fun (ds, e) => callS F (some i) ds e else .no) := by
  refine wPE (call_g ok hgd hr hg hm hk hb (fun σ => passAt tk σ) (pa_cons hv ha hs) hdb hs (hpl _)) fun σ H Q ⟨S, e, R0, P⟩ => ?_
  by_cases hok : okArg F.kd (get e i) = true
  case neg =>
    simp only [if_neg hok] at P
    exact P.elim
  simp only [if_pos hok] at P
  unfold okArg at hok
  rw [if_pos hkd] at hok
  cases hge : muta (get e i) with
  | none => rw [hge] at hok; cases hok
  | some d0 =>
    obtain ⟨a, hat, _⟩ := R0.held i d0 (mut_hel hge)
    refine ⟨.ref a, hat, S, e, R0, (Post.bind P).mono fun ds S1 e1 H1 _ R1 t1 P1 vs hvs => ?_⟩
    have P1 : Post W X.K σ S1 e1 H1 (callS F (some i) ds e1) fun r S2 e2 H2 => ∀ v, RV X.K H σ S2 e2 H2 v r → Q v H2 := P1.mono fun r S2 e2 H2 _ R2 t2 p => p (t1.trans t2)
    unfold callS at P1
    rw [hkd] at P1
    cases hg1 : muta (get e1 i) with
    | none => simp only [hg1] at P1; exact P1.elim
    | some d =>
      simp only [hg1] at P1
      obtain ⟨c, h3, h4, h5⟩ := R1.held i d (mut_hel hg1)
      have : c = a := h3.ref hat
      subst this
      refine ⟨S1, d :: ds, R1.trk, by unfold ArgR; rw [if_neg (by rw [hkd]; decide)]; exact ⟨c, vs, d, ds, rfl, rfl, hvs, by rw [if_pos hkd]; exact ⟨h4, h5⟩⟩, ?_⟩
      cases q : F.sem (d :: ds) with
      | ok r h =>
        rw [q] at P1
        intro v H' S' fp how hrv
        have io : IoA F.kd (.ref c :: vs) c := ⟨hkd, vs, rfl⟩
        obtain ⟨R2, t2, hh⟩ := R1.changed (d' := h) hg1 hat (fun b o hb hn => fp.keep b o hb fun ⟨_, vs', z⟩ => hn (by cases z; rfl)) fp.dom fp.hid fp.gr fp.trk (how c io)
        exact P1 S' H' R2 t2 v (hrv.rv R1 t1 hh)
      | rz x => rw [q] at P1; exact P1.elim
      | no => rw [q] at P1; exact P1.elim
/-- f(x, ..), x a list that is only read -/
theorem s_callFz {F : FSig} {k i : Nat} {f : Addr} {fd : FuncData} {ps : List Str} {x : Str} {p : Pos} {g : En → R (List D × En)} (hkd : F.kd = 2) (tk : Takes X W)
    (ok : FnG X.prog X.w X.K X.mg X.base (L2.CX X.prog X.w) k f fd ps (spOf X.K F)) (hgd : X.A.guards = some []) (hr : Room k X.A) (hg : Gl X x) (hm : X.mg x = some (.ref f)) (hk : PySem.W.keepIn X.K (.ref f) = true) (hb : Binds X.K fd ps [])
    (hv : PE X ea (tVar i)) (ha : PA X es (tVals W X.K g)) (hdb : (x == ("__debug__" : Str)) = false) (hs : starEach (ea :: es) X.env = (false, eval ea X.env) :: starEach es X.env) (hpl : ∀ pos, (backTo pos (starEach es X.env)).any (·.1) = false) :
    PE X (.Call (.Name x p) (ea :: es) [] pos) (tEv W X.K fun e => if okArg F.kd (get e i) = true then (g e).bind fun (ds, e) => callS F (some i) ds e else .no) := by
  refine wPE (call_g ok hgd hr hg hm hk hb (fun σ => passAt tk σ) (pa_cons hv ha hs) hdb hs (hpl _)) fun σ H Q ⟨S, e, R0, P⟩ => ?_
  by_cases hok : okArg F.kd (get e i) = true
  case neg =>
    simp only [if_neg hok] at P
    exact P.elim
  simp only [if_pos hok] at P
  unfold okArg at hok
  rw [if_neg (by rw [hkd]; decide)] at hok
  cases hge : get e i with
  | fz d0 =>
    obtain ⟨a, hat, _⟩ := R0.fz i d0 hge
    refine ⟨.ref a, hat, S, e, R0, (Post.bind P).mono fun ds S1 e1 H1 _ R1 t1 P1 vs hvs => ?_⟩
    have P1 : Post W X.K σ S1 e1 H1 (callS F (some i) ds e1) fun r S2 e2 H2 => ∀ v, RV X.K H σ S2 e2 H2 v r → Q v H2 := P1.mono fun r S2 e2 H2 _ R2 t2 p => p (t1.trans t2)
    unfold callS at P1
    rw [hkd] at P1
    cases hg1 : get e1 i with
    | fz d =>
      simp only [hg1] at P1
      obtain ⟨c, h3, h5⟩ := R1.fz i d hg1
      have : c = a := h3.ref hat
      subst this
      have hio : ∀ b, ¬ IoA F.kd (.ref c :: vs) b := fun b z => by have := z.1; rw [hkd] at this; exact absurd this (by decide)
      refine ⟨S1, d :: ds, R1.trk, by unfold ArgR; rw [if_neg (by rw [hkd]; decide)]; exact ⟨c, vs, d, ds, rfl, rfl, hvs, by rw [if_neg (by rw [hkd]; decide)]; exact h5⟩, ?_⟩
      cases q : F.sem (d :: ds) with
      | ok r h =>
        rw [q] at P1
        intro v H' S' fp how hrv
        obtain ⟨R2, t2⟩ := call_plain R1 fp hio
        exact P1 S' H' R2 t2 v (hrv.rv R1 t1 fun i b z => z)
      | rz x =>
        rw [q] at P1
        refine ⟨by rw [hkd]; decide, fun C da H' S' fp hx => ?_⟩
        obtain ⟨R2, t2⟩ := call_plain R1 fp hio
        exact P1 C da S' H' R2 t2 hx
      | no => rw [q] at P1; exact P1.elim
    | _ => simp only [hg1] at P1; exact P1.elim
  | _ => rw [hge] at hok; cases hok

/-! ### isinstance -/
theorem kit_any (K : PySem.W.Frag) (d : D) : ∀ ts : List Ty, (∀ t ∈ ts, t ≠ .non) → PySem.W.kitAny K (.type (tyOf d)) (ts.map fun t => .type (tyNm t)) = some (ts.any fun t => tyD t d)
  | [], _ => rfl
  | t :: ts, h => by
    rw [List.map_cons, List.any_cons]
    refine kitAny_cons (kit_tyD K t d (h t List.mem_cons_self)) (fun z => ?_) fun z => ?_
    · rw [kit_any K d ts fun t ht => h t (List.mem_cons_of_mem _ ht), z]; rfl
    · rw [z]; rfl
theorem s_isi1 {fa : En → R (Op × En)} {ty : Ty} {p p2 : Pos} (hn : ty ≠ .non) (hg : Gl X "isinstance") (hm : X.mg "isinstance" = none) (hg2 : Gl X (tyNm ty : Str)) (hm2 : X.mg (tyNm ty : Str) = none) (ha : PE X ea (tOpd W X.K fa))
    (hs : starEach [ea, .Name (tyNm ty : Str) p2] X.env = (false, eval ea X.env) :: starEach [.Name (tyNm ty : Str) p2] X.env) :
    PE X (.Call (.Name "isinstance" p) [ea, .Name (tyNm ty : Str) p2] [] pos) (tEv W X.K fun e => (fa e).bind fun (x, e) => (lift (x.get e)).bind fun d => .ok (.sh (.bool ([ty].any fun t => tyD t d)), e)) := by
  have h2 : PE X (.Name (tyNm ty : Str) p2) (tC (.ty (tyNm ty))) := by
    cases ty <;> first | exact absurd rfl hn | exact pe_bltn hg2 hm2 (by decide +kernel) rfl
  refine wPE (pe_callB call_isi hg hm (by decide +kernel) (pa_cons ha (pa_cons h2 pa_nil rfl) hs) (by decide) (by decide) hs rfl) fun σ H Q ⟨S, e, R0, P⟩ => ?_
  refine ⟨S, e, R0, (Post.bind P).mono fun x S1 e1 H1 _ R1 t1 P1 v hv => ?_⟩
  obtain ⟨d, h1, P2⟩ := P1.lift
  refine ⟨v, .ty (tyNm ty), _, _, _, rfl, .ty _, rp_ty (hv.get R1 h1).full, kit_tyD _ ty d hn, ?_⟩
  have := P2 S1 H1 R1 Tr.refl t1 _ (.bl _)
  simpa using this
end
end PV
end
section
set_option maxHeartbeats 4000000
/-! enumerate over a tuple -/
namespace PV
open PySem L2 PySem.Spec PyProof.Rows
open AutoSeq1 (wpAny_loadPart')
theorem meets_enu_tuple (l : Addr) (xs : Array Value) (n : Nat) (dct : Option Addr) (sl : Array (Option Value)) :
    Meets (Builtin.«enumerate.__new__» ⟨[.type "enumerate", .ref l], []⟩) (fun _ R s => s.heap.get? l = some { cls := .type "tuple", dict := dct, data := .seq xs n, slots := sl } ∧ R (.ok (.ret (.ref (s.heap.push { cls := .type "tuple_iterator", data := .fields #[.ref l, .int 0 0] }).objs.size))) { s with heap := (s.heap.push { cls := .type "tuple_iterator", data := .fields #[.ref l, .int 0 0] }).push { cls := .type "enumerate", data := .fields #[.none, .bool false, .ref s.heap.objs.size, rawInt 0, .none, .none] } }) :=
  .of_wp fun prog w A R s h => by
    obtain ⟨hp, g, d, tk, os⟩ := s; obtain ⟨hl, h⟩ := h; have hsub := sub_enumerate
    have hT : Heap.IsTuple (Shared.heap ⟨hp, g, d, tk, os⟩) l xs := ⟨_, hl, rfl, n, rfl⟩
    wp_walk using wpAny_loadPart' hl
    refine wpAny_stack_any fun q => wpAny_pure ?_
    split
    · rename_i c _ _ _ _ _
      cases (c == Value.type "enumerate") <;> (wp_walk using wpAny_loadPart' hl, wpAny_pyIter_tuple hT; exact ⟨_, rfl, h⟩)
    · wp_walk using wpAny_loadPart' hl, wpAny_pyIter_tuple hT
      exact ⟨_, rfl, h⟩
section
variable {prog : Program} {w : World} {A : Around} {E : Value → Shared → Prop} {s : Shared}
theorem call_enu_tuple {l : Addr} {xs : Array Value} {Q : Value → Shared → Prop} (hT : s.heap.IsTuple l xs)
    (h : ∀ h', IsEnum h' (s.heap.objs.size + 1) s.heap.objs.size 0 .none → h'.IsTupleIter s.heap.objs.size l 0 → h'.objs.size = s.heap.objs.size + 2 → (∀ b o, s.heap.get? b = some o → h'.get? b = some o) → Q (.ref (s.heap.objs.size + 1)) { s with heap := h' }) :
    wpAny (model prog w) A (call (.type "enumerate") [.ref l]) Q E s := by
  obtain ⟨⟨c, dct, dt, sl⟩, hl, hc, n, hd⟩ := hT
  have hc1 : c = .type "tuple" := hc
  have hd1 : dt = .seq xs n := hd
  subst hc1 hd1
  refine callType_new F.called_enumerate (by decide) (F.typeCall_enumerate_1 _) (F.newCall_enumerate_1 _) (fun obj => F.args_object_init_2 obj _) F.entry_enumerate_new (meets_enu_tuple l xs n dct sl) ⟨hl, ?_⟩
  have hz : (s.heap.push { cls := .type "tuple_iterator", data := .fields #[.ref l, .int 0 0] }).objs.size = s.heap.objs.size + 1 := Heap.size_push ..
  show _ ∧ _
  rw [hz]
  have he : IsEnum ((s.heap.push { cls := .type "tuple_iterator", data := .fields #[.ref l, .int 0 0] }).push { cls := .type "enumerate", data := .fields #[.none, .bool false, .ref s.heap.objs.size, rawInt 0, .none, .none] }) (s.heap.objs.size + 1) s.heap.objs.size 0 .none := by
    have e1 := Heap.get?_push_size (s.heap.push { cls := .type "tuple_iterator", data := .fields #[.ref l, .int 0 0] }) (o := { cls := .type "enumerate", data := .fields #[.none, .bool false, .ref s.heap.objs.size, rawInt 0, .none, .none] }) rfl
    rw [hz] at e1; exact e1
  refine ⟨⟨_, he, rfl⟩, h _ he ⟨_, Heap.get?_push_of_some _ (Heap.get?_push_size _ rfl), rfl, rfl⟩ (by rw [Heap.size_push, hz]) fun b o x => Heap.get?_push_of_some _ (Heap.get?_push_of_some _ x)⟩
theorem next_enuT_end {e it l : Addr} {i : Nat} {xs : Array Value} {old : Value} {Q : Option Value → Shared → Prop} (hh : A.handled = none) (he : IsEnum s.heap e it i old) (hit : s.heap.IsTupleIter it l i) (hl : s.heap.IsTuple l xs) (hx : xs[i]? = none)
    (hQ : ∀ h', Heap.ExtBut it s.heap h' → Q none { s with heap := h' }) : wpAny (model prog w) A (pyNext (.ref e)) Q E s := by
  have ty : s.TypeIs (.ref e) "enumerate" := ⟨_, he, rfl⟩
  unfold pyNext
  refine wpAny_bind (wpAny_attempt (wpAny_callSpecial?_slot (name := Str.ofString "__next__") ty F.slot_enumerate_next (wpAny_call_entry F.slot_enumerate_next ty F.entry_enumerate_next ?_ (F.args_enumerate_next_1 _))))
  show wpAny _ _ (field (.ref e) 2 >>= _) _ _ _
  refine wpAny_bind (wpAny_field he rfl (x := .ref it) rfl (wpAny_bind (wpAny_nextOf_tuple_end hh hit hl hx fun h' x q1 q2 => ?_)))
  obtain ⟨o, o1, o2⟩ := q2
  exact wpAny_bind (wpAny_isInstance (T := "StopIteration") (b := true) ⟨o, o1, o2⟩ isSubtype_stop (wpAny_pure (hQ _ q1)))
end
/-- the tuple at a as it stands at each turn, its items with their places in new pairs -/
def IteT (K : PySem.W.Frag) (a : Addr) : It :=
  ⟨fun i H => ∃ (xs : List V) (x : V), SqT K H a xs ∧ xs[i]? = some x, fun i H v H' => ∃ T x, v = .ref T ∧ H T = none ∧ H' = upd H T (.tup [.int (i : Nat), x]) ∧ ∀ xs, SqT K H a xs → xs[i]? = some x, fun i H => ∃ xs : List V, SqT K H a xs ∧ xs.length ≤ i⟩
theorem turn_enuT {P : Program} {w : World} {K : PySem.W.Frag} {elts : List Expr} {kk : Nat} {tpos : Pos} (a e it : Addr) :
    Turn P w K (.Tuple elts kk tpos) (IteT K a) [e, it] e (fun i h => (∃ old, IsEnum h e it ((i : Nat) : Int) old) ∧ h.IsTupleIter it a i ∧ e ≠ it ∧ a ≠ it ∧ e ≠ a) where
  mem := by simp
  obj := fun i h st b hb => by
    obtain ⟨⟨old, he⟩, ⟨o, ho, hc, hd⟩, _⟩ := st
    have ce : b = e ∨ b = it := by simpa using hb
    rcases ce with q | q
    · rw [q]; exact ⟨_, he, fun v q => nomatch q⟩
    · rw [q]; exact ⟨o, ho, fun v q => by rw [hd] at q; cases q⟩
  keep := fun i h h' st k => let ⟨⟨old, he⟩, hi, hne⟩ := st; ⟨⟨old, k e (by simp) _ he⟩, hi.at fun o q => k it (by simp) o q, hne⟩
  item := by
    intro X hP hw hK hc i pins s σ H E I hf st hg
    subst hP hw hK
    obtain ⟨⟨old, he⟩, hit, hne, hai, hea⟩ := st
    obtain ⟨xs, x, hq, hx⟩ := hg
    obtain ⟨its, rv, p, hz⟩ := I.tuple hq
    obtain ⟨u, hu, ru⟩ := rv.get hx
    have hel : e < s.heap.objs.size := Heap.lt_size he
    have hil : it < s.heap.objs.size := by obtain ⟨_, q, _⟩ := hit; exact Heap.lt_size q
    have D := Draws.tuple (prog := X.prog) (w := X.w) (A := X.A.in1) (I.ok.hd hc) it a hai its.toArray
    have hlt : i < its.toArray.size := by
      have := (List.getElem?_eq_some_iff.mp hu).1
      simpa using this
    refine wpAny_pyNext_enum_itemD D he ⟨hit, p⟩ hlt hne (by simp [hne, hea]) fun y h' tk hy ho hst' hT hsz hk => ?_
    have hyu : y = u := by
      have h1 : its.toArray[i]? = some u := by simpa using hu
      have h2 : its.toArray[i]? = some y := hy
      rw [h1] at h2
      cases h2; rfl
    subst hyu
    refine ⟨_, rfl, wpAny_letOwnedTupleGo_enum (s := { s with heap := h', toks := tk + 1 }) ho fun h2 he2 sb => ?_⟩
    have hT2 : h2.get? s.heap.objs.size = some { cls := .type "tuple", data := .seq #[.int i tk, y] } := (sb.2 _ (Nat.ne_of_gt hel)).trans hT
    have new : ObjOk X.prog X.w (upd H s.heap.objs.size (.tup [.int (i : Nat), x])) h2 s.heap.objs.size (.tup [.int (i : Nat), x]) := ⟨by show 2 ≤ sizeLine; decide, [.int i tk, y], .cons ⟨_, rfl⟩ (.cons ru .nil), ⟨_, hT2, rfl, _, rfl⟩⟩
    have I1 : Inv X pins σ (upd H s.heap.objs.size (.tup [.int (i : Nat), x])) { s with heap := h2, toks := tk + 1 } := I.turnedNew (ch := [e, it]) (fun b ob hb q => (sb.2 b (fun z => hb (by simp [z]))).trans (hk b ob (fun z => hb (by simp [z])) (fun z => hb (by simp [z])) q)) hf (Nat.le_refl _) new
    refine ⟨.ref s.heap.objs.size, _, I1, rfl, ⟨_, x, rfl, I.hok.fresh (Nat.le_refl _), rfl, fun ys hy => by rw [I.tuple_inj hy hq]; exact hx⟩, ⟨⟨y, ?_⟩, hst'.1.at fun o q => (sb.2 it (Ne.symm hne)).trans q, hne, hai, hea⟩, fun b hb => ?_⟩
    · have e1 : ((i + 1 : Nat) : Int) = (i : Int) + 1 := by omega
      rw [e1]; exact he2
    · have hb' : b < s.heap.objs.size := by
        have ce : b = e ∨ b = it := by simpa using hb
        rcases ce with q | q
        · rw [q]; exact hel
        · rw [q]; exact hil
      rw [upd_ne (Nat.ne_of_lt hb')]
      exact (hf b hb).1
  done := by
    intro X hP hw hK hc i pins s σ H E I hf st hg
    subst hP hw hK
    obtain ⟨⟨old, he⟩, hit, hne, hai, hea⟩ := st
    obtain ⟨xs, hq, hx⟩ := hg
    obtain ⟨its, rv, p, hz⟩ := I.tuple hq
    obtain ⟨f0, f1, f2, f3, f4, f5⟩ := hf it (by simp)
    have hl := rv.length
    exact next_enuT_end (I.ok.hd hc) he hit p (by simp; omega) fun h' eb => ⟨rfl, I.turned (t' := s.toks) (fun b o hb q => eb b o hb q) f0 f1 f3 f4 f5⟩
  self := fun A i s Q E st h => let ⟨⟨_, he⟩, _⟩ := st; wpAny_pyIter_enum he h
def iEnuA (K : PySem.W.Frag) (ta : TA) : TI := fun σ H R => ta σ H fun vs H1 => ∃ a xs, vs = [.ref a] ∧ ((SqL K H1 a xs ∧ R (Ite K a) H1) ∨ (SqT K H1 a xs ∧ R (IteT K a) H1))
theorem pi_enuA {X : Cx} {e : Expr} {ta : TA} {p pos tpos : Pos} {elts : List Expr} {kk : Nat} (hg : Gl X "enumerate") (hm : X.mg "enumerate" = none) (ha : PA X [e] ta) (hs : starEach [e] X.env = [(false, eval e X.env)]) :
    PI X (.Tuple elts kk tpos) (.Call (.Name "enumerate" p) [e] [] pos) (iEnuA X.K ta) := by
  refine ⟨fun pins s σ H R I h => ?_⟩
  refine Call_ (ld_blt I hg hm boot_enumerate (PyProof.Rows.callWith_type1 (thn (ha.run pos pins s σ H _ I h) fun us s1 ⟨vs, H1, I1, r1, a, xs, ex, q1⟩ => ?_) hs rfl))
  subst ex
  cases r1 with
  | cons r rr =>
    cases rr
    cases r
    have fresh : ∀ b, b ∈ [s1.heap.objs.size + 1, s1.heap.objs.size] → s1.heap.objs.size ≤ b := fun b hb => by
      have ce : b = s1.heap.objs.size + 1 ∨ b = s1.heap.objs.size := by simpa using hb
      rcases ce with q | q
      · rw [q]; exact Nat.le_add_right _ _
      · rw [q]; exact Nat.le_refl _
    rcases q1 with ⟨hq, q⟩ | ⟨hq, q⟩
    · obtain ⟨its, rv, p1, hz⟩ := I1.list hq
      refine call_enumerate_list p1.isList fun h' he hit hsz hk => wpAny_pyIter_enum he ?_
      have I2 : Inv X pins σ H1 { s1 with heap := h' } := I1.kept (t' := s1.toks) hk
      exact ⟨s1.heap.objs.size + 1, [s1.heap.objs.size + 1, s1.heap.objs.size], _, _, H1, rfl, I2, turn_enum a (s1.heap.objs.size + 1) s1.heap.objs.size, ⟨⟨.none, he⟩, hit, Nat.succ_ne_self _⟩, fun b hb => I1.fpOk (fresh b hb) (I1.hok.fresh (fresh b hb)), q⟩
    · obtain ⟨its, rv, p1, hz⟩ := I1.tuple hq
      have hla : a < s1.heap.objs.size := by obtain ⟨_, w, _⟩ := p1; exact Heap.lt_size w
      refine call_enu_tuple (show s1.heap.IsTuple a its.toArray from p1) fun h' he hit hsz hk => wpAny_pyIter_enum he ?_
      have I2 : Inv X pins σ H1 { s1 with heap := h' } := I1.kept (t' := s1.toks) hk
      exact ⟨s1.heap.objs.size + 1, [s1.heap.objs.size + 1, s1.heap.objs.size], _, _, H1, rfl, I2, turn_enuT a (s1.heap.objs.size + 1) s1.heap.objs.size, ⟨⟨.none, he⟩, hit, Nat.succ_ne_self _, Nat.ne_of_lt hla, Nat.ne_of_gt (Nat.lt_succ_of_lt hla)⟩, fun b hb => I1.fpOk (fresh b hb) (I1.hok.fresh (fresh b hb)), q⟩
end PV
end
section
set_option maxHeartbeats 4000000
/-! enumerate and zip over texts -/
namespace PV
open PySem L2 PySem.Spec PyProof.Rows
section
variable {P : Program} {w : World} {K : PySem.W.Frag} {elts : List Expr} {kk : Nat} {tpos : Pos}
/-- the signs of a text with their places -/
def IteS (x : Str) : It :=
  ⟨fun i _ => i < x.cps.size, fun i H v H' => ∃ T c, v = .ref T ∧ H T = none ∧ H' = upd H T (.tup [.int (i : Nat), .str ⟨#[c]⟩]) ∧ x.cps[i]? = some c, fun i _ => x.cps.size ≤ i⟩
theorem turn_enuS (x : Str) (t : Tok) (e it : Addr) :
    Turn P w K (.Tuple elts kk tpos) (IteS x) [e, it] e (fun i h => i ≤ x.cps.size ∧ (∃ old, IsEnum h e it ((i : Nat) : Int) old) ∧ h.IsStrIter it (strIterType x) x t i ∧ e ≠ it) where
  mem := by simp
  obj := fun i h st b hb => by
    obtain ⟨_, ⟨old, he⟩, ⟨o, ho, hc, hd⟩, _⟩ := st
    have ce : b = e ∨ b = it := by simpa using hb
    rcases ce with q | q
    · rw [q]; exact ⟨_, he, fun v q => nomatch q⟩
    · rw [q]; exact ⟨o, ho, fun v q => by rw [hd] at q; cases q⟩
  keep := fun i h h' st k => let ⟨hz, ⟨old, he⟩, ⟨o, ho, hr⟩, hne⟩ := st; ⟨hz, ⟨old, k e (by simp) _ he⟩, ⟨o, k it (by simp) _ ho, hr⟩, hne⟩
  item := by
    intro X hP hw hK hc i pins s σ H E I hf st hg
    subst hP hw hK
    obtain ⟨hle, ⟨old, he⟩, hit, hne⟩ := st
    have hel : e < s.heap.objs.size := Heap.lt_size he
    have hil : it < s.heap.objs.size := by obtain ⟨_, q, _⟩ := hit; exact Heap.lt_size q
    have D := Draws.text (prog := X.prog) (w := X.w) (A := X.A.in1) (I.ok.hd hc) it x t
    refine wpAny_pyNext_enum_itemD D he hit hg hne (by simp [hne]) fun y h' tk hy ho hst' hT hsz hk => ?_
    obtain ⟨c, u, hcx, rfl⟩ := hy
    refine ⟨_, rfl, wpAny_letOwnedTupleGo_enum (s := { s with heap := h', toks := tk + 1 }) ho fun h2 he2 sb => ?_⟩
    have hT2 : h2.get? s.heap.objs.size = some { cls := .type "tuple", data := .seq #[.int i tk, .str ⟨#[c]⟩ u] } := (sb.2 _ (Nat.ne_of_gt hel)).trans hT
    have new : ObjOk X.prog X.w (upd H s.heap.objs.size (.tup [.int (i : Nat), .str ⟨#[c]⟩])) h2 s.heap.objs.size (.tup [.int (i : Nat), .str ⟨#[c]⟩]) := ⟨by show 2 ≤ sizeLine; decide, [.int i tk, .str ⟨#[c]⟩ u], .cons ⟨_, rfl⟩ (.cons ⟨_, rfl⟩ .nil), ⟨_, hT2, rfl, _, rfl⟩⟩
    have I1 : Inv X pins σ (upd H s.heap.objs.size (.tup [.int (i : Nat), .str ⟨#[c]⟩])) { s with heap := h2, toks := tk + 1 } := I.turnedNew (ch := [e, it]) (fun b ob hb q => (sb.2 b (fun z => hb (by simp [z]))).trans (hk b ob (fun z => hb (by simp [z])) (fun z => hb (by simp [z])) q)) hf (Nat.le_refl _) new
    refine ⟨.ref s.heap.objs.size, _, I1, rfl, ⟨_, c, rfl, I.hok.fresh (Nat.le_refl _), rfl, hcx⟩, ⟨hg, ⟨.str ⟨#[c]⟩ u, ?_⟩, ?_, hne⟩, fun b hb => ?_⟩
    · have e1 : ((i + 1 : Nat) : Int) = (i : Int) + 1 := by omega
      rw [e1]; exact he2
    · obtain ⟨o, ho1, ho2⟩ := hst'
      exact ⟨o, (sb.2 it (Ne.symm hne)).trans ho1, ho2⟩
    · have hb' : b < s.heap.objs.size := by
        have ce : b = e ∨ b = it := by simpa using hb
        rcases ce with q | q
        · rw [q]; exact hel
        · rw [q]; exact hil
      rw [upd_ne (Nat.ne_of_lt hb')]
      exact (hf b hb).1
  done := by
    intro X hP hw hK hc i pins s σ H E I hf st hg
    subst hP hw hK
    obtain ⟨hle, ⟨old, he⟩, hit, hne⟩ := st
    have hg : x.cps.size ≤ i := hg
    obtain rfl : i = x.cps.size := by omega
    obtain ⟨f0, f1, f2, f3, f4, f5⟩ := hf it (by simp)
    have D := Draws.text (prog := X.prog) (w := X.w) (A := X.A.in1) (I.ok.hd hc) it x t
    exact wpAny_pyNext_enum_endD D he hit fun h' eb => ⟨rfl, I.turned (t' := s.toks) (fun b o hb q => eb b o hb q) f0 f1 f3 f4 f5⟩
  self := fun A i s Q E st h => let ⟨_, ⟨_, he⟩, _⟩ := st; wpAny_pyIter_enum he h
/-- two texts side by side -/
def ItzS (x y : Str) : It :=
  ⟨fun i _ => i < x.cps.size ∧ i < y.cps.size, fun i H v H' => ∃ T c d, v = .ref T ∧ H T = none ∧ H' = upd H T (.tup [.str ⟨#[c]⟩, .str ⟨#[d]⟩]) ∧ x.cps[i]? = some c ∧ y.cps[i]? = some d, fun i _ => x.cps.size ≤ i ∨ y.cps.size ≤ i⟩
theorem turn_zipS (x y : Str) (t u : Tok) (z TI TO i1 i2 : Addr) (D : ZipSep2 z TI TO i1 i2 [i1] [i2]) (h12 : i1 ≠ z ∧ i2 ≠ z ∧ i1 ≠ TO ∧ i2 ≠ TO ∧ i1 ≠ i2) :
    Turn P w K (.Tuple elts kk tpos) (ItzS x y) [z, TI, TO, i1, i2] z (fun i h => i ≤ x.cps.size ∧ i ≤ y.cps.size ∧ IsZip h z TI TO .none ∧ IsTupOf2 h TI (.ref i1) (.ref i2) ∧ (∃ a b, IsTupOf2 h TO a b) ∧ h.IsStrIter i1 (strIterType x) x t i ∧ h.IsStrIter i2 (strIterType y) y u i) where
  mem := by simp
  obj := fun i h st b hb => by
    obtain ⟨_, _, hz, hTI, ⟨a, b', hTO⟩, ⟨o1, e1, c1, d1⟩, ⟨o2, e2, c2, d2⟩⟩ := st
    have ce : b = z ∨ b = TI ∨ b = TO ∨ b = i1 ∨ b = i2 := by simpa using hb
    rcases ce with q | q | q | q | q
    · rw [q]; exact ⟨_, hz, fun v q => nomatch q⟩
    · rw [q]; exact ⟨_, hTI, fun v q => nomatch q⟩
    · rw [q]; exact ⟨_, hTO, fun v q => nomatch q⟩
    · rw [q]; exact ⟨o1, e1, fun v q => by rw [d1] at q; cases q⟩
    · rw [q]; exact ⟨o2, e2, fun v q => by rw [d2] at q; cases q⟩
  keep := fun i h h' st k => by
    obtain ⟨l1, l2, hz, hTI, ⟨a, b', hTO⟩, ⟨o1, e1, r1⟩, ⟨o2, e2, r2⟩⟩ := st
    exact ⟨l1, l2, k z (by simp) _ hz, k TI (by simp) _ hTI, ⟨a, b', k TO (by simp) _ hTO⟩, ⟨o1, k i1 (by simp) _ e1, r1⟩, ⟨o2, k i2 (by simp) _ e2, r2⟩⟩
  item := by
    intro X hP hw hK hc i pins s σ H E I hf st hg
    subst hP hw hK
    obtain ⟨l1, l2, hz, hTI, ⟨a, b', hTO⟩, hi1, hi2⟩ := st
    have lz : ∀ b ∈ [z, TI, TO, i1, i2], b < s.heap.objs.size := fun b hb => by
      obtain ⟨_, q1, _⟩ := hi1
      obtain ⟨_, q2, _⟩ := hi2
      have ce : b = z ∨ b = TI ∨ b = TO ∨ b = i1 ∨ b = i2 := by simpa using hb
      rcases ce with q | q | q | q | q <;> rw [q]
      · exact Heap.lt_size hz
      · exact Heap.lt_size hTI
      · exact Heap.lt_size hTO
      · exact Heap.lt_size q1
      · exact Heap.lt_size q2
    have D1 := Draws.text (prog := X.prog) (w := X.w) (A := X.A.in1) (I.ok.hd hc) i1 x t
    have D2 := Draws.text (prog := X.prog) (w := X.w) (A := X.A.in1) (I.ok.hd hc) i2 y u
    refine wpAny_pyNext_zipD2_item D D1 D2 hz hTI hTO hi1 hi2 hg.1 hg.2 fun v1 v2 h' tk p1 p2 hz' hTO' s1 s2 hT hsz hk => ?_
    obtain ⟨c, u1, hc1, rfl⟩ := p1
    obtain ⟨d, u2, hd1, rfl⟩ := p2
    refine ⟨_, rfl, wpAny_letOwnedTupleGo_zip (s := { s with heap := h', toks := tk }) hz' fun h2 hz2 sb => ?_⟩
    have nT : s.heap.objs.size ≠ z := Nat.ne_of_gt (lz z (by simp))
    have hT2 : h2.get? s.heap.objs.size = some { cls := .type "tuple", data := .seq #[.str ⟨#[c]⟩ u1, .str ⟨#[d]⟩ u2] } := (sb.2 _ nT).trans hT
    have new : ObjOk X.prog X.w (upd H s.heap.objs.size (.tup [.str ⟨#[c]⟩, .str ⟨#[d]⟩])) h2 s.heap.objs.size (.tup [.str ⟨#[c]⟩, .str ⟨#[d]⟩]) := ⟨by show 2 ≤ sizeLine; decide, [.str ⟨#[c]⟩ u1, .str ⟨#[d]⟩ u2], .cons ⟨_, rfl⟩ (.cons ⟨_, rfl⟩ .nil), ⟨_, hT2, rfl, _, rfl⟩⟩
    have I1 : Inv X pins σ (upd H s.heap.objs.size (.tup [.str ⟨#[c]⟩, .str ⟨#[d]⟩])) { s with heap := h2, toks := tk } := I.turnedNew (ch := [z, TI, TO, i1, i2]) (fun b ob hb q => (sb.2 b (fun z => hb (by simp [z]))).trans (hk b ob (fun z => hb (by simp [z])) (fun z => hb (by simp [z])) (fun z => hb (by simp [z])) (fun z => hb (by simp [z])) q)) hf (Nat.le_refl _) new
    have kTI : h2.get? TI = some { cls := .type "tuple", data := .seq #[.ref i1, .ref i2] } := (sb.2 TI D.TIz).trans (hk TI _ D.TIz D.TITO D.TIi1 D.TIi2 hTI)
    refine ⟨.ref s.heap.objs.size, _, I1, rfl, ⟨_, c, d, rfl, I.hok.fresh (Nat.le_refl _), rfl, hc1, hd1⟩, ⟨hg.1, hg.2, hz2, kTI, ⟨_, _, (sb.2 TO D.TOz).trans hTO'⟩, ?_, ?_⟩, fun b hb => ?_⟩
    · obtain ⟨o, ho1, ho2⟩ := s1
      exact ⟨o, (sb.2 i1 h12.1).trans ho1, ho2⟩
    · obtain ⟨o, ho1, ho2⟩ := s2
      exact ⟨o, (sb.2 i2 h12.2.1).trans ho1, ho2⟩
    · rw [upd_ne (Nat.ne_of_lt (lz b hb))]
      exact (hf b hb).1
  done := by
    intro X hP hw hK hc i pins s σ H E I hf st hg
    subst hP hw hK
    obtain ⟨l1, l2, hz, hTI, ⟨a, b', hTO⟩, hi1, hi2⟩ := st
    have hg : x.cps.size ≤ i ∨ y.cps.size ≤ i := hg
    have D1 := Draws.text (prog := X.prog) (w := X.w) (A := X.A.in1) (I.ok.hd hc) i1 x t
    have D2 := Draws.text (prog := X.prog) (w := X.w) (A := X.A.in1) (I.ok.hd hc) i2 y u
    refine wpAny_pyNext_zipD2_end D D1 D2 hz hTI hTO hi1 hi2 l1 l2 (by omega) fun h' tk hk => ⟨rfl, I.turnedL (ch := [z, TI, TO, i1, i2]) (fun b o hb q => hk b o (fun z => hb (by simp [z])) (fun z => hb (by simp [z])) (fun z => hb (by simp [z])) (fun z => hb (by simp [z])) q) hf⟩
  self := fun A i s Q E st h => let ⟨_, _, hz, _⟩ := st; wpAny_pyIter_zip hz h
theorem apart5 (N : Nat) : N ≠ N + 4 ∧ N + 1 ≠ N + 4 ∧ N ≠ N + 3 ∧ N + 1 ≠ N + 3 ∧ N ≠ N + 1 := by omega
theorem over5 (N b : Nat) (h : b = N + 4 ∨ b = N + 2 ∨ b = N + 3 ∨ b = N ∨ b = N + 1) : N ≤ b := by omega
def iEnuS (ta : TA) : TI := fun σ H R => ta σ H fun vs H1 => ∃ x : Str, vs = [.str x] ∧ R (IteS x) H1
def iZipS (ta : TA) : TI := fun σ H R => ta σ H fun vs H1 => ∃ x y : Str, vs = [.str x, .str y] ∧ R (ItzS x y) H1
theorem pi_enuS {X : Cx} {e : Expr} {ta : TA} {p pos tpos : Pos} {elts : List Expr} {kk : Nat} (hg : Gl X "enumerate") (hm : X.mg "enumerate" = none) (ha : PA X [e] ta) (hs : starEach [e] X.env = [(false, eval e X.env)]) :
    PI X (.Tuple elts kk tpos) (.Call (.Name "enumerate" p) [e] [] pos) (iEnuS ta) := by
  refine ⟨fun pins s σ H R I h => ?_⟩
  refine Call_ (ld_blt I hg hm boot_enumerate (PyProof.Rows.callWith_type1 (thn (ha.run pos pins s σ H _ I h) fun us s1 ⟨vs, H1, I1, r1, x, ex, q⟩ => ?_) hs rfl))
  subst ex
  cases r1 with
  | cons r rr =>
    cases rr
    obtain ⟨t, rfl⟩ := r
    have fresh : ∀ b, b ∈ [s1.heap.objs.size + 1, s1.heap.objs.size] → s1.heap.objs.size ≤ b := fun b hb => by
      have ce : b = s1.heap.objs.size + 1 ∨ b = s1.heap.objs.size := by simpa using hb
      rcases ce with q | q
      · rw [q]; exact Nat.le_add_right _ _
      · rw [q]; exact Nat.le_refl _
    refine call_enumerate_str fun h' he hit hsz hk => wpAny_pyIter_enum he ?_
    have I2 : Inv X pins σ H1 { s1 with heap := h' } := I1.kept (t' := s1.toks) hk
    exact ⟨s1.heap.objs.size + 1, [s1.heap.objs.size + 1, s1.heap.objs.size], _, _, H1, rfl, I2, turn_enuS x t (s1.heap.objs.size + 1) s1.heap.objs.size, ⟨Nat.zero_le _, ⟨.none, he⟩, hit, Nat.succ_ne_self _⟩, fun b hb => I1.fpOk (fresh b hb) (I1.hok.fresh (fresh b hb)), q⟩
theorem pi_zipS {X : Cx} {e e2 : Expr} {ta : TA} {p pos tpos : Pos} {elts : List Expr} {kk : Nat} (hg : Gl X "zip") (hm : X.mg "zip" = none) (ha : PA X [e, e2] ta) (hs : starEach [e, e2] X.env = (false, eval e X.env) :: starEach [e2] X.env) (hpl : (backTo pos (starEach [e2] X.env)).any (·.1) = false) :
    PI X (.Tuple elts kk tpos) (.Call (.Name "zip" p) [e, e2] [] pos) (iZipS ta) := by
  refine ⟨fun pins s σ H R I h => ?_⟩
  refine Call_ (ld_blt I hg hm boot_zip (PyProof.Rows.callWith_type1 (thn (ha.run pos pins s σ H _ I h) fun us s1 ⟨vs, H1, I1, r1, x, y, ex, q⟩ => ?_) hs hpl))
  subst ex
  cases r1 with
  | cons r rr => cases rr with
    | cons r' rr =>
      cases rr
      obtain ⟨t, rfl⟩ := r
      obtain ⟨u, rfl⟩ := r'
      refine zip_begins2 (begins_text x t) (begins_text y u) trivial trivial fun h' hz hTI hTO h1 h2 hsz hk => wpAny_pyIter_zip hz ?_
      have I2 : Inv X pins σ H1 { s1 with heap := h' } := I1.kept (t' := s1.toks) hk
      have D : ZipSep2 (s1.heap.objs.size + 4) (s1.heap.objs.size + 2) (s1.heap.objs.size + 3) s1.heap.objs.size (s1.heap.objs.size + 1) [s1.heap.objs.size] [s1.heap.objs.size + 1] := zip_sep2 (fun _ h => nomatch h) (fun _ h => nomatch h)
      refine ⟨s1.heap.objs.size + 4, [s1.heap.objs.size + 4, s1.heap.objs.size + 2, s1.heap.objs.size + 3, s1.heap.objs.size, s1.heap.objs.size + 1], _, _, H1, rfl, I2, turn_zipS x y t u _ _ _ _ _ D (apart5 _), ⟨Nat.zero_le _, Nat.zero_le _, hz, hTI, ⟨_, _, hTO⟩, ⟨_, h1, rfl, rfl⟩, ⟨_, h2, rfl, rfl⟩⟩, fun b hb => ?_, q⟩
      have fr : s1.heap.objs.size ≤ b := over5 _ _ (by simpa using hb)
      exact I1.fpOk fr (I1.hok.fresh fr)
end
end PV
end
section
set_option maxHeartbeats 4000000
/-! zip of a text and a list -/
namespace PV
open PySem L2 PySem.Spec PyProof.Rows
section
variable {P : Program} {w : World} {K : PySem.W.Frag} {elts : List Expr} {kk : Nat} {tpos : Pos}
/-- a text and a list side by side -/
def ItzM (K : PySem.W.Frag) (x : Str) (b : Addr) : It :=
  ⟨fun i H => i < x.cps.size ∧ ∃ (ys : List V) (y : V), SqL K H b ys ∧ ys[i]? = some y, fun i H v H' => ∃ T c y, v = .ref T ∧ H T = none ∧ H' = upd H T (.tup [.str ⟨#[c]⟩, y]) ∧ x.cps[i]? = some c ∧ ∀ ys, SqL K H b ys → ys[i]? = some y, fun i H => ∃ ys : List V, SqL K H b ys ∧ i ≤ x.cps.size ∧ i ≤ ys.length ∧ (x.cps.size ≤ i ∨ ys.length ≤ i)⟩
theorem turn_zipM (x : Str) (b : Addr) (t : Tok) (z TI TO i1 i2 : Addr) (D : ZipSep2 z TI TO i1 i2 [i1] [i2, b]) (hb2 : b ≠ i2) (h12 : i1 ≠ z ∧ i2 ≠ z ∧ i1 ≠ TO ∧ i2 ≠ TO ∧ i1 ≠ i2) :
    Turn P w K (.Tuple elts kk tpos) (ItzM K x b) [z, TI, TO, i1, i2] z (fun i h => IsZip h z TI TO .none ∧ IsTupOf2 h TI (.ref i1) (.ref i2) ∧ (∃ a b, IsTupOf2 h TO a b) ∧ h.IsStrIter i1 (strIterType x) x t i ∧ h.IsListIter i2 b i) where
  mem := by simp
  obj := fun i h st q hq => by
    obtain ⟨hz, hTI, ⟨a, b', hTO⟩, ⟨o1, e1, c1, d1⟩, ⟨o2, e2, c2, d2⟩⟩ := st
    have ce : q = z ∨ q = TI ∨ q = TO ∨ q = i1 ∨ q = i2 := by simpa using hq
    rcases ce with q | q | q | q | q
    · rw [q]; exact ⟨_, hz, fun v q => nomatch q⟩
    · rw [q]; exact ⟨_, hTI, fun v q => nomatch q⟩
    · rw [q]; exact ⟨_, hTO, fun v q => nomatch q⟩
    · rw [q]; exact ⟨o1, e1, fun v q => by rw [d1] at q; cases q⟩
    · rw [q]; exact ⟨o2, e2, fun v q => by rw [d2] at q; cases q⟩
  keep := fun i h h' st k => by
    obtain ⟨hz, hTI, ⟨a, b', hTO⟩, ⟨o1, e1, r1⟩, ⟨o2, e2, r2⟩⟩ := st
    exact ⟨k z (by simp) _ hz, k TI (by simp) _ hTI, ⟨a, b', k TO (by simp) _ hTO⟩, ⟨o1, k i1 (by simp) _ e1, r1⟩, ⟨o2, k i2 (by simp) _ e2, r2⟩⟩
  item := by
    intro X hP hw hK hc i pins s σ H E I hf st hg
    subst hP hw hK
    obtain ⟨hz, hTI, ⟨a, b', hTO⟩, hi1, hi2⟩ := st
    obtain ⟨hx, ys, y, hq, hy⟩ := hg
    obtain ⟨its, rv, p, _⟩ := I.list hq
    obtain ⟨u, hu, ru⟩ := rv.get hy
    have hil : i < its.toArray.size := by have := (List.getElem?_eq_some_iff.mp hu).1; simpa using this
    have lz : ∀ b ∈ [z, TI, TO, i1, i2], b < s.heap.objs.size := fun b hb => by
      obtain ⟨_, q1, _⟩ := hi1
      obtain ⟨_, q2, _⟩ := hi2
      have ce : b = z ∨ b = TI ∨ b = TO ∨ b = i1 ∨ b = i2 := by simpa using hb
      rcases ce with q | q | q | q | q <;> rw [q]
      · exact Heap.lt_size hz
      · exact Heap.lt_size hTI
      · exact Heap.lt_size hTO
      · exact Heap.lt_size q1
      · exact Heap.lt_size q2
    have D1 := Draws.text (prog := X.prog) (w := X.w) (A := X.A.in1) (I.ok.hd hc) i1 x t
    have D2 := Draws.list (prog := X.prog) (w := X.w) (A := X.A.in1) (I.ok.hd hc) i2 b hb2 its.toArray
    refine wpAny_pyNext_zipD2_item D D1 D2 hz hTI hTO hi1 ⟨hi2, p.isList⟩ hx hil fun v1 v2 h' tk p1 p2 hz' hTO' s1 s2 hT hsz hk => ?_
    obtain ⟨c, u1, hc1, rfl⟩ := p1
    have hv2 : v2 = u := by
      have : its.toArray[i]? = some u := by simpa using hu
      rw [this] at p2
      cases p2
      rfl
    subst hv2
    refine ⟨_, rfl, wpAny_letOwnedTupleGo_zip (s := { s with heap := h', toks := tk }) hz' fun h2 hz2 sb => ?_⟩
    have nT : s.heap.objs.size ≠ z := Nat.ne_of_gt (lz z (by simp))
    have hT2 : h2.get? s.heap.objs.size = some { cls := .type "tuple", data := .seq #[.str ⟨#[c]⟩ u1, v2] } := (sb.2 _ nT).trans hT
    have new : ObjOk X.prog X.w (upd H s.heap.objs.size (.tup [.str ⟨#[c]⟩, y])) h2 s.heap.objs.size (.tup [.str ⟨#[c]⟩, y]) := ⟨by show 2 ≤ sizeLine; decide, [.str ⟨#[c]⟩ u1, v2], .cons ⟨_, rfl⟩ (.cons ru .nil), ⟨_, hT2, rfl, _, rfl⟩⟩
    have I1 : Inv X pins σ (upd H s.heap.objs.size (.tup [.str ⟨#[c]⟩, y])) { s with heap := h2, toks := tk } := I.turnedNew (ch := [z, TI, TO, i1, i2]) (fun b ob hb q => (sb.2 b (fun z => hb (by simp [z]))).trans (hk b ob (fun z => hb (by simp [z])) (fun z => hb (by simp [z])) (fun z => hb (by simp [z])) (fun z => hb (by simp [z])) q)) hf (Nat.le_refl _) new
    have kTI : h2.get? TI = some { cls := .type "tuple", data := .seq #[.ref i1, .ref i2] } := (sb.2 TI D.TIz).trans (hk TI _ D.TIz D.TITO D.TIi1 D.TIi2 hTI)
    refine ⟨.ref s.heap.objs.size, _, I1, rfl, ⟨_, c, y, rfl, I.hok.fresh (Nat.le_refl _), rfl, hc1, fun l hl => by rw [I.list_inj hl hq]; exact hy⟩, ⟨hz2, kTI, ⟨_, _, (sb.2 TO D.TOz).trans hTO'⟩, ?_, ?_⟩, fun b hb => ?_⟩
    · obtain ⟨o, ho1, ho2⟩ := s1
      exact ⟨o, (sb.2 i1 h12.1).trans ho1, ho2⟩
    · obtain ⟨o, ho1, ho2⟩ := s2.1
      exact ⟨o, (sb.2 i2 h12.2.1).trans ho1, ho2⟩
    · rw [upd_ne (Nat.ne_of_lt (lz b hb))]
      exact (hf b hb).1
  done := by
    intro X hP hw hK hc i pins s σ H E I hf st hg
    subst hP hw hK
    obtain ⟨hz, hTI, ⟨a, b', hTO⟩, hi1, hi2⟩ := st
    obtain ⟨ys, hq, g1, g2, g3⟩ := hg
    obtain ⟨its, rv, p, _⟩ := I.list hq
    have hlen := rv.length
    have hsz : its.toArray.size = ys.length := by simpa using hlen.symm
    have D1 := Draws.text (prog := X.prog) (w := X.w) (A := X.A.in1) (I.ok.hd hc) i1 x t
    have D2 := Draws.list (prog := X.prog) (w := X.w) (A := X.A.in1) (I.ok.hd hc) i2 b hb2 its.toArray
    refine wpAny_pyNext_zipD2_end D D1 D2 hz hTI hTO hi1 ⟨hi2, p.isList⟩ g1 (by omega) (by omega) fun h' tk hk => ⟨rfl, I.turnedL (ch := [z, TI, TO, i1, i2]) (fun b o hb q => hk b o (fun z => hb (by simp [z])) (fun z => hb (by simp [z])) (fun z => hb (by simp [z])) (fun z => hb (by simp [z])) q) hf⟩
  self := fun A i s Q E st h => let ⟨hz, _⟩ := st; wpAny_pyIter_zip hz h
def iZipM (K : PySem.W.Frag) (ta : TA) : TI := fun σ H R => ta σ H fun vs H1 => ∃ (x : Str) (b : Addr) (ys : List V), vs = [.str x, .ref b] ∧ SqL K H1 b ys ∧ R (ItzM K x b) H1
theorem pi_zipM {X : Cx} {e e2 : Expr} {ta : TA} {p pos tpos : Pos} {elts : List Expr} {kk : Nat} (hg : Gl X "zip") (hm : X.mg "zip" = none) (ha : PA X [e, e2] ta) (hs : starEach [e, e2] X.env = (false, eval e X.env) :: starEach [e2] X.env) (hpl : (backTo pos (starEach [e2] X.env)).any (·.1) = false) :
    PI X (.Tuple elts kk tpos) (.Call (.Name "zip" p) [e, e2] [] pos) (iZipM X.K ta) := by
  refine ⟨fun pins s σ H R I h => ?_⟩
  refine Call_ (ld_blt I hg hm boot_zip (PyProof.Rows.callWith_type1 (thn (ha.run pos pins s σ H _ I h) fun us s1 ⟨vs, H1, I1, r1, x, b, ys, ex, hq, q⟩ => ?_) hs hpl))
  subst ex
  cases r1 with
  | cons r rr => cases rr with
    | cons r' rr =>
      cases rr
      obtain ⟨t, rfl⟩ := r
      cases r'
      obtain ⟨its, rv, pl, _⟩ := I1.list hq
      have hbl : b < s1.heap.objs.size := by
        obtain ⟨o, n, e1, _⟩ := pl
        exact Heap.lt_size e1
      refine zip_begins2 (begins_text x t) (begins_list b its.toArray) trivial pl.isList fun h' hz hTI hTO h1 h2 hsz hk => wpAny_pyIter_zip hz ?_
      have I2 : Inv X pins σ H1 { s1 with heap := h' } := I1.kept (t' := s1.toks) hk
      have D : ZipSep2 (s1.heap.objs.size + 4) (s1.heap.objs.size + 2) (s1.heap.objs.size + 3) s1.heap.objs.size (s1.heap.objs.size + 1) [s1.heap.objs.size] [s1.heap.objs.size + 1, b] := zip_sep2 (fun _ h => nomatch h) (fun c h => by rw [List.mem_singleton.mp h]; exact hbl)
      refine ⟨s1.heap.objs.size + 4, [s1.heap.objs.size + 4, s1.heap.objs.size + 2, s1.heap.objs.size + 3, s1.heap.objs.size, s1.heap.objs.size + 1], _, _, H1, rfl, I2, turn_zipM x b t _ _ _ _ _ D (Nat.ne_of_lt (Nat.lt_succ_of_lt hbl)) (apart5 _), ⟨hz, hTI, ⟨_, _, hTO⟩, ⟨_, h1, rfl, rfl⟩, ⟨_, h2, rfl, rfl⟩⟩, fun b hb => ?_, q⟩
      have fr : s1.heap.objs.size ≤ b := over5 _ _ (by simpa using hb)
      exact I1.fpOk fr (I1.hok.fresh fr)
end
end PV
end
section
namespace PV
open PySem L2 Classical RZ

/-! ### targets -/
def slotsT : CT → List Nat
  | .nm i => [i]
  | .tup t => slotsT t
  | .nil => []
  | .cons h t => slotsT h ++ slotsT t
section
variable {X : Cx} {W : WX} {K : PySem.W.Frag}
def tB1 (K : PySem.W.Frag) (t : CT) : TG := fun v σ H Q => ∃ S e d e', Rel K S e σ H ∧ Rp K (rst H S) v d ∧ bindT t d e = some e' ∧
  ∀ σ', Rel K S e' σ' H → (∀ j, j ∉ slotsT t → σ'[j]? = σ[j]?) → σ'.length = σ.length → Q σ' H
def tBs (K : PySem.W.Frag) (t : CT) : TGs := fun vs σ H Q => ∃ S e ds e', Rel K S e σ H ∧ RpAll K (rst H S) vs ds ∧ bindTs t ds e = some e' ∧
  ∀ σ', Rel K S e' σ' H → (∀ j, j ∉ slotsT t → σ'[j]? = σ[j]?) → σ'.length = σ.length → Q σ' H
theorem wPG {x : Expr} {t t' : TG} (h : PG X x t) (w : ∀ v σ H Q, t' v σ H Q → t v σ H Q) : PG X x t' := ⟨fun pins s σ H v u Q I r q => h.run pins s σ H v u Q I r (w v σ H Q q)⟩
theorem wPGs {x : List Expr} {t t' : TGs} (h : PGs X x t) (w : ∀ v σ H Q, t' v σ H Q → t v σ H Q) : PGs X x t' := ⟨fun pins s σ H v u Q I r q => h.run pins s σ H v u Q I r (w v σ H Q q)⟩
theorem bind_nm {i : Nat} {d : D} {e e' : En} (h : bindT (.nm i) d e = some e') : i < e.length ∧ e' = put e i (.sh d) ∧ (get e i = .un ∨ (∃ d, get e i = .sh d) ∨ ∃ d, get e i = .ow d) := by
  unfold bindT at h
  cases q : get e i with
  | le d => rw [q] at h; cases h
  | fz d => rw [q] at h; cases h
  | io d => rw [q] at h; cases h
  | un =>
    simp only [q] at h
    split at h
    · cases h; exact ⟨by assumption, rfl, .inl rfl⟩
    · cases h
  | sh x =>
    simp only [q] at h
    split at h
    · cases h; exact ⟨by assumption, rfl, .inr (.inl ⟨_, rfl⟩)⟩
    · cases h
  | ow x =>
    simp only [q] at h
    split at h
    · cases h; exact ⟨by assumption, rfl, .inr (.inr ⟨_, rfl⟩)⟩
    · cases h
theorem g_nm {i : Nat} {x : Expr} (h : PG X x (gName i)) : PG X x (tB1 X.K (.nm i)) := by
  refine wPG h fun v σ H Q ⟨S, e, d, e', R0, hv, hb, q⟩ => ?_
  obtain ⟨hl, rfl, _⟩ := bind_nm hb
  have hl' : i < σ.length := by rw [R0.len]; exact hl
  refine q (σ.set i (some v)) (R0.putc (v := v) hl (fun j hj => List.getElem?_set_ne (Ne.symm hj)) (by simp) (by unfold At; rw [List.getElem?_set_self hl']) hv) (fun j hj => List.getElem?_set_ne fun z => hj (by simp [slotsT, z])) (by simp)
theorem g_nil : PGs X [] (tBs X.K .nil) := wPGs pgs_nil fun vs σ H Q ⟨S, e, ds, e', R0, hv, hb, q⟩ => by
  cases ds with
  | nil =>
    cases hv
    have : e' = e := by simpa [bindTs] using hb.symm
    subst this
    exact ⟨rfl, q σ R0 (fun _ _ => rfl) rfl⟩
  | cons => simp [bindTs] at hb
theorem g_cons {x : Expr} {xs : List Expr} {h t : CT} (h1 : PG X x (tB1 X.K h)) (h2 : PGs X xs (tBs X.K t)) (hs : (assignEach (x :: xs) X.env).map (·.2) = assign x X.env :: (assignEach xs X.env).map (·.2)) : PGs X (x :: xs) (tBs X.K (.cons h t)) := by
  refine wPGs (pgs_cons h1 h2 hs) fun vs σ H Q ⟨S, e, ds, e', R0, hv, hb, q⟩ => ?_
  cases ds with
  | nil => simp [bindTs] at hb
  | cons d ds =>
    cases hv with
    | cons r rr =>
      have hb : (bindT h d e).bind (bindTs t ds) = some e' := by unfold bindTs at hb; exact hb
      rw [Option.bind_eq_some_iff] at hb
      obtain ⟨e1, b1, b2⟩ := hb
      refine ⟨_, _, rfl, S, e, d, e1, R0, r, b1, fun σ1 R1 k1 l1 => ⟨S, e1, ds, e', R1, rr, b2, fun σ2 R2 k2 l2 => q σ2 R2 (fun j hj => ?_) (l2.trans l1)⟩⟩
      have hj : j ∉ slotsT h ∧ j ∉ slotsT t := by simpa [slotsT] using hj
      rw [k2 j hj.2, k1 j hj.1]
theorem g_tup {x : List Expr} {k : Nat} {pos : Pos} {t : CT} (hc : X.calm = true) (h : PGs X x (tBs X.K t)) (hl : ∀ ds e e', bindTs t ds e = some e' → ds.length = (assignEach x X.env).length) (hst : (assignEach x X.env).findIdx? (·.1) = none) : PG X (.Tuple x k pos) (tB1 X.K (.tup t)) := by
  refine wPG (pg_tup hc h rfl hst) fun v σ H Q ⟨S, e, d, e', R0, hv, hb, q⟩ => ?_
  cases d with
  | tuple ds =>
    have hb : bindTs t ds e = some e' := by unfold bindT at hb; exact hb
    obtain ⟨a, xs, rfl, h1, h2⟩ := hv.tup_inv
    exact ⟨a, xs, rfl, seqT_mono rst_same h1, by rw [h2.length]; exact hl _ _ _ hb, S, e, ds, e', R0, h2, hb, q⟩
  | _ => simp [bindT] at hb

/-! ### what is walked -/
structure Live (σ0 : St) (e0 : En) (x : Op) (S0 : Addr → Prop) (H0 : Hp) (S : Addr → Prop) (H : Hp) : Prop where
  same : Same (rst H0 S0) (rst H S)
  slot : ∀ i a, x = .slot i → ((∃ d, get e0 i = .ow d) ∨ ∃ d, get e0 i = .le d) → At σ0 i (.ref a) → H a = H0 a
/-- lists and tuples are not longer than the model lets them be -/
def HB (K : PySem.W.Frag) (H : Hp) : Prop := ∀ a xs, (SqL K H a xs ∨ SqT K H a xs) → xs.length ≤ sizeLine
structure ItOk (K : PySem.W.Frag) (J : It) (xs : List D) (x : Op) (σ0 : St) (e0 : En) (S0 : Addr → Prop) (H0 : Hp) : Prop where
  len : HB K H0 → xs.length ≤ sizeLine
  go : ∀ i S H, i < xs.length → Live σ0 e0 x S0 H0 S H → J.go i H
  stop : ∀ S H, Live σ0 e0 x S0 H0 S H → J.stop xs.length H
  yld : ∀ i d S H v H', xs[i]? = some d → Live σ0 e0 x S0 H0 S H → J.yld i H v H' → (H' = H ∧ Rp K (rst H S) v d) ∨ ∃ T vs ds, d = .tuple ds ∧ v = .ref T ∧ H T = none ∧ H' = upd H T (.tup vs) ∧ RpAll K (rst H S) vs ds
def tIt (W : WX) (K : PySem.W.Frag) (f : En → R ((List D × Op) × En)) : TI := fun σ H R => ∃ S e, Rel K S e σ H ∧ Post W K σ S e H (f e) fun (xs, x) S1 e1 H1 => ∀ J, ItOk K J xs x σ e1 S1 H1 → R J H1
theorem wPIor {tg l : Expr} {t1 t2 : TI} (h1 : PI X tg l t1) (h2 : PI X tg l t2) : PI X tg l (fun σ H R => t1 σ H R ∨ t2 σ H R) :=
  ⟨fun pins s σ H R I q => q.elim (fun q => h1.run pins s σ H R I q) fun q => h2.run pins s σ H R I q⟩
variable {σ : St} {S S' S1 : Addr → Prop} {e e' e1 : En} {H H' H1 : Hp} {ea eb ec : Expr} {tg : Expr} {pos : Pos} {es : List Expr}
/-- a walked operand's list stands still -/
theorem OpV.getI {v : V} {o : Op} {d : D} (R0 : Rel K S e σ H) (h : OpV K σ S H v o) (g : o.getI e = some d) :
    (∃ ds a vs, d = .list ds ∧ v = .ref a ∧ RpAll K (rst H S) vs ds ∧ ∀ S' H', Live σ e o S H S' H' → SqL K H' a vs) ∨ ((∀ ds, d ≠ .list ds) ∧ Rp K (rst H S) v d) := by
  have key : ∀ d, Rp K (rst H S) v d → (∃ ds a vs, d = .list ds ∧ v = .ref a ∧ RpAll K (rst H S) vs ds ∧ ∀ S' H', Live σ e o S H S' H' → SqL K H' a vs) ∨ ((∀ ds, d ≠ .list ds) ∧ Rp K (rst H S) v d) := fun d h => by
    cases d with
    | list ds =>
      obtain ⟨a, vs, rfl, h1, h2⟩ := h.list_inv
      exact .inl ⟨ds, a, vs, rfl, rfl, h2, fun S' H' L => .of (rst_same _ _ (L.same _ _ h1))⟩
    | _ => exact .inr ⟨fun _ => by simp, h⟩
  cases o with
  | val d' => cases g; exact key _ h
  | slot i =>
    have g : valI (PV.get e i) = some d := g
    have held : hel (PV.get e i) = some d → ((∃ d, PV.get e i = .ow d) ∨ ∃ d, PV.get e i = .le d) → (∃ ds a vs, d = .list ds ∧ v = .ref a ∧ RpAll K (rst H S) vs ds ∧ ∀ S' H', Live σ e (.slot i) S H S' H' → SqL K H' a vs) := fun q q2 => by
      obtain ⟨w, h1, _, vs, ds, rfl, h3, h4⟩ := R0.held i d q
      exact ⟨ds, w, vs, rfl, At.inj h h1, h4, fun S' H' L => .of ((L.slot i w rfl q2 h1).trans h3)⟩
    cases q : PV.get e i with
    | sh d' =>
      rw [q] at g; cases g
      obtain ⟨w, h1, h2⟩ := R0.sh i _ q
      exact key _ (At.inj h h1 ▸ h2)
    | ow d' => rw [q] at g; cases g; exact .inl (held (by rw [q]; rfl) (.inl ⟨_, q⟩))
    | le d' => rw [q] at g; cases g; exact .inl (held (by rw [q]; rfl) (.inr ⟨_, q⟩))
    | un => rw [q] at g; cases g
    | io d' => rw [q] at g; cases g
    | fz d' =>
      rw [q] at g; cases g
      obtain ⟨w, h1, vs, ds, rfl, h2, h3⟩ := R0.fz i _ q
      exact .inl ⟨ds, w, vs, rfl, At.inj h h1, h3, fun S' H' L => Same.seq rst_same (Same.seq L.same h2)⟩
theorem it_list {ds : List D} {a : Addr} {vs : List V} {o : Op} (hx : RpAll K (rst H S) vs ds) (hs : ∀ S' H', Live σ e o S H S' H' → SqL K H' a vs) : ItOk K (Itl K a) ds o σ e S H where
  len := fun hb => by rw [← hx.length]; exact hb a vs (.inl (hs S H ⟨fun _ _ z => z, fun _ _ _ _ _ => rfl⟩))
  go := fun i S' H' hi L => ⟨vs, vs[i]'(by rw [hx.length]; exact hi), hs _ _ L, by simp⟩
  stop := fun S' H' L => ⟨vs, hs _ _ L, by rw [hx.length]; exact Nat.le_refl _⟩
  yld := fun i d S' H' v H2 hd L y => by
    obtain ⟨rfl, y⟩ := y
    obtain ⟨v', h1, h2⟩ := hx.get hd
    have := y vs (hs _ _ L)
    rw [h1] at this
    cases this
    exact .inl ⟨rfl, h2.mono L.same⟩
theorem it_tup {ds : List D} {a : Addr} {vs : List V} {o : Op} (hx : RpAll K (rst H S) vs ds) (h1 : SqT K (rst H S) a vs) : ItOk K (Itt K a) ds o σ e S H where
  len := fun hb => by rw [← hx.length]; exact hb a vs (.inr (seqT_mono rst_same h1))
  go := fun i S' H' hi L => ⟨vs, vs[i]'(by rw [hx.length]; exact hi), seqT_mono rst_same (seqT_mono L.same h1), by simp⟩
  stop := fun S' H' L => ⟨vs, seqT_mono rst_same (seqT_mono L.same h1), by rw [hx.length]; exact Nat.le_refl _⟩
  yld := fun i d S' H' v H2 hd L y => by
    obtain ⟨rfl, y⟩ := y
    obtain ⟨v', h2, h3⟩ := hx.get hd
    have := y vs (seqT_mono rst_same (seqT_mono L.same h1))
    rw [h2] at this
    cases this
    exact .inl ⟨rfl, h3.mono L.same⟩
theorem it_str {z : Str} {o : Op} (hz : z.cps.size ≤ sizeLine) : ItOk K (Its z) (z.cps.toList.map fun c => .str ⟨#[c]⟩) o σ e S H where
  len := fun _ => by simpa using hz
  go := fun i S' H' hi L => by show i < z.cps.size; simpa using hi
  stop := fun S' H' L => by show z.cps.size ≤ _; simp
  yld := fun i d S' H' v H2 hd L y => by
    obtain ⟨rfl, c, h1, rfl⟩ := y
    rw [List.getElem?_map, Option.map_eq_some_iff] at hd
    obtain ⟨c', h2, rfl⟩ := hd
    have : c = c' := by
      rw [Array.getElem?_toList] at h2
      rw [h1] at h2
      exact Option.some.inj h2
    subst this
    exact .inl ⟨rfl, .str _⟩
theorem seqD_cases {d : D} {ds : List D} (h : seqD d = some ds) : d = .list ds ∨ d = .tuple ds ∨ ∃ z, d = .str z ∧ z.cps.size ≤ sizeLine ∧ ds = z.cps.toList.map fun c => .str ⟨#[c]⟩ := by
  unfold seqD at h
  split at h
  · cases h; exact .inl rfl
  · cases h; exact .inr (.inl rfl)
  · split at h
    · cases h; exact .inr (.inr ⟨_, rfl, by assumption, rfl⟩)
    · cases h
  · cases h
theorem i_any {t : TE} (h : PE X ea t) : PI X tg ea (fun σ H R => iList X.K t σ H R ∨ iTup X.K t σ H R ∨ iStr t σ H R) := wPIor (pi_list h) (wPIor (pi_tup h) (pi_str h))
theorem i_seq {fa : En → R (Op × En)} (h : PE X ea (tOpd W X.K fa)) : PI X tg ea (tIt W X.K fun e => (fa e).bind fun (x, e) => (lift (x.getI e)).bind fun d => (lift (seqD d)).bind fun ds => .ok ((ds, x), e)) := by
  refine wPI (i_any h) fun σ H R ⟨S, e, R0, P⟩ => ?_
  dsimp only at P
  cases q : fa e with
  | no => rw [q] at P; exact P.elim
  | rz x e1 => rw [q] at P; exact .inl ⟨S, e, R0, by rw [q]; exact P⟩
  | ok r =>
    obtain ⟨x, e1⟩ := r
    have P0 := P
    rw [q] at P
    obtain ⟨d, h1, P⟩ := Post.lift P
    obtain ⟨ds, h2, P⟩ := Post.lift P
    rcases seqD_cases h2 with rfl | rfl | ⟨z, rfl, hz, rfl⟩
    · refine .inl ⟨S, e, R0, ?_⟩
      rw [q]
      intro S1 H1 R1 t1 v hv
      rcases hv.getI R1 h1 with ⟨ds', a, vs, e1', rfl, h3, h4⟩ | ⟨h3, _⟩
      · cases e1'
        exact ⟨a, rfl, ⟨vs, h4 S1 H1 ⟨fun _ _ z => z, fun _ _ _ _ _ => rfl⟩⟩, P S1 H1 R1 t1 _ (it_list h3 h4)⟩
      · exact absurd rfl (h3 _)
    · refine .inr (.inl ⟨S, e, R0, ?_⟩)
      rw [q]
      intro S1 H1 R1 t1 v hv
      rcases hv.getI R1 h1 with ⟨ds', a, vs, e1', rfl, h3, h4⟩ | ⟨_, h3⟩
      · cases e1'
      · obtain ⟨a, vs, rfl, h4, h5⟩ := h3.tup_inv
        exact ⟨a, rfl, ⟨vs, seqT_mono rst_same h4⟩, P S1 H1 R1 t1 _ (it_tup h5 h4)⟩
    · refine .inr (.inr ⟨S, e, R0, ?_⟩)
      rw [q]
      intro S1 H1 R1 t1 v hv
      rcases hv.getI R1 h1 with ⟨ds', a, vs, e1', rfl, h3, h4⟩ | ⟨_, h3⟩
      · cases e1'
      · exact ⟨z, h3.str_inv, P S1 H1 R1 t1 _ (it_str hz)⟩
theorem val_opd {f : En → R (D × En)} (h : PE X ea (tVal W X.K f)) : PE X ea (tOpd W X.K fun e => (f e).bind fun (d, e) => .ok (.val d, e)) := by
  refine wPE h fun σ H Q ⟨S, e, R0, P⟩ => ⟨S, e, R0, (Post.bind P).mono fun d S1 e1 H1 _ R1 t1 P1 v hv => P1 S1 H1 R1 Tr.refl t1 v hv⟩
theorem i_fzd {f : En → R (D × En)} (h : PE X ea (tVal W X.K f)) : PI X tg ea (tIt W X.K fun e => (f e).bind fun (d, e) => (lift (seqD d)).bind fun ds => .ok ((ds, .val d), e)) := by
  refine wPI (i_seq (val_opd h)) fun σ H R ⟨S, e, R0, P⟩ => ⟨S, e, R0, ?_⟩
  dsimp only at P ⊢
  cases q : f e with
  | no => rw [q] at P; exact P
  | rz x e1 => rw [q] at P; exact P
  | ok r => rw [q] at P; exact P
/-! ranges -/
theorem rangeD_get : ∀ (n : Nat) (lo : Int) (i : Nat), (rangeD lo n)[i]? = if i < n then some (.int (lo + i)) else none
  | 0, lo, i => by simp [rangeD]
  | n + 1, lo, 0 => by simp [rangeD]
  | n + 1, lo, i + 1 => by
    rw [rangeD, List.getElem?_cons_succ, rangeD_get n (lo + 1) i]
    by_cases h : i < n
    · rw [if_pos h, if_pos (by omega)]; congr 2; omega
    · rw [if_neg h, if_neg (by omega)]
theorem rangeD_len : ∀ (n : Nat) (lo : Int), (rangeD lo n).length = n
  | 0, _ => rfl
  | n + 1, lo => by rw [rangeD, List.length_cons, rangeD_len n]
theorem rangeC_get (c : Int) : ∀ (n : Nat) (lo : Int) (i : Nat), (rangeC lo c n)[i]? = if i < n then some (.int (lo + (i : Nat) * c)) else none
  | 0, lo, i => by simp [rangeC]
  | n + 1, lo, 0 => by simp [rangeC]
  | n + 1, lo, i + 1 => by
    rw [rangeC, List.getElem?_cons_succ, rangeC_get c n (lo + c) i]
    by_cases h : i < n
    · rw [if_pos h, if_pos (by omega)]
      congr 2
      rw [Int.natCast_add, Int.add_mul]
      omega
    · rw [if_neg h, if_neg (by omega)]
theorem rangeC_len (c : Int) : ∀ (n : Nat) (lo : Int), (rangeC lo c n).length = n
  | 0, _ => rfl
  | n + 1, lo => by rw [rangeC, List.length_cons, rangeC_len c n]
theorem it_range {lo : Int} {n : Nat} {o : Op} (hn : n ≤ sizeLine) : ItOk K (Itr lo n) (rangeD lo n) o σ e S H where
  len := fun _ => by rw [rangeD_len]; exact hn
  go := fun i S' H' hi L => by rw [rangeD_len] at hi; exact hi
  stop := fun S' H' L => by rw [rangeD_len]; exact Nat.le_refl _
  yld := fun i d S' H' v H2 hd L y => by
    obtain ⟨rfl, rfl⟩ := y
    rw [rangeD_get] at hd
    split at hd
    · cases hd; exact .inl ⟨rfl, .int _⟩
    · cases hd
theorem it_rangeC {lo c : Int} {n : Nat} {o : Op} (hn : n ≤ sizeLine) : ItOk K (Itc lo c n) (rangeC lo c n) o σ e S H where
  len := fun _ => by rw [rangeC_len]; exact hn
  go := fun i S' H' hi L => by rw [rangeC_len] at hi; exact hi
  stop := fun S' H' L => by rw [rangeC_len]; exact Nat.le_refl _
  yld := fun i d S' H' v H2 hd L y => by
    obtain ⟨rfl, rfl⟩ := y
    rw [rangeC_get] at hd
    split at hd
    · cases hd; exact .inl ⟨rfl, .int _⟩
    · cases hd
theorem small62_ok {i : Int} (h : small62 i = true) : -(2 ^ 62) ≤ i ∧ i < 2 ^ 62 := by
  unfold small62 at h
  simpa using h
theorem i_rng1 {f : En → R (List D × En)} {p : Pos} (hg : Gl X "range") (hm : X.mg "range" = none) (ha : PA X [ea] (tVals W X.K f)) (hl : ∀ e ds e', f e = .ok (ds, e') → ds.length = 1) (hs : starEach [ea] X.env = [(false, eval ea X.env)]) :
    PI X tg (.Call (.Name "range" p) [ea] [] pos) (tIt W X.K fun e => (f e).bind fun (ds, e) => (lift (rngD ds)).bind fun xs => .ok ((xs, .val .none), e)) := by
  refine wPI (pi_range1 hg hm ha hs) fun σ H R ⟨S, e, R0, P⟩ => ?_
  refine ⟨S, e, R0, (Post.bind P).mono fun ds S1 e1 H1 hq R1 t1 P1 vs hvs => ?_⟩
  obtain ⟨xs, h1, P2⟩ := P1.lift
  have hlen := hl _ _ _ hq
  match ds, hlen with
  | [d], _ =>
    unfold rngD at h1
    split at h1
    · rename_i j he
      cases he
      split at h1
      · cases h1
        rename_i h2
        rw [Bool.and_eq_true, decide_eq_true_eq] at h2
        obtain ⟨h2, h2'⟩ := h2
        obtain ⟨b1, b2⟩ := small62_ok h2
        cases hvs with
        | cons r rr =>
          cases rr
          have := r.int_inv
          subst this
          exact ⟨_, rfl, b1, b2, P2 S1 H1 R1 Tr.refl t1 _ (it_range h2')⟩
      · cases h1
    · rename_i he; cases he
    · rename_i he; cases he
    · cases h1
theorem i_rng2 {f : En → R (List D × En)} {p : Pos} (hg : Gl X "range") (hm : X.mg "range" = none) (ha : PA X [ea, eb] (tVals W X.K f)) (hl : ∀ e ds e', f e = .ok (ds, e') → ds.length = 2) (hs : starEach [ea, eb] X.env = [(false, eval ea X.env), (false, eval eb X.env)]) (hs2 : starEach [eb] X.env = [(false, eval eb X.env)]) :
    PI X tg (.Call (.Name "range" p) [ea, eb] [] pos) (tIt W X.K fun e => (f e).bind fun (ds, e) => (lift (rngD ds)).bind fun xs => .ok ((xs, .val .none), e)) := by
  refine wPI (pi_range2 hg hm ha hs hs2) fun σ H R ⟨S, e, R0, P⟩ => ?_
  refine ⟨S, e, R0, (Post.bind P).mono fun ds S1 e1 H1 hq R1 t1 P1 vs hvs => ?_⟩
  obtain ⟨xs, h1, P2⟩ := P1.lift
  have hlen := hl _ _ _ hq
  match ds, hlen with
  | [d, d'], _ =>
    unfold rngD at h1
    split at h1
    · rename_i he; cases he
    · rename_i i j he
      cases he
      split at h1
      · cases h1
        rename_i h2
        rw [Bool.and_eq_true, decide_eq_true_eq, Bool.and_eq_true] at h2
        obtain ⟨h2, h2'⟩ := h2
        obtain ⟨b1, b2⟩ := small62_ok h2.1
        obtain ⟨b3, b4⟩ := small62_ok h2.2
        cases hvs with
        | cons r rr => cases rr with
          | cons r' rr =>
            cases rr
            have := r.int_inv
            have := r'.int_inv
            subst_vars
            exact ⟨_, _, rfl, ⟨b1, b2, b3, b4⟩, P2 S1 H1 R1 Tr.refl t1 _ (it_range h2')⟩
      · cases h1
    · rename_i he; cases he
    · cases h1
theorem rangeSize_nn (i j c : Int) (hc : c ≠ 0) : ((Builtin.Range.rangeSize i j c).toNat : Int) = Builtin.Range.rangeSize i j c := by
  refine Int.toNat_of_nonneg ?_
  unfold Builtin.Range.rangeSize
  split
  · split
    · have : 0 ≤ (j - i - 1) / c := Int.ediv_nonneg (by omega) (by omega)
      omega
    · omega
  · split
    · have : 0 ≤ (i - j - 1) / (-c) := Int.ediv_nonneg (by omega) (by omega)
      omega
    · omega
theorem i_rng3 {f : En → R (List D × En)} {p : Pos} (hg : Gl X "range") (hm : X.mg "range" = none) (ha : PA X [ea, eb, ec] (tVals W X.K f)) (hl : ∀ e ds e', f e = .ok (ds, e') → ds.length = 3)
    (hs : starEach [ea, eb, ec] X.env = (false, eval ea X.env) :: starEach [eb, ec] X.env) (hs2 : (backTo pos (starEach [eb, ec] X.env)).any (·.1) = false) :
    PI X tg (.Call (.Name "range" p) [ea, eb, ec] [] pos) (tIt W X.K fun e => (f e).bind fun (ds, e) => (lift (rngD ds)).bind fun xs => .ok ((xs, .val .none), e)) := by
  refine wPI (pi_range3 hg hm ha hs hs2) fun σ H R ⟨S, e, R0, P⟩ => ?_
  refine ⟨S, e, R0, (Post.bind P).mono fun ds S1 e1 H1 hq R1 t1 P1 vs hvs => ?_⟩
  obtain ⟨xs, h1, P2⟩ := P1.lift
  have hlen := hl _ _ _ hq
  match ds, hlen with
  | [d, d', d''], _ =>
    unfold rngD at h1
    split at h1
    · rename_i he; cases he
    · rename_i he; cases he
    · rename_i i j c he
      cases he
      split at h1
      · cases h1
        rename_i h2
        cases hvs with
        | cons r rr => cases rr with
          | cons r' rr => cases rr with
            | cons r'' rr =>
              cases rr
              have := r.int_inv
              have := r'.int_inv
              have := r''.int_inv
              subst_vars
              exact ⟨_, _, _, _, rfl, ⟨h2.1, h2.2.1, h2.2.2.1, (rangeSize_nn _ _ _ h2.1).symm⟩, P2 S1 H1 R1 Tr.refl t1 _ (it_rangeC h2.2.2.2)⟩
      · cases h1
    · cases h1
/-! enumerate, zip -/
theorem enumD_get : ∀ (ds : List D) (n i : Nat), (enumD n ds)[i]? = (ds[i]?).map fun d => .tuple [.int (n + i : Nat), d]
  | [], n, i => by simp [enumD]
  | d :: ds, n, 0 => by simp [enumD]
  | d :: ds, n, i + 1 => by
    rw [enumD, List.getElem?_cons_succ, enumD_get ds (n + 1) i, List.getElem?_cons_succ]
    congr 1
    funext x
    congr 4
    omega
theorem enumD_len : ∀ (ds : List D) (n : Nat), (enumD n ds).length = ds.length
  | [], _ => rfl
  | d :: ds, n => by rw [enumD, List.length_cons, enumD_len ds, List.length_cons]
theorem zipD_get : ∀ (as bs : List D) (i : Nat), (zipD as bs)[i]? = (as[i]?).bind fun a => (bs[i]?).map fun b => .tuple [a, b]
  | [], bs, i => by simp [zipD]
  | a :: as, [], i => by cases i <;> simp [zipD]
  | a :: as, b :: bs, 0 => by simp [zipD]
  | a :: as, b :: bs, i + 1 => by
    rw [zipD, List.getElem?_cons_succ, zipD_get as bs i, List.getElem?_cons_succ, List.getElem?_cons_succ]
theorem zipD_len : ∀ (as bs : List D), (zipD as bs).length = min as.length bs.length
  | [], bs => by simp [zipD]
  | a :: as, [] => by simp [zipD]
  | a :: as, b :: bs => by rw [zipD, List.length_cons, zipD_len as bs, List.length_cons, List.length_cons]; omega
theorem it_enumL {ds : List D} {a : Addr} {vs : List V} {o : Op} (hx : RpAll K (rst H S) vs ds) (h1 : (rst H S) a = some (.lst vs)) : ItOk K (Ite K a) (enumD 0 ds) o σ e S H where
  len := fun hb => by rw [enumD_len, ← hx.length]; exact hb a vs (.inl (.of (rst_same _ _ h1)))
  go := fun i S' H' hi L => ⟨vs, vs[i]'(by rw [hx.length]; rw [enumD_len] at hi; exact hi), .of (rst_same _ _ (L.same _ _ h1)), by simp⟩
  stop := fun S' H' L => ⟨vs, .of (rst_same _ _ (L.same _ _ h1)), by rw [hx.length, enumD_len]; exact Nat.le_refl _⟩
  yld := fun i d S' H' v H2 hd L y => by
    obtain ⟨T, x, rfl, hT, rfl, y⟩ := y
    rw [enumD_get, Option.map_eq_some_iff] at hd
    obtain ⟨d', h2, rfl⟩ := hd
    obtain ⟨v', h3, h4⟩ := hx.get h2
    have := y vs (.of (rst_same _ _ (L.same _ _ h1)))
    rw [h3] at this
    cases this
    exact .inr ⟨T, _, _, rfl, rfl, hT, rfl, .cons (by rw [Nat.zero_add]; exact .int _) (.cons (h4.mono L.same) .nil)⟩
theorem it_zipL {ds es : List D} {a b : Addr} {vs ws : List V} {o : Op} (hx : RpAll K (rst H S) vs ds) (h1 : (rst H S) a = some (.lst vs)) (hy : RpAll K (rst H S) ws es) (h2 : (rst H S) b = some (.lst ws)) : ItOk K (Itz K a b) (zipD ds es) o σ e S H where
  len := fun hb => by have := hb a vs (.inl (.of (rst_same _ _ h1))); have := hx.length; rw [zipD_len]; omega
  go := fun i S' H' hi L => by
    rw [zipD_len] at hi
    exact ⟨vs, ws, vs[i]'(by rw [hx.length]; omega), ws[i]'(by rw [hy.length]; omega), .of (rst_same _ _ (L.same _ _ h1)), .of (rst_same _ _ (L.same _ _ h2)), by simp, by simp⟩
  stop := fun S' H' L => ⟨vs, ws, .of (rst_same _ _ (L.same _ _ h1)), .of (rst_same _ _ (L.same _ _ h2)), by rw [hx.length, hy.length, zipD_len]; omega⟩
  yld := fun i d S' H' v H2 hd L y => by
    obtain ⟨T, x, z, rfl, hT, rfl, y1, y2⟩ := y
    rw [zipD_get, Option.bind_eq_some_iff] at hd
    obtain ⟨d1, h3, hd⟩ := hd
    rw [Option.map_eq_some_iff] at hd
    obtain ⟨d2, h4, rfl⟩ := hd
    obtain ⟨v1, h5, h6⟩ := hx.get h3
    obtain ⟨v2, h7, h8⟩ := hy.get h4
    have e1 := y1 vs (.of (rst_same _ _ (L.same _ _ h1)))
    have e2 := y2 ws (.of (rst_same _ _ (L.same _ _ h2)))
    rw [h5] at e1
    rw [h7] at e2
    cases e1
    cases e2
    exact .inr ⟨T, _, _, rfl, rfl, hT, rfl, .cons (h6.mono L.same) (.cons (h8.mono L.same) .nil)⟩
theorem it_zipT {ds es : List D} {a b : Addr} {vs ws : List V} {o : Op} (hx : RpAll K (rst H S) vs ds) (h1 : SqT K (rst H S) a vs) (hy : RpAll K (rst H S) ws es) (h2 : SqT K (rst H S) b ws) : ItOk K (ItzT K a b) (zipD ds es) o σ e S H where
  len := fun hb => by have := hb a vs (.inr (seqT_mono rst_same h1)); have := hx.length; rw [zipD_len]; omega
  go := fun i S' H' hi L => by
    rw [zipD_len] at hi
    exact ⟨vs, ws, vs[i]'(by rw [hx.length]; omega), ws[i]'(by rw [hy.length]; omega), seqT_mono rst_same (seqT_mono L.same h1), seqT_mono rst_same (seqT_mono L.same h2), by simp, by simp⟩
  stop := fun S' H' L => ⟨vs, ws, seqT_mono rst_same (seqT_mono L.same h1), seqT_mono rst_same (seqT_mono L.same h2), by rw [hx.length, hy.length, zipD_len]; omega⟩
  yld := fun i d S' H' v H2 hd L y => by
    obtain ⟨T, x, z, rfl, hT, rfl, y1, y2⟩ := y
    rw [zipD_get, Option.bind_eq_some_iff] at hd
    obtain ⟨d1, h3, hd⟩ := hd
    rw [Option.map_eq_some_iff] at hd
    obtain ⟨d2, h4, rfl⟩ := hd
    obtain ⟨v1, h5, h6⟩ := hx.get h3
    obtain ⟨v2, h7, h8⟩ := hy.get h4
    have e1 := y1 vs (seqT_mono rst_same (seqT_mono L.same h1))
    have e2 := y2 ws (seqT_mono rst_same (seqT_mono L.same h2))
    rw [h5] at e1
    rw [h7] at e2
    cases e1
    cases e2
    exact .inr ⟨T, _, _, rfl, rfl, hT, rfl, .cons (h6.mono L.same) (.cons (h8.mono L.same) .nil)⟩
theorem it_enumT {ds : List D} {a : Addr} {vs : List V} {o : Op} (hx : RpAll K (rst H S) vs ds) (h1 : SqT K (rst H S) a vs) : ItOk K (IteT K a) (enumD 0 ds) o σ e S H where
  len := fun hb => by rw [enumD_len, ← hx.length]; exact hb a vs (.inr (seqT_mono rst_same h1))
  go := fun i S' H' hi L => ⟨vs, vs[i]'(by rw [hx.length]; rw [enumD_len] at hi; exact hi), seqT_mono rst_same (seqT_mono L.same h1), by simp⟩
  stop := fun S' H' L => ⟨vs, seqT_mono rst_same (seqT_mono L.same h1), by rw [hx.length, enumD_len]; exact Nat.le_refl _⟩
  yld := fun i d S' H' v H2 hd L y => by
    obtain ⟨T, x, rfl, hT, rfl, y⟩ := y
    rw [enumD_get, Option.map_eq_some_iff] at hd
    obtain ⟨d', h2, rfl⟩ := hd
    obtain ⟨v', h3, h4⟩ := hx.get h2
    have := y vs (seqT_mono rst_same (seqT_mono L.same h1))
    rw [h3] at this
    cases this
    exact .inr ⟨T, _, _, rfl, rfl, hT, rfl, .cons (by rw [Nat.zero_add]; exact .int _) (.cons (h4.mono L.same) .nil)⟩
theorem it_enumS {z : Str} {o : Op} (hz : z.cps.size ≤ sizeLine) : ItOk K (IteS z) (enumD 0 (z.cps.toList.map fun c => .str ⟨#[c]⟩)) o σ e S H where
  len := fun _ => by rw [enumD_len, List.length_map, Array.length_toList]; exact hz
  go := fun i S' H' hi L => by
    rw [enumD_len, List.length_map, Array.length_toList] at hi
    exact hi
  stop := fun S' H' L => by
    show z.cps.size ≤ _
    rw [enumD_len, List.length_map, Array.length_toList]
    exact Nat.le_refl _
  yld := fun i d S' H' v H2 hd L y => by
    obtain ⟨T, c, rfl, hT, rfl, y⟩ := y
    rw [enumD_get, List.getElem?_map, Array.getElem?_toList, y] at hd
    cases hd
    exact .inr ⟨T, _, _, rfl, rfl, hT, rfl, .cons (by rw [Nat.zero_add]; exact .int _) (.cons (.str _) .nil)⟩
theorem it_zipS {x z : Str} {o : Op} (hx : x.cps.size ≤ sizeLine) (hz : z.cps.size ≤ sizeLine) : ItOk K (ItzS x z) (zipD (x.cps.toList.map fun c => .str ⟨#[c]⟩) (z.cps.toList.map fun c => .str ⟨#[c]⟩)) o σ e S H where
  len := fun _ => by rw [zipD_len, List.length_map, List.length_map, Array.length_toList, Array.length_toList]; omega
  go := fun i S' H' hi L => by
    rw [zipD_len, List.length_map, List.length_map, Array.length_toList, Array.length_toList] at hi
    show i < x.cps.size ∧ i < z.cps.size
    omega
  stop := fun S' H' L => by
    show x.cps.size ≤ _ ∨ z.cps.size ≤ _
    rw [zipD_len, List.length_map, List.length_map, Array.length_toList, Array.length_toList]
    omega
  yld := fun i d S' H' v H2 hd L y => by
    obtain ⟨T, c, c', rfl, hT, rfl, y1, y2⟩ := y
    rw [zipD_get, List.getElem?_map, List.getElem?_map, Array.getElem?_toList, Array.getElem?_toList, y1, y2] at hd
    cases hd
    exact .inr ⟨T, _, _, rfl, rfl, hT, rfl, .cons (.str _) (.cons (.str _) .nil)⟩
theorem it_zipM {x : Str} {es : List D} {b : Addr} {ws : List V} {o : Op} (hx : x.cps.size ≤ sizeLine) (hy : RpAll K (rst H S) ws es) (h2 : (rst H S) b = some (.lst ws)) : ItOk K (ItzM K x b) (zipD (x.cps.toList.map fun c => .str ⟨#[c]⟩) es) o σ e S H where
  len := fun _ => by rw [zipD_len, List.length_map, Array.length_toList]; omega
  go := fun i S' H' hi L => by
    rw [zipD_len, List.length_map, Array.length_toList] at hi
    exact ⟨by omega, ws, ws[i]'(by rw [hy.length]; omega), .of (rst_same _ _ (L.same _ _ h2)), by simp⟩
  stop := fun S' H' L => ⟨ws, .of (rst_same _ _ (L.same _ _ h2)), by rw [zipD_len, List.length_map, Array.length_toList]; omega, by rw [hy.length, zipD_len]; omega, by rw [hy.length, zipD_len, List.length_map, Array.length_toList]; omega⟩
  yld := fun i d S' H' v H2 hd L y => by
    obtain ⟨T, c, z, rfl, hT, rfl, y1, y2⟩ := y
    rw [zipD_get, List.getElem?_map, Array.getElem?_toList, y1] at hd
    have hd : (es[i]?).map (fun d2 => PyData.tuple [.str ⟨#[c]⟩, d2]) = some d := hd
    rw [Option.map_eq_some_iff] at hd
    obtain ⟨d2, h4, rfl⟩ := hd
    obtain ⟨v2, h7, h8⟩ := hy.get h4
    have e2 := y2 ws (.of (rst_same _ _ (L.same _ _ h2)))
    rw [h7] at e2
    cases e2
    exact .inr ⟨T, _, _, rfl, rfl, hT, rfl, .cons (.str _) (.cons (h8.mono L.same) .nil)⟩
theorem i_enuA {f : En → R (D × En)} {p : Pos} {elts : List Expr} {kk : Nat} {tpos : Pos} (hg : Gl X "enumerate") (hm : X.mg "enumerate" = none) (ha : PE X ea (tVal W X.K f)) (hs : starEach [ea] X.env = [(false, eval ea X.env)]) :
    PI X (.Tuple elts kk tpos) (.Call (.Name "enumerate" p) [ea] [] pos) (fun σ H R => iEnuA X.K (tVals W X.K fun e => (f e).bind fun (d, e) => .ok ([d], e)) σ H R ∨ iEnuS (tVals W X.K fun e => (f e).bind fun (d, e) => .ok ([d], e)) σ H R) := by
  have hv : PA X [ea] (tVals W X.K fun e => (f e).bind fun (d, e) => .ok ([d], e)) := by
    have := vals_cons ha vals_nil (by rw [hs]; rfl)
    exact this
  exact wPIor (pi_enuA hg hm hv hs) (pi_enuS hg hm hv hs)
theorem i_enu {f : En → R (D × En)} {p : Pos} {elts : List Expr} {kk : Nat} {tpos : Pos} (hg : Gl X "enumerate") (hm : X.mg "enumerate" = none) (ha : PE X ea (tVal W X.K f)) (hs : starEach [ea] X.env = [(false, eval ea X.env)]) :
    PI X (.Tuple elts kk tpos) (.Call (.Name "enumerate" p) [ea] [] pos) (tIt W X.K fun e => (f e).bind fun (d, e) => (lift (enuD d)).bind fun ds => .ok ((ds, .val d), e)) := by
  refine wPI (i_enuA hg hm ha hs) fun σ H R ⟨S, e, R0, P⟩ => ?_
  dsimp only at P
  cases q : f e with
  | no => rw [q] at P; exact P.elim
  | rz x e1 => rw [q] at P; exact .inl ⟨S, e, R0, by dsimp only; rw [q]; exact P⟩
  | ok r =>
    obtain ⟨d, e1⟩ := r
    rw [q] at P
    obtain ⟨xs, h1, P2⟩ := Post.lift P
    cases d with
    | list ds =>
      cases h1
      refine .inl ⟨S, e, R0, ?_⟩
      dsimp only
      rw [q]
      intro S1 H1 R1 t1 v hv
      cases hv with
      | cons hv hn =>
        cases hn
        obtain ⟨a, vs, rfl, h2, h3⟩ := hv.list_inv
        exact ⟨a, vs, rfl, .inl ⟨.of (rst_same _ _ h2), P2 S1 H1 R1 t1 _ (it_enumL h3 h2)⟩⟩
    | tuple ds =>
      cases h1
      refine .inl ⟨S, e, R0, ?_⟩
      dsimp only
      rw [q]
      intro S1 H1 R1 t1 v hv
      cases hv with
      | cons hv hn =>
        cases hn
        obtain ⟨a, vs, rfl, h2, h3⟩ := hv.tup_inv
        exact ⟨a, vs, rfl, .inr ⟨seqT_mono rst_same h2, P2 S1 H1 R1 t1 _ (it_enumT h3 h2)⟩⟩
    | str z =>
      have h1 : (if z.cps.size ≤ sizeLine then some (enumD 0 (z.cps.toList.map fun c => .str ⟨#[c]⟩)) else none) = some xs := h1
      split at h1
      · rename_i hz
        cases h1
        refine .inr ⟨S, e, R0, ?_⟩
        dsimp only
        rw [q]
        intro S1 H1 R1 t1 v hv
        cases hv with
        | cons hv hn =>
          cases hn
          exact ⟨_, by rw [hv.str_inv], P2 S1 H1 R1 t1 _ (it_enumS hz)⟩
      · cases h1
    | _ => cases h1
theorem zip_cases {ds xs : List D} (h : zipDs ds = some xs) : (∃ a b, ds = [.list a, .list b] ∧ xs = zipD a b) ∨ (∃ a b, ds = [.tuple a, .tuple b] ∧ xs = zipD a b) ∨ (∃ a b : Str, ds = [.str a, .str b] ∧ (a.cps.size ≤ sizeLine ∧ b.cps.size ≤ sizeLine) ∧ xs = zipD (a.cps.toList.map fun c => .str ⟨#[c]⟩) (b.cps.toList.map fun c => .str ⟨#[c]⟩)) ∨ ∃ (a : Str) (b : List D), ds = [.str a, .list b] ∧ a.cps.size ≤ sizeLine ∧ xs = zipD (a.cps.toList.map fun c => .str ⟨#[c]⟩) b := by
  unfold zipDs at h
  split at h
  · cases h; exact .inl ⟨_, _, rfl, rfl⟩
  · split at h
    · cases h; exact .inr (.inr (.inl ⟨_, _, rfl, by assumption, rfl⟩))
    · cases h
  · cases h; exact .inr (.inl ⟨_, _, rfl, rfl⟩)
  · split at h
    · cases h; exact .inr (.inr (.inr ⟨_, _, rfl, by assumption, rfl⟩))
    · cases h
  · cases h
theorem i_zip {f : En → R (List D × En)} {p : Pos} {elts : List Expr} {kk : Nat} {tpos : Pos} (hg : Gl X "zip") (hm : X.mg "zip" = none) (ha : PA X [ea, eb] (tVals W X.K f)) (hs : starEach [ea, eb] X.env = (false, eval ea X.env) :: starEach [eb] X.env) (hpl : (backTo pos (starEach [eb] X.env)).any (·.1) = false) :
    PI X (.Tuple elts kk tpos) (.Call (.Name "zip" p) [ea, eb] [] pos) (tIt W X.K fun e => (f e).bind fun (ds, e) => (lift (zipDs ds)).bind fun xs => .ok ((xs, .val .none), e)) := by
  refine wPI (wPIor (wPIor (pi_zipA hg hm ha hs hpl) (pi_zipS hg hm ha hs hpl)) (pi_zipM hg hm ha hs hpl)) fun σ H R ⟨S, e, R0, P⟩ => ?_
  dsimp only at P
  cases q : f e with
  | no => rw [q] at P; exact P.elim
  | rz x e1 => rw [q] at P; exact .inl (.inl ⟨S, e, R0, by rw [q]; exact P⟩)
  | ok r =>
    obtain ⟨ds, e1⟩ := r
    rw [q] at P
    obtain ⟨xs, h1, P2⟩ := Post.lift P
    rcases zip_cases h1 with ⟨a0, b0, rfl, rfl⟩ | ⟨a0, b0, rfl, rfl⟩ | ⟨a0, b0, rfl, hz, rfl⟩ | ⟨a0, b0, rfl, hz, rfl⟩
    · refine .inl (.inl ⟨S, e, R0, ?_⟩)
      rw [q]
      intro S1 H1 R1 t1 v hv
      cases hv with
      | cons r rr => cases rr with
        | cons r' rr =>
          cases rr
          obtain ⟨a, vs, rfl, h2, h3⟩ := r.list_inv
          obtain ⟨b, ws, rfl, h4, h5⟩ := r'.list_inv
          exact ⟨a, b, vs, ws, rfl, .inl ⟨.of (rst_same _ _ h2), .of (rst_same _ _ h4), P2 S1 H1 R1 t1 _ (it_zipL h3 h2 h5 h4)⟩⟩
    · refine .inl (.inl ⟨S, e, R0, ?_⟩)
      rw [q]
      intro S1 H1 R1 t1 v hv
      cases hv with
      | cons r rr => cases rr with
        | cons r' rr =>
          cases rr
          obtain ⟨a, vs, rfl, h2, h3⟩ := r.tup_inv
          obtain ⟨b, ws, rfl, h4, h5⟩ := r'.tup_inv
          exact ⟨a, b, vs, ws, rfl, .inr ⟨seqT_mono rst_same h2, seqT_mono rst_same h4, P2 S1 H1 R1 t1 _ (it_zipT h3 h2 h5 h4)⟩⟩
    · refine .inl (.inr ⟨S, e, R0, ?_⟩)
      rw [q]
      intro S1 H1 R1 t1 v hv
      cases hv with
      | cons r rr => cases rr with
        | cons r' rr =>
          cases rr
          exact ⟨_, _, by rw [r.str_inv, r'.str_inv], P2 S1 H1 R1 t1 _ (it_zipS hz.1 hz.2)⟩
    · refine .inr ⟨S, e, R0, ?_⟩
      rw [q]
      intro S1 H1 R1 t1 v hv
      cases hv with
      | cons r rr => cases rr with
        | cons r' rr =>
          cases rr
          obtain ⟨b, ws, rfl, h4, h5⟩ := r'.list_inv
          exact ⟨_, b, ws, by rw [r.str_inv], .of (rst_same _ _ h4), P2 S1 H1 R1 t1 _ (it_zipM hz h5 h4)⟩
/-- .. with the length known -/
def tItL (W : WX) (K : PySem.W.Frag) (f : En → R ((List D × Op) × En)) : TI := fun σ H R => ∃ S e, Rel K S e σ H ∧ Post W K σ S e H (f e) fun (xs, x) S1 e1 H1 => ∀ J, ItOk K J xs x σ e1 S1 H1 → xs.length ≤ sizeLine → R J H1
theorem i_len {x : Expr} {f : En → R ((List D × Op) × En)} (h : PI X tg x (tIt W X.K f)) : PI X tg x (tItL W X.K f) := by
  refine ⟨fun pins s σ H R I ⟨S, e, R0, P⟩ => ?_⟩
  have q := h.run pins s σ H (fun J H' => HB X.K H' → R J H') I ⟨S, e, R0, P.mono fun (xs, x) S1 e1 H1 _ R1 t1 k J J1 hb => k J J1 (J1.len hb)⟩
  refine thn q fun v s1 h1 => thn h1 fun itv s2 h2 => ?_
  obtain ⟨it, fp, tn, J, H', e1, I1, T, t0, f0, r⟩ := h2
  refine ⟨it, fp, tn, J, H', e1, I1, T, t0, f0, r fun a xs hx => ?_⟩
  rcases hx with hx | hx
  · obtain ⟨_, _, _, z⟩ := I1.list hx
    exact z
  · obtain ⟨_, _, _, z⟩ := I1.tuple hx
    exact z
end
end PV
end
section
namespace PV
open PySem L2 Classical

section
variable {X : Cx} {W : WX} {K : PySem.W.Frag} {σ σ' : St} {S S' S1 : Addr → Prop} {e e' e1 : En} {H H' H1 : Hp} {ea eb ec : Expr} {tg : Expr} {pos : Pos} {es : List Expr}
/-! ### lists by comprehension -/
theorem wipeE_len (e : En) : ∀ vs, (wipeE e vs).length = e.length
  | [] => rfl
  | v :: vs => by unfold wipeE; rw [put_len, wipeE_len e vs]
theorem backE_len (e0 e : En) : ∀ vs, (backE e0 e vs).length = e.length
  | [] => rfl
  | v :: vs => by unfold backE; rw [put_len, backE_len e0 e vs]
theorem get_wipeE (e : En) (i : Nat) : ∀ vs, get (wipeE e vs) i = if i ∈ vs then .un else get e i
  | [] => by simp [wipeE]
  | v :: vs => by
    unfold wipeE
    by_cases h : v = i
    · subst h
      rw [if_pos List.mem_cons_self]
      by_cases hl : v < (wipeE e vs).length
      · rw [get_put_self hl]
      · unfold get PV.put
        rw [List.getD_eq_getElem?_getD, List.getElem?_eq_none (by simpa using hl)]
        rfl
    · rw [get_put_ne h, get_wipeE e i vs]
      by_cases q : i ∈ vs
      · rw [if_pos q, if_pos (List.mem_cons_of_mem _ q)]
      · rw [if_neg q, if_neg (by simp only [List.mem_cons, not_or]; exact ⟨fun z => h z.symm, q⟩)]
theorem get_backE (e0 e : En) (hl : e0.length = e.length) (i : Nat) : ∀ vs, get (backE e0 e vs) i = if i ∈ vs then get e0 i else get e i
  | [] => by simp [backE]
  | v :: vs => by
    unfold backE
    by_cases h : v = i
    · subst h
      rw [if_pos List.mem_cons_self]
      by_cases q : v < (backE e0 e vs).length
      · rw [get_put_self q]
      · have : get e0 v = .un := by
          unfold get
          rw [List.getD_eq_getElem?_getD, List.getElem?_eq_none (by rw [backE_len] at q; omega)]
          rfl
        rw [this]
        unfold get PV.put
        rw [List.getD_eq_getElem?_getD, List.getElem?_eq_none (by simpa using q)]
        rfl
    · rw [get_put_ne h, get_backE e0 e hl i vs]
      by_cases q : i ∈ vs
      · rw [if_pos q, if_pos (List.mem_cons_of_mem _ q)]
      · rw [if_neg q, if_neg (by simp only [List.mem_cons, not_or]; exact ⟨fun z => h z.symm, q⟩)]
theorem wipe_get (σ : St) (i : Nat) : ∀ vs : List Nat, i ∉ vs → (wipe σ vs)[i]? = σ[i]?
  | [], _ => rfl
  | v :: vs, h => by
    unfold wipe
    rw [List.getElem?_set_ne (by intro z; subst z; exact h List.mem_cons_self), wipe_get σ i vs fun z => h (List.mem_cons_of_mem _ z)]
/-- fewer slots are told -/
theorem Rel.fewer (R0 : Rel K S e σ H) (hl : e'.length = e.length) (hσl : σ'.length = σ.length) (h : ∀ i, get e' i = .un ∨ (get e' i = get e i ∧ σ'[i]? = σ[i]?)) : Rel K S e' σ' H := by
  have old : ∀ i c, get e' i = c → c ≠ .un → get e i = c ∧ σ'[i]? = σ[i]? := fun i c q hc => by
    rcases h i with z | ⟨z, w⟩
    · exact absurd (q.symm.trans z) hc
    · exact ⟨z ▸ q, w⟩
  have held : ∀ i b, HeldA e' σ' i b → HeldA e σ i b := fun i b ⟨⟨d, h1⟩, h2⟩ => by
    rcases h i with z | ⟨z, w⟩
    · rw [z] at h1; cases h1
    · exact ⟨⟨d, z ▸ h1⟩, by unfold At; rw [← w]; exact h2⟩
  refine ⟨by rw [hσl, hl]; exact R0.len, fun i d q => ?_, fun i d q => ?_, fun i d q => ?_, fun i j b hi hj => R0.inj i j b (held i b hi) (held j b hj), R0.trk⟩
  · obtain ⟨h1, h2⟩ := old i _ q (by simp)
    obtain ⟨v, h3, h4⟩ := R0.sh i d h1
    exact ⟨v, by unfold At; rw [h2]; exact h3, h4⟩
  · rcases h i with z | ⟨z, w⟩
    · rw [z] at q; cases q
    · rw [z] at q
      obtain ⟨v, h3, h4⟩ := R0.held i d q
      exact ⟨v, by unfold At; rw [w]; exact h3, h4⟩
  · obtain ⟨h1, h2⟩ := old i _ q (by simp)
    obtain ⟨v, h3, h4⟩ := R0.fz i d h1
    exact ⟨v, by unfold At; rw [h2]; exact h3, h4⟩
theorem lend_cases (e : En) (i : Nat) : (∃ d, get e i = .ow d ∧ lend e (.slot i) = put e i (.le d)) ∨ ((∀ d, get e i ≠ .ow d) ∧ lend e (.slot i) = e) := by
  unfold PV.lend
  cases q : get e i with
  | ow d => exact .inl ⟨d, rfl, by simp only [q]⟩
  | _ => exact .inr ⟨fun d => by simp, by simp only [q]⟩
theorem unlend_cases (e0 e : En) (i : Nat) : (∃ d0 d, get e0 i = .ow d0 ∧ get e i = .le d ∧ unlend e0 e (.slot i) = put e i (.ow d)) ∨ (((∀ d, get e0 i ≠ .ow d) ∨ ∀ d, get e i ≠ .le d) ∧ unlend e0 e (.slot i) = e) := by
  unfold PV.unlend
  cases q : get e0 i with
  | ow d =>
    cases q2 : get e i with
    | le d' => exact .inl ⟨d, d', rfl, rfl, by simp only [q, q2]⟩
    | _ => exact .inr ⟨.inr fun d => by simp, by simp only [q, q2]⟩
  | _ => exact .inr ⟨.inl fun d => by simp, by simp only [q]⟩
/-- a list is lent for a walk -/
theorem Rel.lend (R0 : Rel K S e σ H) (x : Op) : Rel K S (lend e x) σ H := by
  cases x with
  | val d => exact R0
  | slot i =>
    rcases lend_cases e i with ⟨d, h, q⟩ | ⟨_, q⟩
    · rw [q]
      obtain ⟨a, h1, h2, h3⟩ := R0.held i d (by rw [h]; rfl)
      exact R0.putc (c := .le d) (v := .ref a) (get_lt (by rw [h]; simp)) (fun _ _ => rfl) rfl h1 ⟨a, d, rfl, rfl, h2, h3, fun j hj z => hj (R0.inj j i a z ⟨⟨d, by rw [h]; rfl⟩, h1⟩)⟩
    · rw [q]; exact R0
theorem lend_len (e : En) (x : Op) : (PV.lend e x).length = e.length := by
  cases x with
  | val d => rfl
  | slot i =>
    rcases lend_cases e i with ⟨d, h, q⟩ | ⟨_, q⟩
    · rw [q, put_len]
    · rw [q]
/-- what a lent environment holds -/
theorem lend_get (e : En) (x : Op) (i : Nat) : get (PV.lend e x) i = get e i ∨ (x = .slot i ∧ ∃ d, get e i = .ow d ∧ get (PV.lend e x) i = .le d) := by
  cases x with
  | val d => exact .inl rfl
  | slot j =>
    rcases lend_cases e j with ⟨d, h, q⟩ | ⟨_, q⟩
    · rw [q]
      by_cases z : j = i
      · subst z
        exact .inr ⟨rfl, d, h, get_put_self (get_lt (by rw [h]; simp))⟩
      · rw [get_put_ne z]; exact .inl rfl
    · rw [q]; exact .inl rfl
theorem bindT_get : ∀ (t : CT), (∀ d e e', bindT t d e = some e' → (∀ i, i ∉ slotsT t → get e' i = get e i) ∧ (∀ i, i ∈ slotsT t → ∃ d, get e' i = .sh d) ∧ e'.length = e.length) ∧
    (∀ ds e e', bindTs t ds e = some e' → (∀ i, i ∉ slotsT t → get e' i = get e i) ∧ (∀ i, i ∈ slotsT t → ∃ d, get e' i = .sh d) ∧ e'.length = e.length)
  | .nm i => by
    refine ⟨fun d e e' h => ?_, fun ds e e' h => by simp [bindTs] at h⟩
    obtain ⟨hl, rfl, _⟩ := bind_nm h
    refine ⟨fun j hj => get_put_ne fun z => hj (by simp [slotsT, z]), fun j hj => ?_, put_len⟩
    have : j = i := by simpa [slotsT] using hj
    subst this
    exact ⟨d, get_put_self hl⟩
  | .tup t => by
    refine ⟨fun d e e' h => ?_, fun ds e e' h => by simp [bindTs] at h⟩
    cases d with
    | tuple ds =>
      have h : bindTs t ds e = some e' := by unfold bindT at h; exact h
      exact (bindT_get t).2 ds e e' h
    | _ => simp [bindT] at h
  | .nil => by
    refine ⟨fun d e e' h => by simp [bindT] at h, fun ds e e' h => ?_⟩
    cases ds with
    | nil =>
      have : e' = e := by simpa [bindTs] using h.symm
      subst this
      exact ⟨fun _ _ => rfl, fun i hi => by simp [slotsT] at hi, rfl⟩
    | cons => simp [bindTs] at h
  | .cons a t => by
    refine ⟨fun d e e' h => by simp [bindT] at h, fun ds e e' h => ?_⟩
    cases ds with
    | nil => simp [bindTs] at h
    | cons d ds =>
      have h : (bindT a d e).bind (bindTs t ds) = some e' := by unfold bindTs at h; exact h
      rw [Option.bind_eq_some_iff] at h
      obtain ⟨e1, b1, b2⟩ := h
      obtain ⟨p1, p2, p3⟩ := (bindT_get a).1 d e e1 b1
      obtain ⟨q1, q2, q3⟩ := (bindT_get t).2 ds e1 e' b2
      refine ⟨fun i hi => ?_, fun i hi => ?_, q3.trans p3⟩
      · have hi : i ∉ slotsT a ∧ i ∉ slotsT t := by simpa [slotsT] using hi
        rw [q1 i hi.2, p1 i hi.1]
      · by_cases z : i ∈ slotsT t
        · exact q2 i z
        · have hi : i ∈ slotsT a := by
            rcases (by simpa [slotsT] using hi : i ∈ slotsT a ∨ i ∈ slotsT t) with h | h
            · exact h
            · exact absurd h z
          rw [q1 i z]
          exact p2 i hi
theorem Tr.held (t : Tr σ S e H S' e' H') {i : Nat} {b : Addr} (h : HeldA e' σ i b) : HeldA e σ i b := by
  obtain ⟨⟨d, h1⟩, h2⟩ := h
  refine ⟨?_, h2⟩
  cases q : get e' i with
  | ow d' =>
    obtain ⟨d0, h3⟩ := t.own i d' q
    exact ⟨d0, by rw [h3]; rfl⟩
  | io d' =>
    obtain ⟨d0, h3⟩ := (t.io i).mpr ⟨d', q⟩
    exact ⟨d0, by rw [h3]; rfl⟩
  | le d' => exact ⟨d', by rw [(t.le i d').mpr q]; rfl⟩
  | un => rw [q] at h1; cases h1
  | sh _ => rw [q] at h1; cases h1
  | fz _ => rw [q] at h1; cases h1
theorem Tr.mask (t : Tr σ S e H S' e' H') {D : Addr} (o : HO) (hS : S D) : Tr σ S e (upd H D o) S' e' (upd H' D o) where
  fr := fun b x h n => by
    by_cases q : b = D
    · subst q; rw [upd_same] at h ⊢; exact h
    · rw [upd_ne q] at h ⊢; exact t.fr b x h n
  dom := fun b h => by
    by_cases q : b = D
    · subst q; rw [upd_same]; simp
    · rw [upd_ne q] at h ⊢; exact t.dom b h
  gr := fun b x h n => by
    have q : b ≠ D := fun z => n (z ▸ hS)
    rw [upd_ne q] at h
    exact t.gr b x h n
  hid := t.hid
  own := t.own
  io := t.io
  le := t.le
  len := t.len
theorem Rel.setD (R0 : Rel K S e σ H) {D : Addr} (o : HO) (hS : S D) (hn : ∀ j, ¬ HeldA e σ j D) : Rel K S e σ (upd H D o) := by
  refine R0.grow (fun b x q => ?_) (fun i b x hb hx => ?_) fun b q => ?_
  · obtain ⟨h1, h2⟩ := rst_in.mp q
    have hne : b ≠ D := fun z => h2 (by rw [z]; exact hS)
    exact rst_in.mpr ⟨by rw [upd_ne hne]; exact h1, h2⟩
  · have : b ≠ D := fun z => hn i (z ▸ hb)
    refine ⟨by rw [upd_ne this]; exact hx, ?_⟩
    obtain ⟨⟨d, h1⟩, h2⟩ := hb
    obtain ⟨a, h3, h4, _⟩ := R0.held i d h1
    exact h2.ref h3 ▸ h4
  · by_cases z : b = D
    · subst z; rw [upd_same]; simp
    · rw [upd_ne z]; exact R0.trk b q
theorem wipe_wipe (σ : St) : ∀ vs : List Nat, wipe (wipe σ vs) vs = wipe σ vs := fun vs => by
  refine List.ext_getElem? fun i => ?_
  by_cases h : i ∈ vs
  · have key : ∀ σ : St, i < σ.length → (wipe σ vs)[i]? = some none := fun σ hl => by
      cases q : (wipe σ vs)[i]? with
      | none => rw [List.getElem?_eq_none_iff, wipe_length] at q; omega
      | some x => cases x with
        | none => rfl
        | some v => exact absurd h (wipe_some q).2
    by_cases hl : i < σ.length
    · rw [key _ (by rw [wipe_length]; exact hl), key _ hl]
    · rw [List.getElem?_eq_none (by simp [wipe_length]; omega), List.getElem?_eq_none (by simp [wipe_length]; omega)]
  · rw [wipe_get _ i vs h]
theorem wipe_eq {σ σ2 : St} {vs : List Nat} (hl : σ2.length = σ.length) (h : ∀ j, j ∉ vs → σ2[j]? = σ[j]?) : wipe σ2 vs = wipe σ vs := by
  refine List.ext_getElem? fun i => ?_
  by_cases hi : i ∈ vs
  · have key : ∀ σ : St, i < σ.length → (wipe σ vs)[i]? = some none := fun σ hl => by
      cases q : (wipe σ vs)[i]? with
      | none => rw [List.getElem?_eq_none_iff, wipe_length] at q; omega
      | some x => cases x with
        | none => rfl
        | some v => exact absurd hi (wipe_some q).2
    by_cases hl2 : i < σ.length
    · rw [key _ (by omega), key _ hl2]
    · rw [List.getElem?_eq_none (by simp [wipe_length]; omega), List.getElem?_eq_none (by simp [wipe_length]; omega)]
  · rw [wipe_get _ i vs hi, wipe_get _ i vs hi, h i hi]
abbrev W0 : WX := fun _ _ _ _ => False
theorem takesW0 {X : Cx} : Takes X W0 := fun u s' x => by
  obtain ⟨_, _, _, _, _, _, _, _, _, _, _, _, _, _, _, _, z⟩ := x
  exact z.elim
/-- a comprehension's turn -/
def turnF (ct : CT) (vs : List Nat) (ft : En → R (Bool × En)) (fe : En → R (D × En)) (d : D) (e : En) : R (Option D × En) :=
  (lift (bindT ct d e)).bind fun e => (ft e).bind fun (b, e) => if b then (fe e).bind fun (v, e) => .ok (some v, wipeE e vs) else .ok (none, wipeE e vs)
theorem turnF_none {ct : CT} {vs : List Nat} {ft : En → R (Bool × En)} {fe : En → R (D × En)} {d : D} {e : En} (h : bindT ct d e = none) : turnF ct vs ft fe d e = .no := by
  unfold turnF; simp only [h, lift, R.bind]
theorem turnF_some {ct : CT} {vs : List Nat} {ft : En → R (Bool × En)} {fe : En → R (D × En)} {d : D} {e e3 : En} (h : bindT ct d e = some e3) : turnF ct vs ft fe d e = (ft e3).bind fun (b, e) => if b then (fe e).bind fun (v, e) => .ok (some v, wipeE e vs) else .ok (none, wipeE e vs) := by
  unfold turnF; rw [h]; rfl
def lcF (ct : CT) (vs : List Nat) (ft : En → R (Bool × En)) (fe : En → R (D × En)) (xs : List D) (x : Op) (e : En) : R (Cl × En) :=
  if ownOk e vs then
    match lcL (turnF ct vs ft fe) xs [] (wipeE (PV.lend e x) vs) with
    | .ok (ds, e') => .ok (.ow (.list ds), unlend e (backE e e' vs) x)
    | _ => .no
  else .no
/-- what a turn of a comprehension leaves, over the wiped slots -/
theorem turn_tr {vs : List Nat} {ct : CT} {d : D} {e1 e4 : En} {σ2 : St} {S4 : Addr → Prop} {H4 : Hp} (hsl : ∀ j ∈ slotsT ct, j ∈ vs) (hw : ∀ j ∈ vs, get e j = .un) (hb : bindT ct d e = some e1)
    (hl2 : σ2.length = σ.length) (h2 : ∀ j, j ∉ slotsT ct → σ2[j]? = (wipe σ vs)[j]?) (R4 : Rel K S4 e4 σ2 H4) (t : Tr σ2 S e1 H S4 e4 H4) :
    Rel K S4 (wipeE e4 vs) (wipe σ vs) H4 ∧ Tr (wipe σ vs) S e H S4 (wipeE e4 vs) H4 := by
  obtain ⟨g1, g2, g3⟩ := (bindT_get ct).1 d e e1 hb
  have out : ∀ j, j ∉ vs → σ2[j]? = (wipe σ vs)[j]? := fun j hj => h2 j fun z => hj (hsl j z)
  have ow : ∀ b, OwA e1 σ2 b → OwA e (wipe σ vs) b := fun b ⟨i, d, q1, q2⟩ => by
    have hi : i ∉ slotsT ct := fun z => by
      obtain ⟨x, q⟩ := g2 i z
      rw [q] at q1; cases q1
    rw [g1 i hi] at q1
    have hv : i ∉ vs := fun z => by rw [hw i z] at q1; cases q1
    exact ⟨i, d, q1, by unfold At; rw [← out i hv]; exact q2⟩
  have e1e : ∀ i, i ∉ vs → get e1 i = get e i := fun i hi => g1 i fun z => hi (hsl i z)
  refine ⟨R4.fewer (wipeE_len _ _) (by rw [wipe_length]; exact hl2.symm) fun i => ?_, ⟨fun b o h n => t.fr b o h fun z => n (ow b z), t.dom, t.gr, fun b h n => t.hid b h fun z => n (ow b z), fun i d q => ?_, fun i => ?_, fun i d => ?_, ?_⟩⟩
  · rw [get_wipeE]
    by_cases hi : i ∈ vs
    · rw [if_pos hi]; exact .inl rfl
    · rw [if_neg hi]; exact .inr ⟨rfl, (out i hi).symm⟩
  · rw [get_wipeE] at q
    split at q
    · cases q
    · rename_i hi
      obtain ⟨d0, q⟩ := t.own i d q
      exact ⟨d0, by rw [← e1e i hi]; exact q⟩
  · rw [get_wipeE]
    by_cases hi : i ∈ vs
    · rw [if_pos hi, hw i hi]
    · rw [if_neg hi, ← e1e i hi]; exact t.io i
  · rw [get_wipeE]
    by_cases hi : i ∈ vs
    · rw [if_pos hi, hw i hi]
    · rw [if_neg hi, ← e1e i hi]; exact t.le i d
  · rw [wipeE_len, t.len, g3]
theorem unlend_len (e0 e : En) (x : Op) : (unlend e0 e x).length = e.length := by
  cases x with
  | val d => rfl
  | slot i =>
    rcases unlend_cases e0 e i with ⟨_, d, _, _, q⟩ | ⟨_, q⟩
    · rw [q, put_len]
    · rw [q]
theorem Rel.unlend (R0 : Rel K S e σ H) (e0 : En) (x : Op) : Rel K S (PV.unlend e0 e x) σ H := by
  cases x with
  | val d => exact R0
  | slot i =>
    rcases unlend_cases e0 e i with ⟨_, d, _, h, q⟩ | ⟨_, q⟩
    · rw [q]
      obtain ⟨a, h1, h2, h3⟩ := R0.held i d (by rw [h]; rfl)
      exact R0.putc (c := .ow d) (v := .ref a) (get_lt (by rw [h]; simp)) (fun _ _ => rfl) rfl h1 ⟨a, d, rfl, rfl, h2, h3, fun j hj z => hj (R0.inj j i a z ⟨⟨d, by rw [h]; rfl⟩, h1⟩)⟩
    · rw [q]; exact R0
/-- a comprehension's end -/
theorem lc_end {vs : List Nat} {x : Op} {SD : Addr → Prop} {e1 e2 e' : En} {HD : Hp} {Da : Addr} {o : HO} (R1 : Rel K S1 e1 σ H1) (hov : ∀ j ∈ vs, get e1 j = .un ∨ ∃ d, get e1 j = .sh d) (sm : Same (rst H1 S1) (rst H' S'))
    (g2 : ∀ i, get e2 i = if i ∈ vs then .un else get (PV.lend e1 x) i) (l2 : e2.length = e1.length) (R' : Rel K S' e' (wipe σ vs) H') (T : Tr (wipe σ vs) SD e2 HD S' e' (upd H' Da o))
    (hfr : ∀ b o, H1 b = some o → HD b = some o ∧ b ≠ Da) (hS : ∀ b, S1 b → SD b) (hS2 : ∀ b o, H1 b = some o → ¬ S1 b → ¬ SD b) (owA2 : ∀ b, OwA e2 (wipe σ vs) b → OwA e1 σ b) (dDa : H' Da ≠ none) :
    Rel K S' (unlend e1 (backE e1 e' vs) x) σ H' ∧ Tr σ S1 e1 H1 S' (unlend e1 (backE e1 e' vs) x) H' ∧ ∀ i b, HeldA (unlend e1 (backE e1 e' vs) x) σ i b → HeldA e' (wipe σ vs) i b := by
  have le : e1.length = e'.length := by rw [T.len, l2]
  have gb : ∀ i, get (backE e1 e' vs) i = if i ∈ vs then get e1 i else get e' i := fun i => get_backE e1 e' le i vs
  have held : ∀ i b, HeldA (backE e1 e' vs) σ i b → HeldA e' (wipe σ vs) i b := fun i b ⟨⟨d, h1⟩, h2⟩ => by
    rw [gb] at h1
    by_cases h : i ∈ vs
    · rw [if_pos h] at h1
      rcases hov i h with q | ⟨_, q⟩ <;> rw [q] at h1 <;> cases h1
    · rw [if_neg h] at h1
      exact ⟨⟨d, h1⟩, by unfold At; rw [wipe_get σ i vs h]; exact h2⟩
  have RB : Rel K S' (backE e1 e' vs) σ H' := by
    refine ⟨by rw [backE_len, ← le]; exact R1.len, fun i d q => ?_, fun i d q => ?_, fun i d q => ?_, fun i j b hi hj => R'.inj i j b (held i b hi) (held j b hj), R'.trk⟩
    · rw [gb] at q
      by_cases h : i ∈ vs
      · rw [if_pos h] at q
        obtain ⟨v, h1, h2⟩ := R1.sh i d q
        exact ⟨v, h1, h2.mono sm⟩
      · rw [if_neg h] at q
        obtain ⟨v, h1, h2⟩ := R'.sh i d q
        exact ⟨v, by unfold At at h1 ⊢; rw [wipe_get σ i vs h] at h1; exact h1, h2⟩
    · rw [gb] at q
      by_cases h : i ∈ vs
      · rw [if_pos h] at q
        rcases hov i h with z | ⟨_, z⟩ <;> rw [z] at q <;> cases q
      · rw [if_neg h] at q
        obtain ⟨v, h1, h2⟩ := R'.held i d q
        exact ⟨v, by unfold At at h1 ⊢; rw [wipe_get σ i vs h] at h1; exact h1, h2⟩
    · rw [gb] at q
      by_cases h : i ∈ vs
      · rw [if_pos h] at q
        rcases hov i h with z | ⟨_, z⟩ <;> rw [z] at q <;> cases q
      · rw [if_neg h] at q
        obtain ⟨v, h1, h2⟩ := R'.fz i d q
        exact ⟨v, by unfold At at h1 ⊢; rw [wipe_get σ i vs h] at h1; exact h1, h2⟩
  have gf : ∀ i, get (unlend e1 (backE e1 e' vs) x) i = get (backE e1 e' vs) i ∨ (x = .slot i ∧ ∃ d0 d, get e1 i = .ow d0 ∧ get (backE e1 e' vs) i = .le d ∧ get (unlend e1 (backE e1 e' vs) x) i = .ow d) := fun i => by
    cases x with
    | val d => exact .inl rfl
    | slot j =>
      rcases unlend_cases e1 (backE e1 e' vs) j with ⟨d0, d, h0, h, q⟩ | ⟨_, q⟩
      · rw [q]
        by_cases z : j = i
        · subst z
          exact .inr ⟨rfl, d0, d, h0, h, get_put_self (get_lt (by rw [h]; simp))⟩
        · rw [get_put_ne z]; exact .inl rfl
      · rw [q]; exact .inl rfl
  -- a slot outside of the wiped ones, through the loop
  have ow2 : ∀ i d, i ∉ vs → get e' i = .ow d → ∃ d0, get e1 i = .ow d0 := fun i d h q => by
    obtain ⟨d1, h1⟩ := T.own i d q
    rw [g2, if_neg h] at h1
    rcases lend_get e1 x i with z | ⟨_, d', z1, z2⟩
    · exact ⟨d1, z ▸ h1⟩
    · rw [z2] at h1; cases h1
  have io2 : ∀ i, i ∉ vs → ((∃ d, get e1 i = .io d) ↔ ∃ d, get e' i = .io d) := fun i h => by
    rw [← T.io i, g2, if_neg h]
    rcases lend_get e1 x i with z | ⟨_, d', z1, z2⟩
    · rw [z]
    · rw [z1, z2]; simp
  have nov : ∀ i, i ∈ vs → (∀ d, get e1 i ≠ .ow d) ∧ (∀ d, get e1 i ≠ .io d) ∧ ∀ d, get e1 i ≠ .le d := fun i h => by
    rcases hov i h with z | ⟨_, z⟩ <;> rw [z] <;> simp
  refine ⟨RB.unlend e1 x, ⟨fun b o hb n => ?_, fun b hb => ?_, fun b o hb n => ?_, fun b hb n => T.hid b (hS b hb) fun z => n (owA2 b z), fun i d q => ?_, fun i => ?_, fun i d => ?_, ?_⟩, fun i b hh => ?_⟩
  · obtain ⟨q1, q2⟩ := hfr b o hb
    have := T.fr b o q1 fun z => n (owA2 b z)
    rw [upd_ne q2] at this
    exact this
  · obtain ⟨o, ho⟩ := Option.ne_none_iff_exists'.mp hb
    obtain ⟨q1, q2⟩ := hfr b o ho
    have := T.dom b (by rw [q1]; simp)
    rw [upd_ne q2] at this
    exact this
  · exact T.gr b o (hfr b o hb).1 (hS2 b o hb n)
  · rcases gf i with z | ⟨_, d0, d', z1, _⟩
    · rw [z, gb] at q
      by_cases h : i ∈ vs
      · rw [if_pos h] at q; exact ⟨d, q⟩
      · rw [if_neg h] at q; exact ow2 i d h q
    · exact ⟨d0, z1⟩
  · rcases gf i with z | ⟨_, d0, d', z1, z2, z3⟩
    · rw [z, gb]
      by_cases h : i ∈ vs
      · rw [if_pos h]
      · rw [if_neg h]; exact io2 i h
    · rw [z1, z3]; simp
  · rcases gf i with z | ⟨_, d0, d', z1, z2, z3⟩
    · rw [z, gb]
      by_cases h : i ∈ vs
      · rw [if_pos h]
      · rw [if_neg h]
        rw [← T.le i d, g2, if_neg h]
        rcases lend_get e1 x i with y | ⟨hx, d', y1, y2⟩
        · rw [y]
        · -- a lent slot: back at the end
          exfalso
          have h2 : get e' i = .le d' := by rw [← T.le i d', g2, if_neg h]; exact y2
          have h3 : get (backE e1 e' vs) i = .le d' := by rw [gb, if_neg h]; exact h2
          rw [hx] at z
          rcases unlend_cases e1 (backE e1 e' vs) i with ⟨_, d2, _, _, q⟩ | ⟨q | q, _⟩
          · rw [q, get_put_self (get_lt (by rw [h3]; simp)), h3] at z; cases z
          · exact q d' y1
          · exact q d' h3
    · rw [z1, z3]; simp
  · rw [unlend_len, backE_len, ← le]
  · refine held i b ⟨?_, hh.2⟩
    obtain ⟨d, hd⟩ := hh.1
    rcases gf i with z | ⟨_, d0, d', z1, z2, z3⟩
    · exact ⟨d, z ▸ hd⟩
    · exact ⟨d', by rw [z2]; rfl⟩
theorem s_lc {scope : Scope} {own : List (Str × Nat)} {elt iter : Expr} {ifs : List Expr} {ct : CT} {fi : En → R ((List D × Op) × En)} {ft : En → R (Bool × En)} {fe : En → R (D × En)}
    (hc : X.calm = true) (hN : X.N.Nodup) (hi : PI X tg iter (tItL W X.K fi)) (ok : BlkOk X.N X.env.scope scope own)
    (hg : ∀ (s : Shared) (H : Hp) (C : Addr) (cl : List (Str × Addr)) (fp : List Addr), PG (X.blk s H scope (compEnvC scope cl C X.env) fp) tg (tB1 X.K ct))
    (ht : ∀ (s : Shared) (H : Hp) (C : Addr) (cl : List (Str × Addr)) (fp : List Addr), PTs (X.blk s H scope (compEnvC scope cl C X.env) fp) ifs (tTst W0 X.K ft))
    (he : ∀ (s : Shared) (H : Hp) (C : Addr) (cl : List (Str × Addr)) (fp : List Addr), PE (X.blk s H scope (compEnvC scope cl C X.env) fp) elt (tVal W0 X.K fe))
    (hsl : ∀ j ∈ slotsT ct, j ∈ own.map (·.2)) (hs : ∀ x, foldedSetIterable iter X.env x = pure x) :
    ∀ σ H Q, tEv W X.K (fun e => (fi e).bind fun ((xs, x), e) => lcF ct (own.map (·.2)) ft fe xs x e) σ H Q → tLc (tItL W X.K fi) (tB1 X.K ct) (tTst W0 X.K ft) (tVal W0 X.K fe) (own.map (·.2)) σ H Q := by
  intro σ H Q ⟨S, e, R0, P⟩
  generalize own.map (·.2) = vs at *
  refine ⟨S, e, R0, (Post.bind P).mono fun (xs, x) S1 e1 H1 _ R1 t1 P1 J IT hlen D hD => ?_⟩
  dsimp only at P1
  have hlen : xs.length ≤ sizeLine := hlen
  unfold lcF at P1
  by_cases hown : ownOk e1 vs = true
  case neg => rw [if_neg hown] at P1; exact P1.elim
  rw [if_pos hown] at P1
  have hov : ∀ j ∈ vs, get e1 j = .un ∨ ∃ d, get e1 j = .sh d := fun j hj => by
    have := List.all_eq_true.mp hown j hj
    cases q : get e1 j with
    | un => exact .inl rfl
    | sh d => exact .inr ⟨d, rfl⟩
    | _ => rw [q] at this; cases this
  cases hres : lcL (turnF ct vs ft fe) xs [] (wipeE (PV.lend e1 x) vs) with
  | rz => rw [hres] at P1; exact P1.elim
  | no => rw [hres] at P1; exact P1.elim
  | ok res =>
    obtain ⟨ds, ef⟩ := res
    rw [hres] at P1
    dsimp only at P1
    generalize he2 : wipeE (PV.lend e1 x) vs = e2 at hres
    generalize hσw : wipe σ vs = σw
    obtain ⟨RL, tL, smL, nhL⟩ := R1.layH (o := .lst []) hD
    have l2 : e2.length = e1.length := by rw [← he2, wipeE_len, lend_len]
    have R2 : Rel X.K (fun b => S1 b ∨ b = D) e2 σw (upd H1 D (.lst [])) := by
      refine (RL.lend x).fewer (by rw [← he2, wipeE_len]) (by rw [← hσw, wipe_length]) fun i => ?_
      rw [← he2, get_wipeE]
      by_cases h : i ∈ vs
      · rw [if_pos h]; exact .inl rfl
      · rw [if_neg h, ← hσw]; exact .inr ⟨rfl, wipe_get σ i vs h⟩
    have g2 : ∀ i, get e2 i = if i ∈ vs then .un else get (PV.lend e1 x) i := fun i => by rw [← he2, get_wipeE]
    have held2 : ∀ i b, HeldA e2 σw i b → HeldA e1 σ i b := fun i b ⟨⟨d, h1⟩, h2⟩ => by
      rw [g2] at h1
      by_cases h : i ∈ vs
      · rw [if_pos h] at h1; cases h1
      · rw [if_neg h] at h1
        have h2 : At σ i (.ref b) := by unfold At at h2 ⊢; rw [← hσw, wipe_get σ i vs h] at h2; exact h2
        rcases lend_get e1 x i with q | ⟨_, d', q1, q2⟩
        · rw [q] at h1; exact ⟨⟨d, h1⟩, h2⟩
        · exact ⟨⟨d', by rw [q1]; rfl⟩, h2⟩
    have nD : ∀ i, ¬ HeldA e2 σw i D := fun i z => nhL i (held2 i D z)
    have owA2 : ∀ b, OwA e2 σw b → OwA e1 σ b := fun b ⟨i, d, h1, h2⟩ => by
      rw [g2] at h1
      by_cases h : i ∈ vs
      · rw [if_pos h] at h1; cases h1
      · rw [if_neg h] at h1
        have h2 : At σ i (.ref b) := by unfold At at h2 ⊢; rw [← hσw, wipe_get σ i vs h] at h2; exact h2
        rcases lend_get e1 x i with q | ⟨_, d', q1, q2⟩
        · rw [q] at h1; exact ⟨i, d, h1, h2⟩
        · rw [q2] at h1; cases h1
    -- the word of the loop
    let Wd : Nat → Hp → Prop := fun i H' => ∃ S' e' acc accV, Rel X.K S' e' σw H' ∧ Tr σw (fun b => S1 b ∨ b = D) e2 (upd H1 D (.lst [])) S' e' (upd H' D (.lst [])) ∧ (∀ j ∈ vs, get e' j = .un) ∧
      H' D = some (.lst accV) ∧ S' D ∧ RpAll X.K (rst H' S') accV acc ∧ acc.length ≤ i ∧ lcL (turnF ct vs ft fe) (xs.drop i) acc e' = .ok (ds, ef)
    have lives : ∀ S' e' H', Rel X.K S' e' σw H' → Tr σw (fun b => S1 b ∨ b = D) e2 (upd H1 D (.lst [])) S' e' (upd H' D (.lst [])) → S' D → Live σ e1 x S1 H1 S' H' := fun S' e' H' R' T hSD => by
      have mk : ∀ b o, b ≠ D → upd H' D (.lst []) b = some o → H' b = some o := fun b o hb q => by rw [upd_ne hb] at q; exact q
      refine ⟨fun b o q => ?_, fun i a hx hk ha => ?_⟩
      · obtain ⟨q1, q2⟩ := rst_in.mp (smL _ _ q)
        obtain ⟨q3, q4⟩ := rst_in.mp ((T.same R2) b o (rst_in.mpr ⟨q1, q2⟩))
        exact rst_in.mpr ⟨mk b o (fun z => q2 (.inr z)) q3, q4⟩
      · have hiv : i ∉ vs := fun z => by
          rcases hov i z with q | ⟨d, q⟩ <;> rcases hk with ⟨d', q'⟩ | ⟨d', q'⟩ <;> rw [q] at q' <;> cases q'
        have hle : ∃ d, get e2 i = .le d := by
          rw [g2, if_neg hiv]
          rcases hk with ⟨d, q⟩ | ⟨d, q⟩
          · rcases lend_get e1 x i with q' | ⟨_, d', q1, q2⟩
            · exfalso
              rcases lend_cases e1 i with ⟨d2, z1, z2⟩ | ⟨z1, _⟩
              · rw [hx, z2, get_put_self (get_lt (by rw [z1]; simp)), q] at q'; cases q'
              · exact z1 d q
            · exact ⟨d', q2⟩
          · rcases lend_get e1 x i with q' | ⟨_, d', q1, q2⟩
            · exact ⟨d, q'.trans q⟩
            · exact ⟨d', q2⟩
        obtain ⟨d, hle⟩ := hle
        have ha' : At σw i (.ref a) := by unfold At; rw [← hσw, wipe_get σ i vs hiv]; exact ha
        have hh : HeldA e2 σw i a := ⟨⟨d, by rw [hle]; rfl⟩, ha'⟩
        have haD : a ≠ D := fun z => nD i (z ▸ hh)
        have no := R2.le_not_ow hle ha'
        obtain ⟨o, ho⟩ := Option.ne_none_iff_exists'.mp (R1.tracked (held2 i a hh))
        rw [ho]
        exact mk a o haD (T.fr a o (by rw [upd_ne haD]; exact ho) no)
    refine ⟨fun i m H' => m = xs.length - i ∧ i ≤ xs.length ∧ Wd i H', ⟨xs.length, by simp, Nat.zero_le _, ?_⟩, ?_⟩
    · refine ⟨_, e2, [], [], R2, ?_, fun j hj => by rw [g2, if_pos hj], upd_same, .inr rfl, .nil, Nat.le_refl _, by rw [List.drop_zero]; exact hres⟩
      rw [upd_upd]
      exact Tr.refl
    · rintro i m H' ⟨rfl, hile, S', e', acc, accV, R', T, hw', hHD, hSD, hacc, hal, hrun⟩
      have LV := lives S' e' H' R' T hSD
      have nD' : ∀ j, ¬ HeldA e' σw j D := fun j z => nD j (T.held z)
      by_cases hlt : i < xs.length
      · refine .inr ⟨IT.go i S' H' hlt LV, Wd (i + 1), fun H'' w => ⟨xs.length - (i + 1), by omega, rfl, hlt, w⟩, fun v H'' y => ?_⟩
        have hdi : xs[i]? = some xs[i] := List.getElem?_eq_getElem hlt
        -- the item as a datum
        have item : ∃ R'' : Rel X.K S' e' σw H'', Tr σw S' e' H' S' e' H'' ∧ Rp X.K (rst H'' S') v xs[i] ∧ H'' D = some (.lst accV) ∧ RpAll X.K (rst H'' S') accV acc := by
          rcases IT.yld i _ S' H' v H'' hdi LV y with ⟨rfl, r⟩ | ⟨Ta, ws, es, e1', rfl, hT, rfl, r⟩
          · exact ⟨R', Tr.refl, r, hHD, hacc⟩
          · obtain ⟨a1, a2, a3, a4⟩ := R'.lay (o := .tup ws) hT
            refine ⟨a1, a2, ?_, ?_, hacc.mono a3⟩
            · rw [e1']
              exact .tup (.inl (.inl (rst_in.mpr ⟨upd_same, a4⟩))) (r.mono a3)
            · rw [upd_ne (ne_of_none hHD hT)]; exact hHD
        obtain ⟨R'', T'', rv, hHD'', hacc''⟩ := item
        have hdrop : xs.drop i = xs[i] :: xs.drop (i + 1) := by rw [List.drop_eq_getElem_cons hlt]
        rw [hdrop] at hrun
        have hrun : (turnF ct vs ft fe xs[i] e').bind (fun (o, e) => match o with
          | some d => lcL (turnF ct vs ft fe) (xs.drop (i + 1)) (acc ++ [d]) e
          | none => lcL (turnF ct vs ft fe) (xs.drop (i + 1)) acc e) = .ok (ds, ef) := hrun
        cases hbt : bindT ct xs[i] e' with
        | none => rw [turnF_none hbt] at hrun; cases hrun
        | some e3 =>
          rw [turnF_some hbt] at hrun
          refine ⟨S', e', xs[i], e3, R'', rv, hbt, fun σ2 R3 k2 l2 => ?_⟩
          have kk : ∀ j, j ∉ slotsT ct → σ2[j]? = (wipe σ vs)[j]? := fun j hj => by rw [hσw]; exact k2 j hj
          have ll : σ2.length = σ.length := by rw [l2, ← hσw, wipe_length]
          refine ⟨?_, S', e3, R3, ?_⟩
          · rw [← hσw]
            exact wipe_eq ll fun j hj => by
              rw [kk j fun z => hj (hsl j z), wipe_get σ j vs hj]
          · cases hft : ft e3 with
            | rz => rw [hft] at hrun; cases hrun
            | no => rw [hft] at hrun; cases hrun
            | ok r4 =>
              obtain ⟨b, e4⟩ := r4
              intro S4 H4 R4 t4
              -- behind the test
              have fin : ∀ (S5 : Addr → Prop) (e5 : En) (H5 : Hp) (more : List V) (ms : List PV.D), Rel X.K S5 e5 σ2 H5 → Tr σ2 S' e3 H'' S5 e5 H5 → H5 D = some (.lst accV) → RpAll X.K (rst H5 S5) (accV ++ more) (acc ++ ms) → (acc ++ ms).length ≤ i + 1 →
                  lcL (turnF ct vs ft fe) (xs.drop (i + 1)) (acc ++ ms) (wipeE e5 vs) = .ok (ds, ef) → Wd (i + 1) (upd H5 D (.lst (accV ++ more))) := fun S5 e5 H5 more ms R5 t5 hD5 ha hl5 hr5 => by
                obtain ⟨r1, r2⟩ := turn_tr (σ := σ) hsl hw' hbt ll kk R5 t5
                rw [hσw] at r1 r2
                have tt := T''.trans r2
                have nS : ¬ OwA e' σw D := fun z => by
                  obtain ⟨j, hj⟩ := z.held
                  exact nD' j hj
                have hS5 : S5 D := tt.hid D hSD nS
                have nD5 : ∀ j, ¬ HeldA (wipeE e5 vs) σw j D := fun j z => nD' j (tt.held z)
                refine ⟨S5, wipeE e5 vs, acc ++ ms, accV ++ more, r1.setD _ hS5 nD5, ?_, fun j hj => by rw [get_wipeE, if_pos hj], upd_same, hS5, ?_, hl5, hr5⟩
                · rw [upd_upd]
                  exact T.trans (tt.mask (.lst []) hSD)
                · refine ha.mono fun b o q => ?_
                  obtain ⟨q1, q2⟩ := rst_in.mp q
                  have hne : b ≠ D := fun z => q2 (by rw [z]; exact hS5)
                  exact rst_in.mpr ⟨by rw [upd_ne hne]; exact q1, q2⟩
              have keepD : ∀ (S5 : Addr → Prop) (e5 : En) (H5 : Hp), Tr σ2 S' e3 H'' S5 e5 H5 → H5 D = some (.lst accV) := fun S5 e5 H5 t5 => by
                refine t5.fr D _ hHD'' fun z => ?_
                obtain ⟨g1, g2', _⟩ := (bindT_get ct).1 _ _ _ hbt
                obtain ⟨j, d, q1, q2⟩ := z
                have hj : j ∉ slotsT ct := fun z => by
                  obtain ⟨x, q⟩ := g2' j z
                  rw [q] at q1; cases q1
                rw [g1 j hj] at q1
                refine nD' j ⟨⟨d, mut_hel q1⟩, ?_⟩
                unfold At
                rw [← hσw, ← kk j hj]
                exact q2
              cases b with
              | false =>
                refine iteF ?_
                have hr5 : lcL (turnF ct vs ft fe) (xs.drop (i + 1)) acc (wipeE e4 vs) = .ok (ds, ef) := by
                  rw [hft] at hrun
                  exact hrun
                have := fin S4 e4 H4 [] [] R4 t4 (keepD S4 e4 H4 t4) (by rw [List.append_nil, List.append_nil]; exact hacc''.mono (t4.same R3)) (by simp; omega) (by rw [List.append_nil]; exact hr5)
                have hD4 := keepD S4 e4 H4 t4
                rw [List.append_nil] at this
                have e0 : upd H4 D (.lst accV) = H4 := by
                  funext b
                  by_cases z : b = D
                  · subst z; rw [upd_same, hD4]
                  · rw [upd_ne z]
                rw [e0] at this
                exact this
              | true =>
                refine iteT ⟨S4, e4, R4, ?_⟩
                cases hfe : fe e4 with
                | rz =>
                  rw [hft] at hrun
                  have hrun : ((fe e4).bind fun (v, e) => (R.ok (some v, wipeE e vs) : R (Option PV.D × En))).bind _ = .ok (ds, ef) := hrun
                  rw [hfe] at hrun
                  cases hrun
                | no =>
                  rw [hft] at hrun
                  have hrun : ((fe e4).bind fun (v, e) => (R.ok (some v, wipeE e vs) : R (Option PV.D × En))).bind _ = .ok (ds, ef) := hrun
                  rw [hfe] at hrun
                  cases hrun
                | ok r5 =>
                  obtain ⟨vd, e5⟩ := r5
                  intro S5 H5 R5 t5 w hw5
                  have hr5 : lcL (turnF ct vs ft fe) (xs.drop (i + 1)) (acc ++ [vd]) (wipeE e5 vs) = .ok (ds, ef) := by
                    rw [hft] at hrun
                    have hrun : ((fe e4).bind fun (v, e) => (R.ok (some v, wipeE e vs) : R (Option PV.D × En))).bind _ = .ok (ds, ef) := hrun
                    rw [hfe] at hrun
                    exact hrun
                  have t45 := t4.trans t5
                  have hD5 := keepD S5 e5 H5 t45
                  refine ⟨accV, hD5, ?_, ?_⟩
                  · rw [hacc.length]; omega
                  · exact fin S5 e5 H5 [w] [vd] R5 t45 hD5 ((hacc''.mono (t45.same R3)).append (.one hw5)) (by simp; omega) hr5
      · have ei : i = xs.length := by omega
        subst ei
        refine .inl ⟨IT.stop S' H' LV, ?_⟩
        rw [List.drop_length] at hrun
        have hrun : (R.ok (acc, e') : R (List PV.D × En)) = .ok (ds, ef) := hrun
        cases hrun
        have hne : ∀ b o, H1 b = some o → b ≠ D := fun b o q => ne_of_none q hD
        rw [← hσw] at R' T
        obtain ⟨a1, a2, a3⟩ := lc_end (x := x) R1 hov LV.same g2 l2 R' T (fun b o q => ⟨by rw [upd_ne (hne b o q)]; exact q, hne b o q⟩) (fun b q => .inl q) (fun b o q n z => z.elim n (hne b o q)) (by rw [hσw]; exact owA2) (by rw [hHD]; simp)
        refine P1 S' H' a1 a2 (t1.trans a2) _ ⟨D, rfl, ?_, hSD, fun j z => ?_, accV, _, rfl, hHD, hacc⟩
        · cases q : H D with
          | none => rfl
          | some o => exact absurd hD (t1.dom D (by rw [q]; simp))
        · have := a3 j D z
          rw [hσw] at this
          exact nD' j this
end
end PV
end
section
namespace PV
open PySem L2 Classical

/-! ### the program's text against the evaluator's terms -/
structure SC where
  N : List Str
  sc : Scope
  fn : Str → Bool
def visB (sc : Scope) (x : Str) : Bool := match sc.names.lookup x with
  | some .local => true
  | some .cell => true
  | some .free => true
  | _ => false
def locB (sc : Scope) (x : Str) : Bool := match sc.names.lookup x with
  | some .local => true
  | some .cell => true
  | _ => false
def isLoc (sc : Scope) (x : Str) : Bool := match sc.names.lookup x with
  | some .local => true
  | _ => false
def glbB (sc : Scope) (x : Str) : Bool := match sc.names.lookup x with
  | some .globalImplicit => true
  | _ => false
def nmOk (x : Str) : Bool := !(x == ("__debug__" : Str)) && !(x == ("__classdict__" : Str)) && decide (x ≠ ("__name__" : Str))
def litB : D → Const → Bool
  | .none, .none => true
  | .bool a, .bool b => a == b
  | .int a, .int b => a == b
  | .str a, .str b => decide (a = b)
  | _, _ => false
def notStar : Expr → Bool
  | .Starred _ _ => false
  | _ => true
def notSet : Expr → Bool
  | .Set _ _ _ => false
  | _ => true
def notSlice : Expr → Bool
  | .Slice _ _ _ _ => false
  | _ => true
/-- an expression whose test is asked of its value -/
def plainT : Expr → Bool
  | .UnaryOp _ _ _ => false
  | .BoolOp _ _ _ => false
  | .IfExp _ _ _ _ => false
  | .Compare _ _ _ _ => false
  | _ => true
def blkS (S : SC) (scope : Scope) : SC := ⟨S.N, relS scope S.sc, fun x => scope.names.lookup x == some .cell⟩
mutual
def mT (S : SC) : CT → Expr → Bool
  | .nm i, e => match e with
    | .Name x _ => decide (S.N[i]? = some x) && locB S.sc x && (S.fn x || isLoc S.sc x)
    | _ => false
  | .tup t, e => match e with
    | .Tuple es _ _ => mTs S t es
    | _ => false
  | _, _ => false
def mTs (S : SC) : CT → List Expr → Bool
  | .nil, [] => true
  | .cons h t, e :: es => mT S h e && notStar e && mTs S t es
  | _, _ => false
end
def optM (c : CE) (e : Option Expr) (m : Expr → Bool) : Bool := match c, e with
  | .noe, none => true
  | .noe, some _ => false
  | _, some x => m x
  | _, none => false
def condM (c : CE) (es : List Expr) (m : Expr → Bool) : Bool := match c, es with
  | .noe, [] => true
  | .noe, _ :: _ => false
  | _, [x] => m x
  | _, _ => false
def isMinus1 : Expr → Bool
  | .UnaryOp .USub (.Constant (.int 1) _ _) _ => true
  | _ => false
def notNon : Ty → Bool
  | .non => false
  | _ => true
def tysM (sc : Scope) : List Ty → List Expr → Bool
  | [], [] => true
  | t :: ts, .Name x _ :: es => decide (x = (tyNm t : Str)) && glbB sc x && notNon t && tysM sc ts es
  | _, _ => false
def isiM (sc : Scope) : List Ty → Expr → Bool
  | [t], .Name x _ => decide (x = (tyNm t : Str)) && glbB sc x && notNon t
  | _, _ => false
def noCall : Expr → Bool
  | .Call _ [] _ _ => false
  | _ => true
def isNm : Expr → Bool
  | .Name _ _ => true
  | _ => false
mutual
def mE (S : SC) : CE → Expr → Bool
  | .var i, e => match e with
    | .Name x _ => decide (S.N[i]? = some x) && visB S.sc x && nmOk x
    | _ => false
  | .lit d, e => match e with
    | .Constant c _ _ => litB d c
    | .Dict [] [] _ => match d with
      | .dict [] => true
      | _ => false
    | _ => false
  | .glb nm _, e => match e with
    | .Name x _ => decide (x = nm) && glbB S.sc x && nmOk x
    | _ => false
  | .bin op a b, e => match e with
    | .BinOp x o y _ => decide (o = boO op) && mE S a x && mE S b y
    | _ => false
  | .neg a, e => match e with
    | .UnaryOp o x _ => decide (o = .USub) && mE S a x
    | _ => false
  | .nt a, e => match e with
    | .UnaryOp o x _ => decide (o = .Not) && mE S a x
    | _ => false
  | .cmp op a b, e => match e with
    | .Compare x [o] [y] _ => decide (o = coO op) && mE S a x && mE S b y && notSet y
    | _ => false
  | .rgl t a, e => match e with
    | .Call (.Name x _) [.Call (.Name y _) [z] [] _] [] _ => decide (x = (if t then "tuple" else "list" : Str)) && glbB S.sc x && decide (y = ("range" : Str)) && glbB S.sc y && mE S a z && notStar z
    | _ => false
  | .chn o1 o2 a b c, e => match e with
    | .Compare x [p1, p2] [y, z] _ => decide (p1 = coO o1) && decide (p2 = coO o2) && mE S a x && mE S b y && mE S c z && notSet z
    | _ => false
  | .bop isAnd es, e => match e with
    | .BoolOp o xs _ => decide (o = if isAnd then .And else .Or) && mEs S es xs && !xs.isEmpty
    | _ => false
  | .ife c a b, e => match e with
    | .IfExp t x y _ => mE S c t && mE S a x && mE S b y
    | _ => false
  | .tup es, e => match e with
    | .Tuple xs _ _ => mEs S es xs
    | _ => false
  | .lst es, e => match e with
    | .List xs _ => mEs S es xs
    | _ => false
  | .idx a i, e => match e with
    | .Subscript x y _ => mE S a x && mE S i y && notSlice y
    | _ => false
  | .slc a lo hi, e => match e with
    | .Subscript x (.Slice l h none _) _ => mE S a x && optM lo l (mE S lo) && optM hi h (mE S hi)
    | _ => false
  | .noe, _ => false
  | .rev a, e => match e with
    | .Subscript x (.Slice none none (some m) _) _ => mE S a x && isMinus1 m
    | _ => false
  | .call nm _ es, e => match e with
    | .Call (.Name x _) args [] _ => decide (x = nm) && glbB S.sc x && nmOk x && mEs S es args
    | _ => false
  | .bi op es, e => match e with
    | .Call (.Name x _) args [] _ => decide (x = biNm op) && glbB S.sc x && mEs S es args && !args.isEmpty
    | _ => false
  | .me op a es, e => match e with
    | .Call (.Attribute o nm p1) [y] [] p2 => decide (nm = meNm op) && noCall o && mE S a o && mEs S es [y] && notStar y && (p1.endLine == p2.line)
    | _ => false
  | .isi a ts, e => match e with
    | .Call (.Name x _) [y, t] [] _ => decide (x = ("isinstance" : Str)) && glbB S.sc x && mE S a y && notStar y && isiM S.sc ts t
    | _ => false
  | .lc own tg it cond elt, e => match e with
    | .ListComp el [⟨t, i, ifs, k⟩] scope _ => decide (k = 0) && blkC S.N S.sc scope own && mT (blkS S scope) tg t && mI S it t i && condM cond ifs (mE (blkS S scope) cond) && mE (blkS S scope) elt el && ((slotsT tg).all fun j => decide (j ∈ own.map (·.2)))
    | _ => false
  | .d0 i, e => match e with
    | .Dict [some (.Constant c _ _)] [.Name x _] _ => litB (.int 0) c && (decide (S.N[i]? = some x) && visB S.sc x && nmOk x)
    | _ => false
  | .pop _ _, _ => false
def mEs (S : SC) : CEs → List Expr → Bool
  | .nil, es => match es with
    | [] => true
    | _ => false
  | .cons a as, es => match es with
    | e :: es => mE S a e && notStar e && mEs S as es
    | _ => false
def mI (S : SC) : CI → Expr → Expr → Bool
  | .seq a, _, e => mE S a e && notSet e
  | .fzd a, _, e => mE S a e && notSet e
  | .rng es, _, e => match e with
    | .Call (.Name x _) args [] _ => decide (x = ("range" : Str)) && glbB S.sc x && mEs S es args && !args.isEmpty && decide (args.length ≤ 3)
    | _ => false
  | .enu a, t, e => match t, e with
    | .Tuple _ _ _, .Call (.Name x _) [y] [] _ => decide (x = ("enumerate" : Str)) && glbB S.sc x && mE S a y && notStar y
    | _, _ => false
  | .zip es, t, e => match t, e with
    | .Tuple _ _ _, .Call (.Name x _) [y, z] [] _ => decide (x = ("zip" : Str)) && glbB S.sc x && mEs S es [y, z]
    | _, _ => false
end
/-- what is asked of the names that are called, and of constants -/
structure Gx where
  prog : Program
  w : World
  K : PySem.W.Frag
  mg : Str → Option Value
  base : Heap
def gx (X : Cx) : Gx := ⟨X.prog, X.w, X.K, X.mg, X.base⟩
def FnGood (X : Gx) (k : Nat) (nm : Str) (F : FSig) : Prop := F.kd ≤ 2 ∧ ∃ f fd ps, X.mg nm = some (.ref f) ∧ FnG X.prog X.w X.K X.mg X.base (L2.CX X.prog X.w) k f fd ps (spOf X.K F) ∧ PySem.W.keepIn X.K (.ref f) = true ∧ Binds X.K fd ps []
def GlGood (X : Gx) (nm : Str) (d : D) : Prop := ∃ u v, X.mg nm = some u ∧ RelV v u ∧ ∀ H, Rp X.K H v d
mutual
def gE (X : Gx) (k : Nat) : CE → Prop
  | .var _ => True
  | .lit _ => True
  | .glb nm d => GlGood X nm d
  | .bin _ a b => gE X k a ∧ gE X k b
  | .neg a => gE X k a
  | .nt a => gE X k a
  | .cmp _ a b => gE X k a ∧ gE X k b
  | .rgl _ a => gE X k a
  | .chn _ _ a b c => gE X k a ∧ gE X k b ∧ gE X k c
  | .bop _ es => gEs X k es
  | .ife c a b => gE X k c ∧ gE X k a ∧ gE X k b
  | .tup es => gEs X k es
  | .lst es => gEs X k es
  | .idx a i => gE X k a ∧ gE X k i
  | .slc a lo hi => gE X k a ∧ gE X k lo ∧ gE X k hi
  | .noe => True
  | .rev a => gE X k a
  | .call nm F es => FnGood X k nm F ∧ gEs X k es
  | .bi _ es => gEs X k es
  | .me _ a es => gE X k a ∧ gEs X k es
  | .isi a _ => gE X k a
  | .lc _ _ it cond elt => gI X k it ∧ gE X k cond ∧ gE X k elt
  | .pop _ es => gEs X k es
  | .d0 _ => True
def gEs (X : Gx) (k : Nat) : CEs → Prop
  | .nil => True
  | .cons a as => gE X k a ∧ gEs X k as
def gI (X : Gx) (k : Nat) : CI → Prop
  | .seq a => gE X k a
  | .fzd a => gE X k a
  | .rng es => gEs X k es
  | .enu a => gE X k a
  | .zip es => gEs X k es
end
structure XOk (X : Cx) (S : SC) (k : Nat) : Prop where
  N : X.N = S.N
  nd : S.N.Nodup
  sc : X.env.scope = S.sc
  calm : X.calm = true
  room : Room k X.A
  gd : X.A.guards = some []
  fn : ∀ x, X.fn x = S.fn x
  blt : ∀ x ∈ bltNames, X.mg x = none
section
variable {X : Cx} {S : SC} {k : Nat} {W : WX}
theorem XOk.vis (o : XOk X S k) {x : Str} (h : visB S.sc x = true) : Vis X.env.scope x := by
  unfold visB at h
  rw [o.sc]
  split at h
  · exact .inl (by assumption)
  · exact .inr (.inl (by assumption))
  · exact .inr (.inr (by assumption))
  · cases h
theorem XOk.gl (o : XOk X S k) {x : Str} (h : glbB S.sc x = true) : Gl X x := by
  unfold glbB at h
  show X.env.scope.names.lookup x = _
  rw [o.sc]
  split at h
  · assumption
  · cases h
theorem XOk.blk (o : XOk X S k) (s : Shared) (H : Hp) (scope : Scope) (C : Addr) (cl : List (Str × Addr)) (fp : List Addr) : XOk (X.blk s H scope (compEnvC scope cl C X.env) fp) (blkS S scope) k :=
  ⟨o.N, o.nd, by show relS scope X.env.scope = relS scope S.sc; rw [o.sc], o.calm, o.room, o.gd, fun _ => rfl, o.blt⟩
theorem star_cons {e : Expr} (h : notStar e = true) (es : List Expr) (env : Env) : starEach (e :: es) env = (false, eval e env) :: starEach es env := by
  cases e <;> first | rfl | cases h
theorem mEs_star {es : CEs} {xs : List Expr} (h : mEs S es xs = true) : ∀ (env : Env) (pos : Pos), (backTo pos (starEach xs env)).any (·.1) = false := by
  intro env pos
  induction xs generalizing es with
  | nil => rfl
  | cons x xs ih =>
    cases es with
    | nil => cases h
    | cons a as =>
      have h : (mE S a x && notStar x && mEs S as xs) = true := by unfold mEs at h; exact h
      simp only [Bool.and_eq_true] at h
      rw [star_cons h.1.2]
      show (false || (backTo pos (starEach xs env)).any (·.1)) = false
      rw [ih h.2]; rfl
theorem set_fold {e : Expr} (h : notSet e = true) : ∀ env x, foldedSetIterable e env x = pure x := by
  intro env x
  cases e <;> first | rfl | cases h
theorem set_mark {e : Expr} {op : CmpOp} (h : notSet e = true) : behindInMarks op e = false := by
  cases e <;> first | rfl | cases h
theorem slice_plain {e : Expr} (h : notSlice e = true) : PlainIx e := by
  intro o i
  cases e <;> first | rfl | cases h
theorem plain_test {e : Expr} (h : plainT e = true) (env : Env) : ∀ whole, isTrue e env whole = (do let v ← whole; standAt e.pos; holding [v] (truthy v)) := by
  intro whole
  cases e <;> first | rfl | cases h
theorem nmOk_debug {x : Str} (h : nmOk x = true) : (x == ("__debug__" : Str)) = false ∧ (x == ("__classdict__" : Str)) = false ∧ x ≠ ("__name__" : Str) := by
  unfold nmOk at h
  simp only [Bool.and_eq_true, Bool.not_eq_true', decide_eq_true_eq] at h
  exact ⟨h.1.1, h.1.2, h.2⟩
mutual
theorem t_ok (o : XOk X S k) : ∀ (t : CT) (e : Expr), mT S t e = true → PG X e (tB1 X.K t)
  | .nm i, e, h => by
    cases e with
    | Name x p =>
      have h : (decide (S.N[i]? = some x) && locB S.sc x && (S.fn x || isLoc S.sc x)) = true := by unfold mT at h; exact h
      simp only [Bool.and_eq_true, decide_eq_true_eq, Bool.or_eq_true] at h
      refine g_nm (pg_name (by rw [o.N]; exact o.nd) (by rw [o.N]; exact h.1.1) ?_ ?_)
      · have := h.1.2
        unfold locB at this
        rw [o.sc]
        split at this
        · exact .inl (by assumption)
        · exact .inr (by assumption)
        · cases this
      · rcases h.2 with q | q
        · exact .inl ((o.fn x).trans q)
        · refine .inr ?_
          unfold isLoc at q
          rw [o.sc]
          split at q
          · assumption
          · cases q
    | _ => unfold mT at h; cases h
  | .tup t, e, h => by
    cases e with
    | Tuple es k' p =>
      have h : mTs S t es = true := by unfold mT at h; exact h
      refine g_tup o.calm (ts_ok o t es h) (fun ds e e' hb => ?_) ?_
      · exact ts_len t es h ds e e' hb X.env
      · exact ts_star t es h X.env
    | _ => unfold mT at h; cases h
  | .nil, e, h => by unfold mT at h; cases h
  | .cons _ _, e, h => by unfold mT at h; cases h
theorem ts_ok (o : XOk X S k) : ∀ (t : CT) (es : List Expr), mTs S t es = true → PGs X es (tBs X.K t)
  | .nil, es, h => by
    cases es with
    | nil => exact g_nil
    | cons => unfold mTs at h; cases h
  | .cons a t, es, h => by
    cases es with
    | nil => unfold mTs at h; cases h
    | cons e es =>
      have h : (mT S a e && notStar e && mTs S t es) = true := by unfold mTs at h; exact h
      simp only [Bool.and_eq_true] at h
      refine g_cons (t_ok o a e h.1.1) (ts_ok o t es h.2) ?_
      have := h.1.2
      cases e <;> first | rfl | cases this
  | .nm _, es, h => by unfold mTs at h; cases h
  | .tup _, es, h => by unfold mTs at h; cases h
theorem ts_len : ∀ (t : CT) (es : List Expr), mTs S t es = true → ∀ ds e e', bindTs t ds e = some e' → ∀ env, ds.length = (assignEach es env).length
  | .nil, es, h, ds, e, e', hb, env => by
    cases es with
    | nil =>
      cases ds with
      | nil => rfl
      | cons => unfold bindTs at hb; cases hb
    | cons => unfold mTs at h; cases h
  | .cons a t, es, h, ds, e, e', hb, env => by
    cases es with
    | nil => unfold mTs at h; cases h
    | cons x es =>
      have h : (mT S a x && notStar x && mTs S t es) = true := by unfold mTs at h; exact h
      simp only [Bool.and_eq_true] at h
      cases ds with
      | nil => unfold bindTs at hb; cases hb
      | cons d ds =>
        have hb : (bindT a d e).bind (bindTs t ds) = some e' := by unfold bindTs at hb; exact hb
        rw [Option.bind_eq_some_iff] at hb
        obtain ⟨e1, _, b2⟩ := hb
        have ih := ts_len t es h.2 ds e1 e' b2 env
        have hs : assignEach (x :: es) env = (false, assign x env) :: assignEach es env := by
          have := h.1.2
          cases x <;> first | rfl | cases this
        rw [hs, List.length_cons, List.length_cons, ih]
  | .nm _, es, h, ds, e, e', hb, env => by unfold mTs at h; cases h
  | .tup _, es, h, ds, e, e', hb, env => by unfold mTs at h; cases h
theorem ts_star : ∀ (t : CT) (es : List Expr), mTs S t es = true → ∀ env, (assignEach es env).findIdx? (·.1) = none
  | .nil, es, h, env => by
    cases es with
    | nil => rfl
    | cons => unfold mTs at h; cases h
  | .cons a t, es, h, env => by
    cases es with
    | nil => unfold mTs at h; cases h
    | cons x es =>
      have h : (mT S a x && notStar x && mTs S t es) = true := by unfold mTs at h; exact h
      simp only [Bool.and_eq_true] at h
      have ih := ts_star t es h.2 env
      have hs : assignEach (x :: es) env = (false, assign x env) :: assignEach es env := by
        have := h.1.2
        cases x <;> first | rfl | cases this
      rw [hs, List.findIdx?_cons, ih]
      rfl
  | .nm _, es, h, env => by unfold mTs at h; cases h
  | .tup _, es, h, env => by unfold mTs at h; cases h
end
end
end PV
end
section
namespace PV
open PySem L2 Classical

section
theorem star1 {e : Expr} (h : notStar e = true) (env : Env) : starEach [e] env = [(false, eval e env)] := star_cons h [] env
theorem lit_rp {K : PySem.W.Frag} {X : Cx} {d : D} {c : Const} {j : Nat} {p : Pos} (h : litB d c = true) : ∃ v, PE X (.Constant c j p) (tC v) ∧ ∀ H, Rp X.K H v d := by
  cases d <;> cases c <;> first | (cases h; done) | skip
  · exact ⟨.non, pe_non, fun _ => .non⟩
  · rename_i a b
    have : a = b := by simpa [litB] using h
    subst this
    exact ⟨.bl a, pe_bl, fun _ => .bl a⟩
  · rename_i a b
    have : a = b := by simpa [litB] using h
    subst this
    exact ⟨.int a, pe_int, fun _ => .int a⟩
  · rename_i a b
    have : a = b := by simpa [litB] using h
    subst this
    exact ⟨.str a, pe_str, fun _ => .str a⟩
theorem evs_len : ∀ (cs : CEs) (es : List Expr) (S : SC), mEs S cs es = true → ∀ e ds e', evs cs e = .ok (ds, e') → ds.length = es.length
  | .nil, es, S, h, e, ds, e', hq => by
    cases es with
    | nil => unfold evs at hq; cases hq; rfl
    | cons => unfold mEs at h; cases h
  | .cons a as, es, S, h, e, ds, e', hq => by
    cases es with
    | nil => unfold mEs at h; cases h
    | cons x xs =>
      have h : (mE S a x && notStar x && mEs S as xs) = true := by unfold mEs at h; exact h
      simp only [Bool.and_eq_true] at h
      unfold evs at hq
      cases q : valR (ev a) e with
      | no => rw [q] at hq; cases hq
      | rz => rw [q] at hq; cases hq
      | ok r =>
        obtain ⟨d, e1⟩ := r
        rw [q] at hq
        have hq : ((evs as e1).bind fun (ds, e) => (R.ok (d :: ds, e) : R (List D × En))) = .ok (ds, e') := hq
        cases q2 : evs as e1 with
        | no => rw [q2] at hq; cases hq
        | rz => rw [q2] at hq; cases hq
        | ok r =>
          obtain ⟨ds', e2⟩ := r
          rw [q2] at hq
          cases hq
          rw [List.length_cons, List.length_cons, evs_len as xs S h.2 e1 ds' _ q2]
variable {X : Cx} {S : SC} {k : Nat} {W : WX}
theorem var_ok {i : Nat} {e : Expr} (o : XOk X S k) (h : mE S (.var i) e = true) : PE X e (tVar i) := by
  cases e with
  | Name x p =>
    have h : (decide (S.N[i]? = some x) && visB S.sc x && nmOk x) = true := by unfold mE at h; exact h
    simp only [Bool.and_eq_true, decide_eq_true_eq] at h
    obtain ⟨h1, h2, _⟩ := nmOk_debug h.2
    exact pe_var (by rw [o.N]; exact h.1.1) (o.vis h.1.2) h1 h2
  | _ => unfold mE at h; cases h
theorem opd_ok {a : CE} {e : Expr} (o : XOk X S k) (h : mE S a e = true) (he : PE X e (tEv W X.K (ev a))) : PE X e (tOpd W X.K (opOf a (ev a))) := by
  cases a with
  | var i => exact opd_var (var_ok o h)
  | _ => exact opd_of he (fun _ z => by cases z)
theorem opt_ok {c : CE} {e : Option Expr} (h : optM c e (mE S c) = true) (he : ∀ x, e = some x → mE S c x = true → PE X x (tVal W X.K (valR (ev c)))) : PO X e (tOptV W X.K (optOf c (ev c))) := by
  cases c with
  | noe =>
    cases e with
    | none => exact o_none
    | some x => cases h
  | _ =>
    cases e with
    | none => cases h
    | some x => exact o_some (he x rfl h)
theorem t_ife {ea eb ec : Expr} {pos : Pos} {fc f g : En → R (Cl × En)} (hc : PT X ec (tTst W X.K (testR fc))) (ha : PT X ea (tTst W X.K (testR f))) (hb : PT X eb (tTst W X.K (testR g))) :
    PT X (.IfExp ec ea eb pos) (tTst W X.K (testR fun e => (testR fc e).bind fun (r, e) => if r then f e else g e)) := by
  have hassoc : ∀ e, testR (fun e => (testR fc e).bind fun (r, e) => if r then f e else g e) e = (testR fc e).bind fun (r, e) => if r then testR f e else testR g e := fun e => by
    show R.bind (R.bind _ _) _ = _
    rw [R.bind_assoc]
    congr 1
    funext ⟨t, e⟩
    cases t <;> rfl
  refine ⟨fun pins s σ H Q I ⟨S, e, R0, P⟩ => ?_⟩
  rw [hassoc] at P
  refine PyProof.Rows.isTrue_IfExp (thn (hc.run pins s σ H _ I ⟨S, e, R0, (Post.bind P).mono fun b S1 e1 H1 _ R1 t1 P1 => (show ∃ S e, Rel X.K S e σ H1 ∧ Post W X.K σ S e H1 (if b then testR f e else testR g e) fun r S' e' H' => Q r H' from ⟨S1, e1, R1, P1.mono fun r S2 e2 H2 _ R2 t2 p => p (t1.trans t2)⟩)⟩) fun d s1 ⟨H1, I1, q1⟩ => ?_)
  obtain ⟨S1, e1, R1, P1⟩ := q1
  cases d with
  | true => exact ha.run pins s1 σ H1 Q I1 ⟨S1, e1, R1, P1⟩
  | false => exact hb.run pins s1 σ H1 Q I1 ⟨S1, e1, R1, P1⟩
theorem bi_mem (op : Bi) : biNm op ∈ bltNames := by cases op <;> decide +kernel
theorem bi_boot (op : Bi) : bootBuiltins (biNm op) = some (biFn op) := by cases op <;> decide +kernel
theorem bi_names (op : Bi) : biNm op ≠ ("__name__" : Str) ∧ (biNm op == ("__debug__" : Str)) = false := by cases op <;> decide +kernel
theorem mEs_starEach {es : CEs} : ∀ {xs : List Expr}, mEs S es xs = true → ∀ env, starEach xs env = xs.map fun e => (false, eval e env) := by
  intro xs h env
  induction xs generalizing es with
  | nil => rfl
  | cons x xs ih =>
    cases es with
    | nil => cases h
    | cons a as =>
      have h : (mE S a x && notStar x && mEs S as xs) = true := by unfold mEs at h; exact h
      simp only [Bool.and_eq_true] at h
      rw [star_cons h.1.2, ih h.2]; rfl
theorem starEach_head {es : CEs} {x : Expr} {xs : List Expr} (h : mEs S es (x :: xs) = true) (env : Env) : starEach (x :: xs) env = (false, eval x env) :: starEach xs env := by
  cases es with
  | nil => cases h
  | cons a as =>
    have h : (mE S a x && notStar x && mEs S as xs) = true := by unfold mEs at h; exact h
    simp only [Bool.and_eq_true] at h
    exact star_cons h.1.2 _ _
theorem starEach_tail {es : CEs} {x : Expr} {xs : List Expr} (h : mEs S es (x :: xs) = true) {env : Env} : (starEach (x :: xs) env).tail = starEach xs env := by
  rw [starEach_head h]; rfl
theorem mEs_star_tail {es : CEs} {x : Expr} {xs : List Expr} (h : mEs S es (x :: xs) = true) (env : Env) (pos : Pos) : (backTo pos (starEach xs env)).any (·.1) = false := by
  cases es with
  | nil => cases h
  | cons a as =>
    have h : (mE S a x && notStar x && mEs S as xs) = true := by unfold mEs at h; exact h
    simp only [Bool.and_eq_true] at h
    exact mEs_star h.2 _ _
theorem mI_set {ci : CI} {t i : Expr} (h : mI S ci t i = true) : ∀ env x, foldedSetIterable i env x = pure x := by
  intro env x
  cases ci with
  | seq a =>
    have h : (mE S a i && notSet i) = true := by unfold mI at h; exact h
    simp only [Bool.and_eq_true] at h
    exact set_fold h.2 env x
  | fzd a =>
    have h : (mE S a i && notSet i) = true := by unfold mI at h; exact h
    simp only [Bool.and_eq_true] at h
    exact set_fold h.2 env x
  | rng es => cases i <;> first | rfl | (unfold mI at h; cases h)
  | enu es => cases t <;> cases i <;> first | rfl | (unfold mI at h; cases h)
  | zip es => cases t <;> cases i <;> first | rfl | (unfold mI at h; cases h)
/-- a comprehension's condition -/
def condR (c : CE) (f : En → R (Cl × En)) (e : En) : R (Bool × En) := match c with
  | .noe => .ok (true, e)
  | _ => testR f e
theorem cond_ok {X : Cx} {c : CE} {ifs : List Expr} (h : condM c ifs (mE S c) = true) (he : ∀ x, mE S c x = true → PT X x (tTst W X.K (testR (ev c)))) : PTs X ifs (tTst W X.K (condR c (ev c))) := by
  have triv : PTs X [] (tTst W X.K fun e => .ok (true, e)) := ⟨fun pins s σ H Q I ⟨_, _, R0, P⟩ => pts_nil.run pins s σ H Q I (P _ _ R0 Tr.refl)⟩
  cases c with
  | noe =>
    cases ifs with
    | nil => exact triv
    | cons => cases h
  | _ =>
    match ifs, h with
    | [x], h => exact pts_one (he x h)
theorem ev_lc (own : List (Str × Nat)) (tg : CT) (it : CI) (cond elt : CE) : ev (.lc own tg it cond elt) = fun e => (evI it e).bind fun ((xs, x), e) => lcF tg (own.map (·.2)) (condR cond (ev cond)) (valR (ev elt)) xs x e := by
  funext e
  unfold ev lcF turnF condR
  cases cond <;> rfl
theorem lc_ok {X : Cx} {scope : Scope} {own : List (Str × Nat)} {elt iter tg : Expr} {ifs : List Expr} {ct : CT} {fi : En → R ((List D × Op) × En)} {ft : En → R (Bool × En)} {fe : En → R (D × En)} (o : XOk X S k) (hi : PI X tg iter (tItL W X.K fi)) (ok : blkC S.N S.sc scope own = true)
    (hg : ∀ X', XOk X' (blkS S scope) k → PG X' tg (tB1 X'.K ct))
    (ht : ∀ (s : Shared) (H : Hp) (C : Addr) (cl : List (Str × Addr)) (fp : List Addr), PTs (X.blk s H scope (compEnvC scope cl C X.env) fp) ifs (tTst W0 X.K ft))
    (he : ∀ (s : Shared) (H : Hp) (C : Addr) (cl : List (Str × Addr)) (fp : List Addr), PE (X.blk s H scope (compEnvC scope cl C X.env) fp) elt (tVal W0 X.K fe))
    (hsl : ∀ j ∈ slotsT ct, j ∈ own.map (·.2)) (hs : ∀ x, foldedSetIterable iter X.env x = pure x) (p : Pos) :
    PE X (.ListComp elt [⟨tg, iter, ifs, 0⟩] scope p) (tEv W X.K fun e => (fi e).bind fun ((xs, x), e) => lcF ct (own.map (·.2)) ft fe xs x e) := by
  have ok' : BlkOk X.N X.env.scope scope own := by rw [o.N, o.sc]; exact blkOk_by ok
  have hg' : ∀ (s : Shared) (H : Hp) (C : Addr) (cl : List (Str × Addr)) (fp : List Addr), PG (X.blk s H scope (compEnvC scope cl C X.env) fp) tg (tB1 X.K ct) := fun s H C cl fp => hg _ (o.blk s H scope C cl fp)
  exact wPE (pe_lc o.calm (by rw [o.N]; exact o.nd) hi ok' hg' ht he hs) (s_lc o.calm (by rw [o.N]; exact o.nd) hi ok' hg' ht he hsl hs)
theorem minus1 {m : Expr} (h : isMinus1 m = true) : ∃ j q1 q2, m = .UnaryOp .USub (.Constant (.int 1) j q1) q2 := by
  unfold isMinus1 at h
  split at h
  · exact ⟨_, _, _, rfl⟩
  · cases h
theorem mI_enu {a : CE} {t i : Expr} (h : mI S (.enu a) t i = true) : ∃ elts kk tp x p1 y p, t = .Tuple elts kk tp ∧ i = .Call (.Name x p1) [y] [] p ∧ (decide (x = ("enumerate" : Str)) && glbB S.sc x && mE S a y && notStar y) = true := by
  unfold mI at h
  split at h
  · exact ⟨_, _, _, _, _, _, _, rfl, rfl, h⟩
  · cases h
theorem mI_zip {a : CEs} {t i : Expr} (h : mI S (.zip a) t i = true) : ∃ elts kk tp x p1 y z p, t = .Tuple elts kk tp ∧ i = .Call (.Name x p1) [y, z] [] p ∧ (decide (x = ("zip" : Str)) && glbB S.sc x && mEs S a [y, z]) = true := by
  unfold mI at h
  split at h
  · exact ⟨_, _, _, _, _, _, _, _, rfl, rfl, h⟩
  · cases h
set_option maxHeartbeats 2000000
mutual
theorem e_ok : ∀ (c : CE) (X : Cx) (S : SC) (W : WX) (k : Nat) (o : XOk X S k) (tk : Takes X W) (e : Expr), mE S c e = true → gE (gx X) k c → PE X e (tEv W X.K (ev c)) ∧ PT X e (tTst W X.K (testR (ev c)))
  | .var i, X, S, W, k, o, tk, e, h, g => by
    have h1 := s_var (W := W) (var_ok o h)
    refine ⟨h1, t_val h1 (plain_test ?_ _)⟩
    cases e <;> first | rfl | (unfold mE at h; cases h)
  | .lit d, X, S, W, k, o, tk, e, h, g => by
    cases e with
    | Constant c j p =>
      have h : litB d c = true := by unfold mE at h; exact h
      obtain ⟨v, h1, h2⟩ := lit_rp (K := X.K) (X := X) (j := j) (p := p) h
      have h3 := s_const (W := W) h1 h2
      exact ⟨h3, t_val h3 (plain_test rfl _)⟩
    | Dict ks vs p =>
      obtain ⟨rfl, rfl, rfl⟩ : ks = [] ∧ vs = [] ∧ d = .dict [] := by
        unfold mE at h
        split at h
        · rename_i hq
          cases hq
        · rename_i hq
          cases hq
          split at h
          · exact ⟨rfl, rfl, rfl⟩
          · cases h
        · cases h
      have h3 : PE X (.Dict [] [] p) (tEv W X.K (ev (.lit (.dict [])))) := s_dct
      exact ⟨h3, t_val h3 (plain_test rfl _)⟩
    | _ => unfold mE at h; cases h
  | .glb nm d, X, S, W, k, o, tk, e, h, g => by
    cases e with
    | Name x p =>
      have h : (decide (x = nm) && glbB S.sc x && nmOk x) = true := by unfold mE at h; exact h
      simp only [Bool.and_eq_true, decide_eq_true_eq] at h
      obtain ⟨⟨rfl, h2⟩, h3⟩ := h
      obtain ⟨hd, _, _⟩ := nmOk_debug h3
      obtain ⟨u, v, g1, g2, g3⟩ := (show GlGood (gx X) x d from g)
      have h4 := s_const (W := W) (pe_glob (pos := p) (o.gl h2) g1 g2 hd) g3
      exact ⟨h4, t_val h4 (plain_test rfl _)⟩
    | _ => unfold mE at h; cases h
  | .bin op a b, X, S, W, k, o, tk, e, h, g => by
    cases e with
    | BinOp x op' y p =>
      have h : (decide (op' = boO op) && mE S a x && mE S b y) = true := by unfold mE at h; exact h
      simp only [Bool.and_eq_true, decide_eq_true_eq] at h
      obtain ⟨⟨rfl, ha⟩, hb⟩ := h
      have g : gE (gx X) k a ∧ gE (gx X) k b := g
      have h1 : PE X (.BinOp x (boO op) y p) (tEv W X.K (ev (.bin op a b))) := s_bin (opd_ok o ha (e_ok a X S W k o tk x ha g.1).1) (opd_ok o hb (e_ok b X S W k o tk y hb g.2).1)
      exact ⟨h1, t_val h1 (plain_test rfl _)⟩
    | _ => unfold mE at h; cases h
  | .neg a, X, S, W, k, o, tk, e, h, g => by
    cases e with
    | UnaryOp op x p =>
      have h : (decide (op = .USub) && mE S a x) = true := by unfold mE at h; exact h
      simp only [Bool.and_eq_true, decide_eq_true_eq] at h
      obtain ⟨rfl, ha⟩ := h
      have h1 : PE X (.UnaryOp .USub x p) (tEv W X.K (ev (.neg a))) := s_neg (val_of (e_ok a X S W k o tk x ha g).1)
      exact ⟨h1, t_val h1 fun whole => rfl⟩
    | _ => unfold mE at h; cases h
  | .nt a, X, S, W, k, o, tk, e, h, g => by
    cases e with
    | UnaryOp op x p =>
      have h : (decide (op = .Not) && mE S a x) = true := by unfold mE at h; exact h
      simp only [Bool.and_eq_true, decide_eq_true_eq] at h
      obtain ⟨rfl, ha⟩ := h
      obtain ⟨i1, i2⟩ := e_ok a X S W k o tk x ha g
      exact ⟨s_nt i1, t_nt i2⟩
    | _ => unfold mE at h; cases h
  | .cmp op a b, X, S, W, k, o, tk, e, h, g => by
    match e, h with
    | .Compare x [op'] [y] p, h =>
      have h : (decide (op' = coO op) && mE S a x && mE S b y && notSet y) = true := by unfold mE at h; exact h
      simp only [Bool.and_eq_true, decide_eq_true_eq] at h
      obtain ⟨⟨⟨rfl, ha⟩, hb⟩, hs⟩ := h
      have g : gE (gx X) k a ∧ gE (gx X) k b := g
      have pa := opd_ok o ha (e_ok a X S W k o tk x ha g.1).1
      have pb := opd_ok o hb (e_ok b X S W k o tk y hb g.2).1
      exact ⟨s_cmp ⟨k, o.room⟩ pa pb (set_mark hs), t_cmp ⟨k, o.room⟩ pa pb (set_mark hs)⟩
  | .chn o1 o2 a b c, X, S, W, k, o, tk, e, h, g => by
    match e, h with
    | .Compare x [p1, p2] [y, z] p, h =>
      have h : (decide (p1 = coO o1) && decide (p2 = coO o2) && mE S a x && mE S b y && mE S c z && notSet z) = true := by unfold mE at h; exact h
      simp only [Bool.and_eq_true, decide_eq_true_eq] at h
      obtain ⟨⟨⟨⟨⟨rfl, rfl⟩, ha⟩, hb⟩, hc⟩, hs⟩ := h
      have g : gE (gx X) k a ∧ gE (gx X) k b ∧ gE (gx X) k c := g
      have pa := val_of (e_ok a X S W k o tk x ha g.1).1
      have pb := val_of (e_ok b X S W k o tk y hb g.2.1).1
      have pc := val_of (e_ok c X S W k o tk z hc g.2.2).1
      have hm : lastMarks [coO o1, coO o2] [y, z] = false := set_mark hs
      exact ⟨s_chn ⟨k, o.room⟩ pa pb pc hm, t_chn ⟨k, o.room⟩ pa pb pc hm⟩
  | .bop isAnd es, X, S, W, k, o, tk, e, h, g => by
    cases e with
    | BoolOp op xs p =>
      have h : (decide (op = if isAnd then .And else .Or) && mEs S es xs && !xs.isEmpty) = true := by unfold mE at h; exact h
      simp only [Bool.and_eq_true, decide_eq_true_eq] at h
      obtain ⟨⟨rfl, hes⟩, hne⟩ := h
      obtain ⟨_, _, h3⟩ := es_ok es X S W k o tk xs hes g
      have hne : xs ≠ [] := by intro z; subst z; cases hne
      obtain ⟨a1, a2⟩ := h3 isAnd p hne
      exact ⟨a1, a2.pt⟩
    | _ => unfold mE at h; cases h
  | .ife c a b, X, S, W, k, o, tk, e, h, g => by
    cases e with
    | IfExp t x y p =>
      have h : (mE S c t && mE S a x && mE S b y) = true := by unfold mE at h; exact h
      simp only [Bool.and_eq_true] at h
      have g : gE (gx X) k c ∧ gE (gx X) k a ∧ gE (gx X) k b := g
      obtain ⟨_, c2⟩ := e_ok c X S W k o tk t h.1.1 g.1
      obtain ⟨a1, a2⟩ := e_ok a X S W k o tk x h.1.2 g.2.1
      obtain ⟨b1, b2⟩ := e_ok b X S W k o tk y h.2 g.2.2
      exact ⟨s_ife c2 a1 b1, t_ife c2 a2 b2⟩
    | _ => unfold mE at h; cases h
  | .tup es, X, S, W, k, o, tk, e, h, g => by
    cases e with
    | Tuple xs j p =>
      have h : mEs S es xs = true := by unfold mE at h; exact h
      have h1 : PE X (.Tuple xs j p) (tEv W X.K (ev (.tup es))) := s_tup (es_ok es X S W k o tk xs h g).1
      exact ⟨h1, t_val h1 (plain_test rfl _)⟩
    | _ => unfold mE at h; cases h
  | .lst es, X, S, W, k, o, tk, e, h, g => by
    cases e with
    | List xs p =>
      have h : mEs S es xs = true := by unfold mE at h; exact h
      have h1 : PE X (.List xs p) (tEv W X.K (ev (.lst es))) := s_lst (es_ok es X S W k o tk xs h g).1
      exact ⟨h1, t_val h1 (plain_test rfl _)⟩
    | _ => unfold mE at h; cases h
  | .idx a i, X, S, W, k, o, tk, e, h, g => by
    cases e with
    | Subscript x y p =>
      have h : (mE S a x && mE S i y && notSlice y) = true := by unfold mE at h; exact h
      simp only [Bool.and_eq_true] at h
      have g : gE (gx X) k a ∧ gE (gx X) k i := g
      have h1 : PE X (.Subscript x y p) (tEv W X.K (ev (.idx a i))) := s_idx (opd_ok o h.1.1 (e_ok a X S W k o tk x h.1.1 g.1).1) (val_of (e_ok i X S W k o tk y h.1.2 g.2).1) (slice_plain h.2)
      exact ⟨h1, t_val h1 (plain_test rfl _)⟩
    | _ => unfold mE at h; cases h
  | .slc a lo hi, X, S, W, k, o, tk, e, h, g => by
    match e, h with
    | .Subscript x (.Slice l u none p2) p, h =>
      have h : (mE S a x && optM lo l (mE S lo) && optM hi u (mE S hi)) = true := by unfold mE at h; exact h
      simp only [Bool.and_eq_true] at h
      have g : gE (gx X) k a ∧ gE (gx X) k lo ∧ gE (gx X) k hi := g
      have h1 : PE X (.Subscript x (.Slice l u none p2) p) (tEv W X.K (ev (.slc a lo hi))) := s_slc (opd_ok o h.1.1 (e_ok a X S W k o tk x h.1.1 g.1).1)
        (opt_ok h.1.2 fun z _ hz => val_of (e_ok lo X S W k o tk z hz g.2.1).1) (opt_ok h.2 fun z _ hz => val_of (e_ok hi X S W k o tk z hz g.2.2).1)
      exact ⟨h1, t_val h1 (plain_test rfl _)⟩
  | .noe, X, S, W, k, o, tk, e, h, g => by unfold mE at h; cases h
  | .rev a, X, S, W, k, o, tk, e, h, g => by
    match e, h with
    | .Subscript x (.Slice none none (some m) p3) p, h =>
      have h : (mE S a x && isMinus1 m) = true := by unfold mE at h; exact h
      simp only [Bool.and_eq_true] at h
      obtain ⟨j, q1, q2, rfl⟩ := minus1 h.2
      have h1 : PE X (.Subscript x (.Slice none none (some (.UnaryOp .USub (.Constant (.int 1) j q1) q2)) p3) p) (tEv W X.K (ev (.rev a))) := s_rev (opd_ok o h.1 (e_ok a X S W k o tk x h.1 g).1)
      exact ⟨h1, t_val h1 (plain_test rfl _)⟩
  | .call nm F es, X, S, W, k, o, tk, e, h, g => by
    match e, h with
    | .Call (.Name x p1) args [] p, h =>
      have h : (decide (x = nm) && glbB S.sc x && nmOk x && mEs S es args) = true := by unfold mE at h; exact h
      simp only [Bool.and_eq_true, decide_eq_true_eq] at h
      obtain ⟨⟨⟨rfl, h1⟩, h2⟩, h3⟩ := h
      obtain ⟨hd, _, _⟩ := nmOk_debug h2
      have g : FnGood (gx X) k x F ∧ gEs (gx X) k es := g
      obtain ⟨⟨hkd, f, fd, ps, g1, g2, g3, g4⟩, ges⟩ := g
      have main : PE X (.Call (.Name x p1) args [] p) (tEv W X.K (ev (.call x F es))) := by
        by_cases k0 : F.kd = 0
        · have e1 : ev (.call x F es) = fun e => (evs es e).bind fun (ds, e) => callS F none ds e := by funext e; unfold ev; rw [if_pos k0]
          rw [e1]
          cases args with
          | nil =>
            cases es with
            | nil => exact s_call0 k0 tk g2 o.gd o.room (o.gl h1) g1 g3 g4 hd
            | cons => unfold mEs at h3; cases h3
          | cons y ys =>
            obtain ⟨a1, _, _⟩ := es_ok es X S W k o tk (y :: ys) h3 ges
            cases es with
            | nil => unfold mEs at h3; cases h3
            | cons a as =>
              have h3' : (mE S a y && notStar y && mEs S as ys) = true := by unfold mEs at h3; exact h3
              simp only [Bool.and_eq_true] at h3'
              exact s_call k0 tk g2 o.gd o.room (o.gl h1) g1 g3 g4 a1 hd (star_cons h3'.1.2 _ _) (mEs_star h3'.2 _)
        · cases es with
          | nil =>
            have e1 : ev (.call x F .nil) = fun e => .no := by funext e; unfold ev; rw [if_neg k0]
            rw [e1]
            exact ⟨fun pins s σ H Q I ⟨_, _, _, P⟩ => P.elim⟩
          | cons a as =>
            cases args with
            | nil => unfold mEs at h3; cases h3
            | cons y ys =>
              have h3' : (mE S a y && notStar y && mEs S as ys) = true := by unfold mEs at h3; exact h3
              simp only [Bool.and_eq_true] at h3'
              have ges : gE (gx X) k a ∧ gEs (gx X) k as := ges
              have pas := (es_ok as X S W k o tk ys h3'.2 ges.2).1
              cases a with
              | var i =>
                have e1 : ev (.call x F (.cons (.var i) as)) = fun e => if okArg F.kd (get e i) = true then (evs as e).bind fun (ds, e) => callS F (some i) ds e else .no := by funext e; unfold ev; rw [if_neg k0]
                rw [e1]
                by_cases k1 : F.kd = 1
                · exact s_callIo k1 tk g2 o.gd o.room (o.gl h1) g1 g3 g4 (var_ok o h3'.1.1) pas hd (star_cons h3'.1.2 _ _) (mEs_star h3'.2 _)
                · exact s_callFz (by omega) tk g2 o.gd o.room (o.gl h1) g1 g3 g4 (var_ok o h3'.1.1) pas hd (star_cons h3'.1.2 _ _) (mEs_star h3'.2 _)
              | _ =>
                refine ⟨fun pins s σ H Q I ⟨_, e, _, P⟩ => ?_⟩
                unfold ev at P
                rw [if_neg k0] at P
                exact P.elim
      exact ⟨main, t_val main (plain_test rfl _)⟩
  | .bi op es, X, S, W, k, o, tk, e, h, g => by
    match e, h with
    | .Call (.Name x p1) args [] p, h =>
      have h : (decide (x = biNm op) && glbB S.sc x && mEs S es args && !args.isEmpty) = true := by unfold mE at h; exact h
      simp only [Bool.and_eq_true, decide_eq_true_eq] at h
      obtain ⟨⟨⟨rfl, h1⟩, h3⟩, h4⟩ := h
      cases args with
      | nil => cases h4
      | cons y ys =>
        obtain ⟨_, a1, _⟩ := es_ok es X S W k o tk (y :: ys) h3 g
        cases es with
        | nil => unfold mEs at h3; cases h3
        | cons a as =>
          have h3' : (mE S a y && notStar y && mEs S as ys) = true := by unfold mEs at h3; exact h3
          simp only [Bool.and_eq_true] at h3'
          have main : PE X (.Call (.Name (biNm op) p1) (y :: ys) [] p) (tEv W X.K (ev (.bi op (.cons a as)))) :=
            s_bi o.gd ⟨k, o.room⟩ o.calm (o.gl h1) (o.blt _ (bi_mem op)) (bi_boot op) a1 (bi_names op).1 (bi_names op).2 (star_cons h3'.1.2 _ _) (mEs_star h3'.2 _)
          exact ⟨main, t_val main (plain_test rfl _)⟩
  | .rgl t a, X, S, W, k, o, tk, e, h, g => by
    match e, h with
    | .Call (.Name x p1) [.Call (.Name y p2) [z] [] p3] [] p, h =>
      have h : (decide (x = (if t then "tuple" else "list" : Str)) && glbB S.sc x && decide (y = ("range" : Str)) && glbB S.sc y && mE S a z && notStar z) = true := by unfold mE at h; exact h
      simp only [Bool.and_eq_true, decide_eq_true_eq] at h
      obtain ⟨⟨⟨⟨⟨rfl, h1⟩, rfl⟩, h2⟩, h3⟩, h4⟩ := h
      have main : PE X (.Call (.Name (if t then "tuple" else "list" : Str) p1) [.Call (.Name "range" p2) [z] [] p3] [] p) (tEv W X.K (ev (.rgl t a))) :=
        s_rgl o.calm (o.gl h1) (o.blt _ (by cases t <;> decide +kernel)) (o.gl h2) (o.blt _ (by decide +kernel)) (val_of (e_ok a X S W k o tk z h3 g).1) (star_cons h4 _ _)
      exact ⟨main, t_val main (plain_test rfl _)⟩
  | .me op a es, X, S, W, k, o, tk, e, h, g => by
    match e, h with
    | .Call (.Attribute ob nm p1) [y] [] p2, h =>
      have h : (decide (nm = meNm op) && noCall ob && mE S a ob && mEs S es [y] && notStar y && (p1.endLine == p2.line)) = true := by unfold mE at h; exact h
      simp only [Bool.and_eq_true, decide_eq_true_eq] at h
      obtain ⟨⟨⟨⟨⟨rfl, h1⟩, h2⟩, h3⟩, h4⟩, h5⟩ := h
      have g : gE (gx X) k a ∧ gEs (gx X) k es := g
      have main : PE X (.Call (.Attribute ob (meNm op) p1) [y] [] p2) (tEv W X.K (ev (.me op a es))) :=
        s_me o.room.units (opd_ok o h2 (e_ok a X S W k o tk ob h2 g.1).1) (es_ok es X S W k o tk [y] h3 g.2).1 (by
          cases ob with
          | Call f as ks q =>
            cases as with
            | nil => cases h1
            | cons a as => cases f <;> rfl
          | _ => rfl) (star_cons h4 _ _) h5
      exact ⟨main, t_val main (plain_test rfl _)⟩
  | .isi a ts, X, S, W, k, o, tk, e, h, g => by
    match e, h with
    | .Call (.Name x p1) [y, t] [] p, h =>
      have h : (decide (x = ("isinstance" : Str)) && glbB S.sc x && mE S a y && notStar y && isiM S.sc ts t) = true := by unfold mE at h; exact h
      simp only [Bool.and_eq_true, decide_eq_true_eq] at h
      obtain ⟨⟨⟨⟨rfl, h1⟩, h2⟩, h3⟩, h4⟩ := h
      match ts, t, h4 with
      | [ty], .Name x2 p2, h4 =>
        have h4 : (decide (x2 = (tyNm ty : Str)) && glbB S.sc x2 && notNon ty) = true := by unfold isiM at h4; exact h4
        simp only [Bool.and_eq_true, decide_eq_true_eq] at h4
        obtain ⟨⟨rfl, h5⟩, h6⟩ := h4
        have hn : ty ≠ .non := by intro z; subst z; cases h6
        have hmem : (tyNm ty : Str) ∈ bltNames := by cases ty <;> first | exact absurd rfl hn | decide +kernel
        have main : PE X (.Call (.Name "isinstance" p1) [y, .Name (tyNm ty : Str) p2] [] p) (tEv W X.K (ev (.isi a [ty]))) :=
          s_isi1 hn (o.gl h1) (o.blt _ (by decide +kernel)) (o.gl h5) (o.blt _ hmem) (opd_ok o h2 (e_ok a X S W k o tk y h2 g).1) (star_cons h3 _ _)
        exact ⟨main, t_val main (plain_test rfl _)⟩
  | .lc own tg it cond elt, X, S, W, k, o, tk, e, h, g => by
    match e, h with
    | .ListComp el [⟨t, i, ifs, kk⟩] scope p, h =>
      have h : (decide (kk = 0) && blkC S.N S.sc scope own && mT (blkS S scope) tg t && mI S it t i && condM cond ifs (mE (blkS S scope) cond) && mE (blkS S scope) elt el && ((slotsT tg).all fun j => decide (j ∈ own.map (·.2)))) = true := by unfold mE at h; exact h
      simp only [Bool.and_eq_true, decide_eq_true_eq] at h
      obtain ⟨⟨⟨⟨⟨⟨rfl, h1⟩, h2⟩, h3⟩, h4⟩, h5⟩, h6⟩ := h
      have g : gI (gx X) k it ∧ gE (gx X) k cond ∧ gE (gx X) k elt := g
      have main := lc_ok o (i_ok it X S W k o tk t i h3 g.1) h1 (fun X' o' => t_ok o' tg t h2) (ft := condR cond (ev cond)) (fe := valR (ev elt))
        (fun s H C cl fp => cond_ok h4 fun x hx => (e_ok cond (X.blk s H scope (compEnvC scope cl C X.env) fp) (blkS S scope) W0 k (o.blk s H scope C cl fp) takesW0 x hx g.2.1).2)
        (fun s H C cl fp => val_of (e_ok elt (X.blk s H scope (compEnvC scope cl C X.env) fp) (blkS S scope) W0 k (o.blk s H scope C cl fp) takesW0 el h5 g.2.2).1)
        (fun j hj => of_decide_eq_true (List.all_eq_true.mp h6 j hj)) (mI_set h3 _) p
      rw [ev_lc]
      exact ⟨main, t_val main (plain_test rfl _)⟩
  | .pop _ _, X, S, W, k, o, tk, e, h, g => by unfold mE at h; cases h
  | .d0 i, X, S, W, k, o, tk, e, h, g => by
    match e, h with
    | .Dict [some (.Constant c j p1)] [.Name x p2] p, h =>
      have h : (litB (.int 0) c && (decide (S.N[i]? = some x) && visB S.sc x && nmOk x)) = true := by unfold mE at h; exact h
      rw [Bool.and_eq_true] at h
      obtain ⟨v, h1, h2⟩ := lit_rp (K := X.K) (X := X) (j := j) (p := p1) h.1
      have hv : v = .int 0 := (h2 (fun _ => none)).int_inv
      subst hv
      have hm : mE S (.var i) (.Name x p2) = true := by unfold mE; exact h.2
      have main : PE X (.Dict [some (.Constant c j p1)] [.Name x p2] p) (tEv W X.K (ev (.d0 i))) := s_d0 h1 (var_ok o hm)
      exact ⟨main, t_val main (plain_test rfl _)⟩
theorem es_ok : ∀ (cs : CEs) (X : Cx) (S : SC) (W : WX) (k : Nat) (o : XOk X S k) (tk : Takes X W) (es : List Expr), mEs S cs es = true → gEs (gx X) k cs →
    PA X es (tVals W X.K (evs cs)) ∧ PA X es (tOps W X.K (evOs cs)) ∧ ∀ (isAnd : Bool) (pos : Pos), es ≠ [] → PE X (.BoolOp (if isAnd then .And else .Or) es pos) (tEv W X.K (evB cs isAnd)) ∧ PW X (.BoolOp (if isAnd then .And else .Or) es pos) (tTst W X.K (testR (evB cs isAnd)))
  | .nil, X, S, W, k, o, tk, es, h, g => by
    cases es with
    | nil => exact ⟨vals_nil, ops_nil, fun _ _ z => absurd rfl z⟩
    | cons => unfold mEs at h; cases h
  | .cons a as, X, S, W, k, o, tk, es, h, g => by
    cases es with
    | nil => unfold mEs at h; cases h
    | cons x xs =>
      have h : (mE S a x && notStar x && mEs S as xs) = true := by unfold mEs at h; exact h
      simp only [Bool.and_eq_true] at h
      have g : gE (gx X) k a ∧ gEs (gx X) k as := g
      obtain ⟨a1, a2⟩ := e_ok a X S W k o tk x h.1.1 g.1
      obtain ⟨b1, b2, b3⟩ := es_ok as X S W k o tk xs h.2 g.2
      have hs := star_cons h.1.2 xs X.env
      refine ⟨vals_cons (val_of a1) b1 hs, ops_cons (opd_ok o h.1.1 a1) b2 hs, fun isAnd pos _ => ?_⟩
      cases as with
      | nil =>
        cases xs with
        | nil =>
          have e1 : evB (.cons a .nil) isAnd = ev a := by funext e; unfold evB; rfl
          rw [e1]
          refine ⟨pe_one a1, ?_⟩
          cases isAnd with
          | true => exact pw_and1 a2
          | false => exact pw_or1 a2
        | cons => have := h.2; unfold mEs at this; cases this
      | cons c cs =>
        cases xs with
        | nil => have := h.2; unfold mEs at this; cases this
        | cons y ys =>
          obtain ⟨c1, c2⟩ := b3 isAnd pos (by simp)
          have e1 : evB (.cons a (.cons c cs)) isAnd = bopV isAnd (ev a) (evB (.cons c cs) isAnd) := by
            funext e
            rw [evB]
            · rfl
            · intro z; cases z
          rw [e1]
          cases isAnd with
          | true => exact ⟨s_and a1 c1, w_and a2 c2⟩
          | false => exact ⟨s_or a1 c1, w_or a2 c2⟩
theorem i_ok : ∀ (ci : CI) (X : Cx) (S : SC) (W : WX) (k : Nat) (o : XOk X S k) (tk : Takes X W) (t i : Expr), mI S ci t i = true → gI (gx X) k ci → PI X t i (tItL W X.K (evI ci))
  | .seq a, X, S, W, k, o, tk, t, i, h, g => by
    have h : (mE S a i && notSet i) = true := by unfold mI at h; exact h
    simp only [Bool.and_eq_true] at h
    exact i_len (i_seq (opd_ok o h.1 (e_ok a X S W k o tk i h.1 g).1))
  | .fzd a, X, S, W, k, o, tk, t, i, h, g => by
    have h : (mE S a i && notSet i) = true := by unfold mI at h; exact h
    simp only [Bool.and_eq_true] at h
    exact i_len (i_fzd (val_of (e_ok a X S W k o tk i h.1 g).1))
  | .rng es, X, S, W, k, o, tk, t, i, h, g => by
    match i, h with
    | .Call (.Name x p1) args [] p, h =>
      have h : (decide (x = ("range" : Str)) && glbB S.sc x && mEs S es args && !args.isEmpty && decide (args.length ≤ 3)) = true := by unfold mI at h; exact h
      simp only [Bool.and_eq_true, decide_eq_true_eq] at h
      obtain ⟨⟨⟨⟨rfl, h1⟩, h2⟩, h3⟩, h4⟩ := h
      have pa := (es_ok es X S W k o tk args h2 g).1
      have hl := evs_len es args S h2
      have hm := o.blt ("range" : Str) (by decide +kernel)
      have hst := mEs_starEach h2 X.env
      match args, h3, h4 with
      | [a], _, _ => exact i_len (i_rng1 (o.gl h1) hm pa hl hst)
      | [a, b], _, _ => exact i_len (i_rng2 (o.gl h1) hm pa hl hst (by
          have := congrArg List.tail hst
          rw [starEach_tail h2] at this
          exact this))
      | [a, b, c], _, _ => exact i_len (i_rng3 (o.gl h1) hm pa hl (starEach_head h2 X.env) (mEs_star_tail h2 _ _))
  | .enu a, X, S, W, k, o, tk, t, i, h, g => by
    obtain ⟨elts, kk, tp, x, p1, y, p, rfl, rfl, h'⟩ := mI_enu h
    clear h
    have h := h'
    clear h'
    simp only [Bool.and_eq_true, decide_eq_true_eq] at h
    obtain ⟨⟨⟨rfl, h1⟩, h2⟩, h3⟩ := h
    exact i_len (i_enu (o.gl h1) (o.blt _ (by decide +kernel)) (val_of (e_ok a X S W k o tk y h2 g).1) (star1 h3 _))
  | .zip es, X, S, W, k, o, tk, t, i, h, g => by
    obtain ⟨elts, kk, tp, x, p1, y, z, p, rfl, rfl, h'⟩ := mI_zip h
    clear h
    have h := h'
    clear h'
    simp only [Bool.and_eq_true, decide_eq_true_eq] at h
    obtain ⟨⟨rfl, h1⟩, h2⟩ := h
    exact i_len (i_zip (o.gl h1) (o.blt _ (by decide +kernel)) (es_ok es X S W k o tk _ h2 g).1 (starEach_head h2 X.env) (mEs_star_tail h2 _ _))
end
end
end PV
end
section
namespace PV
open PySem L2 Classical

/-! ### statements -/
structure Fm where
  H0 : Hp
  Z : Addr → Prop
  I : Addr → Prop
structure RelF (K : PySem.W.Frag) (F : Fm) (S : Addr → Prop) (e : En) (σ : St) (H : Hp) : Prop where
  rel : Rel K S e σ H
  keep : ∀ b o, F.H0 b = some o → ¬ F.I b → H b = some o
  own : ∀ i b, HeldA e σ i b → F.I b ∨ F.H0 b = none
  zs : ∀ b, F.Z b → ¬ F.I b → S b
  gr : ∀ b o, F.H0 b = some o → ¬ F.Z b → ¬ S b
  dom : ∀ b, F.H0 b ≠ none → H b ≠ none
  io : ∀ i d b, get e i = .io d → At σ i (.ref b) → F.I b
  zt : ∀ b, F.Z b → F.H0 b ≠ none
structure StTr (σ : St) (S : Addr → Prop) (e : En) (H : Hp) (σ' : St) (S' : Addr → Prop) (e' : En) (H' : Hp) : Prop where
  same : Same (rst H S) (rst H' S')
  dom : ∀ b, H b ≠ none → H' b ≠ none
  le : ∀ i d, get e i = .le d → get e' i = .le d ∧ σ'[i]? = σ[i]? ∧ ∀ a, At σ i (.ref a) → H' a = H a
  io : ∀ i d, get e i = .io d → ∃ d', get e' i = .io d'
  len : e'.length = e.length
section
variable {K : PySem.W.Frag} {F : Fm} {σ σ' σ'' : St} {S S' S'' : Addr → Prop} {e e' e'' : En} {H H' H'' : Hp}
theorem StTr.refl : StTr σ S e H σ S e H := ⟨fun _ _ h => h, fun _ h => h, fun _ _ h => ⟨h, rfl, fun _ _ => rfl⟩, fun i d h => ⟨d, h⟩, rfl⟩
theorem StTr.trans (t : StTr σ S e H σ' S' e' H') (u : StTr σ' S' e' H' σ'' S'' e'' H'') : StTr σ S e H σ'' S'' e'' H'' where
  same := fun b o h => u.same b o (t.same b o h)
  dom := fun b h => u.dom b (t.dom b h)
  le := fun i d h => by
    obtain ⟨a1, a2, a3⟩ := t.le i d h
    obtain ⟨b1, b2, b3⟩ := u.le i d a1
    exact ⟨b1, b2.trans a2, fun a ha => (b3 a (by unfold At; rw [a2]; exact ha)).trans (a3 a ha)⟩
  io := fun i d h => by
    obtain ⟨d', h'⟩ := t.io i d h
    exact u.io i d' h'
  len := u.len.trans t.len
/-- an expression's stretch -/
theorem RelF.tr (R : RelF K F S e σ H) (R' : Rel K S' e' σ H') (t : Tr σ S e H S' e' H') : RelF K F S' e' σ H' where
  rel := R'
  keep := fun b o h n => t.fr b o (R.keep b o h n) fun z => by
    obtain ⟨i, hi⟩ := z.held
    rcases R.own i b hi with q | q
    · exact n q
    · rw [h] at q; cases q
  own := fun i b h => R.own i b (t.held h)
  zs := fun b h n => t.hid b (R.zs b h n) fun z => by
    obtain ⟨i, hi⟩ := z.held
    rcases R.own i b hi with q | q
    · exact n q
    · exact R.zt b h q
  gr := fun b o h n => by
    have hd := R.dom b (by rw [h]; simp)
    obtain ⟨o', ho'⟩ := Option.ne_none_iff_exists'.mp hd
    exact t.gr b o' ho' (R.gr b o h n)
  dom := fun b h => t.dom b (R.dom b h)
  io := fun i d b h ha => by
    obtain ⟨d0, h0⟩ := (t.io i).mpr ⟨d, h⟩
    exact R.io i d0 b h0 ha
  zt := R.zt
theorem Tr.st (R : Rel K S e σ H) (t : Tr σ S e H S' e' H') : StTr σ S e H σ S' e' H' :=
  ⟨t.same R, t.dom, fun i d h => ⟨(t.le i d).mp h, rfl, fun a ha => by
    obtain ⟨o, ho⟩ := Option.ne_none_iff_exists'.mp (R.tracked (i := i) (b := a) ⟨⟨d, by rw [h]; rfl⟩, ha⟩)
    rw [ho]
    exact t.fr a o ho (R.le_not_ow h ha)⟩, fun i d h => (t.io i).mp ⟨d, h⟩, t.len⟩
def RVr (K : PySem.W.Frag) (F : Fm) (σ : St) (S : Addr → Prop) (e : En) (H : Hp) (v : V) : Cl → Prop
  | .sh d => Rp K (rst H S) v d
  | .ow d => ∃ p, v = .ref p ∧ F.H0 p = none ∧ S p ∧ (∀ i, ¬ HeldA e σ i p) ∧ OwR K H (rst H S) p d
  | _ => False
def PostS (W : WX) (K : PySem.W.Frag) (F : Fm) (σ : St) (S : Addr → Prop) (e : En) (H : Hp) (D : Ends) : SR → Prop
  | .nx e' => ∀ σ' S' H', RelF K F S' e' σ' H' → StTr σ S e H σ' S' e' H' → D.nx σ' H'
  | .bk e' => ∀ σ' S' H', RelF K F S' e' σ' H' → StTr σ S e H σ' S' e' H' → D.bk σ' H'
  | .ct e' => ∀ σ' S' H', RelF K F S' e' σ' H' → StTr σ S e H σ' S' e' H' → D.ct σ' H'
  | .rt r e' => ∀ v σ' S' H', RelF K F S' e' σ' H' → RVr K F σ' S' e' H' v r → D.rt v H'
  | .rz x e' => ∀ C da σ' S' H', RelF K F S' e' σ' H' → RX K x C da H' → W C da σ' H'
  | .no => False
def tEx (W : WX) (K : PySem.W.Frag) (F : Fm) (f : En → SR) : TS := fun D σ H => ∃ S e, RelF K F S e σ H ∧ PostS W K F σ S e H D (f e)
theorem PostS.from {W : WX} {D : Ends} {r : SR} (t : StTr σ S e H σ' S' e' H') (h : PostS W K F σ S e H D r) : PostS W K F σ' S' e' H' D r := by
  cases r with
  | nx e2 => exact fun σ2 S2 H2 R2 t2 => h σ2 S2 H2 R2 (t.trans t2)
  | bk e2 => exact fun σ2 S2 H2 R2 t2 => h σ2 S2 H2 R2 (t.trans t2)
  | ct e2 => exact fun σ2 S2 H2 R2 t2 => h σ2 S2 H2 R2 (t.trans t2)
  | rt r e2 => exact h
  | rz x e2 => exact h
  | no => exact h
/-- from a statement's reading to its expression's -/
theorem PostS.sr {W : WX} {α : Type} {D : Ends} {r : R (α × En)} {f : α × En → SR} (R0 : RelF K F S e σ H) (h : PostS W K F σ S e H D (r.sr f)) :
    Post W K σ S e H r fun a S1 e1 H1 => RelF K F S1 e1 σ H1 ∧ StTr σ S e H σ S1 e1 H1 ∧ PostS W K F σ S1 e1 H1 D (f (a, e1)) := by
  cases r with
  | ok a =>
    obtain ⟨a, e1⟩ := a
    intro S1 H1 R1 t1
    exact ⟨R0.tr R1 t1, t1.st R0.rel, PostS.from (t1.st R0.rel) h⟩
  | rz x e1 => exact fun C da S1 H1 R1 t1 hx => h C da σ S1 H1 (R0.tr R1 t1) hx
  | no => exact h
/-- a statement, then more -/
theorem PostS.seq {W : WX} {D : Ends} {r : SR} {f : En → SR} (h : PostS W K F σ S e H D (r.seq f)) : PostS W K F σ S e H { D with nx := tEx W K F f D } r := by
  cases r with
  | nx e1 => exact fun σ1 S1 H1 R1 t1 => ⟨S1, e1, R1, PostS.from t1 h⟩
  | bk e2 => exact h
  | ct e2 => exact h
  | rt r e2 => exact h
  | rz x e2 => exact h
  | no => exact h
/-- a value is stored in a slot -/
theorem store_ok' {i : Nat} {r : Cl} {v : V} (h : store e i r = some e') : i < e.length ∧ (get e i = .un ∨ (∃ d, get e i = .sh d) ∨ ∃ d, get e i = .ow d) ∧ ((∃ d, r = .sh d ∧ e' = put e i (.sh d)) ∨ ∃ d, r = .ow d ∧ e' = put e i (.ow d)) := by
  have key : (if i < e.length then (match r with
    | .sh d => some (put e i (.sh d))
    | .ow d => some (put e i (.ow d))
    | _ => none) else none) = some e' → i < e.length ∧ ((∃ d, r = .sh d ∧ e' = put e i (.sh d)) ∨ ∃ d, r = .ow d ∧ e' = put e i (.ow d)) := fun h => by
    split at h
    · refine ⟨by assumption, ?_⟩
      split at h
      · cases h; exact .inl ⟨_, rfl, rfl⟩
      · cases h; exact .inr ⟨_, rfl, rfl⟩
      · cases h
    · cases h
  unfold store at h
  cases q : get e i with
  | un => rw [q] at h; obtain ⟨a, b⟩ := key h; exact ⟨a, .inl rfl, b⟩
  | sh d => rw [q] at h; obtain ⟨a, b⟩ := key h; exact ⟨a, .inr (.inl ⟨_, rfl⟩), b⟩
  | ow d => rw [q] at h; obtain ⟨a, b⟩ := key h; exact ⟨a, .inr (.inr ⟨_, rfl⟩), b⟩
  | io d => rw [q] at h; cases h
  | le d => rw [q] at h; cases h
  | fz d => rw [q] at h; cases h
theorem StTr.put {i : Nat} {c : Cl} {v : V} (hi : i < σ.length) (hg : get e i = .un ∨ (∃ d, get e i = .sh d) ∨ ∃ d, get e i = .ow d) : StTr σ S e H (σ.set i (some v)) S (PV.put e i c) H :=
  ⟨fun _ _ h => h, fun _ h => h, fun j d h => by
    have : i ≠ j := fun z => by subst z; rcases hg with q | ⟨_, q⟩ | ⟨_, q⟩ <;> rw [q] at h <;> cases h
    exact ⟨by rw [get_put_ne this]; exact h, List.getElem?_set_ne this, fun _ _ => rfl⟩, fun j d h => by
    have : i ≠ j := fun z => by subst z; rcases hg with q | ⟨_, q⟩ | ⟨_, q⟩ <;> rw [q] at h <;> cases h
    exact ⟨d, by rw [get_put_ne this]; exact h⟩, put_len⟩
theorem RelF.store {i : Nat} {r : Cl} {v : V} (R : RelF K F S e σ H) (h : store e i r = some e') (hv : RVr K F σ S e H v r) : RelF K F S e' (σ.set i (some v)) H ∧ StTr σ S e H (σ.set i (some v)) S e' H ∧
    ∀ j b, HeldA e' (σ.set i (some v)) j b → HeldA e σ j b ∨ ((∃ d, r = .ow d) ∧ v = .ref b) := by
  obtain ⟨hl, hg, hr⟩ := store_ok' (v := v) h
  have hl' : i < σ.length := by rw [R.rel.len]; exact hl
  have nj : ∀ j, j ≠ i → (σ.set i (some v))[j]? = σ[j]? := fun j hj => List.getElem?_set_ne (Ne.symm hj)
  have ai : At (σ.set i (some v)) i v := by unfold At; rw [List.getElem?_set_self hl']
  have fin : ∀ c, (∃ d, c = .sh d) ∨ (∃ d, c = .ow d) → Rel K S (put e i c) (σ.set i (some v)) H → (∀ j b, HeldA (put e i c) (σ.set i (some v)) j b → HeldA e σ j b ∨ ((∃ d, c = .ow d) ∧ v = .ref b)) → (∀ b, (∃ d, c = .ow d) → v = .ref b → F.H0 b = none) →
      RelF K F S (put e i c) (σ.set i (some v)) H := fun c hc r1 hh hn => by
    refine ⟨r1, R.keep, fun j b hb => ?_, R.zs, R.gr, R.dom, fun j d b hj hb => ?_, R.zt⟩
    · rcases hh j b hb with q | ⟨q1, q2⟩
      · exact R.own j b q
      · exact .inr (hn b q1 q2)
    · by_cases z : i = j
      · subst z
        rw [get_put_self hl] at hj
        rcases hc with ⟨_, q⟩ | ⟨_, q⟩ <;> rw [q] at hj <;> cases hj
      · rw [get_put_ne z] at hj
        exact R.io j d b hj (by unfold At; rw [← nj j (Ne.symm z)]; exact hb)
  have hold : ∀ c, (∀ d, hel c = some d → ∃ d, c = .ow d) → ∀ j b, HeldA (put e i c) (σ.set i (some v)) j b → HeldA e σ j b ∨ ((∃ d, c = .ow d) ∧ v = .ref b) := fun c hc j b ⟨⟨d, h1⟩, h2⟩ => by
    by_cases z : i = j
    · subst z
      rw [get_put_self hl] at h1
      exact .inr ⟨hc d h1, ai.inj h2⟩
    · rw [get_put_ne z] at h1
      exact .inl ⟨⟨d, h1⟩, by unfold At; rw [← nj j (Ne.symm z)]; exact h2⟩
  rcases hr with ⟨d, rfl, rfl⟩ | ⟨d, rfl, rfl⟩
  · have hh := hold (.sh d) (fun _ z => by cases z)
    exact ⟨fin _ (.inl ⟨d, rfl⟩) (R.rel.putc (v := v) hl nj (by simp) ai hv) hh (fun b ⟨_, z⟩ => by cases z), .put hl' hg, hh⟩
  · obtain ⟨p, rfl, h0, h1, h2, h3⟩ := hv
    have hh := hold (.ow d) (fun _ _ => ⟨d, rfl⟩)
    exact ⟨fin _ (.inr ⟨d, rfl⟩) (R.rel.putc (c := .ow d) (v := .ref p) hl nj (by simp) ai ⟨p, d, rfl, rfl, h1, h3, fun j _ => h2 j⟩) hh (fun b _ z => by cases z; exact h0), .put hl' hg, hh⟩
theorem RV.rvr {v : V} {r : Cl} (R : RelF K F S e σ H) (h : RV K H σ S' e' H' v r) : RVr K F σ S' e' H' v r := by
  cases r with
  | ow d =>
    obtain ⟨p, h1, h2, h3⟩ := h
    refine ⟨p, h1, ?_, h3⟩
    cases q : F.H0 p with
    | none => rfl
    | some o => exact absurd h2 (R.dom p (by rw [q]; simp))
  | _ => exact h
end
end PV
end
section
namespace PV
open PySem L2 Classical

section
variable {X : Cx} {W : WX} {F : Fm} {σ σ' : St} {S S' : Addr → Prop} {e e' : En} {H H' : Hp} {pos : Pos} {ea eb : Expr} {st : Stmt} {sts : List Stmt}
theorem p_seq {f g : En → SR} (h1 : PS X st (tEx W X.K F f)) (h2 : PSs X sts (tEx W X.K F g)) : PSs X (st :: sts) (tEx W X.K F fun e => (f e).seq g) :=
  wPSs (pss_cons h1 h2) fun D σ H ⟨S, e, R, P⟩ => ⟨S, e, R, P.seq⟩
theorem p_nil : PSs X [] (tEx W X.K F fun e => .nx e) := wPSs pss_nil fun D σ H ⟨S, e, R, P⟩ => P σ S H R .refl
theorem p_never {f : En → SR} (hf : ∀ e, f e = .no) : PS X st (tEx W X.K F f) := wPS ps_never fun D σ H ⟨S, e, R, P⟩ => by rw [hf] at P; exact P
theorem p_exp {f : En → R (Cl × En)} (h : PE X ea (tEv W X.K f)) (hs : swapsWith ea none pos.line X.env = pure false) : PS X (.Expr ea pos) (tEx W X.K F fun e => (f e).sr fun (_, e) => .nx e) := by
  refine wPS (ps_expr h hs) fun D σ H ⟨S, e, R, P⟩ => ?_
  exact ⟨S, e, R.rel, (P.sr R).mono fun r S1 e1 H1 _ R1 t1 ⟨RF, ST, P1⟩ v hv => P1 σ S1 H1 RF .refl⟩
theorem p_ret {f : En → R (Cl × En)} (h : PE X ea (tEv W X.K f)) : PS X (.Return (some ea) pos) (tEx W X.K F fun e => (f e).sr fun (r, e) => .rt r e) := by
  refine wPS (ps_ret h) fun D σ H ⟨S, e, R, P⟩ => ?_
  exact ⟨S, e, R.rel, (P.sr R).mono fun r S1 e1 H1 _ R1 t1 ⟨RF, ST, P1⟩ v hv => P1 v σ S1 H1 RF (hv.rvr R)⟩
theorem p_retN : PS X (.Return none pos) (tEx W X.K F fun e => .rt (.sh .none) e) := wPS ps_retN fun D σ H ⟨S, e, R, P⟩ => P _ σ S H R .non
theorem p_brk : PS X (.Break pos) (tEx W X.K F fun e => .bk e) := wPS ps_break fun D σ H ⟨S, e, R, P⟩ => P σ S H R .refl
theorem p_cnt : PS X (.Continue pos) (tEx W X.K F fun e => .ct e) := wPS ps_continue fun D σ H ⟨S, e, R, P⟩ => P σ S H R .refl
theorem p_pas : PS X (.Pass pos) (tEx W X.K F fun e => .nx e) := wPS ps_pass fun D σ H ⟨S, e, R, P⟩ => P σ S H R .refl
theorem p_ite {c : Expr} {a b : List Stmt} {fc : En → R (Bool × En)} {f g : En → SR} (hc : PT X c (tTst W X.K fc)) (ha : PSs X a (tEx W X.K F f)) (hb : PSs X b (tEx W X.K F g)) :
    PS X (.If c a b pos) (tEx W X.K F fun e => (fc e).sr fun (r, e) => if r then f e else g e) := by
  refine wPS (ps_if hc ha hb) fun D σ H ⟨S, e, R, P⟩ => ?_
  refine ⟨S, e, R.rel, (P.sr R).mono fun r S1 e1 H1 _ R1 t1 ⟨RF, ST, P1⟩ => ?_⟩
  cases r with
  | true => exact iteT ⟨S1, e1, RF, P1⟩
  | false => exact iteF ⟨S1, e1, RF, P1⟩
def asgK (tg : CT) : Cl × En → SR := fun (r, e) => match storeT tg r e with
    | some e => .nx e
    | none => .no
theorem asg_nm {t : TE} {f : En → R (Cl × En)} {i : Nat} (h : ∀ σ H Q, tEv W X.K f σ H Q → t σ H Q) : ∀ D σ H, tEx W X.K F (fun e => (f e).sr (asgK (.nm i))) D σ H → tAsg t (gName i) D σ H := fun D σ H ⟨S, e, R, P⟩ => by
  refine h σ H _ ⟨S, e, R.rel, (P.sr R).mono fun r S1 e1 H1 _ R1 t1 ⟨RF, ST, P1⟩ v hv => ?_⟩
  unfold asgK at P1
  cases q : storeT (.nm i) r e1 with
  | none => simp only [q] at P1; exact P1.elim
  | some e2 =>
    simp only [q] at P1
    obtain ⟨R2, t2, _⟩ := RF.store (v := v) (show store e1 i r = some e2 from q) (hv.rvr R)
    exact P1 _ S1 H1 R2 t2
theorem p_asgN {i : Nat} {x : Str} {f : En → R (Cl × En)} {pos' : Pos} (hN : X.N.Nodup) (hi : X.N[i]? = some x) (hx : Loc X.env.scope x) (he : PE X ea (tEv W X.K f)) (hs : swapsWith ea (some (.Name x pos')) pos.line X.env = pure false) (hf : X.fn x = true ∨ X.env.scope.names.lookup x = some .local) :
    PS X (.Assign [.Name x pos'] ea pos) (tEx W X.K F fun e => (f e).sr (asgK (.nm i))) := wPS (ps_set hN hi hx he hs hf) (asg_nm fun _ _ _ h => h)
theorem st_tup {tg : CT} {r : Cl} {e1 e2 : En} {H1 : Hp} {S1 : Addr → Prop} {v : V} (ht : (∃ t, tg = .tup t)) (hv : RV X.K H σ S1 e1 H1 v r) (q : storeT tg r e1 = some e2) : ∃ d, bindT tg d e1 = some e2 ∧ Rp X.K (rst H1 S1) v d := by
  obtain ⟨t, rfl⟩ := ht
  have q : (valOf r).bind (fun d => bindT (.tup t) d e1) = some e2 := q
  rw [Option.bind_eq_some_iff] at q
  obtain ⟨d, h1, h2⟩ := q
  cases r with
  | sh d' => cases h1; exact ⟨d, h2, hv⟩
  | ow d' =>
    cases h1
    obtain ⟨p, _, _, _, _, xs, ds, rfl, _⟩ := hv
    simp [bindT] at h2
  | _ => exact hv.elim
theorem RelF.bound {tg : CT} {d : D} (R : RelF X.K F S e σ H) (hb : bindT tg d e = some e') (R' : Rel X.K S e' σ' H) (h1 : ∀ j, j ∉ slotsT tg → σ'[j]? = σ[j]?) (h2 : σ'.length = σ.length) : RelF X.K F S e' σ' H ∧ StTr σ S e H σ' S e' H ∧ ∀ i b, HeldA e' σ' i b → HeldA e σ i b := by
  obtain ⟨g1, g2, g3⟩ := (bindT_get tg).1 d e e' hb
  have hh : ∀ i b, HeldA e' σ' i b → HeldA e σ i b := fun i b ⟨⟨x, q1⟩, q2⟩ => by
    have hi : i ∉ slotsT tg := fun z => by
      obtain ⟨y, q⟩ := g2 i z
      rw [q] at q1; cases q1
    exact ⟨⟨x, g1 i hi ▸ q1⟩, by unfold At; rw [← h1 i hi]; exact q2⟩
  have gn : ∀ i, (∃ d, get e i = .le d) ∨ (∃ d, get e i = .io d) → i ∉ slotsT tg := fun i hi z => by
    have key : ∀ (t : CT) , (∀ d e e', bindT t d e = some e' → ∀ i ∈ slotsT t, (∀ d, get e i ≠ .le d) ∧ ∀ d, get e i ≠ .io d) ∧ (∀ ds e e', bindTs t ds e = some e' → ∀ i ∈ slotsT t, (∀ d, get e i ≠ .le d) ∧ ∀ d, get e i ≠ .io d) := fun t => by
      induction t with
      | nm j =>
        refine ⟨fun d e e' hb i hi => ?_, fun ds e e' hb => by simp [bindTs] at hb⟩
        obtain ⟨_, _, q⟩ := bind_nm hb
        have : i = j := by simpa [slotsT] using hi
        subst this
        rcases q with q | ⟨_, q⟩ | ⟨_, q⟩ <;> rw [q] <;> simp
      | tup t ih =>
        refine ⟨fun d e e' hb i hi => ?_, fun ds e e' hb => by simp [bindTs] at hb⟩
        cases d with
        | tuple ds =>
          have h : bindTs t ds e = some e' := by unfold bindT at hb; exact hb
          exact ih.2 ds e e' h i hi
        | _ => simp [bindT] at hb
      | nil => exact ⟨fun d e e' hb => by simp [bindT] at hb, fun ds e e' hb i hi => by simp [slotsT] at hi⟩
      | cons a t ih1 ih2 =>
        refine ⟨fun d e e' hb => by simp [bindT] at hb, fun ds e e' hb i hi => ?_⟩
        cases ds with
        | nil => simp [bindTs] at hb
        | cons d ds =>
          have h : (bindT a d e).bind (bindTs t ds) = some e' := by unfold bindTs at hb; exact hb
          rw [Option.bind_eq_some_iff] at h
          obtain ⟨e1, b1, b2⟩ := h
          by_cases z : i ∈ slotsT a
          · exact ih1.1 d e e1 b1 i z
          · have hi : i ∈ slotsT t := by
              rcases (by simpa [slotsT] using hi : i ∈ slotsT a ∨ i ∈ slotsT t) with h | h
              · exact absurd h z
              · exact h
            have := ih2.2 ds e1 e' b2 i hi
            rw [((bindT_get a).1 d e e1 b1).1 i z] at this
            exact this
    obtain ⟨k1, k2⟩ := (key tg).1 d e e' hb i z
    rcases hi with ⟨d, q⟩ | ⟨d, q⟩
    · exact k1 d q
    · exact k2 d q
  refine ⟨⟨R', R.keep, fun i b hb => R.own i b (hh i b hb), R.zs, R.gr, R.dom, fun i d b hd ha => ?_, R.zt⟩, ⟨fun _ _ h => h, fun _ h => h, fun i d h => ?_, fun i d h => ?_, g3⟩, hh⟩
  · have hi : i ∉ slotsT tg := fun z => by
      obtain ⟨y, q⟩ := g2 i z
      rw [q] at hd; cases hd
    exact R.io i d b (g1 i hi ▸ hd) (by unfold At; rw [← h1 i hi]; exact ha)
  · have hi := gn i (.inl ⟨d, h⟩)
    exact ⟨by rw [g1 i hi]; exact h, h1 i hi, fun _ _ => rfl⟩
  · have hi := gn i (.inr ⟨d, h⟩)
    exact ⟨d, by rw [g1 i hi]; exact h⟩
theorem p_asgT {tg : CT} {t : Expr} {f : En → R (Cl × En)} (ht : ∃ x, tg = .tup x) (he : PE X ea (tEv W X.K f)) (hg : PG X t (tB1 X.K tg)) (hs : swapsWithSole [t] ea pos.line X.env = pure false) (hw : swappedStores [t] ea X.env = pure none) (h1 : (assignEach [t] X.env).map (·.2) = [assign t X.env]) :
    PS X (.Assign [t] ea pos) (tEx W X.K F fun e => (f e).sr (asgK tg)) := by
  refine wPS (ps_asg he hg hs hw h1) fun D σ H ⟨S, e, R, P⟩ => ?_
  refine ⟨S, e, R.rel, (P.sr R).mono fun r S1 e1 H1 _ R1 t1 ⟨RF, ST, P1⟩ v hv => ?_⟩
  unfold asgK at P1
  cases q : storeT tg r e1 with
  | none => simp only [q] at P1; exact P1.elim
  | some e2 =>
    simp only [q] at P1
    obtain ⟨d, hb, hr⟩ := st_tup ht hv q
    refine ⟨S1, e1, d, e2, R1, hr, hb, fun σ' R2 k l => ?_⟩
    obtain ⟨R3, t3, _⟩ := RF.bound hb R2 k l
    exact P1 σ' S1 H1 R3 t3
/-- a slot's own list is changed in place -/
theorem RelF.mutated {i : Nat} {d d' : D} {a : Addr} {xs' : List V} (R : RelF X.K F S e σ H) (hd : muta (get e i) = some d) (ha : At σ i (.ref a)) (hx : ∃ ds', d' = .list ds' ∧ RpAll X.K (rst H S) xs' ds') :
    RelF X.K F S (put e i (remut (get e i) d')) σ (upd H a (.lst xs')) ∧ StTr σ S e H σ S (put e i (remut (get e i) d')) (upd H a (.lst xs')) := by
  obtain ⟨ds', rfl, hx⟩ := hx
  obtain ⟨c, h3, h4, _⟩ := R.rel.held i d (mut_hel hd)
  have : c = a := h3.ref ha
  subst this
  have ne : ∀ b o, H b = some o → ¬ S b → b ≠ c := fun b o _ n z => n (z ▸ h4)
  have sm : Same (rst H S) (rst (upd H c (.lst xs')) S) := fun b o q => by
    obtain ⟨q1, q2⟩ := rst_in.mp q
    exact rst_in.mpr ⟨by rw [upd_ne (ne b o q1 q2)]; exact q1, q2⟩
  have dom : ∀ b, H b ≠ none → upd H c (.lst xs') b ≠ none := fun b q => by
    by_cases z : b = c
    · subst z; rw [upd_same]; simp
    · rw [upd_ne z]; exact q
  obtain ⟨r1, t1, _⟩ := R.rel.changed (S' := S) (H' := upd H c (.lst xs')) (d' := .list ds') hd ha (fun b o hb hn => by rw [upd_ne hn]; exact hb) dom (fun _ q => q) (fun _ _ _ q => q) (fun b q => dom b (R.rel.trk b q)) ⟨xs', ds', rfl, upd_same, hx.mono sm⟩
  exact ⟨R.tr r1 t1, t1.st R.rel⟩
theorem p_put {x : Nat} {o ie : Expr} {f g : En → R (D × En)} {p1 : Pos} (hv : PE X ea (tVal W X.K f)) (ho : PE X o (tVar x)) (hi : PE X ie (tVal W X.K g)) (hs : swapsWithSole [.Subscript o ie p1] ea pos.line X.env = pure false) (hw : swappedStores [.Subscript o ie p1] ea X.env = pure none)
    (ha : ∀ v, assign (.Subscript o ie p1) X.env v = (do
      let ov ← holding [v] (eval o X.env)
      let iv ← holding [v, ov] (eval ie X.env)
      standAt p1
      holding [v, ov, iv] (setItem ov iv v)
      release [v, ov, iv] [])) (h1 : (assignEach [.Subscript o ie p1] X.env).map (·.2) = [assign (.Subscript o ie p1) X.env]) :
    PS X (.Assign [.Subscript o ie p1] ea pos) (tEx W X.K F fun e => if (muta (get e x)).isSome then (f e).sr fun (d, e) => (g e).sr fun (j, e) => match muta (get e x) with
    | some (.list xs) => match j with
      | .int j => match setI xs j d with
        | some ys => .nx (PV.put e x (remut (get e x) (.list ys)))
        | none => .no
      | _ => .no
    | _ => .no else .no) := by
  refine wPS (ps_asg hv (pg_sub ho hi set_list ha) hs hw h1) fun D σ H ⟨S, e, R, P⟩ => ?_
  cases hm : muta (get e x) with
  | none => simp only [hm, Option.isSome_none] at P; exact P.elim
  | some d0 =>
    simp only [hm, Option.isSome_some, if_true] at P
    obtain ⟨a, hat, _⟩ := R.rel.held x d0 (mut_hel hm)
    refine ⟨S, e, R.rel, (P.sr R).mono fun d S1 e1 H1 _ R1 t1 ⟨RF, ST, P1⟩ v hv => ?_⟩
    refine ⟨.ref a, hat, S1, e1, R1, (P1.sr RF).mono fun j S2 e2 H2 _ R2 t2 ⟨RF2, ST2, P2⟩ w hw => ?_⟩
    cases hm2 : muta (get e2 x) with
    | none => simp only [hm2] at P2; exact P2.elim
    | some d2 => cases d2 with
      | list xs =>
        simp only [hm2] at P2
        cases j with
        | int j =>
          simp only at P2
          cases hq : setI xs j d with
          | none => rw [hq] at P2; exact P2.elim
          | some ys =>
            rw [hq] at P2
            obtain ⟨k, hk, rfl⟩ := Option.map_eq_some_iff.mp hq
            obtain ⟨c, h3, h4, vs, ds, e', h5, h6⟩ := R2.held x _ (mut_hel hm2)
            cases e'
            have : c = a := h3.ref hat
            subst this
            have hvs := h6.length
            obtain ⟨RF3, ST3⟩ := RF2.mutated (d' := .list (xs.set k d)) (xs' := vs.set k v) hm2 hat ⟨_, rfl, RpAll.set (hv.mono (t2.same R1)) k h6⟩
            exact ⟨c, vs, j, k, rfl, hw.int_inv, h5, by rw [hvs]; exact hk, P2 σ S2 _ RF3 ST3⟩
        | _ => exact P2.elim
      | _ => simp only [hm2] at P2; exact P2.elim
theorem p_app {x : Nat} {o : Expr} {f : En → R (D × En)} {p1 p2 : Pos} (hv : PE X ea (tVal W X.K f)) (ho : PE X o (tVar x)) (hbase : attributeBase o ("append" : Str) X.env (eval o X.env) = eval o X.env) (hs : starEach [ea] X.env = [(false, eval ea X.env)]) (hln : (p1.endLine == p2.line) = true) :
    PS X (.Expr (.Call (.Attribute o "append" p1) [ea] [] p2) pos) (tEx W X.K F fun e => if (muta (get e x)).isSome then (f e).sr fun (d, e) => match muta (get e x) with
    | some (.list xs) => if xs.length < sizeLine then .nx (put e x (remut (get e x) (.list (xs ++ [d])))) else .no
    | _ => .no else .no) := by
  have hm : PE X (.Call (.Attribute o "append" p1) [ea] [] p2) _ := pe_bm PySem.F.plainAttrs_list PySem.F.slot_list_append PySem.F.type_list_append mt_append ho (pa_cons hv pa_nil (by rw [hs]; rfl)) hbase (by rw [hs]; rfl) hln (by rw [hs]; rfl) rfl
  refine wPS (ps_expr hm rfl) fun D σ H ⟨S, e, R, P⟩ => ?_
  cases hm : muta (get e x) with
  | none => simp only [hm, Option.isSome_none] at P; exact P.elim
  | some d0 =>
    simp only [hm, Option.isSome_some, if_true] at P
    obtain ⟨a, hat, _, vs0, _, _, h00, _⟩ := R.rel.held x d0 (mut_hel hm)
    refine ⟨.ref a, hat, .inl ⟨rfl, vs0, .of h00⟩, S, e, R.rel, (P.sr R).mono fun d S1 e1 H1 _ R1 t1 ⟨RF, ST, P1⟩ v hv => ?_⟩
    cases hm2 : muta (get e1 x) with
    | none => simp only [hm2] at P1; exact P1.elim
    | some d2 => cases d2 with
      | list xs =>
        simp only [hm2] at P1
        by_cases hl : xs.length < sizeLine
        · rw [if_pos hl] at P1
          obtain ⟨c, h3, h4, vs, ds, e', h5, h6⟩ := R1.held x _ (mut_hel hm2)
          cases e'
          have : c = a := h3.ref hat
          subst this
          obtain ⟨RF3, ST3⟩ := RF.mutated (d' := .list (xs ++ [d])) (xs' := vs ++ [v]) hm2 hat ⟨_, rfl, h6.append (.one hv)⟩
          exact ⟨c, vs, v, rfl, rfl, h5, by rw [h6.length]; exact hl, P1 σ S1 _ RF3 ST3⟩
        · rw [if_neg hl] at P1; exact P1.elim
      | _ => simp only [hm2] at P1; exact P1.elim
theorem p_ext {x : Nat} {o : Expr} {f : En → R (D × En)} {p1 p2 : Pos} (hv : PE X ea (tVal W X.K f)) (ho : PE X o (tVar x)) (hbase : attributeBase o ("extend" : Str) X.env (eval o X.env) = eval o X.env) (hs : starEach [ea] X.env = [(false, eval ea X.env)]) (hln : (p1.endLine == p2.line) = true) :
    PS X (.Expr (.Call (.Attribute o "extend" p1) [ea] [] p2) pos) (tEx W X.K F fun e => if (muta (get e x)).isSome then (f e).sr fun (d, e) => match muta (get e x) with
    | some (.list xs) => match d with
      | .list ys => if xs.length + ys.length ≤ sizeLine then .nx (put e x (remut (get e x) (.list (xs ++ ys)))) else .no
      | _ => .no
    | _ => .no else .no) := by
  have hm : PE X (.Call (.Attribute o "extend" p1) [ea] [] p2) _ := pe_bm PySem.F.plainAttrs_list PySem.F.slot_list_extend PySem.F.type_list_extend mt_extend ho (pa_cons hv pa_nil (by rw [hs]; rfl)) hbase (by rw [hs]; rfl) hln (by rw [hs]; rfl) rfl
  refine wPS (ps_expr hm rfl) fun D σ H ⟨S, e, R, P⟩ => ?_
  cases hm : muta (get e x) with
  | none => simp only [hm, Option.isSome_none] at P; exact P.elim
  | some d0 =>
    simp only [hm, Option.isSome_some, if_true] at P
    obtain ⟨a, hat, _, vs0, _, _, h00, _⟩ := R.rel.held x d0 (mut_hel hm)
    refine ⟨.ref a, hat, .inl ⟨rfl, vs0, .of h00⟩, S, e, R.rel, (P.sr R).mono fun d S1 e1 H1 _ R1 t1 ⟨RF, ST, P1⟩ v hv => ?_⟩
    cases hm2 : muta (get e1 x) with
    | none => simp only [hm2] at P1; exact P1.elim
    | some d2 => cases d2 with
      | list xs =>
        simp only [hm2] at P1
        cases d with
        | list ys =>
          simp only at P1
          by_cases hl : xs.length + ys.length ≤ sizeLine
          · rw [if_pos hl] at P1
            obtain ⟨c, h3, h4, vs, ds, e', h5, h6⟩ := R1.held x _ (mut_hel hm2)
            cases e'
            have : c = a := h3.ref hat
            subst this
            obtain ⟨b, ws, rfl, h7, h8⟩ := hv.list_inv
            obtain ⟨RF3, ST3⟩ := RF.mutated (d' := .list (xs ++ ys)) (xs' := vs ++ ws) hm2 hat ⟨_, rfl, h6.append h8⟩
            exact ⟨c, b, vs, ws, rfl, rfl, h5, rst_same _ _ h7, by rw [h6.length, h8.length]; exact hl, P1 σ S1 _ RF3 ST3⟩
          · rw [if_neg hl] at P1; exact P1.elim
        | _ => exact P1.elim
      | _ => simp only [hm2] at P1; exact P1.elim
end
end PV
end
section
namespace PV
open PySem L2 Classical

section
variable {X : Cx} {W : WX} {F : Fm} {σ σ' : St} {S S' S1 : Addr → Prop} {e e' e1 : En} {H H' H1 : Hp} {pos : Pos} {ea eb : Expr} {st : Stmt} {sts : List Stmt}
theorem RelF.lend {K : PySem.W.Frag} (R : RelF K F S e σ H) (x : Op) : RelF K F S (PV.lend e x) σ H := by
  have hh : ∀ i b, HeldA (PV.lend e x) σ i b → HeldA e σ i b := fun i b ⟨⟨d, h1⟩, h2⟩ => by
    rcases lend_get e x i with q | ⟨_, d', q1, q2⟩
    · rw [q] at h1; exact ⟨⟨d, h1⟩, h2⟩
    · exact ⟨⟨d', by rw [q1]; rfl⟩, h2⟩
  refine ⟨R.rel.lend x, R.keep, fun i b hb => R.own i b (hh i b hb), R.zs, R.gr, R.dom, fun i d b hd ha => ?_, R.zt⟩
  rcases lend_get e x i with q | ⟨_, d', q1, q2⟩
  · exact R.io i d b (q ▸ hd) ha
  · rw [q2] at hd; cases hd
theorem unlend_get (e1 e' : En) (x : Op) (i : Nat) : get (unlend e1 e' x) i = get e' i ∨ (x = .slot i ∧ ∃ d0 d, get e1 i = .ow d0 ∧ get e' i = .le d ∧ get (unlend e1 e' x) i = .ow d) := by
  cases x with
  | val d => exact .inl rfl
  | slot j =>
    rcases unlend_cases e1 e' j with ⟨d0, d, h0, h, q⟩ | ⟨_, q⟩
    · rw [q]
      by_cases z : j = i
      · subst z
        exact .inr ⟨rfl, d0, d, h0, h, get_put_self (get_lt (by rw [h]; simp))⟩
      · rw [get_put_ne z]; exact .inl rfl
    · rw [q]; exact .inl rfl
theorem RelF.unlend {K : PySem.W.Frag} (R : RelF K F S e σ H) (e0 : En) (x : Op) : RelF K F S (PV.unlend e0 e x) σ H := by
  have hh : ∀ i b, HeldA (PV.unlend e0 e x) σ i b → HeldA e σ i b := fun i b ⟨⟨d, h1⟩, h2⟩ => by
    rcases unlend_get e0 e x i with q | ⟨_, _, d', _, q1, q2⟩
    · rw [q] at h1; exact ⟨⟨d, h1⟩, h2⟩
    · exact ⟨⟨d', by rw [q1]; rfl⟩, h2⟩
  refine ⟨R.rel.unlend e0 x, R.keep, fun i b hb => R.own i b (hh i b hb), R.zs, R.gr, R.dom, fun i d b hd ha => ?_, R.zt⟩
  rcases unlend_get e0 e x i with q | ⟨_, _, d', _, q1, q2⟩
  · exact R.io i d b (q ▸ hd) ha
  · rw [q2] at hd; cases hd
/-- behind a loop whose list was lent -/
theorem StTr.back {x : Op} (t : StTr σ S e H σ' S' e' H') (he : e = PV.lend e1 x) : StTr σ S e1 H σ' S' (PV.unlend e1 e' x) H' := by
  subst he
  refine ⟨t.same, t.dom, fun i d h => ?_, fun i d h => ?_, ?_⟩
  · have h2 : get (PV.lend e1 x) i = .le d := by
      rcases lend_get e1 x i with q | ⟨_, d', q1, _⟩
      · rw [q]; exact h
      · rw [q1] at h; cases h
    obtain ⟨a1, a2, a3⟩ := t.le i d h2
    refine ⟨?_, a2, a3⟩
    rcases unlend_get e1 e' x i with q | ⟨_, d0, d', q1, _⟩
    · rw [q]; exact a1
    · rw [q1] at h; cases h
  · have h2 : get (PV.lend e1 x) i = .io d := by
      rcases lend_get e1 x i with q | ⟨_, d', q1, _⟩
      · rw [q]; exact h
      · rw [q1] at h; cases h
    obtain ⟨d', a1⟩ := t.io i d h2
    refine ⟨d', ?_⟩
    rcases unlend_get e1 e' x i with q | ⟨_, d0, d', q1, _⟩
    · rw [q]; exact a1
    · rw [q1] at h; cases h
  · rw [unlend_len, t.len, lend_len]
def forB (tg : CT) (f : En → SR) (d : D) (e : En) : SR := match bindT tg d e with
  | some e => f e
  | none => .no
theorem p_for {tg iter : Expr} {ct : CT} {body : List Stmt} {fi : En → R ((List D × Op) × En)} {f : En → SR} (hp : PassesOwn (model X.prog X.w) X.A X.env X.xe) (hc : X.calm = true) (hi : PI X tg iter (tItL W X.K fi)) (hg : PG X tg (tB1 X.K ct)) (hb : PSs X body (tEx W X.K F f)) (hs : ∀ x, foldedSetIterable iter X.env x = pure x) :
    PS X (.For tg iter body [] pos) (tEx W X.K F fun e => (fi e).sr fun ((xs, x), e) => (forL (forB ct f) xs (PV.lend e x)).seq fun e' => .nx (PV.unlend e e' x)) := by
  refine wPS (ps_for hp hc hi hg hb hs) fun D σ H ⟨S, e, R, P⟩ => ?_
  refine ⟨S, e, R.rel, (P.sr R).mono fun (xs, x) S1 e1 H1 _ R1 t1 ⟨RF, ST, P1⟩ J IT hlen => ?_⟩
  dsimp only at P1
  have IT : ItOk X.K J xs x σ e1 S1 H1 := IT
  generalize he2 : PV.lend e1 x = e2 at P1
  have RF2 : RelF X.K F S1 e2 σ H1 := he2 ▸ RF.lend x
  generalize hres : forL (forB ct f) xs e2 = res at P1
  let Wd : Nat → St → Hp → Prop := fun i σ' H' => ∃ S' e', RelF X.K F S' e' σ' H' ∧ StTr σ S1 e2 H1 σ' S' e' H' ∧ forL (forB ct f) (xs.drop i) e' = res
  have lives : ∀ σ' S' e' H', StTr σ S1 e2 H1 σ' S' e' H' → Live σ e1 x S1 H1 S' H' := fun σ' S' e' H' T => by
    refine ⟨T.same, fun i a hx hk ha => ?_⟩
    have : ∃ d, get e2 i = .le d := by
      rw [← he2]
      rcases lend_get e1 x i with q | ⟨_, d', q1, q2⟩
      · rcases hk with ⟨d, z⟩ | ⟨d, z⟩
        · rcases lend_cases e1 i with ⟨d2, z1, z2⟩ | ⟨z1, _⟩
          · rw [hx, z2]; exact ⟨d2, get_put_self (get_lt (by rw [z1]; simp))⟩
          · exact absurd z (z1 d)
        · exact ⟨d, q.trans z⟩
      · exact ⟨d', q2⟩
    obtain ⟨d, hd⟩ := this
    exact (T.le i d hd).2.2 a ha
  -- the end
  have done : ∀ σ' S' e' H', RelF X.K F S' e' σ' H' → StTr σ S1 e2 H1 σ' S' e' H' → res = .nx e' → D.nx σ' H' := fun σ' S' e' H' R' T q => by
    subst q
    exact P1 σ' S' H' (R'.unlend e1 x) (T.back he2.symm)
  refine ⟨fun i m σ' H' => m = xs.length - i ∧ i ≤ xs.length ∧ Wd i σ' H', ⟨xs.length, by simp, Nat.zero_le _, S1, e2, RF2, .refl, hres⟩, ?_⟩
  rintro i m σ' H' ⟨rfl, hile, S', e', R', T, hrun⟩
  have LV := lives σ' S' e' H' T
  by_cases hlt : i < xs.length
  · refine .inr ⟨IT.go i S' H' hlt LV, Wd (i + 1), fun σ'' H'' w => ⟨xs.length - (i + 1), by omega, rfl, hlt, w⟩, fun v H'' y => ?_⟩
    have hdi : xs[i]? = some xs[i] := List.getElem?_eq_getElem hlt
    have item : RelF X.K F S' e' σ' H'' ∧ StTr σ' S' e' H' σ' S' e' H'' ∧ Rp X.K (rst H'' S') v xs[i] := by
      rcases IT.yld i _ S' H' v H'' hdi LV y with ⟨rfl, r⟩ | ⟨Ta, ws, es, e1', rfl, hT, rfl, r⟩
      · exact ⟨R', .refl, r⟩
      · obtain ⟨a1, a2, a3, a4⟩ := R'.rel.lay (o := .tup ws) hT
        refine ⟨R'.tr a1 a2, a2.st R'.rel, ?_⟩
        rw [e1']
        exact .tup (.inl (.inl (rst_in.mpr ⟨upd_same, a4⟩))) (r.mono a3)
    obtain ⟨R'', T'', rv⟩ := item
    have hdrop : xs.drop i = xs[i] :: xs.drop (i + 1) := by rw [List.drop_eq_getElem_cons hlt]
    rw [hdrop] at hrun
    have hrun : (match forB ct f xs[i] e' with
      | .nx e => forL (forB ct f) (xs.drop (i + 1)) e
      | .ct e => forL (forB ct f) (xs.drop (i + 1)) e
      | .bk e => .nx e
      | r => r) = res := hrun
    unfold forB at hrun
    cases hbt : bindT ct xs[i] e' with
    | none =>
      rw [hbt] at hrun
      have hrun : SR.no = res := hrun
      subst hrun
      exact P1.elim
    | some e3 =>
      rw [hbt] at hrun
      refine ⟨S', e', xs[i], e3, R''.rel, rv, hbt, fun σ2 R3 k2 l2 => ?_⟩
      obtain ⟨RF3, ST3, _⟩ := R''.bound hbt R3 k2 l2
      have T3 := T.trans (T''.trans ST3)
      refine ⟨S', e3, RF3, ?_⟩
      dsimp only at hrun
      cases hf : f e3 with
      | nx e4 => rw [hf] at hrun; exact fun σ4 S4 H4 R4 t4 => ⟨S4, e4, R4, T3.trans t4, hrun⟩
      | ct e4 => rw [hf] at hrun; exact fun σ4 S4 H4 R4 t4 => ⟨S4, e4, R4, T3.trans t4, hrun⟩
      | bk e4 => rw [hf] at hrun; exact fun σ4 S4 H4 R4 t4 => done σ4 S4 e4 H4 R4 (T3.trans t4) hrun.symm
      | rt r e4 => rw [hf] at hrun; have hrun : SR.rt r e4 = res := hrun; subst hrun; exact P1
      | rz r e4 => rw [hf] at hrun; have hrun : SR.rz r e4 = res := hrun; subst hrun; exact P1
      | no => rw [hf] at hrun; have hrun : SR.no = res := hrun; subst hrun; exact P1.elim
  · have ei : i = xs.length := by omega
    subst ei
    refine .inl ⟨IT.stop S' H' LV, ?_⟩
    rw [List.drop_length] at hrun
    exact done σ' S' e' H' R' T hrun.symm
theorem p_while {c : Expr} {body : List Stmt} {fc : En → R (Bool × En)} {f : En → SR} {n : En → Nat} (hp : PassesOwn (model X.prog X.w) X.A X.env X.xe) (hc : PT X c (tTst W X.K fc)) (hb : PSs X body (tEx W X.K F f)) :
    PS X (.While c body [] pos) (tEx W X.K F fun e => whileL fc f (n e) e) := by
  refine wPS (ps_while hp hc hb) fun D σ H ⟨S, e, R, P⟩ => ?_
  have P : PostS W X.K F σ S e H D (whileL fc f (n e) e) := P
  generalize hres : whileL fc f (n e) e = res at P
  let Wd : Nat → St → Hp → Prop := fun m σ' H' => ∃ S' e', RelF X.K F S' e' σ' H' ∧ StTr σ S e H σ' S' e' H' ∧ whileL fc f m e' = res
  refine ⟨Wd, ⟨n e, S, e, R, .refl, hres⟩, ?_⟩
  rintro m σ' H' ⟨S', e', R', T, hrun⟩
  cases m with
  | zero =>
    have hrun : SR.no = res := hrun
    subst hrun
    exact P.elim
  | succ m =>
    have hrun : ((fc e').sr fun (b, e) => if b then (match f e with
      | .nx e => whileL fc f m e
      | .ct e => whileL fc f m e
      | .bk e => .nx e
      | r => r) else .nx e) = res := hrun
    have P' : PostS W X.K F σ' S' e' H' D ((fc e').sr fun (b, e) => if b then (match f e with
      | .nx e => whileL fc f m e
      | .ct e => whileL fc f m e
      | .bk e => .nx e
      | r => r) else .nx e) := by rw [hrun]; exact P.from T
    refine ⟨S', e', R'.rel, (P'.sr R').mono fun b S1 e1 H1 hq R1 t1 ⟨RF, ST, P1⟩ => ?_⟩
    rw [hq] at hrun
    have hrun : (if b then (match f e1 with
      | .nx e => whileL fc f m e
      | .ct e => whileL fc f m e
      | .bk e => .nx e
      | r => r) else .nx e1) = res := hrun
    cases b with
    | false => exact iteF (P1 σ' S1 H1 RF .refl)
    | true =>
      refine iteT ⟨Wd m, fun σ'' H'' w => ⟨m, Nat.lt_succ_self m, w⟩, S1, e1, RF, ?_⟩
      have T1 := T.trans ST
      rw [if_pos rfl] at hrun
      dsimp only at P1
      rw [if_pos rfl] at P1
      cases hf : f e1 with
      | nx e4 => rw [hf] at hrun; exact fun σ4 S4 H4 R4 t4 => ⟨S4, e4, R4, T1.trans t4, hrun⟩
      | ct e4 => rw [hf] at hrun; exact fun σ4 S4 H4 R4 t4 => ⟨S4, e4, R4, T1.trans t4, hrun⟩
      | bk e4 => rw [hf] at P1; exact P1
      | rt r e4 => rw [hf] at P1; exact P1
      | rz r e4 => rw [hf] at P1; exact P1
      | no => rw [hf] at P1; exact P1.elim
end
end PV
end
section
namespace PV
open PySem L2 Classical

section
variable {X : Cx} {W : WX} {F : Fm} {σ σ' : St} {S S' S1 : Addr → Prop} {e e' e1 : En} {H H' H1 : Hp} {pos : Pos} {ea eb : Expr} {st : Stmt} {sts : List Stmt} {K : PySem.W.Frag}
/-! ### several names at once -/
def RVs (K : PySem.W.Frag) (H : Hp) (σ : St) (S' : Addr → Prop) (e' : En) (H' : Hp) : List V → List Cl → Prop
  | [], [] => True
  | v :: vs, r :: rs => RV K H σ S' e' H' v r ∧ RVs K H σ S' e' H' vs rs ∧ ∀ p d, r = .ow d → v = .ref p → ∀ (j : Nat) (w : V) (d' : D), vs[j]? = some w → rs[j]? = some (.ow d') → w ≠ .ref p
  | _, _ => False
theorem RV.keep {v : V} {r : Cl} {S2 : Addr → Prop} {e2 : En} {H2 : Hp} (R1 : Rel K S1 e1 σ H1) (t : Tr σ S1 e1 H1 S2 e2 H2) (h : RV K H σ S1 e1 H1 v r) : RV K H σ S2 e2 H2 v r := by
  cases r with
  | sh d => exact Rp.mono (t.same R1) h
  | ow d =>
    obtain ⟨p, h1, h2, h3, h4, xs, ds, h5, h6, h7⟩ := h
    have no : ¬ OwA e1 σ p := fun z => by
      obtain ⟨i, hi⟩ := z.held
      exact h4 i hi
    exact ⟨p, h1, h2, t.hid p h3 no, fun i z => h4 i (t.held z), xs, ds, h5, t.fr p _ h6 no, h7.mono (t.same R1)⟩
  | _ => exact h
theorem RVs.dom {S2 : Addr → Prop} {e2 : En} {H2 : Hp} (t : Tr σ S e H S1 e1 H1) : ∀ {vs : List V} {rs : List Cl}, RVs K H1 σ S2 e2 H2 vs rs → RVs K H σ S2 e2 H2 vs rs
  | [], [], _ => trivial
  | _ :: _, _ :: _, ⟨a, b, c⟩ => ⟨a.dom t, RVs.dom t b, c⟩
  | [], _ :: _, h => h.elim
  | _ :: _, [], h => h.elim
theorem RVs.fresh {S2 : Addr → Prop} {e2 : En} {H2 : Hp} : ∀ {vs : List V} {rs : List Cl}, RVs K H1 σ S2 e2 H2 vs rs → ∀ (j : Nat) (w : V) (d' : D), vs[j]? = some w → rs[j]? = some (.ow d') → ∃ q, w = .ref q ∧ H1 q = none
  | [], [], _, j, w, d', h, _ => by simp at h
  | v :: _, r :: _, ⟨a, b, c⟩, 0, w, d', h1, h2 => by
    simp at h1 h2
    subst h1 h2
    obtain ⟨q, e, hq, _⟩ := a
    exact ⟨q, e, hq⟩
  | _ :: _, _ :: _, ⟨a, b, c⟩, j + 1, w, d', h1, h2 => RVs.fresh b j w d' (by simpa using h1) (by simpa using h2)
  | [], _ :: _, h, _, _, _, _, _ => h.elim
  | _ :: _, [], h, _, _, _, _, _ => h.elim
theorem RVs.length {S2 : Addr → Prop} {e2 : En} {H2 : Hp} : ∀ {vs : List V} {rs : List Cl}, RVs K H σ S2 e2 H2 vs rs → vs.length = rs.length
  | [], [], _ => rfl
  | _ :: _, _ :: _, ⟨a, b, c⟩ => by rw [List.length_cons, List.length_cons, RVs.length b]
  | [], _ :: _, h => h.elim
  | _ :: _, [], h => h.elim
def tCls (W : WX) (K : PySem.W.Frag) (f : En → R (List Cl × En)) : TA := fun σ H Q => ∃ S e, Rel K S e σ H ∧ Post W K σ S e H (f e) fun r S' e' H' => ∀ v, RVs K H σ S' e' H' v r → Q v H'
theorem cls_nil : PA X [] (tCls W X.K fun e => .ok ([], e)) := wPA pa_nil fun σ H Q ⟨S, e, R0, P⟩ => P S H R0 Tr.refl [] trivial
theorem cls_cons {es : List Expr} {f : En → R (Cl × En)} {g : En → R (List Cl × En)} (ha : PE X ea (tEv W X.K f)) (hr : PA X es (tCls W X.K g)) (hs : starEach (ea :: es) X.env = (false, eval ea X.env) :: starEach es X.env) :
    PA X (ea :: es) (tCls W X.K fun e => (f e).bind fun (d, e) => (g e).bind fun (ds, e) => .ok (d :: ds, e)) := by
  refine wPA (pa_cons ha hr hs) fun σ H Q ⟨S, e, R0, P⟩ => ?_
  refine ⟨S, e, R0, (Post.bind P).mono fun r S1 e1 H1 hx R1 t1 P1 v hv => ⟨S1, e1, R1, (Post.bind P1).mono fun rs S2 e2 H2 hx R2 t2 P2 vs hvs => ?_⟩⟩
  refine P2 S2 H2 R2 Tr.refl t2 (t1.trans t2) (v :: vs) ⟨hv.keep R1 t2, hvs.dom t1, fun p d hr hp j w d' hj hj' => ?_⟩
  obtain ⟨q, e, hq⟩ := hvs.fresh j w d' hj hj'
  subst hr
  obtain ⟨p', e', _, _, _, xs, ds, _, h6, _⟩ := hv
  rw [hp] at e'
  cases e'
  intro z
  rw [e] at z
  cases z
  rw [hq] at h6
  cases h6
def setP (σ : St) : List Nat → List V → St
  | i :: is, v :: vs => setP (σ.set i (some v)) is vs
  | _, _ => σ
theorem storeP_ok : ∀ (is : List Nat) (vs : List V) (rs : List Cl) (e e' : En) (σ : St), RelF K F S e σ H → (∀ b, F.H0 b ≠ none → H1 b ≠ none) → RVs K H1 σ S e H vs rs → storeP is rs e = some e' → RelF K F S e' (setP σ is vs) H ∧ StTr σ S e H (setP σ is vs) S e' H
  | [], [], [], e, e', σ, R, hd, hv, h => by
    have h : some e = some e' := h
    cases h
    exact ⟨R, .refl⟩
  | i :: is, v :: vs, r :: rs, e, e', σ, R, hd, ⟨a, b, c⟩, h => by
    have h : (store e i r).bind (storeP is rs) = some e' := h
    rw [Option.bind_eq_some_iff] at h
    obtain ⟨e1, h1, h2⟩ := h
    have av : RVr K F σ S e H v r := by
      cases r with
      | ow d =>
        obtain ⟨p, q1, q2, q3⟩ := a
        refine ⟨p, q1, ?_, q3⟩
        cases q : F.H0 p with
        | none => rfl
        | some o => exact absurd q2 (hd p (by rw [q]; simp))
      | _ => exact a
    obtain ⟨R1, t1, hh⟩ := R.store (v := v) h1 av
    have bv : RVs K H1 (σ.set i (some v)) S e1 H vs rs := by
      clear h2
      have gen : ∀ (vs : List V) (rs : List Cl), RVs K H1 σ S e H vs rs → (∀ p d, r = .ow d → v = .ref p → ∀ (j : Nat) (w : V) (d' : D), vs[j]? = some w → rs[j]? = some (.ow d') → w ≠ .ref p) → RVs K H1 (σ.set i (some v)) S e1 H vs rs := by
        intro vs
        induction vs with
        | nil => intro rs h _; cases rs with
          | nil => exact trivial
          | cons => exact h.elim
        | cons w ws ih => intro rs h hc; cases rs with
          | nil => exact h.elim
          | cons r' rs' =>
            obtain ⟨a', b', c'⟩ := h
            refine ⟨?_, ih rs' b' (fun p d h1 h2 j w d' h3 h4 => hc p d h1 h2 (j + 1) w d' (by simpa using h3) (by simpa using h4)), c'⟩
            cases r' with
            | ow d =>
              obtain ⟨p, q1, q2, q3, q4, q5⟩ := a'
              refine ⟨p, q1, q2, q3, fun j z => ?_, q5⟩
              rcases hh j p z with z | ⟨⟨d2, z1⟩, z2⟩
              · exact q4 j z
              · exact hc p d2 z1 z2 0 w d (by simp) (by simp) q1
            | _ => exact a'
      exact gen vs rs b c
    obtain ⟨R2, t2⟩ := storeP_ok is vs rs e1 e' _ R1 hd bv h2
    exact ⟨R2, t1.trans t2⟩
  | [], v :: vs, [], e, e', σ, R, hd, hv, h => hv.elim
  | [], v :: vs, r :: rs, e, e', σ, R, hd, hv, h => by cases h
  | [], [], r :: rs, e, e', σ, R, hd, hv, h => hv.elim
  | i :: is, [], [], e, e', σ, R, hd, hv, h => by cases h
  | i :: is, [], r :: rs, e, e', σ, R, hd, hv, h => hv.elim
  | i :: is, v :: vs, [], e, e', σ, R, hd, hv, h => hv.elim
/-- how the stores of «a, b = x, y» go: none: unknown; some none: by a tuple; some names: swapped -/
def swS (sc : Scope) (ts vs : List Expr) : Option (Option (List Str)) :=
  if !(ts.length == 2 || ts.length == 3) || vs.length != ts.length then some none
  else if vs.any fun | .Starred .. => true | _ => false then some none
  else
    let line := (ts.head?.map (·.pos.line)).getD 0
    let names := ts.filterMap fun
      | .Name id pos => if sc.names.lookup id == some .local && pos.line == line then some id else none
      | _ => none
    if names.length != ts.length || names.eraseDups.length != names.length then some none
    else if vs.all (foldedForSure 8) then some none
    else if vs.all (constantsAlone 8) then none
    else some (some names)
theorem swS_ok {sc : Scope} {ts vs : List Expr} {r : Option (List Str)} {k k2 : Nat} {p p2 : Pos} {env : PySem.Env} (hsc : env.scope = sc) (hk : sc.kind = .function) (h : swS sc ts vs = some r) : swappedStores [.Tuple ts k p] (.Tuple vs k2 p2) env = pure r := by
  have hb : env.blockKind = .function := by unfold Env.blockKind; rw [hsc, hk]; rfl
  have hko : ∀ id, env.kindOf id = sc.names.lookup id := fun id => by show env.scope.names.lookup id = _; rw [hsc]
  unfold swS at h
  unfold swappedStores
  simp only [hb, hko]
  split at h
  · rename_i h1
    cases h
    split
    · rfl
    · rename_i hg
      exact absurd (by rw [h1]; rfl) hg
  · rename_i h1
    split
    · rename_i hg
      exfalso
      rw [Bool.or_eq_true] at hg
      rcases hg with z | z
      · exact h1 z
      · exact absurd z (by decide)
    · split at h
      · rename_i h2
        cases h
        split
        · rfl
        · rename_i hg
          exact absurd h2 hg
      · rename_i h2
        split
        · rename_i hg
          exact absurd hg h2
        · dsimp only at h ⊢
          split at h
          · rename_i h3
            cases h
            split
            · rfl
            · rename_i hg
              exact absurd h3 hg
          · rename_i h3
            split
            · rename_i hg
              exact absurd hg h3
            · split at h
              · rename_i h4
                cases h
                split
                · rfl
                · rename_i hg
                  exact absurd h4 hg
              · rename_i h4
                split
                · rename_i hg
                  exact absurd hg h4
                · split at h
                  · cases h
                  · rename_i h5
                    cases h
                    split
                    · rename_i hg
                      exact absurd hg h5
                    · rfl
/-- the names on the left -/
def namesM (S : SC) : List Nat → List Expr → Bool
  | [], [] => true
  | i :: is, .Name x _ :: es => decide (S.N[i]? = some x) && locB S.sc x && (S.fn x || isLoc S.sc x) && namesM S is es
  | _, _ => false
def gNames : List Nat → TGs
  | [] => gNil
  | i :: is => gCons (gName i) (gNames is)
theorem names_pg {S : SC} {k : Nat} (o : XOk X S k) : ∀ (is : List Nat) (ts : List Expr), namesM S is ts = true → PGs X ts (gNames is) ∧ (assignEach ts X.env).length = is.length ∧ (assignEach ts X.env).findIdx? (·.1) = none
  | [], [], _ => ⟨pgs_nil, rfl, rfl⟩
  | i :: is, t :: ts, h => by
    cases t with
    | Name x p =>
      have h : (decide (S.N[i]? = some x) && locB S.sc x && (S.fn x || isLoc S.sc x) && namesM S is ts) = true := by unfold namesM at h; exact h
      simp only [Bool.and_eq_true] at h
      have hm : mT S (.nm i) (.Name x p) = true := by unfold mT; simp only [Bool.and_eq_true]; exact ⟨h.1.1, h.1.2⟩
      obtain ⟨a, b, c⟩ := names_pg o is ts h.2
      have h' := h.1
      simp only [decide_eq_true_eq, Bool.or_eq_true] at h'
      refine ⟨pgs_cons (pg_name (by rw [o.N]; exact o.nd) (by rw [o.N]; exact h'.1.1) ?_ ?_) a rfl, by show _ + 1 = _; rw [b]; rfl, by rw [show assignEach (.Name x p :: ts) X.env = (false, assign (.Name x p) X.env) :: assignEach ts X.env from rfl, List.findIdx?_cons, c]; rfl⟩
      · have := h'.1.2
        unfold locB at this
        rw [o.sc]
        split at this
        · exact .inl (by assumption)
        · exact .inr (by assumption)
        · cases this
      · rcases h'.2 with q | q
        · exact .inl ((o.fn x).trans q)
        · refine .inr ?_
          unfold isLoc at q
          rw [o.sc]
          split at q
          · assumption
          · cases q
    | _ => unfold namesM at h; cases h
  | [], _ :: _, h => by unfold namesM at h; cases h
  | _ :: _, [], h => by unfold namesM at h; cases h
theorem gNames_w : ∀ (is : List Nat) (vs : List V) (σ : St) (H : Hp) (Q : St → Hp → Prop), vs.length = is.length → Q (setP σ is vs) H → gNames is vs σ H Q
  | [], [], σ, H, Q, _, h => ⟨rfl, h⟩
  | i :: is, v :: vs, σ, H, Q, hl, h => ⟨v, vs, rfl, gNames_w is vs _ H Q (by simpa using hl) h⟩
  | [], _ :: _, _, _, _, hl, _ => by simp at hl
  | _ :: _, [], _, _, _, hl, _ => by simp at hl
theorem storeP_len : ∀ (is : List Nat) (rs : List Cl) (e e' : En), storeP is rs e = some e' → rs.length = is.length
  | [], [], _, _, _ => rfl
  | i :: is, r :: rs, e, e', h => by
    have h : (store e i r).bind (storeP is rs) = some e' := h
    rw [Option.bind_eq_some_iff] at h
    obtain ⟨e1, _, h2⟩ := h
    rw [List.length_cons, List.length_cons, storeP_len is rs e1 e' h2]
  | [], _ :: _, _, _, h => by cases h
  | _ :: _, [], _, _, h => by cases h
def parK (is : List Nat) : List Cl × En → SR := fun (ds, e) => match storeP is ds e with
    | some e => .nx e
    | none => .no
/-- by a tuple -/
theorem p_parT {S0 : SC} {k : Nat} {is : List Nat} {ts vs : List Expr} {k1 k2 : Nat} {p1 p2 : Pos} {f : En → R (List Cl × En)} (o : XOk X S0 k) (hn : namesM S0 is ts = true) (hv : PA X vs (tCls W X.K f)) (hl : vs.length = ts.length) (hlen : is.length ≤ sizeLine) (hw : swappedStores [.Tuple ts k1 p1] (.Tuple vs k2 p2) X.env = pure none) :
    PS X (.Assign [.Tuple ts k1 p1] (.Tuple vs k2 p2) pos) (tEx W X.K F fun e => (f e).sr (parK is)) := by
  obtain ⟨a, b, c⟩ := names_pg o is ts hn
  refine wPS (ps_asg (pe_tup hv) (pg_tup o.calm a b c) rfl hw rfl) fun D σ H ⟨S, e, R, P⟩ => ?_
  refine ⟨S, e, R.rel, (P.sr R).mono fun rs S1 e1 H1 _ R1 t1 ⟨RF, ST, P1⟩ ws hws => ?_⟩
  unfold parK at P1
  cases q : storeP is rs e1 with
  | none => simp only [q] at P1; exact P1.elim
  | some e2 =>
    simp only [q] at P1
    have hll : ws.length = is.length := by rw [hws.length, storeP_len is rs e1 e2 q]
    refine ⟨by rw [hll]; exact hlen, fun p hp => ?_⟩
    obtain ⟨r1, r2, r3, r4⟩ := R1.lay (o := .tup ws) hp
    have RF' := RF.tr r1 r2
    have hws' : RVs X.K H σ S1 e1 (upd H1 p (.tup ws)) ws rs := by
      have gen : ∀ (vs : List V) (rs : List Cl), RVs X.K H σ S1 e1 H1 vs rs → RVs X.K H σ S1 e1 (upd H1 p (.tup ws)) vs rs := by
        intro vs
        induction vs with
        | nil => intro rs h; cases rs with
          | nil => exact trivial
          | cons => exact h.elim
        | cons w ws' ih => intro rs h; cases rs with
          | nil => exact h.elim
          | cons r' rs' => exact ⟨h.1.keep R1 r2, ih rs' h.2.1, h.2.2⟩
      exact gen ws rs hws
    obtain ⟨R3, t3⟩ := storeP_ok is ws rs e1 e2 σ RF' R.dom hws' q
    exact ⟨p, ws, rfl, .inl (.inl upd_same), hll, gNames_w is ws σ _ _ hll (P1 _ S1 _ R3 ((r2.st R1).trans t3))⟩
theorem p_par2 {S0 : SC} {k i j : Nat} {x y : Str} {a b : Expr} {px py pt : Pos} {kt k2 : Nat} {pt2 : Pos} {f : En → R (List Cl × En)} (o : XOk X S0 k) (hi : S0.N[i]? = some x) (hj : S0.N[j]? = some y) (hij : i ≠ j) (hx : isLoc S0.sc x = true) (hy : isLoc S0.sc y = true) (ha : PA X [a, b] (tCls W X.K f))
    (hw : swappedStores [.Tuple [.Name x px, .Name y py] kt pt] (.Tuple [a, b] k2 pt2) X.env = pure (some [x, y])) :
    PS X (.Assign [.Tuple [.Name x px, .Name y py] kt pt] (.Tuple [a, b] k2 pt2) pos) (tEx W X.K F fun e => (f e).sr (parK [i, j])) := by
  have loc : ∀ {x : Str}, isLoc S0.sc x = true → X.env.scope.names.lookup x = some .local := fun {x} h => by
    unfold isLoc at h
    rw [o.sc]
    split at h
    · assumption
    · cases h
  refine wPS (ps_par o.calm (by rw [o.N]; exact o.nd) (by rw [o.N]; exact hi) (by rw [o.N]; exact hj) hij (loc hx) (loc hy) ha hw) fun D σ H ⟨S, e, R, P⟩ => ?_
  refine ⟨S, e, R.rel, (P.sr R).mono fun rs S1 e1 H1 _ R1 t1 ⟨RF, ST, P1⟩ ws hws => ?_⟩
  unfold parK at P1
  cases q : storeP [i, j] rs e1 with
  | none => simp only [q] at P1; exact P1.elim
  | some e2 =>
    simp only [q] at P1
    have hll : ws.length = 2 := by rw [hws.length, storeP_len _ rs e1 e2 q]; rfl
    match ws, hll with
    | [v, w], _ =>
      obtain ⟨R3, t3⟩ := storeP_ok [i, j] [v, w] rs e1 e2 σ RF R.dom hws q
      exact ⟨v, w, rfl, P1 _ S1 _ R3 t3⟩
theorem p_par3 {S0 : SC} {k i j l : Nat} {x y z : Str} {a b c : Expr} {px py pz pt : Pos} {kt k2 : Nat} {pt2 : Pos} {f : En → R (List Cl × En)} (o : XOk X S0 k) (hi : S0.N[i]? = some x) (hj : S0.N[j]? = some y) (hl : S0.N[l]? = some z) (hij : i ≠ j) (hil : i ≠ l) (hjl : j ≠ l) (hx : isLoc S0.sc x = true) (hy : isLoc S0.sc y = true) (hz : isLoc S0.sc z = true) (ha : PA X [a, b, c] (tCls W X.K f))
    (hw : swappedStores [.Tuple [.Name x px, .Name y py, .Name z pz] kt pt] (.Tuple [a, b, c] k2 pt2) X.env = pure (some [x, y, z])) :
    PS X (.Assign [.Tuple [.Name x px, .Name y py, .Name z pz] kt pt] (.Tuple [a, b, c] k2 pt2) pos) (tEx W X.K F fun e => (f e).sr (parK [i, j, l])) := by
  have loc : ∀ {x : Str}, isLoc S0.sc x = true → X.env.scope.names.lookup x = some .local := fun {x} h => by
    unfold isLoc at h
    rw [o.sc]
    split at h
    · assumption
    · cases h
  refine wPS (ps_par3 o.calm (by rw [o.N]; exact o.nd) (by rw [o.N]; exact hi) (by rw [o.N]; exact hj) (by rw [o.N]; exact hl) hij hil hjl (loc hx) (loc hy) (loc hz) ha hw) fun D σ H ⟨S, e, R, P⟩ => ?_
  refine ⟨S, e, R.rel, (P.sr R).mono fun rs S1 e1 H1 _ R1 t1 ⟨RF, ST, P1⟩ ws hws => ?_⟩
  unfold parK at P1
  cases q : storeP [i, j, l] rs e1 with
  | none => simp only [q] at P1; exact P1.elim
  | some e2 =>
    simp only [q] at P1
    have hll : ws.length = 3 := by rw [hws.length, storeP_len _ rs e1 e2 q]; rfl
    match ws, hll with
    | [v, w, u], _ =>
      obtain ⟨R3, t3⟩ := storeP_ok [i, j, l] [v, w, u] rs e1 e2 σ RF R.dom hws q
      exact ⟨v, w, u, rfl, P1 _ S1 _ R3 t3⟩
end
end PV
end
section
namespace PV
open PySem L2 Classical

/-- whether «t = v» swaps a comprehension's frame for the store -/
def swB (sc : Scope) (t : Str) (tp : Pos) : Expr → Bool
  | .ListComp _ _ s p | .SetComp _ _ s p | .DictComp _ _ _ s p => isLoc sc t && tp.line == p.line && !(s.names.any fun (n, k) => n == t && (k == .local || k == .cell))
  | _ => false
def notTup : Expr → Bool
  | .Tuple _ _ _ => false
  | _ => true
def notComp : Expr → Bool
  | .ListComp _ _ _ _ => false
  | .SetComp _ _ _ _ => false
  | .DictComp _ _ _ _ _ => false
  | _ => true
def isName : Expr → Bool
  | .Name _ _ => true
  | _ => false
def locs (sc : Scope) : List Expr → Bool
  | [] => true
  | .Name x _ :: es => isLoc sc x && locs sc es
  | _ => false
def nmsOf : List Expr → List Str
  | .Name x _ :: es => x :: nmsOf es
  | _ => []
def distinct3 : List Nat → Bool
  | [i, j] => decide (i ≠ j)
  | [i, j, l] => decide (i ≠ j) && decide (i ≠ l) && decide (j ≠ l)
  | _ => false
def lcB : CE → Expr → Bool
  | .lc _ _ _ _ _, .ListComp _ _ _ _ => true
  | _, _ => false
def tsB (sc : Scope) (ts : List Expr) : Expr → Bool
  | .Tuple vs _ _ => (match swS sc ts vs with | some none => true | _ => false)
  | _ => true
def parB (sc : Scope) (is : List Nat) (ts vs : List Expr) : Bool := match swS sc ts vs with
  | some none => true
  | some (some ns) => locs sc ts && decide (ns = nmsOf ts) && distinct3 is
  | none => false
def optB {α : Type} : Option α → (α → Bool) → Bool
  | some r, f => f r
  | none, _ => false
theorem optB_inv {α : Type} {q : Option α} {f : α → Bool} (h : optB q f = true) : ∃ r, q = some r ∧ f r = true := by
  cases q with
  | none => cases h
  | some r => exact ⟨r, rfl, h⟩
def asAsg : Stmt → Option (Expr × Expr × Pos)
  | .Assign [t] v p => some (t, v, p)
  | _ => none
theorem asAsg_inv {st : Stmt} {r : Expr × Expr × Pos} (h : asAsg st = some r) : st = .Assign [r.1] r.2.1 r.2.2 := by
  unfold asAsg at h
  split at h <;> cases h
  rfl
def asIf : Stmt → Option (Expr × List Stmt × List Stmt × Pos)
  | .If t x y p => some (t, x, y, p)
  | _ => none
theorem asIf_inv {st : Stmt} {r : Expr × List Stmt × List Stmt × Pos} (h : asIf st = some r) : st = .If r.1 r.2.1 r.2.2.1 r.2.2.2 := by
  unfold asIf at h
  split at h <;> cases h
  rfl
def asFor : Stmt → Option (Expr × Expr × List Stmt × Pos)
  | .For t i b [] p => some (t, i, b, p)
  | _ => none
theorem asFor_inv {st : Stmt} {r : Expr × Expr × List Stmt × Pos} (h : asFor st = some r) : st = .For r.1 r.2.1 r.2.2.1 [] r.2.2.2 := by
  unfold asFor at h
  split at h <;> cases h
  rfl
def asWhl : Stmt → Option (Expr × List Stmt × Pos)
  | .While t b [] p => some (t, b, p)
  | _ => none
theorem asWhl_inv {st : Stmt} {r : Expr × List Stmt × Pos} (h : asWhl st = some r) : st = .While r.1 r.2.1 [] r.2.2 := by
  unfold asWhl at h
  split at h <;> cases h
  rfl
def asExp : Stmt → Option (Expr × Pos)
  | .Expr v p => some (v, p)
  | _ => none
theorem asExp_inv {st : Stmt} {r : Expr × Pos} (h : asExp st = some r) : st = .Expr r.1 r.2 := by
  unfold asExp at h
  split at h <;> cases h
  rfl
def asRet : Stmt → Option (Option Expr × Pos)
  | .Return v p => some (v, p)
  | _ => none
theorem asRet_inv {st : Stmt} {r : Option Expr × Pos} (h : asRet st = some r) : st = .Return r.1 r.2 := by
  unfold asRet at h
  split at h <;> cases h
  rfl
def asWord : Stmt → Option (Nat × Pos)
  | .Break p => some (0, p)
  | .Continue p => some (1, p)
  | .Pass p => some (2, p)
  | _ => none
theorem asWord_inv {st : Stmt} {r : Nat × Pos} (h : asWord st = some r) : (r.1 = 0 ∧ st = .Break r.2) ∨ (r.1 = 1 ∧ st = .Continue r.2) ∨ (r.1 = 2 ∧ st = .Pass r.2) := by
  unfold asWord at h
  split at h <;> cases h
  · exact .inl ⟨rfl, rfl⟩
  · exact .inr (.inl ⟨rfl, rfl⟩)
  · exact .inr (.inr ⟨rfl, rfl⟩)
def asMeth : Expr → Option (Expr × Str × Expr × Pos × Pos)
  | .Call (.Attribute o at' p1) [v] [] p2 => some (o, at', v, p1, p2)
  | _ => none
theorem asMeth_inv {e : Expr} {r : Expr × Str × Expr × Pos × Pos} (h : asMeth e = some r) : e = .Call (.Attribute r.1 r.2.1 r.2.2.2.1) [r.2.2.1] [] r.2.2.2.2 := by
  unfold asMeth at h
  split at h <;> cases h
  rfl
def asSub : Expr → Option (Expr × Expr × Pos)
  | .Subscript o i p => some (o, i, p)
  | _ => none
theorem asSub_inv {e : Expr} {r : Expr × Expr × Pos} (h : asSub e = some r) : e = .Subscript r.1 r.2.1 r.2.2 := by
  unfold asSub at h
  split at h <;> cases h
  rfl
def asTup : Expr → Option (List Expr × Nat × Pos)
  | .Tuple es k p => some (es, k, p)
  | _ => none
theorem asTup_inv {e : Expr} {r : List Expr × Nat × Pos} (h : asTup e = some r) : e = .Tuple r.1 r.2.1 r.2.2 := by
  unfold asTup at h
  split at h <;> cases h
  rfl
def asNm : Expr → Option (Str × Pos)
  | .Name x p => some (x, p)
  | _ => none
theorem asNm_inv {e : Expr} {r : Str × Pos} (h : asNm e = some r) : e = .Name r.1 r.2 := by
  unfold asNm at h
  split at h <;> cases h
  rfl
def asgM (S : SC) (tg : CT) (a : CE) (t v : Expr) : Bool := match tg with
  | .nm i => optB (asNm t) fun r => mT S (.nm i) t && mE S a v && (!swB S.sc r.1 r.2 v || lcB a v)
  | .tup c => optB (asTup t) fun r => mT S (.tup c) t && mE S a v && tsB S.sc r.1 v
  | _ => false
def parM (S : SC) (is : List Nat) (es : CEs) (t v : Expr) : Bool := optB (asTup t) fun q => optB (asTup v) fun r => mEs S es r.1 && namesM S is q.1 && decide (r.1.length = q.1.length) && decide (is.length ≤ 8) && parB S.sc is q.1 r.1
def methM (S : SC) (nm : Str) (x : Nat) (a : CE) (v : Expr) : Bool := optB (asMeth v) fun r => decide (r.2.1 = nm) && isName r.1 && mE S (.var x) r.1 && mE S a r.2.2.1 && notStar r.2.2.1 && decide ((r.2.2.2.1.endLine == r.2.2.2.2.line) = true)
def retM (S : SC) (a : CE) (v : Option Expr) : Bool := optB v fun v => mE S a v
mutual
def mS (S : SC) : CS → Stmt → Bool
  | .asg tg a, st => optB (asAsg st) fun r => asgM S tg a r.1 r.2.1
  | .par is es, st => optB (asAsg st) fun r => parM S is es r.1 r.2.1
  | .put x i a, st => optB (asAsg st) fun r => optB (asSub r.1) fun q => isName q.1 && mE S (.var x) q.1 && mE S i q.2.1 && notSlice q.2.1 && mE S a r.2.1
  | .app x a, st => optB (asExp st) fun r => methM S "append" x a r.1
  | .ext x a, st => optB (asExp st) fun r => methM S "extend" x a r.1
  | .exp a, st => optB (asExp st) fun r => mE S a r.1 && notComp r.1
  | .ite c a b, st => optB (asIf st) fun r => mE S c r.1 && mSs S a r.2.1 && mSs S b r.2.2.1
  | .fori tg it b, st => optB (asFor st) fun r => mT S tg r.1 && mI S it r.1 r.2.1 && mSs S b r.2.2.1
  | .whl _ c b, st => optB (asWhl st) fun r => mE S c r.1 && mSs S b r.2.1
  | .ret a, st => optB (asRet st) fun r => retM S a r.1
  | .retN, st => optB (asRet st) fun r => r.1.isNone
  | .brk, st => optB (asWord st) fun r => decide (r.1 = 0)
  | .cnt, st => optB (asWord st) fun r => decide (r.1 = 1)
  | .pas, st => optB (asWord st) fun r => decide (r.1 = 2)
  | .nvr, _ => true
def mSs (S : SC) : CSs → List Stmt → Bool
  | .nil, sts => sts.isEmpty
  | .cons s ss, sts => match sts with
    | [] => false
    | st :: sts => mS S s st && mSs S ss sts
end
mutual
def gS (X : Gx) (k : Nat) : CS → Prop
  | .asg _ a => gE X k a
  | .par _ es => gEs X k es
  | .put _ i a => gE X k i ∧ gE X k a
  | .app _ a => gE X k a
  | .ext _ a => gE X k a
  | .exp a => gE X k a
  | .ite c a b => gE X k c ∧ gSs X k a ∧ gSs X k b
  | .fori _ it b => gI X k it ∧ gSs X k b
  | .whl _ c b => gE X k c ∧ gSs X k b
  | .ret a => gE X k a
  | .retN => True
  | .brk => True
  | .cnt => True
  | .pas => True
  | .nvr => True
def gSs (X : Gx) (k : Nat) : CSs → Prop
  | .nil => True
  | .cons s ss => gS X k s ∧ gSs X k ss
end
section
variable {X : Cx} {S : SC} {k : Nat} {W : WX} {F : Fm}
theorem cls_ok (o : XOk X S k) (tk : Takes X W) : ∀ (cs : CEs) (es : List Expr), mEs S cs es = true → gEs (gx X) k cs → PA X es (tCls W X.K (evcs cs))
  | .nil, es, h, g => by
    cases es with
    | nil => exact cls_nil
    | cons => unfold mEs at h; cases h
  | .cons a as, es, h, g => by
    cases es with
    | nil => unfold mEs at h; cases h
    | cons x xs =>
      have h : (mE S a x && notStar x && mEs S as xs) = true := by unfold mEs at h; exact h
      simp only [Bool.and_eq_true] at h
      have g : gE (gx X) k a ∧ gEs (gx X) k as := g
      exact cls_cons (e_ok a X S W k o tk x h.1.1 g.1).1 (cls_ok o tk as xs h.2 g.2) (star_cons h.1.2 xs X.env)
theorem sw_of {env : PySem.Env} {sc : Scope} {x : Str} {tp : Pos} {v : Expr} {l : Nat} (hsc : env.scope = sc) (hk : sc.kind = .function) : swapsWith v (some (.Name x tp)) l env = pure (swB sc x tp v) := by
  have hb : env.blockKind = .function := by unfold Env.blockKind; rw [hsc, hk]; rfl
  have hko : (env.kindOf x == some .local) = isLoc sc x := by
    show (env.scope.names.lookup x == some .local) = _
    rw [hsc]
    unfold isLoc
    cases sc.names.lookup x with
    | none => rfl
    | some q => cases q <;> rfl
  cases v <;> first | rfl | (unfold swapsWith swB; simp only [hb, hko]; rfl)
theorem sw_sub {env : PySem.Env} {v : Expr} {l : Nat} {t : Expr} (ht : isName t = false) : swapsWith v (some t) l env = pure false := by
  cases t <;> first | (cases v <;> rfl) | cases ht
theorem sole_sub {env : PySem.Env} {v : Expr} {l : Nat} {t : Expr} (ht : isName t = false) : swapsWithSole [t] v l env = pure false := sw_sub ht
theorem sw_none {env : PySem.Env} {v : Expr} {l : Nat} (hv : notComp v = true) : swapsWith v none l env = pure false := by
  cases v <;> first | rfl | cases hv
theorem swn_tup {env : PySem.Env} {v : Expr} {ts : List Expr} {k1 : Nat} {p1 : Pos} (hv : notTup v = true) : swappedStores [.Tuple ts k1 p1] v env = pure none := by
  cases v <;> first | rfl | cases hv
structure XS (X : Cx) (S : SC) (k : Nat) : Prop where
  o : XOk X S k
  kind : S.sc.kind = .function
  pas : PassesOwn (model X.prog X.w) X.A X.env X.xe
theorem nms_ok : ∀ {is : List Nat} {ts : List Expr}, namesM S is ts = true → locs S.sc ts = true → ts.length = is.length
  | [], [], _, _ => rfl
  | i :: is, t :: ts, h, l => by
    cases t with
    | Name x p =>
      have h : (decide (S.N[i]? = some x) && locB S.sc x && (S.fn x || isLoc S.sc x) && namesM S is ts) = true := by unfold namesM at h; exact h
      have l : (isLoc S.sc x && locs S.sc ts) = true := by unfold locs at l; exact l
      simp only [Bool.and_eq_true] at h l
      rw [List.length_cons, List.length_cons, nms_ok h.2 l.2]
    | _ => unfold namesM at h; cases h
  | [], _ :: _, h, _ => by unfold namesM at h; cases h
  | _ :: _, [], h, _ => by unfold namesM at h; cases h
theorem nm_hd {i : Nat} {is : List Nat} {t : Expr} {ts : List Expr} (h : namesM S (i :: is) (t :: ts) = true) (l : locs S.sc (t :: ts) = true) : ∃ x p, t = .Name x p ∧ S.N[i]? = some x ∧ isLoc S.sc x = true ∧ namesM S is ts = true ∧ locs S.sc ts = true ∧ nmsOf (t :: ts) = x :: nmsOf ts := by
  cases t with
  | Name x p =>
    have h : (decide (S.N[i]? = some x) && locB S.sc x && (S.fn x || isLoc S.sc x) && namesM S is ts) = true := by unfold namesM at h; exact h
    have l : (isLoc S.sc x && locs S.sc ts) = true := by unfold locs at l; exact l
    simp only [Bool.and_eq_true, decide_eq_true_eq] at h l
    exact ⟨x, p, rfl, h.1.1.1, l.1, h.2, l.2, rfl⟩
  | _ => unfold namesM at h; cases h
theorem assign_sub {o ie : Expr} {p1 : Pos} {env : PySem.Env} (h : notSlice ie = true) : ∀ v, assign (.Subscript o ie p1) env v = (do
      let ov ← holding [v] (eval o env)
      let iv ← holding [v, ov] (eval ie env)
      standAt p1
      holding [v, ov, iv] (setItem ov iv v)
      release [v, ov, iv] []) := by
  intro v
  cases ie <;> first | rfl | cases h
end
end PV
end
section
namespace PV
open PySem L2 Classical

section
variable {X : Cx} {S : SC} {k : Nat} {W : WX} {F : Fm}
theorem isLoc_of {sc : Scope} {x : Str} (h : isLoc sc x = true) : sc.names.lookup x = some .local := by
  unfold isLoc at h
  split at h
  · assumption
  · cases h
theorem mT_nm (o : XOk X S k) {i : Nat} {x : Str} {p : Pos} (h : mT S (.nm i) (.Name x p) = true) : X.N.Nodup ∧ X.N[i]? = some x ∧ Loc X.env.scope x ∧ (X.fn x = true ∨ X.env.scope.names.lookup x = some .local) := by
  have h : (decide (S.N[i]? = some x) && locB S.sc x && (S.fn x || isLoc S.sc x)) = true := by unfold mT at h; exact h
  simp only [Bool.and_eq_true, decide_eq_true_eq, Bool.or_eq_true] at h
  refine ⟨by rw [o.N]; exact o.nd, by rw [o.N]; exact h.1.1, ?_, ?_⟩
  · have := h.1.2
    unfold locB at this
    rw [o.sc]
    split at this
    · exact .inl (by assumption)
    · exact .inr (by assumption)
    · cases this
  · rcases h.2 with q | q
    · exact .inl ((o.fn x).trans q)
    · exact .inr (by rw [o.sc]; exact isLoc_of q)
theorem set_lc (o : XS X S k) (tk : Takes X W) {i : Nat} {x : Str} {tp vp pos : Pos} {el : Expr} {gs : List Comprehension} {scope : Scope} {own : List (Str × Nat)} {tg : CT} {it : CI} {cond elt : CE} (hm : mT S (.nm i) (.Name x tp) = true) (h : mE S (.lc own tg it cond elt) (.ListComp el gs scope vp) = true) (g : gE (gx X) k (.lc own tg it cond elt))
    (hw : swB S.sc x tp (.ListComp el gs scope vp) = true) : PS X (.Assign [.Name x tp] (.ListComp el gs scope vp) pos) (tEx W X.K F fun e => (ev (.lc own tg it cond elt) e).sr (asgK (.nm i))) := by
  match gs, h with
  | [⟨t, i', ifs, kk⟩], h =>
    have h : (decide (kk = 0) && blkC S.N S.sc scope own && mT (blkS S scope) tg t && mI S it t i' && condM cond ifs (mE (blkS S scope) cond) && mE (blkS S scope) elt el && ((slotsT tg).all fun j => decide (j ∈ own.map (·.2)))) = true := by unfold mE at h; exact h
    simp only [Bool.and_eq_true, decide_eq_true_eq] at h
    obtain ⟨⟨⟨⟨⟨⟨rfl, h1⟩, h2⟩, h3⟩, h4⟩, h5⟩, h6⟩ := h
    have g : gI (gx X) k it ∧ gE (gx X) k cond ∧ gE (gx X) k elt := g
    have oo := o.o
    have hw : (isLoc S.sc x && tp.line == vp.line && !(scope.names.any fun (n, k) => n == x && (k == .local || k == .cell))) = true := hw
    simp only [Bool.and_eq_true, Bool.not_eq_true'] at hw
    obtain ⟨⟨w1, w2⟩, w3⟩ := hw
    obtain ⟨m1, m2, m3, m4⟩ := mT_nm oo hm
    have hyl : X.env.scope.names.lookup x = some .local := by rw [oo.sc]; exact isLoc_of w1
    have ok' : BlkOk X.N X.env.scope scope own := by rw [oo.N, oo.sc]; exact blkOk_by h1
    have hg : ∀ (s : Shared) (H : Hp) (C : Addr) (cl : List (Str × Addr)) (fp : List Addr), PG (X.blk s H scope (compEnvC scope cl C X.env) fp) t (tB1 X.K tg) := fun s H C cl fp => t_ok (oo.blk s H scope C cl fp) tg t h2
    have ht : ∀ (s : Shared) (H : Hp) (C : Addr) (cl : List (Str × Addr)) (fp : List Addr), PTs (X.blk s H scope (compEnvC scope cl C X.env) fp) ifs (tTst W0 X.K (condR cond (ev cond))) :=
      fun s H C cl fp => cond_ok h4 fun y hy => (e_ok cond (X.blk s H scope (compEnvC scope cl C X.env) fp) (blkS S scope) W0 k (oo.blk s H scope C cl fp) takesW0 y hy g.2.1).2
    have he : ∀ (s : Shared) (H : Hp) (C : Addr) (cl : List (Str × Addr)) (fp : List Addr), PE (X.blk s H scope (compEnvC scope cl C X.env) fp) el (tVal W0 X.K (valR (ev elt))) :=
      fun s H C cl fp => val_of (e_ok elt (X.blk s H scope (compEnvC scope cl C X.env) fp) (blkS S scope) W0 k (oo.blk s H scope C cl fp) takesW0 el h5 g.2.2).1
    have hsl : ∀ j ∈ slotsT tg, j ∈ own.map (·.2) := fun j hj => of_decide_eq_true (List.all_eq_true.mp h6 j hj)
    have hi := i_ok it X S W k oo tk t i' h3 g.1
    rw [ev_lc]
    refine wPS (ps_setLc oo.calm m1 m2 hyl (sw_true (by rw [oo.sc]; exact o.kind) hyl w2 w3) hi ok' hg ht he (mI_set h3 _)) (asg_nm fun σ H Q q => ?_)
    exact s_lc oo.calm m1 hi ok' hg ht he hsl (mI_set h3 _) σ H Q q
set_option maxHeartbeats 1000000
theorem lcB_inv {a : CE} {v : Expr} (h : lcB a v = true) : ∃ own tg it c e el gs sc vp, a = .lc own tg it c e ∧ v = .ListComp el gs sc vp := by
  unfold lcB at h
  split at h
  · exact ⟨_, _, _, _, _, _, _, _, _, rfl, rfl⟩
  · cases h
theorem s_asg (tg : CT) (a : CE) (X : Cx) (S : SC) (W : WX) (F : Fm) (k : Nat) (o : XS X S k) (tk : Takes X W) (st : Stmt) (h0 : mS S (.asg tg a) st = true) (g : gS (gx X) k (.asg tg a)) : PS X st (tEx W X.K F (ex (.asg tg a))) := by
  have g : gE (gx X) k a := g
  have oo := o.o
  have h1 : optB (asAsg st) _ = true := h0
  obtain ⟨r, hr, h⟩ := optB_inv h1
  obtain rfl := asAsg_inv hr
  obtain ⟨t, v, p⟩ := r
  have h : asgM S tg a t v = true := h
  cases tg with
  | nm i =>
    have h : optB (asNm t) (fun r => mT S (.nm i) t && mE S a v && (!swB S.sc r.1 r.2 v || lcB a v)) = true := h
    obtain ⟨⟨x, tp⟩, hr, hA⟩ := optB_inv h
    obtain rfl := asNm_inv hr
    simp only [Bool.and_eq_true, Bool.or_eq_true, Bool.not_eq_true'] at hA
    obtain ⟨⟨m1, m2⟩, m3⟩ := hA
    obtain ⟨n1, n2, n3, n4⟩ := mT_nm oo m1
    by_cases q : swB S.sc x tp v = true
    · rcases m3 with m3 | m3
      · rw [q] at m3; cases m3
      · obtain ⟨own, tg, it, c, e, el, gs, sc, vp, rfl, rfl⟩ := lcB_inv m3
        exact set_lc o tk m1 m2 g q
    · have hs : swapsWith v (some (.Name x tp)) p.line X.env = pure false := by rw [sw_of oo.sc o.kind, (Bool.not_eq_true _).mp q]
      exact p_asgN n1 n2 n3 (e_ok a X S W k oo tk v m2 g).1 hs n4
  | tup ct =>
    have h : optB (asTup t) (fun r => mT S (.tup ct) t && mE S a v && tsB S.sc r.1 v) = true := h
    obtain ⟨⟨ts, kk, q⟩, hr, hA⟩ := optB_inv h
    obtain rfl := asTup_inv hr
    simp only [Bool.and_eq_true] at hA
    obtain ⟨⟨h1, h2⟩, h3⟩ := hA
    refine p_asgT ⟨ct, rfl⟩ (e_ok a X S W k oo tk v h2 g).1 (t_ok oo _ _ h1) (sole_sub rfl) ?_ rfl
    cases v with
    | Tuple vs k2 p2 =>
      refine swS_ok oo.sc o.kind ?_
      have h3 : (match swS S.sc ts vs with | some none => true | _ => false) = true := h3
      cases hq : swS S.sc ts vs with
      | none => rw [hq] at h3; cases h3
      | some r => cases r with
        | none => rfl
        | some => rw [hq] at h3; cases h3
    | _ => exact swn_tup rfl
  | _ => cases h
theorem s_par (is : List Nat) (es : CEs) (X : Cx) (S : SC) (W : WX) (F : Fm) (k : Nat) (o : XS X S k) (tk : Takes X W) (st : Stmt) (h0 : mS S (.par is es) st = true) (g : gS (gx X) k (.par is es)) : PS X st (tEx W X.K F (ex (.par is es))) := by
  have g : gEs (gx X) k es := g
  have oo := o.o
  have h1 : optB (asAsg st) _ = true := h0
  obtain ⟨r, hr, h⟩ := optB_inv h1
  obtain rfl := asAsg_inv hr
  obtain ⟨t, v, p⟩ := r
  have h : optB (asTup t) (fun q => optB (asTup v) fun r => mEs S es r.1 && namesM S is q.1 && decide (r.1.length = q.1.length) && decide (is.length ≤ 8) && parB S.sc is q.1 r.1) = true := h
  obtain ⟨⟨ts, k1, p1⟩, hr1, hh⟩ := optB_inv h
  have z1 := asTup_inv hr1
  obtain ⟨⟨vs, k2, p2⟩, hr2, hh⟩ := optB_inv hh
  have z2 := asTup_inv hr2
  simp only [Bool.and_eq_true, decide_eq_true_eq] at hh
  obtain ⟨⟨⟨⟨h1, h2⟩, h3⟩, h4⟩, h5⟩ := hh
  rw [z1, z2]
  have hp := cls_ok oo tk es vs h1 g
  have h8 : is.length ≤ sizeLine := Nat.le_trans h4 (by decide)
  unfold parB at h5
  cases hsw : swS S.sc ts vs with
  | none => rw [hsw] at h5; cases h5
  | some r =>
    rw [hsw] at h5
    have hok := fun k1 k2 p1 p2 => swS_ok (k := k1) (k2 := k2) (p := p1) (p2 := p2) oo.sc o.kind hsw
    cases r with
    | none => exact p_parT oo h2 hp h3 h8 (hok _ _ _ _)
    | some ns =>
      simp only [Bool.and_eq_true, decide_eq_true_eq] at h5
      obtain ⟨⟨l1, rfl⟩, l3⟩ := h5
      have hln := nms_ok h2 l1
      match is, l3 with
      | [i, j], l3 =>
        match ts, hln, vs, h3 with
        | [t1, t2], _, [v1, v2], _ =>
          obtain ⟨x, px, rfl, a1, a2, a3, a4, a5⟩ := nm_hd h2 l1
          obtain ⟨y, py, rfl, b1, b2, b3, b4, b5⟩ := nm_hd a3 a4
          exact p_par2 oo a1 b1 (of_decide_eq_true l3) a2 b2 hp (hok _ _ _ _)
      | [i, j, l], l3 =>
        match ts, hln, vs, h3 with
        | [t1, t2, t3], _, [v1, v2, v3], _ =>
          have l3 : (decide (i ≠ j) && decide (i ≠ l) && decide (j ≠ l)) = true := l3
          simp only [Bool.and_eq_true, decide_eq_true_eq] at l3
          obtain ⟨x, px, rfl, a1, a2, a3, a4, a5⟩ := nm_hd h2 l1
          obtain ⟨y, py, rfl, b1, b2, b3, b4, b5⟩ := nm_hd a3 a4
          obtain ⟨z, pz, rfl, c1, c2, c3, c4, c5⟩ := nm_hd b3 b4
          exact p_par3 oo a1 b1 c1 l3.1.1 l3.1.2 l3.2 a2 b2 c2 hp (hok _ _ _ _)
theorem s_put (x : Nat) (i a : CE) (X : Cx) (S : SC) (W : WX) (F : Fm) (k : Nat) (o : XS X S k) (tk : Takes X W) (st : Stmt) (h0 : mS S (.put x i a) st = true) (g : gS (gx X) k (.put x i a)) : PS X st (tEx W X.K F (ex (.put x i a))) := by
  have g : gE (gx X) k i ∧ gE (gx X) k a := g
  have oo := o.o
  have h1 : optB (asAsg st) _ = true := h0
  obtain ⟨r, hr, h⟩ := optB_inv h1
  obtain rfl := asAsg_inv hr
  obtain ⟨t, v, p⟩ := r
  have h : optB (asSub t) (fun q => isName q.1 && mE S (.var x) q.1 && mE S i q.2.1 && notSlice q.2.1 && mE S a v) = true := h
  obtain ⟨⟨o', ie, p1⟩, hr1, hA⟩ := optB_inv h
  obtain rfl := asSub_inv hr1
  simp only [Bool.and_eq_true] at hA
  obtain ⟨⟨⟨⟨h1, h2⟩, h3⟩, h4⟩, h5⟩ := hA
  exact p_put (val_of (e_ok a X S W k oo tk v h5 g.2).1) (var_ok oo h2) (val_of (e_ok i X S W k oo tk ie h3 g.1).1) (sole_sub rfl) (by cases v <;> rfl) (assign_sub h4) rfl
theorem s_app (x : Nat) (a : CE) (X : Cx) (S : SC) (W : WX) (F : Fm) (k : Nat) (o : XS X S k) (tk : Takes X W) (st : Stmt) (h0 : mS S (.app x a) st = true) (g : gS (gx X) k (.app x a)) : PS X st (tEx W X.K F (ex (.app x a))) := by
  have g : gE (gx X) k a := g
  have oo := o.o
  have h1 : optB (asExp st) _ = true := h0
  obtain ⟨r, hr, h⟩ := optB_inv h1
  obtain rfl := asExp_inv hr
  obtain ⟨e, p⟩ := r
  have h : methM S "append" x a e = true := h
  unfold methM at h
  obtain ⟨⟨o', at', v, p1, p2⟩, hr1, hA⟩ := optB_inv h
  obtain rfl := asMeth_inv hr1
  simp only [Bool.and_eq_true, decide_eq_true_eq] at hA
  obtain ⟨⟨⟨⟨⟨rfl, h1⟩, h2⟩, h3⟩, h4⟩, h5⟩ := hA
  exact p_app (val_of (e_ok a X S W k oo tk v h3 g).1) (var_ok oo h2) (by cases o' <;> first | rfl | cases h1) (star1 h4 _) h5
theorem s_ext (x : Nat) (a : CE) (X : Cx) (S : SC) (W : WX) (F : Fm) (k : Nat) (o : XS X S k) (tk : Takes X W) (st : Stmt) (h0 : mS S (.ext x a) st = true) (g : gS (gx X) k (.ext x a)) : PS X st (tEx W X.K F (ex (.ext x a))) := by
  have g : gE (gx X) k a := g
  have oo := o.o
  have h1 : optB (asExp st) _ = true := h0
  obtain ⟨r, hr, h⟩ := optB_inv h1
  obtain rfl := asExp_inv hr
  obtain ⟨e, p⟩ := r
  have h : methM S "extend" x a e = true := h
  unfold methM at h
  obtain ⟨⟨o', at', v, p1, p2⟩, hr1, hA⟩ := optB_inv h
  obtain rfl := asMeth_inv hr1
  simp only [Bool.and_eq_true, decide_eq_true_eq] at hA
  obtain ⟨⟨⟨⟨⟨rfl, h1⟩, h2⟩, h3⟩, h4⟩, h5⟩ := hA
  exact p_ext (val_of (e_ok a X S W k oo tk v h3 g).1) (var_ok oo h2) (by cases o' <;> first | rfl | cases h1) (star1 h4 _) h5
theorem s_exp (a : CE) (X : Cx) (S : SC) (W : WX) (F : Fm) (k : Nat) (o : XS X S k) (tk : Takes X W) (st : Stmt) (h0 : mS S (.exp a) st = true) (g : gS (gx X) k (.exp a)) : PS X st (tEx W X.K F (ex (.exp a))) := by
  have g : gE (gx X) k a := g
  have h1 : optB (asExp st) _ = true := h0
  obtain ⟨r, hr, h⟩ := optB_inv h1
  obtain rfl := asExp_inv hr
  simp only [Bool.and_eq_true] at h
  exact p_exp (e_ok a X S W k o.o tk _ h.1 g).1 (sw_none h.2)
theorem s_ret (a : CE) (X : Cx) (S : SC) (W : WX) (F : Fm) (k : Nat) (o : XS X S k) (tk : Takes X W) (st : Stmt) (h0 : mS S (.ret a) st = true) (g : gS (gx X) k (.ret a)) : PS X st (tEx W X.K F (ex (.ret a))) := by
  have g : gE (gx X) k a := g
  have h1 : optB (asRet st) _ = true := h0
  obtain ⟨r, hr, h⟩ := optB_inv h1
  obtain rfl := asRet_inv hr
  obtain ⟨v, p⟩ := r
  have h : optB v (fun v => mE S a v) = true := h
  obtain ⟨v, rfl, hA⟩ := optB_inv h
  exact p_ret (e_ok a X S W k o.o tk v hA g).1
theorem s_retN (X : Cx) (S : SC) (W : WX) (F : Fm) (k : Nat) (o : XS X S k) (tk : Takes X W) (st : Stmt) (h0 : mS S .retN st = true) (g : gS (gx X) k .retN) : PS X st (tEx W X.K F (ex .retN)) := by
  have h1 : optB (asRet st) _ = true := h0
  obtain ⟨r, hr, h⟩ := optB_inv h1
  obtain rfl := asRet_inv hr
  obtain ⟨v, p⟩ := r
  cases v with
  | none => exact p_retN
  | some => cases h
theorem s_brk (X : Cx) (S : SC) (W : WX) (F : Fm) (k : Nat) (o : XS X S k) (tk : Takes X W) (st : Stmt) (h0 : mS S .brk st = true) (g : gS (gx X) k .brk) : PS X st (tEx W X.K F (ex .brk)) := by
  have h1 : optB (asWord st) (fun r => decide (r.1 = 0)) = true := h0
  obtain ⟨r, hr, h⟩ := optB_inv h1
  have h : r.1 = 0 := of_decide_eq_true h
  rcases asWord_inv hr with ⟨a, rfl⟩ | ⟨a, rfl⟩ | ⟨a, rfl⟩
  · exact p_brk
  · rw [h] at a; cases a
  · rw [h] at a; cases a
theorem s_contn (X : Cx) (S : SC) (W : WX) (F : Fm) (k : Nat) (o : XS X S k) (tk : Takes X W) (st : Stmt) (h0 : mS S .cnt st = true) (g : gS (gx X) k .cnt) : PS X st (tEx W X.K F (ex .cnt)) := by
  have h1 : optB (asWord st) (fun r => decide (r.1 = 1)) = true := h0
  obtain ⟨r, hr, h⟩ := optB_inv h1
  have h : r.1 = 1 := of_decide_eq_true h
  rcases asWord_inv hr with ⟨a, rfl⟩ | ⟨a, rfl⟩ | ⟨a, rfl⟩
  · rw [h] at a; cases a
  · exact p_cnt
  · rw [h] at a; cases a
theorem s_pas (X : Cx) (S : SC) (W : WX) (F : Fm) (k : Nat) (o : XS X S k) (tk : Takes X W) (st : Stmt) (h0 : mS S .pas st = true) (g : gS (gx X) k .pas) : PS X st (tEx W X.K F (ex .pas)) := by
  have h1 : optB (asWord st) (fun r => decide (r.1 = 2)) = true := h0
  obtain ⟨r, hr, h⟩ := optB_inv h1
  have h : r.1 = 2 := of_decide_eq_true h
  rcases asWord_inv hr with ⟨a, rfl⟩ | ⟨a, rfl⟩ | ⟨a, rfl⟩
  · rw [h] at a; cases a
  · rw [h] at a; cases a
  · exact p_pas
theorem ex_ite (c : CE) (a b : CSs) : ex (.ite c a b) = fun e => (testR (ev c) e).sr fun (r, e) => if r then exs a e else exs b e := by funext e; rw [ex]
theorem ex_fori (tg : CT) (it : CI) (b : CSs) : ex (.fori tg it b) = fun e => (evI it e).sr fun ((xs, x), e) => (forL (forB tg (exs b)) xs (PV.lend e x)).seq fun e' => .nx (PV.unlend e e' x) := by funext e; rw [ex]; rfl
theorem ex_whl (m : En → Nat) (c : CE) (b : CSs) : ex (.whl m c b) = fun e => whileL (testR (ev c)) (exs b) (m e) e := by funext e; rw [ex]
theorem ex_nvr : ex .nvr = fun _ => .no := by funext e; rw [ex]
theorem exs_nil : exs .nil = fun e => .nx e := by funext e; rw [exs]
theorem exs_cons (s : CS) (ss : CSs) : exs (.cons s ss) = fun e => (ex s e).seq (exs ss) := by funext e; rw [exs]
theorem s_ite (c : CE) (a b : CSs) (X : Cx) (S : SC) (W : WX) (F : Fm) (k : Nat) (o : XS X S k) (tk : Takes X W) (st : Stmt) (h0 : mS S (.ite c a b) st = true) (g : gS (gx X) k (.ite c a b)) (ia : ∀ sts, mSs S a sts = true → gSs (gx X) k a → PSs X sts (tEx W X.K F (exs a))) (ib : ∀ sts, mSs S b sts = true → gSs (gx X) k b → PSs X sts (tEx W X.K F (exs b))) : PS X st (tEx W X.K F (ex (.ite c a b))) := by
  have g : gE (gx X) k c ∧ gSs (gx X) k a ∧ gSs (gx X) k b := g
  have h1 : optB (asIf st) _ = true := h0
  obtain ⟨r, hr, h⟩ := optB_inv h1
  obtain rfl := asIf_inv hr
  simp only [Bool.and_eq_true] at h
  rw [ex_ite]
  exact p_ite (e_ok c X S W k o.o tk _ h.1.1 g.1).2 (ia _ h.1.2 g.2.1) (ib _ h.2 g.2.2)
theorem s_fori (tg : CT) (it : CI) (b : CSs) (X : Cx) (S : SC) (W : WX) (F : Fm) (k : Nat) (o : XS X S k) (tk : Takes X W) (st : Stmt) (h0 : mS S (.fori tg it b) st = true) (g : gS (gx X) k (.fori tg it b)) (ib : ∀ sts, mSs S b sts = true → gSs (gx X) k b → PSs X sts (tEx W X.K F (exs b))) : PS X st (tEx W X.K F (ex (.fori tg it b))) := by
  have g : gI (gx X) k it ∧ gSs (gx X) k b := g
  have h1 : optB (asFor st) _ = true := h0
  obtain ⟨r, hr, h⟩ := optB_inv h1
  obtain rfl := asFor_inv hr
  simp only [Bool.and_eq_true] at h
  rw [ex_fori]
  exact p_for o.pas o.o.calm (i_ok it X S W k o.o tk _ _ h.1.2 g.1) (t_ok o.o tg _ h.1.1) (ib _ h.2 g.2) (mI_set h.1.2 _)
theorem s_whl (m : En → Nat) (c : CE) (b : CSs) (X : Cx) (S : SC) (W : WX) (F : Fm) (k : Nat) (o : XS X S k) (tk : Takes X W) (st : Stmt) (h0 : mS S (.whl m c b) st = true) (g : gS (gx X) k (.whl m c b)) (ib : ∀ sts, mSs S b sts = true → gSs (gx X) k b → PSs X sts (tEx W X.K F (exs b))) : PS X st (tEx W X.K F (ex (.whl m c b))) := by
  have g : gE (gx X) k c ∧ gSs (gx X) k b := g
  have h1 : optB (asWhl st) _ = true := h0
  obtain ⟨r, hr, h⟩ := optB_inv h1
  obtain rfl := asWhl_inv hr
  simp only [Bool.and_eq_true] at h
  rw [ex_whl]
  exact p_while o.pas (e_ok c X S W k o.o tk _ h.1 g.1).2 (ib _ h.2 g.2)
theorem s_nvr (X : Cx) (W : WX) (F : Fm) (st : Stmt) : PS X st (tEx W X.K F (ex .nvr)) := by rw [ex_nvr]; exact p_never fun _ => rfl
theorem ss_nil (X : Cx) (S : SC) (W : WX) (F : Fm) (sts : List Stmt) (h : mSs S .nil sts = true) : PSs X sts (tEx W X.K F (exs .nil)) := by
  cases sts with
  | nil => rw [exs_nil]; exact p_nil
  | cons => cases h
theorem ss_cons (c : CS) (cs : CSs) (X : Cx) (S : SC) (W : WX) (F : Fm) (k : Nat) (sts : List Stmt) (h : mSs S (.cons c cs) sts = true) (g : gSs (gx X) k (.cons c cs)) (i1 : ∀ st, mS S c st = true → gS (gx X) k c → PS X st (tEx W X.K F (ex c))) (i2 : ∀ sts, mSs S cs sts = true → gSs (gx X) k cs → PSs X sts (tEx W X.K F (exs cs))) : PSs X sts (tEx W X.K F (exs (.cons c cs))) := by
  cases sts with
  | nil => cases h
  | cons st sts =>
    have h : (mS S c st && mSs S cs sts) = true := h
    simp only [Bool.and_eq_true] at h
    have g : gS (gx X) k c ∧ gSs (gx X) k cs := g
    rw [exs_cons]
    exact p_seq (i1 st h.1 g.1) (i2 sts h.2 g.2)
end
end PV
end
section
namespace PV
open PySem L2 Classical

section
variable (X : Cx) (S : SC) (W : WX) (F : Fm) (k : Nat) (o : XS X S k) (tk : Takes X W)
include o tk
mutual
theorem s_ok : ∀ (c : CS) (st : Stmt), mS S c st = true → gS (gx X) k c → PS X st (tEx W X.K F (ex c))
  | .asg tg a, st, h, g => s_asg tg a X S W F k o tk st h g
  | .par is es, st, h, g => s_par is es X S W F k o tk st h g
  | .put x i a, st, h, g => s_put x i a X S W F k o tk st h g
  | .app x a, st, h, g => s_app x a X S W F k o tk st h g
  | .ext x a, st, h, g => s_ext x a X S W F k o tk st h g
  | .exp a, st, h, g => s_exp a X S W F k o tk st h g
  | .ret a, st, h, g => s_ret a X S W F k o tk st h g
  | .retN, st, h, g => s_retN X S W F k o tk st h g
  | .brk, st, h, g => s_brk X S W F k o tk st h g
  | .cnt, st, h, g => s_contn X S W F k o tk st h g
  | .pas, st, h, g => s_pas X S W F k o tk st h g
  | .ite c a b, st, h, g => s_ite c a b X S W F k o tk st h g (ss_ok a) (ss_ok b)
  | .fori tg it b, st, h, g => s_fori tg it b X S W F k o tk st h g (ss_ok b)
  | .whl m c b, st, h, g => s_whl m c b X S W F k o tk st h g (ss_ok b)
  | .nvr, st, h, g => s_nvr X W F st
  termination_by structural c => c
theorem ss_ok : ∀ (cs : CSs) (sts : List Stmt), mSs S cs sts = true → gSs (gx X) k cs → PSs X sts (tEx W X.K F (exs cs))
  | .nil, sts, h, g => ss_nil X S W F sts h
  | .cons c cs, sts, h, g => ss_cons c cs X S W F k sts h g (s_ok c) (ss_ok cs)
  termination_by structural cs => cs
end
end
end PV
end
section
namespace PV
open PySem L2 Classical

/-! ### a def by its body -/
def fuelC : Cl → Nat
  | .sh (.int i) => i.natAbs
  | .sh (.list ds) => ds.length
  | .ow (.list ds) => ds.length
  | _ => 0
/-- turns that a loop may take, when nothing better is said -/
def fuelE (e : En) : Nat := (e.map fuelC).sum + 2
section
variable {K : PySem.W.Frag} {Hm : Hp}
theorem args_get : ∀ {vs : List V} {ds : List D}, RpAll K Hm vs ds → ∀ (m m' i : Nat), get (ds.map Cl.sh ++ List.replicate m Cl.un) i = .un ∨ ∃ d v, get (ds.map Cl.sh ++ List.replicate m Cl.un) i = .sh d ∧ At (vs.map some ++ List.replicate m' none) i v ∧ Rp K Hm v d
  | _, _, .nil, m, m', i => by
    refine .inl ?_
    unfold get
    simp only [List.map_nil, List.nil_append]
    rw [List.getD_eq_getElem?_getD, List.getElem?_replicate]
    split <;> rfl
  | v :: vs, d :: ds, .cons r t, m, m', 0 => .inr ⟨d, v, rfl, rfl, r⟩
  | v :: vs, d :: ds, .cons r t, m, m', i + 1 => by
    have := args_get t m m' i
    have e1 : get ((d :: ds).map Cl.sh ++ List.replicate m Cl.un) (i + 1) = get (ds.map Cl.sh ++ List.replicate m Cl.un) i := by
      unfold get
      simp
    rw [e1]
    rcases this with q | ⟨d', v', q1, q2, q3⟩
    · exact .inl q
    · exact .inr ⟨d', v', q1, by unfold At at q2 ⊢; simpa using q2, q3⟩
theorem startE_len (kd : Nat) (ds : List D) : (startE kd ds).length = ds.length := by
  cases ds with
  | nil => rfl
  | cons d r => show (r.map Cl.sh).length + 1 = r.length + 1; rw [List.length_map]
theorem start_rel {S : Addr → Prop} {H : Hp} {kd : Nat} {vs : List V} {ds : List D} {N : List Str} (hkd : kd ≤ 2) (hS : ∀ b, S b → H b ≠ none) (hA : ArgR K S H kd vs ds) (hl : vs.length = ds.length) (hn : ds.length ≤ N.length) :
    RelF K ⟨H, S, IoA kd vs⟩ S (startE kd ds ++ List.replicate (N.length - ds.length) .un) (L2.start N vs) H := by
  have len : (L2.start N vs).length = (startE kd ds ++ List.replicate (N.length - ds.length) Cl.un).length := by
    unfold L2.start
    simp only [List.length_append, List.length_map, List.length_replicate, startE_len, hl]
  have st : L2.start N vs = vs.map some ++ List.replicate (N.length - ds.length) none := by unfold L2.start; rw [hl]
  by_cases h0 : kd = 0
  · subst h0
    have hA : RpAll K (rst H S) vs ds := hA
    have e0 : startE 0 ds = ds.map Cl.sh := by cases ds <;> rfl
    have key := fun i => args_get hA (N.length - ds.length) (N.length - ds.length) i
    have nh : ∀ i b, ¬ HeldA (startE 0 ds ++ List.replicate (N.length - ds.length) .un) (L2.start N vs) i b := fun i b ⟨⟨d, h1⟩, _⟩ => by
      rw [e0] at h1
      rcases key i with q | ⟨d', v, q1, _⟩
      · rw [q] at h1; cases h1
      · rw [q1] at h1; cases h1
    refine ⟨⟨len, fun i d hd => ?_, fun i d hd => ?_, fun i d hd => ?_, fun i j b h1 => absurd h1 (nh i b), hS⟩, fun b o h _ => h, fun i b h => absurd h (nh i b), fun b h _ => h, fun b o _ h => h, fun b h => h, fun i d b hd _ => ?_, hS⟩
    · rw [e0] at hd
      rcases key i with q | ⟨d', v, q1, q2, q3⟩
      · rw [q] at hd; cases hd
      · rw [q1] at hd; cases hd
        exact ⟨v, by rw [st]; exact q2, q3⟩
    · rw [e0] at hd
      rcases key i with q | ⟨d', v, q1, _⟩
      · rw [q] at hd; cases hd
      · rw [q1] at hd; cases hd
    · rw [e0] at hd
      rcases key i with q | ⟨d', v, q1, _⟩
      · rw [q] at hd; cases hd
      · rw [q1] at hd; cases hd
    · rw [e0] at hd
      rcases key i with q | ⟨d', v, q1, _⟩
      · rw [q] at hd; cases hd
      · rw [q1] at hd; cases hd
  · unfold ArgR at hA
    rw [if_neg h0] at hA
    obtain ⟨a, vs', d, ds', rfl, rfl, hr, hx⟩ := hA
    have key := fun i => args_get hr (N.length - (d :: ds').length) (N.length - (d :: ds').length) i
    generalize hm : N.length - (d :: ds').length = m at *
    have es : ∀ i, get (startE kd (d :: ds') ++ List.replicate m .un) (i + 1) = get (ds'.map Cl.sh ++ List.replicate m Cl.un) i := fun i => by
      unfold get startE
      simp
    have ez : get (startE kd (d :: ds') ++ List.replicate m .un) 0 = firstC kd d := rfl
    have sz : At (L2.start N (.ref a :: vs')) 0 (.ref a) := by rw [st]; rfl
    have sx : ∀ i v, At (vs'.map some ++ List.replicate m none) i v → At (L2.start N (.ref a :: vs')) (i + 1) v := fun i v h => by
      rw [st]; unfold At at h ⊢; simpa using h
    have hh : ∀ i b, HeldA (startE kd (d :: ds') ++ List.replicate m .un) (L2.start N (.ref a :: vs')) i b → i = 0 ∧ b = a ∧ kd = 1 := fun i b ⟨⟨d', h1⟩, h2⟩ => by
      cases i with
      | succ i =>
        rw [es] at h1
        rcases key i with q | ⟨d', v, q1, _⟩
        · rw [q] at h1; cases h1
        · rw [q1] at h1; cases h1
      | zero =>
        refine ⟨rfl, V.ref.inj (h2.inj sz), ?_⟩
        rw [ez] at h1
        unfold firstC at h1
        split at h1
        · assumption
        · split at h1 <;> cases h1
    have at1 : ∀ i c, get (startE kd (d :: ds') ++ List.replicate m .un) i = c → (i = 0 ∧ c = firstC kd d) ∨ c = .un ∨ ∃ d' v, c = .sh d' ∧ At (L2.start N (.ref a :: vs')) i v ∧ Rp K (rst H S) v d' := fun i c h => by
      cases i with
      | zero => exact .inl ⟨rfl, by rw [← h, ez]⟩
      | succ i =>
        rw [es] at h
        rcases key i with q | ⟨d', v, q1, q2, q3⟩
        · exact .inr (.inl (by rw [← h, q]))
        · exact .inr (.inr ⟨d', v, by rw [← h, q1], sx i v q2, q3⟩)
    rcases (by omega : kd = 1 ∨ kd = 2) with rfl | rfl
    · have hx : S a ∧ OwR K H (rst H S) a d := hx
      have fc : firstC 1 d = .io d := rfl
      refine ⟨⟨len, fun i d' hd => ?_, fun i d' hd => ?_, fun i d' hd => ?_, fun i j b h1 h2 => by rw [(hh i b h1).1, (hh j b h2).1], hS⟩, fun b o h _ => h, fun i b h => ?_, fun b h _ => h, fun b o _ h => h, fun b h => h, fun i d' b hd hb => ?_, hS⟩
      · rcases at1 i _ hd with ⟨_, q⟩ | q | ⟨d2, v, q1, q2, q3⟩
        · rw [fc] at q; cases q
        · cases q
        · cases q1; exact ⟨v, q2, q3⟩
      · generalize hc : get (startE 1 (d :: ds') ++ List.replicate m .un) i = c at hd
        rcases at1 i c hc with ⟨rfl, q⟩ | q | ⟨d2, v, q1, q2, q3⟩
        · rw [q, fc] at hd; cases hd
          exact ⟨a, sz, hx.1, hx.2⟩
        · rw [q] at hd; cases hd
        · rw [q1] at hd; cases hd
      · rcases at1 i _ hd with ⟨_, q⟩ | q | ⟨d2, v, q1, q2, q3⟩
        · rw [fc] at q; cases q
        · cases q
        · cases q1
      · obtain ⟨_, rfl, _⟩ := hh i b h
        exact .inl ⟨rfl, vs', rfl⟩
      · rcases at1 i _ hd with ⟨rfl, q⟩ | q | ⟨d2, v, q1, q2, q3⟩
        · have : b = a := V.ref.inj (hb.inj sz)
          subst this
          exact ⟨rfl, vs', rfl⟩
        · cases q
        · cases q1
    · have hx : FzR K (rst H S) a d := hx
      have fc : firstC 2 d = .fz d := rfl
      have nh : ∀ i b, ¬ HeldA (startE 2 (d :: ds') ++ List.replicate m .un) (L2.start N (.ref a :: vs')) i b := fun i b h => absurd (hh i b h).2.2 (by decide)
      refine ⟨⟨len, fun i d' hd => ?_, fun i d' hd => ?_, fun i d' hd => ?_, fun i j b h1 h2 => absurd h1 (nh i b), hS⟩, fun b o h _ => h, fun i b h => absurd h (nh i b), fun b h _ => h, fun b o _ h => h, fun b h => h, fun i d' b hd hb => ?_, hS⟩
      · rcases at1 i _ hd with ⟨_, q⟩ | q | ⟨d2, v, q1, q2, q3⟩
        · rw [fc] at q; cases q
        · cases q
        · cases q1; exact ⟨v, q2, q3⟩
      · generalize hc : get (startE 2 (d :: ds') ++ List.replicate m .un) i = c at hd
        rcases at1 i c hc with ⟨rfl, q⟩ | q | ⟨d2, v, q1, q2, q3⟩
        · rw [q, fc] at hd; cases hd
        · rw [q] at hd; cases hd
        · rw [q1] at hd; cases hd
      · rcases at1 i _ hd with ⟨rfl, q⟩ | q | ⟨d2, v, q1, q2, q3⟩
        · rw [fc] at q; cases q
          exact ⟨a, sz, hx⟩
        · cases q
        · cases q1
      · rcases at1 i _ hd with ⟨rfl, q⟩ | q | ⟨d2, v, q1, q2, q3⟩
        · rw [fc] at q; cases q
        · cases q
        · cases q1
/-- behind the body -/
theorem end_post {S S' : Addr → Prop} {H H' : Hp} {kd : Nat} {vs : List V} {e' : En} {σ' : St} (R : RelF K ⟨H, S, IoA kd vs⟩ S' e' σ' H') (h1 : kd = 1 → ∃ d, get e' 0 = .io d) : FnPost S H kd vs S' H' ∧ ∀ a d, IoA kd vs a → get e' 0 = .io d → OwR K H' (rst H' S') a d := by
  have key : ∀ a d, IoA kd vs a → get e' 0 = .io d → S' a ∧ OwR K H' (rst H' S') a d := fun a d ⟨k1, vs', hv⟩ hd => by
    obtain ⟨c, h3, h4, h5⟩ := R.rel.held 0 d (by rw [hd]; rfl)
    obtain ⟨_, vs2, hv2⟩ := R.io 0 d c hd h3
    rw [hv] at hv2
    cases hv2
    exact ⟨h4, h5⟩
  refine ⟨⟨R.keep, R.dom, fun b hb => ?_, R.gr, R.rel.trk⟩, fun a d i h => (key a d i h).2⟩
  by_cases q : IoA kd vs b
  · obtain ⟨d, hd⟩ := h1 q.1
    exact (key b d q hd).1
  · exact R.zs b hb q
theorem fn_post {P : Program} {w : World} {S : Addr → Prop} {H : Hp} {kd : Nat} {vs : List V} {Q : VK} {E : XK} {W : WX} {e0 : En} {σ0 : St} {r : SR} (hW : W = fun cls d _ H => E cls d H)
    (hE : FnEnd K S H kd vs Q E (match r with
      | .rt r e => endF kd r e
      | .nx e => endF kd (.sh .none) e
      | .rz x _ => .rz x
      | _ => .no)) : PostS W K ⟨H, S, IoA kd vs⟩ σ0 S e0 H { nx := fun _ H' => Q .non H', rt := Q } r := by
  have fin : ∀ (r : Cl) (e' : En) (v : V) (σ' : St) (S' : Addr → Prop) (H' : Hp), FnEnd K S H kd vs Q E (endF kd r e') → RelF K ⟨H, S, IoA kd vs⟩ S' e' σ' H' → RVr K ⟨H, S, IoA kd vs⟩ σ' S' e' H' v r → Q v H' := fun r e' v σ' S' H' hE R hv => by
    have hr : RVf K H H' S' v r := by
      cases r with
      | ow d =>
        obtain ⟨p, a, b, c, _, o⟩ := hv
        exact ⟨p, a, b, c, o⟩
      | _ => exact hv
    unfold endF at hE
    by_cases k1 : kd = 1
    · rw [if_pos k1] at hE
      cases q : get e' 0 with
      | io d =>
        rw [q] at hE
        obtain ⟨a, b⟩ := end_post R fun _ => ⟨d, q⟩
        exact hE v H' S' a (fun a i => b a d i q) hr
      | _ => rw [q] at hE; exact hE.elim
    · rw [if_neg k1] at hE
      obtain ⟨a, b⟩ := end_post R fun z => absurd z k1
      exact hE v H' S' a (fun a i => absurd i.1 k1) hr
  cases r with
  | nx e => exact fun σ' S' H' R _ => fin (.sh .none) e .non σ' S' H' hE R .non
  | rt r e => exact fun v σ' S' H' R hv => fin r e v σ' S' H' hE R hv
  | bk e => exact hE.elim
  | ct e => exact hE.elim
  | rz x e =>
    intro C da σ' S' H' R hx
    exact hx.elim
  | no => exact hE.elim
theorem ArgR.length {S : Addr → Prop} {H : Hp} {kd : Nat} {vs : List V} {ds : List D} (h : ArgR K S H kd vs ds) : vs.length = ds.length := by
  unfold ArgR at h
  split at h
  · exact RpAll.length h
  · obtain ⟨a, vs', d, ds', rfl, rfl, hr, _⟩ := h
    rw [List.length_cons, List.length_cons, hr.length]
theorem fn_ok {P : Program} {w : World} {mg : Str → Option Value} {base : Heap} {x qual : Str} {st : Stmt} {f : Addr} {fd : FuncData} {N ps : List Str} {k kd : Nat} {body : CSs} (hkd : kd ≤ 2) (F : Fun K x qual st f fd) (S : FnScope N ps (defScope st))
    (hm : mSs ⟨N, defScope st, fun _ => true⟩ body (defBody st) = true) (hg : gSs ⟨P, w, K, mg, base⟩ k body) (hb : ∀ y ∈ bltNames, mg y = none) :
    FnG P w K mg base (L2.CX P w) (k + 1) f fd ps (spOf K ⟨kd, runF ps.length N.length kd body⟩) := by
  refine fn_g F S (fun {vs H Q E} ⟨Z, ds, hZ, hA, hE⟩ => ?_) fun cdv A outer s H vs Q E hgd hr ⟨Z, ds, hZ, hA, hE⟩ => ?_
  · have hE : FnEnd K Z H kd vs Q E (runF ps.length N.length kd body ds) := hE
    unfold runF at hE
    split at hE
    · rename_i h
      rw [hA.length]; exact h.1
    · exact hE.elim
  · have hE : FnEnd K Z H kd vs Q E (runF ps.length N.length kd body ds) := hE
    unfold runF at hE
    split at hE
    · rename_i h
      have tk : Takes (cxOf (L2.CX P w) P w K mg base N qual (defScope st) f cdv A outer s H E) (fun cls d _ H => E cls d H) := takes_of rfl rfl rfl rfl
      have xo : XS (cxOf (L2.CX P w) P w K mg base N qual (defScope st) f cdv A outer s H E) ⟨N, defScope st, fun _ => true⟩ k :=
        ⟨⟨rfl, S.nd, rfl, rfl, hr, hgd, fun _ => rfl, hb⟩, S.kind, passes_of rfl⟩
      refine ⟨_, ss_ok _ _ _ ⟨H, Z, IoA kd vs⟩ k xo tk body (defBody st) hm hg, Z, _, start_rel (N := N) hkd hZ hA hA.length (by rw [h.1]; exact h.2.1), ?_⟩
      exact fn_post (P := P) (w := w) rfl hE
    · exact hE.elim
/-- the name of a def that is known -/
theorem fn_good {P : Program} {w : World} {mg : Str → Option Value} {base : Heap} {nm : Str} {G : FSig} {f : Addr} {fd : FuncData} {ps : List Str} {j k : Nat} (hk : G.kd ≤ 2) (hm : mg nm = some (.ref f)) (ok : FnG P w K mg base (L2.CX P w) j f fd ps (spOf K G)) (hj : j ≤ k) (kp : PySem.W.keepIn K (.ref f) = true) (hb : Binds K fd ps []) : FnGood ⟨P, w, K, mg, base⟩ k nm G :=
  ⟨hk, f, fd, ps, hm, ok.up hj, kp, hb⟩
/-- what the law is asked -/
theorem law_sp {H : Hp} {a : Addr} {ns : List Int} {G : FSig} (hk : G.kd = 2) (hS : SqL K H a (ns.map V.int)) (h : ∃ x, G.sem [.list (ns.map .int)] = .ok (.sh (.bool true)) x) : spOf K G [.ref a] H (fun v _ => v = .bl true) fun _ _ _ => False := by
  obtain ⟨x, h⟩ := h
  refine ⟨fun _ => False, [.list (ns.map .int)], fun _ z => z.elim, ?_, ?_⟩
  · unfold ArgR
    rw [if_neg (by rw [hk]; decide)]
    refine ⟨a, [], _, [], rfl, rfl, .nil, ?_⟩
    rw [if_neg (by rw [hk]; decide)]
    refine ⟨ns.map V.int, _, rfl, ?_, RpAll.of_ints ns⟩
    have : rst H (fun _ => False) = H := by funext b; unfold rst; simp
    rw [this]; exact hS
  · rw [h]
    intro v H' S' _ _ hv
    exact Rp.bool_inv hv
end
end PV
end
section
namespace PV
open PySem L2 Classical PySem.Spec PyProof.Rows

/-! ### the law's call, for promises that count on no guard -/
section
variable {P : Program} {w : World} {K : PySem.W.Frag} {mg mb : Str → Option Value} {CX : CXT} {k : Nat} {fa a : Addr} {fd : FuncData} {x : Str} {sp : Sp} {t : Shared} {vs : List Value} {ns : List Int}
theorem law_at {H : Hp} (inK : K.In t.heap) (nm : t.heap.Ns mainGlobals mg) (nb : t.heap.Ns builtinsNs mb) (bb : ∀ y : Str, y ≠ "__name__" → mb y = bootBuiltins y) (nl : t.heap.NoLimit) (ng : t.gens = #[])
    (oa : t.heap.get? a = some { cls := .type "list", data := .seq vs.toArray }) (F : ∀ base : Heap, K.In base → base.Ns mainGlobals mg → FnG P w K mg base CX k fa fd [x] sp)
    (bd : ∀ (s : Shared) (u : Value), BindsTo s fd ⟨[u], []⟩ [(x, u)]) (hr : Room k callerA) (noX : ∀ H e s', CX [] H t (fun _ _ _ => False) e s' → False)
    (hs : sp [.ref a] H (fun v _ => v = .bl true) fun _ _ _ => False) (fz : Only H) (ok : HOk P w H t.heap) (only : ∀ {b u}, H b = some u → b = a) (out : ∀ {u}, H a = some u → K.lookup a = none) :
    codeAny (model P w) callerA (.call (.ref fa) ⟨[.ref a], []⟩) (fun r t' => r = .ok (.ret (.bool true)) ∧ OldK t.heap t'.heap ∧ t'.os = t.os ∧ AllBare t'.gens) t := by
  have free : ∀ {b : Addr} {o : Obj}, b ≠ a → t.heap.get? b = some o → (hidT t.heap H).get? b = some o := fun {b o} ne e => by
    refine hidT_get e ?_
    by_cases q : H b = none
    · exact q
    · obtain ⟨u, hu⟩ := Option.ne_none_iff_exists'.mp q
      exact absurd (only hu) ne
  have tab : ∀ {b : Addr} {m : Str → Option Value}, t.heap.Ns b m → (hidT t.heap H).Ns b m := by
    rintro b m ⟨o, es, ep, e, d, r⟩
    refine ⟨o, es, ep, free (fun z => ?_) e, d, r⟩
    rw [z, oa] at e
    cases e
    cases d
  have inB : K.In (hidT t.heap H) := fun b o e => by
    by_cases q : b = a
    · subst q
      refine hidT_get (inK _ o e) ?_
      by_cases q2 : H b = none
      · exact q2
      · obtain ⟨u, hu⟩ := Option.ne_none_iff_exists'.mp q2
        rw [out hu] at e
        cases e
    · exact free q (inK b o e)
  obtain ⟨mc, c1, c2⟩ := nl
  have md : Mod K mg (hidT t.heap H) := { kin := inB, glob := tab nm, blt := ⟨mb, tab nb, bb⟩, nolimit := ⟨mc, tab c1, c2⟩ }
  have en : Env0 P w K mg (hidT t.heap H) callerA [] t H :=
    { frames := rfl, mod := md, bs := fun _ _ e => of_hidT e, bsz := Nat.le_of_eq (hidT_size t.heap H), funs := trivial, frf := (fun _ z => nomatch z), hok := ok, bare := AllBare.of_eq ng }
  refine codeAny_mono ((F (hidT t.heap H) inB (tab nm)).goes (ar := ⟨[.ref a], []⟩) (us := [.ref a]) (vs := [.ref a]) rfl hr en (bd t (.ref a)) (.cons rfl .nil) hs) ?_
  intro r t' h
  match r, h with
  | .error e, h => exact (noX H e t' h).elim
  | .ok .next, h => exact h.elim
  | .ok .brk, h => exact h.elim
  | .ok .cont, h => exact h.elim
  | .ok (.ret u), ⟨v, H', os, bare, un, ok', rv, hv⟩ =>
    have hv : v = .bl true := hv
    subst hv
    have hu : u = Value.bool true := rv
    subst hu
    refine ⟨rfl, OldK.of_keep ?_, os, bare⟩
    intro b o e
    rcases fz b with q | ⟨ob, xs, q⟩
    · exact un.keep b o e q (fun z => nomatch z) (by simp)
    · have g1 := (ok b _ q).1
      have g2 := (ok' b _ (un.frzs b ob _ q)).1
      rw [e] at g1
      cases g1
      exact g2
theorem law_g (inK : K.In t.heap) (nm : t.heap.Ns mainGlobals mg) (nb : t.heap.Ns builtinsNs mb) (bb : ∀ y : Str, y ≠ "__name__" → mb y = bootBuiltins y) (nl : t.heap.NoLimit) (ng : t.gens = #[])
    (oa : t.heap.get? a = some { cls := .type "list", data := .seq vs.toArray }) (ia : IntsAre vs ns) (lim : ns.length ≤ sizeLine) (F : ∀ base : Heap, K.In base → base.Ns mainGlobals mg → FnG P w K mg base CX k fa fd [x] sp)
    (bd : ∀ (s : Shared) (u : Value), BindsTo s fd ⟨[u], []⟩ [(x, u)]) (hr : Room k callerA) (noX : ∀ H e s', CX [] H t (fun _ _ _ => False) e s' → False)
    (hs : ∀ H : Hp, SqL K H a (ns.map V.int) → sp [.ref a] H (fun v _ => v = .bl true) fun _ _ _ => False) :
    codeAny (model P w) callerA (.call (.ref fa) ⟨[.ref a], []⟩) (fun r t' => r = .ok (.ret (.bool true)) ∧ OldK t.heap t'.heap ∧ t'.os = t.os ∧ AllBare t'.gens) t := by
  have rel : Vals (ns.map V.int) vs := vals_ints ia
  cases written : K.lookup a with
  | some o =>
    have same := inK a o written
    rw [oa] at same
    cases same
    have sq : SqL K (fun _ => none) a (ns.map V.int) := .inr ⟨_, vs.toArray, _, written, rfl, rfl, rfl, by rw [List.size_toArray, ia.length]; exact lim, by simpa using rel⟩
    exact law_at inK nm nb bb nl ng oa F bd hr noX (hs _ sq) (fun _ => .inl rfl) (fun b u z => by cases z) (fun z => by cases z) (fun z => by cases z)
  | none =>
    let T : Hp := fun b => if b = a then some (.frz { cls := .type "list", data := .seq vs.toArray } (.lst (ns.map V.int))) else none
    have at1 : T a = some (.frz { cls := .type "list", data := .seq vs.toArray } (.lst (ns.map V.int))) := if_pos rfl
    have at2 : ∀ {b}, b ≠ a → T b = none := fun ne => if_neg ne
    have sq : SqL K T a (ns.map V.int) := .inl (.inr ⟨_, at1⟩)
    refine law_at (H := T) inK nm nb bb nl ng oa F bd hr noX (hs _ sq) (fun b => ?_) (fun b u z => ?_) (fun {b u} z => ?_) (fun _ => written)
    · by_cases q : b = a
      · subst q; exact .inr ⟨_, _, at1⟩
      · exact .inl (at2 q)
    · by_cases q : b = a
      · subst q
        rw [at1] at z
        cases z
        exact ⟨oa, by rw [List.length_map]; exact lim, vs, _, rel, oa⟩
      · rw [at2 q] at z; cases z
    · by_cases q : b = a
      · exact q
      · rw [at2 q] at z; cases z
end
theorem walk_g {l : PySem.W.OpenLaw} {n k : Nat} {q : Program} {loose : List Str} {XP : (Str → Option Value) → Heap → Prop} {YP : World → Heap → Prop} {d : DefRec} {K : Params → PySem.W.Frag} {CX : World → CXT} {sp : World → Sp} {x : Str}
    (most : l.most = some n) (small : n ≤ sizeLine) (plain : d.params.defaults = []) (hr : Room k callerA) (inY : ∀ (w : World) (h : Heap), YP w h → (K w.params).In h)
    (F : ∀ (w : World) (mg : Str → Option Value) (fa : Addr) (h : Heap), (K w.params).In h → h.Ns mainGlobals mg → mg d.name = some (.ref fa) →
      ∃ fd : FuncData, (∀ (s : Shared) (u : Value), BindsTo s fd ⟨[u], []⟩ [(x, u)]) ∧ ∀ base : Heap, (K w.params).In base → base.Ns mainGlobals mg → FnG l.prog w (K w.params) mg base (CX w) k fa fd [x] (sp w))
    (hs : ∀ (w : World) (H : Hp) (a : Addr) (ns : List Int), ns.length ≤ n → SqL (K w.params) H a (ns.map V.int) → sp w [.ref a] H (fun v _ => v = .bl true) fun _ _ _ => False)
    (noX : ∀ (w : World) (H : Hp) (s : Shared) (e : Value) (s' : Shared), CX w [] H s (fun _ _ _ => False) e s' → False) :
    PySem.W.WalkO q loose XP YP l.row.toRowW d [] (fun f vs => PySem.call f vs) := by
  apply Att.attach_call most plain
  intro w s₀ t mg mb fa o pm cd doc a vs ns G Y ho hd hcd hmg oa ia hlen hg
  have inK := inY w _ Y
  obtain ⟨fd, bd, hF⟩ := F w mg fa _ inK G.T.g hmg
  exact law_g inK G.T.g G.T.b G.T.builtins G.T.nolimit hg oa ia (Nat.le_trans hlen small) hF bd hr (fun H e s' => noX w H t e s') fun H sq => hs w H a ns hlen sq
end PV
end
section
namespace PV
open PySem

/-! ### reading the evaluator -/
theorem get_z (c : Cl) (e : En) : get (c :: e) 0 = c := rfl
theorem get_s (c : Cl) (e : En) (i : Nat) : get (c :: e) (i + 1) = get e i := rfl
theorem put_z (c d : Cl) (e : En) : put (c :: e) 0 d = d :: e := rfl
theorem put_s (c d : Cl) (e : En) (i : Nat) : put (c :: e) (i + 1) d = c :: put e i d := rfl
/-- a loop's turns under an invariant by the count of turns -/
theorem forL_inv {f : D → En → SR} (I : Nat → En → Prop) : ∀ (xs : List D) (k : Nat) (e : En), I k e → (∀ (i : Nat) (x : D) (e : En), xs[i]? = some x → I (k + i) e → ∃ e', (f x e = .nx e' ∨ f x e = .ct e') ∧ I (k + i + 1) e') → ∃ e', forL f xs e = .nx e' ∧ I (k + xs.length) e'
  | [], k, e, h, _ => ⟨e, rfl, h⟩
  | x :: xs, k, e, h, hs => by
    obtain ⟨e1, h1, h2⟩ := hs 0 x e rfl h
    obtain ⟨e2, h3, h4⟩ := forL_inv I xs (k + 1) e1 h2 fun i y e hy hi => by
      have := hs (i + 1) y e (by simpa using hy) (by rw [show k + (i + 1) = k + 1 + i by omega]; exact hi)
      rw [show k + (i + 1) + 1 = k + 1 + i + 1 by omega] at this
      exact this
    refine ⟨e2, ?_, by rw [List.length_cons, show k + (xs.length + 1) = k + 1 + xs.length by omega]; exact h4⟩
    unfold forL
    rcases h1 with h1 | h1 <;> rw [h1] <;> exact h3
/-- the same, by what is still to come -/
theorem forL_fold {α : Type} {f : D → En → SR} (E : α → En) (g : α → D → α) (xs : List D) (a : α) (h : ∀ x ∈ xs, ∀ a, f x (E a) = .nx (E (g a x))) : forL f xs (E a) = .nx (E (xs.foldl g a)) := by
  induction xs generalizing a with
  | nil => rfl
  | cons x xs ih =>
    unfold forL
    rw [h x List.mem_cons_self a]
    exact ih (g a x) fun y hy => h y (List.mem_cons_of_mem _ hy)
theorem lcL_map {f : D → En → R (Option D × En)} (g : D → D) (e : En) : ∀ (xs acc : List D), (∀ x ∈ xs, f x e = .ok (some (g x), e)) → lcL f xs acc e = .ok (acc ++ xs.map g, e)
  | [], acc, _ => by unfold lcL; simp
  | x :: xs, acc, h => by
    unfold lcL
    rw [h x List.mem_cons_self]
    show lcL f xs (acc ++ [g x]) e = _
    rw [lcL_map g e xs (acc ++ [g x]) fun y hy => h y (List.mem_cons_of_mem _ hy)]
    simp
theorem lcL_filter {f : D → En → R (Option D × En)} (g : D → Option D) (e : En) : ∀ (xs acc : List D), (∀ x ∈ xs, f x e = .ok (g x, e)) → lcL f xs acc e = .ok (acc ++ xs.filterMap g, e)
  | [], acc, _ => by unfold lcL; simp
  | x :: xs, acc, h => by
    unfold lcL
    rw [h x List.mem_cons_self]
    cases q : g x with
    | none =>
      show lcL f xs acc e = _
      rw [lcL_filter g e xs acc fun y hy => h y (List.mem_cons_of_mem _ hy), List.filterMap_cons, q]
    | some d =>
      show lcL f xs (acc ++ [d]) e = _
      rw [lcL_filter g e xs (acc ++ [d]) fun y hy => h y (List.mem_cons_of_mem _ hy), List.filterMap_cons, q]
      simp
/-- a while loop, by a measure that falls -/
theorem whileL_ind {c : En → R (Bool × En)} {f : En → SR} (I : En → Prop) (Q : SR → Prop) (μ : En → Nat) (h0 : ∀ e, I e → (∃ e1, c e = .ok (false, e1) ∧ Q (.nx e1)) ∨ ∃ e1 e2, c e = .ok (true, e1) ∧ f e1 = .nx e2 ∧ I e2 ∧ μ e2 < μ e) : ∀ (n : Nat) (e : En), I e → μ e < n → Q (whileL c f n e)
  | 0, e, _, h => by omega
  | n + 1, e, hi, h => by
    unfold whileL
    rcases h0 e hi with ⟨e1, a, b⟩ | ⟨e1, e2, a, b, d, m⟩
    · rw [a]; exact b
    · rw [a]
      show Q (match f e1 with | .nx e => whileL c f n e | .ct e => whileL c f n e | .bk e => .nx e | r => r)
      rw [b]
      exact whileL_ind I Q μ h0 n e2 d (by omega)
section
variable {α β : Type} {e : En} {ds : List D}
theorem bind_ok (a : α) (f : α → R β) : R.bind (.ok a) f = f a := rfl
theorem bind_no (f : α → R β) : R.bind (.no : R α) f = .no := rfl
theorem sr_ok (a : α) (f : α → SR) : R.sr (.ok a) f = f a := rfl
theorem seq_nx (e : En) (f : En → SR) : SR.seq (.nx e) f = f e := rfl
theorem seq_rt (r : Cl) (e : En) (f : En → SR) : SR.seq (.rt r e) f = .rt r e := rfl
theorem lift_s (a : α) : lift (some a) = .ok a := rfl
theorem getv (d : D) : Op.get e (.val d) = some d := rfl
theorem gets (i : Nat) : Op.get e (.slot i) = valOf (get e i) := rfl
theorem getWv (d : D) : Op.getW e (.val d) = some d := rfl
theorem getWs (i : Nat) : Op.getW e (.slot i) = valW (get e i) := rfl
theorem getIv (d : D) : Op.getI e (.val d) = some d := rfl
theorem getIs (i : Nat) : Op.getI e (.slot i) = valI (get e i) := rfl
theorem vo_sh (d : D) : valOf (.sh d) = some d := rfl
theorem vo_ow (d : D) : valOf (.ow d) = some d := rfl
theorem vo_io (d : D) : valOf (.io d) = some d := rfl
theorem vo_le (d : D) : valOf (.le d) = some d := rfl
theorem vw_sh (d : D) : valW (.sh d) = some d := rfl
theorem vw_ow (d : D) : valW (.ow d) = some d := rfl
theorem vw_io (d : D) : valW (.io d) = some d := rfl
theorem vw_le (d : D) : valW (.le d) = some d := rfl
theorem vw_fz (d : D) : valW (.fz d) = some d := rfl
theorem eq_int (a b : Int) : eqD (.int a) (.int b) = some (decide (a = b)) := by
  have h : (SeqAt.shaped (.int a) && SeqAt.shaped (.int b)) = true := rfl
  unfold eqD
  rw [h]
  rfl
theorem cmp_eq (a b : D) : cmpD .eq a b = eqD a b := rfl
theorem cmp_ne (a b : D) : cmpD .ne a b = (eqD a b).map (!·) := rfl
theorem cmp_lt (a b : Int) : cmpD .lt (.int a) (.int b) = some (decide (a < b)) := rfl
theorem cmp_gt (a b : Int) : cmpD .gt (.int a) (.int b) = some (decide (b < a)) := rfl
theorem cmp_le (a b : Int) : cmpD .le (.int a) (.int b) = some (decide (a ≤ b)) := rfl
theorem cmp_ge (a b : Int) : cmpD .ge (.int a) (.int b) = some (decide (b ≤ a)) := rfl
theorem bin_add (a b : Int) : binD .add (.int a) (.int b) = some (.sh (.int (a + b))) := rfl
theorem bin_sub (a b : Int) : binD .sub (.int a) (.int b) = some (.sh (.int (a - b))) := rfl
theorem bin_mul {a b : Int} (h : mulOk a b = true) : binD .mul (.int a) (.int b) = some (.sh (.int (a * b))) := by
  show (if mulOk a b = true then _ else _) = _
  rw [if_pos h]
theorem bin_mod {a b : Int} (h : 0 < b) : binD .mod (.int a) (.int b) = some (.sh (.int (a % b))) := by
  show (if 0 < b then _ else _) = _
  rw [if_pos h]
theorem bin_fdiv {a b : Int} (h : 0 < b) (h2 : b.natAbs.log2 < 9000) : binD .fdiv (.int a) (.int b) = some (.sh (.int (a / b))) := by
  show (if 0 < b ∧ b.natAbs.log2 < 9000 then _ else _) = _
  rw [if_pos ⟨h, h2⟩]
theorem tst_b (b : Bool) (e : En) (r : En → R (Cl × En)) (h : r e = .ok (.sh (.bool b), e)) : testR r e = .ok (b, e) := by
  unfold testR
  rw [h]
  rfl
end
end PV
end
section
namespace PV
open PySem

/-! ### fractions in lowest terms -/
def RD (a b : Int) : D := .tuple [.int (a / Int.gcd a b), .int (b / Int.gcd a b)]
theorem gcd_pos {a b : Int} (hb : 0 < b) : (0 : Int) < Int.gcd a b := by
  have : Int.gcd a b ≠ 0 := fun h => by
    rw [Int.gcd_eq_zero_iff] at h
    omega
  omega
theorem rd_scale {a b k : Int} (hk : 0 < k) (hb : 0 < b) : RD (k * a) (k * b) = RD a b := by
  unfold RD
  have hg : ((Int.gcd (k * a) (k * b) : Nat) : Int) = k * Int.gcd a b := by
    rw [Int.gcd_mul_left]
    have : (k.natAbs : Int) = k := by omega
    rw [Int.natCast_mul, this]
  rw [hg, Int.mul_ediv_mul_of_pos _ _ hk, Int.mul_ediv_mul_of_pos _ _ hk]
theorem rd_eq {a b c d : Int} (hb : 0 < b) (hd : 0 < d) (h : a * d = c * b) : RD a b = RD c d := by
  rw [← rd_scale (k := d) (a := a) (b := b) hd hb, ← rd_scale (k := b) (a := c) (b := d) hb hd, Int.mul_comm d a, h, Int.mul_comm c b, Int.mul_comm d b]
/-- the parts of a fraction -/
theorem rd_parts (a : Int) {b : Int} (hb : 0 < b) : ∃ p q g : Int, RD a b = .tuple [.int p, .int q] ∧ 0 < q ∧ 0 < g ∧ a = g * p ∧ b = g * q := by
  have hg := gcd_pos (a := a) hb
  have h1 : a = Int.gcd a b * (a / Int.gcd a b) := (Int.mul_ediv_cancel' (Int.gcd_dvd_left a b)).symm
  have h2 : b = Int.gcd a b * (b / Int.gcd a b) := (Int.mul_ediv_cancel' (Int.gcd_dvd_right a b)).symm
  refine ⟨_, _, Int.gcd a b, rfl, ?_, hg, h1, h2⟩
  by_cases q : 0 < b / Int.gcd a b
  · exact q
  · exfalso
    have : (Int.gcd a b : Int) * (b / Int.gcd a b) ≤ 0 := Int.mul_nonpos_of_nonneg_of_nonpos (by omega) (by omega)
    omega
theorem rd_inj {a b c d : Int} (hb : 0 < b) (hd : 0 < d) (h : RD a b = RD c d) : a * d = c * b := by
  obtain ⟨p, q, g, e1, _, _, ha, hb'⟩ := rd_parts a hb
  obtain ⟨r, s, g', e2, _, _, hc, hd'⟩ := rd_parts c hd
  rw [e1, e2] at h
  have hp : p = r := by injection h with h; injection h with h1 h2; injection h1
  have hq : q = s := by injection h with h; injection h with h1 h2; injection h2 with h3; injection h3
  rw [ha, hb', hc, hd', hp, hq]
  simp only [Int.mul_assoc, Int.mul_comm, Int.mul_left_comm]
end PV
end
section
namespace PV.Lib
open PySem PV
def b_is_integer : CSs := (.cons (.ret (.bop true (.cons (.isi (.var 0) [.int]) (.cons (.nt (.isi (.var 0) [.bool])) .nil)))) .nil)
def s_is_integer : FSig := ⟨0, runF 1 1 0 b_is_integer⟩
def b_is_within : CSs := (.cons (.ret (.bop true (.cons (.call "is_integer" s_is_integer (.cons (.var 0) .nil)) (.cons (.chn .le .le (.var 1) (.var 0) (.var 2)) .nil)))) .nil)
def s_is_within : FSig := ⟨0, runF 3 3 0 b_is_within⟩
def b_is_tuple : CSs := (.cons (.ret (.bop true (.cons (.isi (.var 0) [.tuple]) (.cons (.chn .le .le (.var 1) (.bi .len (.cons (.var 0) .nil)) (.var 2)) .nil)))) .nil)
def s_is_tuple : FSig := ⟨0, runF 3 3 0 b_is_tuple⟩
def b_divisor : CSs := (.cons (.par [0, 1] (.cons (.bi .abs (.cons (.var 0) .nil)) (.cons (.bi .abs (.cons (.var 1) .nil)) .nil))) (.cons (.whl fuelE (.cmp .ne (.var 1) (.lit (.int 0))) (.cons (.par [0, 1] (.cons (.var 1) (.cons (.bin .mod (.var 0) (.var 1)) .nil))) .nil)) (.cons (.ret (.var 0)) .nil)))
def s_divisor : FSig := ⟨0, runF 2 2 0 b_divisor⟩
def b_reduced : CSs := (.cons (.asg (.nm 2) (.call "divisor" s_divisor (.cons (.var 0) (.cons (.var 1) .nil)))) (.cons (.asg (.nm 3) (.ife (.cmp .gt (.var 1) (.lit (.int 0))) (.lit (.int 1)) (.neg (.lit (.int 1))))) (.cons (.ret (.tup (.cons (.bin .fdiv (.bin .mul (.var 3) (.var 0)) (.var 2)) (.cons (.bin .fdiv (.bin .mul (.var 3) (.var 1)) (.var 2)) .nil)))) .nil)))
def s_reduced : FSig := ⟨0, runF 2 4 0 b_reduced⟩
def b_times : CSs := (.cons (.ret (.call "reduced" s_reduced (.cons (.bin .mul (.idx (.var 0) (.lit (.int 0))) (.idx (.var 1) (.lit (.int 0)))) (.cons (.bin .mul (.idx (.var 0) (.lit (.int 1))) (.idx (.var 1) (.lit (.int 1)))) .nil)))) .nil)
def s_times : FSig := ⟨0, runF 2 2 0 b_times⟩
def b_added : CSs := (.cons (.ret (.call "reduced" s_reduced (.cons (.bin .add (.bin .mul (.idx (.var 0) (.lit (.int 0))) (.idx (.var 1) (.lit (.int 1)))) (.bin .mul (.idx (.var 1) (.lit (.int 0))) (.idx (.var 0) (.lit (.int 1))))) (.cons (.bin .mul (.idx (.var 0) (.lit (.int 1))) (.idx (.var 1) (.lit (.int 1)))) .nil)))) .nil)
def s_added : FSig := ⟨0, runF 2 2 0 b_added⟩
def b_less : CSs := (.cons (.ret (.call "added" s_added (.cons (.var 0) (.cons (.tup (.cons (.neg (.idx (.var 1) (.lit (.int 0)))) (.cons (.idx (.var 1) (.lit (.int 1))) .nil))) .nil)))) .nil)
def s_less : FSig := ⟨0, runF 2 2 0 b_less⟩
def b_is_less : CSs := (.cons (.ret (.cmp .lt (.bin .mul (.idx (.var 0) (.lit (.int 0))) (.idx (.var 1) (.lit (.int 1)))) (.bin .mul (.idx (.var 1) (.lit (.int 0))) (.idx (.var 0) (.lit (.int 1)))))) .nil)
def s_is_less : FSig := ⟨0, runF 2 2 0 b_is_less⟩
def b_is_fraction : CSs := (.cons (.ite (.bop false (.cons (.nt (.call "is_tuple" s_is_tuple (.cons (.var 0) (.cons (.lit (.int 2)) (.cons (.lit (.int 2)) .nil))))) (.cons (.nt (.bi .all (.cons (.lc [("one", 1)] (.nm 1) (.fzd (.var 0)) .noe (.bop true (.cons (.isi (.var 1) [.int]) (.cons (.nt (.isi (.var 1) [.bool])) .nil)))) .nil))) .nil))) (.cons (.ret (.lit (.bool false))) .nil) .nil) (.cons (.ret (.bop true (.cons (.cmp .gt (.idx (.var 0) (.lit (.int 1))) (.lit (.int 0))) (.cons (.cmp .eq (.call "reduced" s_reduced (.cons (.idx (.var 0) (.lit (.int 0))) (.cons (.idx (.var 0) (.lit (.int 1))) .nil))) (.var 0)) .nil)))) .nil))
def s_is_fraction : FSig := ⟨0, runF 1 2 0 b_is_fraction⟩
def b_is_chance : CSs := (.cons (.ret (.bop true (.cons (.call "is_fraction" s_is_fraction (.cons (.var 0) .nil)) (.cons (.chn .le .le (.lit (.int 0)) (.idx (.var 0) (.lit (.int 0))) (.idx (.var 0) (.lit (.int 1)))) .nil)))) .nil)
def s_is_chance : FSig := ⟨0, runF 1 1 0 b_is_chance⟩
end PV.Lib
end
section
namespace PV.Lib
open PySem PV
theorem sem_divisor (a b : Int) : s_divisor.sem [.int a, .int b] = .ok (.sh (.int (Int.gcd a b))) .none := by
  show runF 2 2 0 b_divisor [.int a, .int b] = _
  have key : ∀ (n : Nat) (x y : Nat), y < n → ∃ z, whileL (testR (ev (.cmp .ne (.var 1) (.lit (.int 0))))) (exs (.cons (.par [0, 1] (.cons (.var 1) (.cons (.bin .mod (.var 0) (.var 1)) .nil))) .nil)) n [.sh (.int x), .sh (.int y)] = .nx [.sh (.int (Nat.gcd x y)), .sh z] := by
    intro n
    induction n with
    | zero => intro x y h; omega
    | succ n ih =>
      intro x y hn
      unfold whileL
      have ht : testR (ev (.cmp .ne (.var 1) (.lit (.int 0)))) [.sh (.int x), .sh (.int y)] = .ok (!decide ((y : Int) = 0), [.sh (.int x), .sh (.int y)]) := tst_b _ _ _ (by
        simp only [get_z, get_s, put_z, put_s, bind_ok, sr_ok, seq_nx, seq_rt, lift_s, getv, gets, getWv, getWs, vo_sh, vo_ow, vw_sh, vw_ow, eq_int, cmp_eq, cmp_ne, cmp_lt, cmp_gt, cmp_le, cmp_ge, bin_add, bin_sub, exs_nil, exs_cons, ev, evs, evOs, evcs, opOf, valR, varV, biD, storeP, store, startE, firstC, Option.map_some, Option.bind_some, ex_whl, List.length_cons, List.length_nil, List.mapM_cons, List.mapM_nil, Option.pure_def, Option.bind_eq_bind])
      rw [ht, sr_ok]
      by_cases h : y = 0
      · subst h
        exact ⟨.int 0, by simp⟩
      · have h0 : 0 < y := by omega
        obtain ⟨z, hz⟩ := ih y (x % y) (by have := Nat.mod_lt x h0; omega)
        refine ⟨z, ?_⟩
        rw [Nat.gcd_comm y, ← Nat.gcd_rec, Nat.gcd_comm] at hz
        rw [← hz]
        have h1 : (0 : Int) < y := by omega
        have hd : decide ((y : Int) = 0) = false := by simp; omega
        have hb : exs (.cons (.par [0, 1] (.cons (.var 1) (.cons (.bin .mod (.var 0) (.var 1)) .nil))) .nil) [.sh (.int x), .sh (.int y)] = .nx [.sh (.int y), .sh (.int (x % y : Nat))] := by
          simp [get_z, get_s, put_z, put_s, bind_ok, sr_ok, seq_nx, seq_rt, lift_s, getv, gets, getWv, getWs, vo_sh, vo_ow, vw_sh, vw_ow, eq_int, cmp_eq, cmp_ne, cmp_lt, cmp_gt, cmp_le, cmp_ge, bin_add, bin_sub, exs_nil, exs_cons, ev, evs, evOs, evcs, opOf, valR, varV, biD, storeP, store, startE, firstC, Option.map_some, Option.bind_some, ex_whl, List.length_cons, List.length_nil, List.mapM_cons, List.mapM_nil, Option.pure_def, Option.bind_eq_bind, ex, bin_mod h1]
        simp only [hd, Bool.not_false, if_true, hb]
  obtain ⟨z, hz⟩ := key (fuelE [.sh (.int a.natAbs), .sh (.int b.natAbs)]) a.natAbs b.natAbs (by simp [fuelE, fuelC]; omega)
  have ha : ∀ x : Int, (if x < 0 then -x else x) = x.natAbs := fun x => by split <;> omega
  have h1 : exs b_divisor [.sh (.int a), .sh (.int b)] = .rt (.sh (.int (Int.gcd a b))) [.sh (.int (Nat.gcd a.natAbs b.natAbs)), .sh z] := by
    unfold b_divisor
    rw [exs_cons]
    have : ex (.par [0, 1] (.cons (.bi .abs (.cons (.var 0) .nil)) (.cons (.bi .abs (.cons (.var 1) .nil)) .nil))) [.sh (.int a), .sh (.int b)] = .nx [.sh (.int a.natAbs), .sh (.int b.natAbs)] := by
      simp [get_z, get_s, put_z, put_s, bind_ok, sr_ok, seq_nx, seq_rt, lift_s, getv, gets, getWv, getWs, vo_sh, vo_ow, vw_sh, vw_ow, eq_int, cmp_eq, cmp_ne, cmp_lt, cmp_gt, cmp_le, cmp_ge, bin_add, bin_sub, exs_nil, exs_cons, ev, evs, evOs, evcs, opOf, valR, varV, biD, storeP, store, startE, firstC, Option.map_some, Option.bind_some, ex_whl, List.length_cons, List.length_nil, List.mapM_cons, List.mapM_nil, Option.pure_def, Option.bind_eq_bind, ex, ha]
    dsimp only
    rw [this, seq_nx, exs_cons]
    dsimp only
    rw [ex_whl]
    dsimp only
    rw [hz, seq_nx]
    simp [get_z, get_s, put_z, put_s, bind_ok, sr_ok, seq_nx, seq_rt, lift_s, getv, gets, getWv, getWs, vo_sh, vo_ow, vw_sh, vw_ow, eq_int, cmp_eq, cmp_ne, cmp_lt, cmp_gt, cmp_le, cmp_ge, bin_add, bin_sub, exs_nil, exs_cons, ev, evs, evOs, evcs, opOf, valR, varV, biD, storeP, store, startE, firstC, Option.map_some, Option.bind_some, ex_whl, List.length_cons, List.length_nil, List.mapM_cons, List.mapM_nil, Option.pure_def, Option.bind_eq_bind, ex, Int.gcd]
  simp [runF, startE, firstC, h1, endF]
theorem lg {x : Nat} (h : x < 2 ^ 200) : x.log2 < 200 := by
  by_cases z : x = 0
  · subst z; decide
  · exact (Nat.log2_lt z).mpr h
theorem mo {a b : Int} (ha : a.natAbs < 2 ^ 200) (hb : b.natAbs < 2 ^ 200) : mulOk a b = true := by
  have h1 := lg ha
  have h2 := lg hb
  unfold mulOk
  rw [Bool.or_eq_true]
  exact .inr (decide_eq_true (by omega))
theorem mo1 {b : Int} : mulOk 1 b = true := rfl
theorem sem_reduced {a b : Int} (hb : 0 < b) (hs : b.natAbs < 2 ^ 200) : s_reduced.sem [.int a, .int b] = .ok (.sh (RD a b)) .none := by
  show runF 2 4 0 b_reduced [.int a, .int b] = _
  have hg := gcd_pos (a := a) hb
  have hl : (Int.gcd a b : Int).natAbs.log2 < 9000 := by
    have h1 : Int.gcd a b ≤ b.natAbs := Nat.le_of_dvd (by omega) (Int.gcd_dvd_natAbs_right a b)
    have h2 : (Int.gcd a b : Int).natAbs = Int.gcd a b := by omega
    rw [h2]
    have := lg (x := Int.gcd a b) (by omega)
    omega
  have hc : callS s_divisor none [.int a, .int b] [.sh (.int a), .sh (.int b), .un, .un] = .ok (.sh (.int (Int.gcd a b)), [.sh (.int a), .sh (.int b), .un, .un]) := by
    rw [callS0 (by rfl), sem_divisor]
  have hk : s_divisor.kd = 0 := rfl
  have hd : decide (0 < b) = true := decide_eq_true hb
  simp [runF, b_reduced, get_z, get_s, put_z, put_s, bind_ok, sr_ok, seq_nx, seq_rt, lift_s, getv, gets, getWv, getWs, vo_sh, vo_ow, vw_sh, vw_ow, eq_int, cmp_eq, cmp_ne, cmp_lt, cmp_gt, cmp_le, cmp_ge, bin_add, bin_sub, exs_nil, exs_cons, ev, evs, evOs, evcs, opOf, valR, varV, biD, storeP, storeT, store, startE, firstC, Option.map_some, Option.bind_some, ex_whl, List.length_cons, List.length_nil, List.mapM_cons, List.mapM_nil, Option.pure_def, Option.bind_eq_bind, ex, hk, hc, testR, hd, bin_mul mo1, bin_fdiv hg hl, endF, RD, sizeLine]
end PV.Lib
end
section
namespace PV.Lib
open PySem PV
theorem call0 {F : FSig} {ds : List D} {e : En} {r : Cl} {h : D} (hk : F.kd = 0) (hs : F.sem ds = .ok r h) : callS F none ds e = .ok (r, e) := by
  rw [callS0 hk, hs]
theorem nmul {a b : Int} (ha : a.natAbs < 2 ^ 100) (hb : b.natAbs < 2 ^ 100) : (a * b).natAbs < 2 ^ 200 := by
  rw [Int.natAbs_mul]
  calc a.natAbs * b.natAbs < 2 ^ 100 * 2 ^ 100 := Nat.mul_lt_mul'' ha hb
    _ = 2 ^ 200 := by decide
theorem up {a : Int} (ha : a.natAbs < 2 ^ 100) : a.natAbs < 2 ^ 200 := Nat.lt_trans ha (by decide)
theorem raw_added {p q r s : Int} (hq : 0 < q) (hs : 0 < s) (p1 : p.natAbs < 2 ^ 100) (q1 : q.natAbs < 2 ^ 100) (r1 : r.natAbs < 2 ^ 100) (s1 : s.natAbs < 2 ^ 100) : s_added.sem [.tuple [.int p, .int q], .tuple [.int r, .int s]] = .ok (.sh (RD (p * s + r * q) (q * s))) .none := by
  show runF 2 2 0 b_added [.tuple [.int p, .int q], .tuple [.int r, .int s]] = _
  have hr := sem_reduced (a := p * s + r * q) (b := q * s) (Int.mul_pos hq hs) (nmul q1 s1)
  have hk : s_reduced.kd = 0 := rfl
  have hc := fun e => call0 (e := e) hk hr
  simp [runF, b_added, get_z, get_s, put_z, put_s, bind_ok, sr_ok, seq_nx, seq_rt, lift_s, getv, gets, getWv, getWs, vo_sh, vo_ow, vw_sh, vw_ow, eq_int, cmp_eq, cmp_ne, cmp_lt, cmp_gt, cmp_le, cmp_ge, bin_add, bin_sub, exs_nil, exs_cons, ev, evs, evOs, evcs, opOf, valR, varV, biD, storeP, storeT, store, startE, firstC, Option.map_some, Option.bind_some, ex_whl, List.length_cons, List.length_nil, List.mapM_cons, List.mapM_nil, Option.pure_def, Option.bind_eq_bind, idxD, L2.atI, L2.ixN, ex, hk, hc, bin_mul (mo (up p1) (up s1)), bin_mul (mo (up r1) (up q1)), bin_mul (mo (up q1) (up s1)), endF]
theorem raw_times {p q r s : Int} (hq : 0 < q) (hs : 0 < s) (p1 : p.natAbs < 2 ^ 100) (q1 : q.natAbs < 2 ^ 100) (r1 : r.natAbs < 2 ^ 100) (s1 : s.natAbs < 2 ^ 100) : s_times.sem [.tuple [.int p, .int q], .tuple [.int r, .int s]] = .ok (.sh (RD (p * r) (q * s))) .none := by
  show runF 2 2 0 b_times [.tuple [.int p, .int q], .tuple [.int r, .int s]] = _
  have hr := sem_reduced (a := p * r) (b := q * s) (Int.mul_pos hq hs) (nmul q1 s1)
  have hk : s_reduced.kd = 0 := rfl
  have hc := fun e => call0 (e := e) hk hr
  simp [runF, b_times, get_z, get_s, put_z, put_s, bind_ok, sr_ok, seq_nx, seq_rt, lift_s, getv, gets, getWv, getWs, vo_sh, vo_ow, vw_sh, vw_ow, eq_int, cmp_eq, cmp_ne, cmp_lt, cmp_gt, cmp_le, cmp_ge, bin_add, bin_sub, exs_nil, exs_cons, ev, evs, evOs, evcs, opOf, valR, varV, biD, storeP, storeT, store, startE, firstC, Option.map_some, Option.bind_some, ex_whl, List.length_cons, List.length_nil, List.mapM_cons, List.mapM_nil, Option.pure_def, Option.bind_eq_bind, idxD, L2.atI, L2.ixN, ex, hk, hc, bin_mul (mo (up p1) (up r1)), bin_mul (mo (up q1) (up s1)), endF]
theorem raw_is_less {p q r s : Int} (p1 : p.natAbs < 2 ^ 100) (q1 : q.natAbs < 2 ^ 100) (r1 : r.natAbs < 2 ^ 100) (s1 : s.natAbs < 2 ^ 100) : s_is_less.sem [.tuple [.int p, .int q], .tuple [.int r, .int s]] = .ok (.sh (.bool (decide (p * s < r * q)))) .none := by
  show runF 2 2 0 b_is_less [.tuple [.int p, .int q], .tuple [.int r, .int s]] = _
  simp [runF, b_is_less, get_z, get_s, put_z, put_s, bind_ok, sr_ok, seq_nx, seq_rt, lift_s, getv, gets, getWv, getWs, vo_sh, vo_ow, vw_sh, vw_ow, eq_int, cmp_eq, cmp_ne, cmp_lt, cmp_gt, cmp_le, cmp_ge, bin_add, bin_sub, exs_nil, exs_cons, ev, evs, evOs, evcs, opOf, valR, varV, biD, storeP, storeT, store, startE, firstC, Option.map_some, Option.bind_some, ex_whl, List.length_cons, List.length_nil, List.mapM_cons, List.mapM_nil, Option.pure_def, Option.bind_eq_bind, idxD, L2.atI, L2.ixN, ex, bin_mul (mo (up p1) (up s1)), bin_mul (mo (up r1) (up q1)), endF]
/-- a fraction of middling size -/
structure Fr (a b : Int) : Prop where
  pos : 0 < b
  top : a.natAbs < 2 ^ 100
  bot : b.natAbs < 2 ^ 100
theorem le_mul {g p : Int} (hg : 0 < g) : p.natAbs ≤ (g * p).natAbs := by
  rw [Int.natAbs_mul]
  exact Nat.le_mul_of_pos_left _ (by omega)
theorem Fr.parts {a b : Int} (h : Fr a b) : ∃ p q g : Int, RD a b = .tuple [.int p, .int q] ∧ 0 < q ∧ 0 < g ∧ a = g * p ∧ b = g * q ∧ p.natAbs < 2 ^ 100 ∧ q.natAbs < 2 ^ 100 := by
  obtain ⟨p, q, g, e, h1, h2, h3, h4⟩ := rd_parts a h.pos
  exact ⟨p, q, g, e, h1, h2, h3, h4, Nat.lt_of_le_of_lt (le_mul h2) (h3 ▸ h.top), Nat.lt_of_le_of_lt (le_mul h2) (h4 ▸ h.bot)⟩
theorem sem_added {a b c d : Int} (h1 : Fr a b) (h2 : Fr c d) : s_added.sem [RD a b, RD c d] = .ok (.sh (RD (a * d + c * b) (b * d))) .none := by
  obtain ⟨p, q, g, e, hq, hg, ha, hb, p1, q1⟩ := h1.parts
  obtain ⟨r, s, g', e', hs, hg', hc, hd, r1, s1⟩ := h2.parts
  rw [e, e', raw_added hq hs p1 q1 r1 s1, rd_eq (Int.mul_pos hq hs) (Int.mul_pos h1.pos h2.pos)]
  rw [ha, hb, hc, hd]
  grind
theorem sem_times {a b c d : Int} (h1 : Fr a b) (h2 : Fr c d) : s_times.sem [RD a b, RD c d] = .ok (.sh (RD (a * c) (b * d))) .none := by
  obtain ⟨p, q, g, e, hq, hg, ha, hb, p1, q1⟩ := h1.parts
  obtain ⟨r, s, g', e', hs, hg', hc, hd, r1, s1⟩ := h2.parts
  rw [e, e', raw_times hq hs p1 q1 r1 s1, rd_eq (Int.mul_pos hq hs) (Int.mul_pos h1.pos h2.pos)]
  rw [ha, hb, hc, hd]
  grind
theorem neg_rd (a b : Int) : RD (-a) b = .tuple [.int (-(a / Int.gcd a b)), .int (b / Int.gcd a b)] := by
  unfold RD
  have h : Int.gcd (-a) b = Int.gcd a b := by unfold Int.gcd; rw [Int.natAbs_neg]
  rw [h, Int.neg_ediv_of_dvd (Int.gcd_dvd_left a b)]
theorem sem_less {a b c d : Int} (h1 : Fr a b) (h2 : Fr c d) : s_less.sem [RD a b, RD c d] = .ok (.sh (RD (a * d - c * b) (b * d))) .none := by
  have h3 : Fr (-c) d := ⟨h2.pos, by rw [Int.natAbs_neg]; exact h2.top, h2.bot⟩
  have hr := sem_added h1 h3
  rw [neg_rd] at hr
  have hk : s_added.kd = 0 := rfl
  have hc := fun e => call0 (e := e) hk hr
  have e2 : a * d + -c * b = a * d - c * b := by grind
  show runF 2 2 0 b_less [RD a b, RD c d] = _
  rw [← e2]
  generalize RD a b = x at *
  unfold RD
  simp [runF, b_less, get_z, get_s, put_z, put_s, bind_ok, sr_ok, seq_nx, seq_rt, lift_s, getv, gets, getWv, getWs, vo_sh, vo_ow, vw_sh, vw_ow, eq_int, cmp_eq, cmp_ne, cmp_lt, cmp_gt, cmp_le, cmp_ge, bin_add, bin_sub, exs_nil, exs_cons, ev, evs, evOs, evcs, opOf, valR, varV, biD, storeP, storeT, store, startE, firstC, Option.map_some, Option.bind_some, ex_whl, List.length_cons, List.length_nil, List.mapM_cons, List.mapM_nil, Option.pure_def, Option.bind_eq_bind, idxD, L2.atI, L2.ixN, ex, hk, hc, endF, sizeLine]
  rfl
theorem sem_is_less {a b c d : Int} (h1 : Fr a b) (h2 : Fr c d) : s_is_less.sem [RD a b, RD c d] = .ok (.sh (.bool (decide (a * d < c * b)))) .none := by
  obtain ⟨p, q, g, e, hq, hg, ha, hb, p1, q1⟩ := h1.parts
  obtain ⟨r, s, g', e', hs, hg', hc, hd, r1, s1⟩ := h2.parts
  rw [e, e', raw_is_less p1 q1 r1 s1]
  have hgg : 0 < g * g' := Int.mul_pos hg hg'
  have e1 : a * d = (g * g') * (p * s) := by rw [ha, hd]; grind
  have e2 : c * b = (g * g') * (r * q) := by rw [hc, hb]; grind
  rw [e1, e2]
  congr 4
  exact propext ⟨fun h => Int.mul_lt_mul_of_pos_left h hgg, fun h => Int.lt_of_mul_lt_mul_left h (by omega)⟩
end PV.Lib
end
section
namespace PV.Lib
open PySem PV
theorem sem_is_integer (i : Int) : s_is_integer.sem [.int i] = .ok (.sh (.bool true)) .none := rfl
theorem sem_is_within (i lo hi : Int) : s_is_within.sem [.int i, .int lo, .int hi] = .ok (.sh (.bool (decide (lo ≤ i) && decide (i ≤ hi)))) .none := by
  show runF 3 3 0 b_is_within [.int i, .int lo, .int hi] = _
  have hk : s_is_integer.kd = 0 := rfl
  have hc := fun e => call0 (e := e) hk (sem_is_integer i)
  by_cases h : lo ≤ i <;> simp [runF, b_is_within, get_z, get_s, put_z, put_s, bind_ok, sr_ok, seq_nx, seq_rt, lift_s, getv, gets, getWv, getWs, vo_sh, vo_ow, vw_sh, vw_ow, eq_int, cmp_eq, cmp_ne, cmp_lt, cmp_gt, cmp_le, cmp_ge, bin_add, bin_sub, exs_nil, exs_cons, ev, evs, evOs, evcs, evB, evI, opOf, valR, varV, biD, storeP, storeT, store, startE, firstC, Option.map_some, Option.bind_some, ex_whl, List.length_cons, List.length_nil, List.mapM_cons, List.mapM_nil, Option.pure_def, Option.bind_eq_bind, idxD, L2.atI, L2.ixN, ex, hk, hc, endF, testR, h]
theorem sem_is_tuple2 (p q : D) : s_is_tuple.sem [.tuple [p, q], .int 2, .int 2] = .ok (.sh (.bool true)) .none := rfl
theorem rd_rd {a b p q g : Int} (hb : 0 < b) (hq : 0 < q) (ha : a = g * p) (hb' : b = g * q) : RD p q = RD a b := rd_eq hq hb (by rw [ha, hb']; grind)
theorem eqv_rd (a b : Int) : eqD (RD a b) (RD a b) = some true := by
  unfold RD eqD
  have : (SeqAt.shaped (.tuple [.int (a / Int.gcd a b), .int (b / Int.gcd a b)]) && SeqAt.shaped (.tuple [.int (a / Int.gcd a b), .int (b / Int.gcd a b)])) = true := rfl
  rw [this]
  simp [PyData.eqv, PyData.eqvAll]
theorem sem_is_fraction {a b : Int} (h : Fr a b) : s_is_fraction.sem [RD a b] = .ok (.sh (.bool true)) .none := by
  obtain ⟨p, q, g, e, hq, hg, ha, hb, p1, q1⟩ := h.parts
  have hr : s_reduced.sem [.int p, .int q] = .ok (.sh (RD a b)) .none := by rw [sem_reduced hq (up q1), rd_rd h.pos hq ha hb]
  have he := eqv_rd a b
  rw [e] at hr he ⊢
  show runF 1 2 0 b_is_fraction [.tuple [.int p, .int q]] = _
  have hk : s_is_tuple.kd = 0 := rfl
  have hk2 : s_reduced.kd = 0 := rfl
  have hc := fun e => call0 (e := e) hk (sem_is_tuple2 (.int p) (.int q))
  have hc2 := fun e => call0 (e := e) hk2 hr
  have hd : decide (0 < q) = true := decide_eq_true hq
  simp [runF, b_is_fraction, get_z, get_s, put_z, put_s, bind_ok, sr_ok, seq_nx, seq_rt, lift_s, getv, gets, getWv, getWs, vo_sh, vo_ow, vw_sh, vw_ow, eq_int, cmp_eq, cmp_ne, cmp_lt, cmp_gt, cmp_le, cmp_ge, bin_add, bin_sub, exs_nil, exs_cons, ev, evs, evOs, evcs, evB, evI, opOf, valR, varV, biD, storeP, storeT, store, startE, firstC, Option.map_some, Option.bind_some, ex_whl, List.length_cons, List.length_nil, List.mapM_cons, List.mapM_nil, Option.pure_def, Option.bind_eq_bind, idxD, L2.atI, L2.ixN, ex, hk, hk2, hc, hc2, endF, testR, seqD, ownOk, lcL, bindT, wipeE, backE, lend, unlend, tyD, boolsL, hd, he, sizeLine]
theorem sem_is_chance {a b : Int} (h : Fr a b) (h0 : 0 ≤ a) (h1 : a ≤ b) : s_is_chance.sem [RD a b] = .ok (.sh (.bool true)) .none := by
  have hf := sem_is_fraction h
  obtain ⟨p, q, g, e, hq, hg, ha, hb, p1, q1⟩ := h.parts
  have hp : 0 ≤ p := by
    by_cases z : 0 ≤ p
    · exact z
    · have := Int.mul_neg_of_pos_of_neg hg (by omega : p < 0)
      omega
  have hpq : p ≤ q := Int.le_of_mul_le_mul_left (by rw [← ha, ← hb]; exact h1) hg
  rw [e] at hf ⊢
  show runF 1 1 0 b_is_chance [.tuple [.int p, .int q]] = _
  have hk : s_is_fraction.kd = 0 := rfl
  have hc := fun e => call0 (e := e) hk hf
  simp [runF, b_is_chance, get_z, get_s, put_z, put_s, bind_ok, sr_ok, seq_nx, seq_rt, lift_s, getv, gets, getWv, getWs, vo_sh, vo_ow, vw_sh, vw_ow, eq_int, cmp_eq, cmp_ne, cmp_lt, cmp_gt, cmp_le, cmp_ge, bin_add, bin_sub, exs_nil, exs_cons, ev, evs, evOs, evcs, evB, evI, opOf, valR, varV, biD, storeP, storeT, store, startE, firstC, Option.map_some, Option.bind_some, ex_whl, List.length_cons, List.length_nil, List.mapM_cons, List.mapM_nil, Option.pure_def, Option.bind_eq_bind, idxD, L2.atI, L2.ixN, ex, hk, hc, endF, testR, hp, hpq]
end PV.Lib
end
section
namespace PV.HandA
open PySem PV PV.Lib
def c0 : CS := (.ite (.bop true (.cons (.cmp .eq (.idx (.var 0) (.lit (.int 2))) (.lit (.int 0))) (.cons (.cmp .lt (.idx (.var 0) (.lit (.int 1))) (.bi .len (.cons (.idx (.var 0) (.lit (.int 0))) .nil))) .nil))) (.cons (.asg (.nm 2) (.idx (.idx (.var 0) (.lit (.int 0))) (.idx (.var 0) (.lit (.int 1))))) (.cons (.put 0 (.lit (.int 1)) (.bin .add (.idx (.var 0) (.lit (.int 1))) (.lit (.int 1)))) (.cons (.put 0 (.lit (.int 3)) (.bin .mod (.bi .int (.cons (.bin .add (.bin .add (.bin .mul (.idx (.var 0) (.lit (.int 3))) (.lit (.int 69621))) (.var 2)) (.lit (.int 11))) .nil)) (.lit (.int 2147483629)))) (.cons (.ite (.cmp .ge (.var 2) (.bin .pow (.lit (.int 10)) (.lit (.int 18)))) (.cons (.put 0 (.lit (.int 2)) (.var 2)) .nil) .nil) .nil)))) .nil)
def c1 : CS := (.ite (.cmp .gt (.idx (.var 0) (.lit (.int 2))) (.lit (.int 0))) (.cons (.asg (.nm 3) (.bin .mod (.bi .int (.cons (.idx (.var 0) (.lit (.int 2))) .nil)) (.var 1))) (.cons (.put 0 (.lit (.int 2)) (.bin .fdiv (.idx (.var 0) (.lit (.int 2))) (.var 1))) (.cons (.ret (.var 3)) .nil))) .nil)
def c2 : CS := (.put 0 (.lit (.int 4)) (.bin .add (.idx (.var 0) (.lit (.int 4))) (.lit (.int 1))))
def c3 : CS := (.asg (.nm 4) (.bin .mod (.bi .int (.cons (.bin .mul (.bi .int (.cons (.bin .add (.idx (.var 0) (.lit (.int 3))) (.bin .mul (.lit (.int 7919)) (.idx (.var 0) (.lit (.int 4))))) .nil)) (.lit (.int 48271))) .nil)) (.lit (.int 2147483647))))
def c4 : CS := (.asg (.nm 4) (.bin .mod (.bi .int (.cons (.bin .mul (.var 4) (.bin .add (.bin .fdiv (.var 4) (.lit (.int 1009))) (.lit (.int 69621)))) .nil)) (.lit (.int 2147483647))))
def c5 : CS := (.asg (.nm 4) (.bin .mod (.bi .int (.cons (.bin .mul (.var 4) (.bin .add (.bin .fdiv (.var 4) (.lit (.int 2003))) (.lit (.int 40692)))) .nil)) (.lit (.int 2147483399))))
def c6 : CS := (.ret (.bin .mod (.bi .int (.cons (.bin .fdiv (.var 4) (.lit (.int 16))) .nil)) (.var 1)))
def b_draw : CSs := (.cons c0 (.cons c1 (.cons c2 (.cons c3 (.cons c4 (.cons c5 (.cons c6 .nil)))))))
def b_draw_lit : CSs := (.cons (.ite (.bop true (.cons (.cmp .eq (.idx (.var 0) (.lit (.int 2))) (.lit (.int 0))) (.cons (.cmp .lt (.idx (.var 0) (.lit (.int 1))) (.bi .len (.cons (.idx (.var 0) (.lit (.int 0))) .nil))) .nil))) (.cons (.asg (.nm 2) (.idx (.idx (.var 0) (.lit (.int 0))) (.idx (.var 0) (.lit (.int 1))))) (.cons (.put 0 (.lit (.int 1)) (.bin .add (.idx (.var 0) (.lit (.int 1))) (.lit (.int 1)))) (.cons (.put 0 (.lit (.int 3)) (.bin .mod (.bi .int (.cons (.bin .add (.bin .add (.bin .mul (.idx (.var 0) (.lit (.int 3))) (.lit (.int 69621))) (.var 2)) (.lit (.int 11))) .nil)) (.lit (.int 2147483629)))) (.cons (.ite (.cmp .ge (.var 2) (.bin .pow (.lit (.int 10)) (.lit (.int 18)))) (.cons (.put 0 (.lit (.int 2)) (.var 2)) .nil) .nil) .nil)))) .nil) (.cons (.ite (.cmp .gt (.idx (.var 0) (.lit (.int 2))) (.lit (.int 0))) (.cons (.asg (.nm 3) (.bin .mod (.bi .int (.cons (.idx (.var 0) (.lit (.int 2))) .nil)) (.var 1))) (.cons (.put 0 (.lit (.int 2)) (.bin .fdiv (.idx (.var 0) (.lit (.int 2))) (.var 1))) (.cons (.ret (.var 3)) .nil))) .nil) (.cons (.put 0 (.lit (.int 4)) (.bin .add (.idx (.var 0) (.lit (.int 4))) (.lit (.int 1)))) (.cons (.asg (.nm 4) (.bin .mod (.bi .int (.cons (.bin .mul (.bi .int (.cons (.bin .add (.idx (.var 0) (.lit (.int 3))) (.bin .mul (.lit (.int 7919)) (.idx (.var 0) (.lit (.int 4))))) .nil)) (.lit (.int 48271))) .nil)) (.lit (.int 2147483647)))) (.cons (.asg (.nm 4) (.bin .mod (.bi .int (.cons (.bin .mul (.var 4) (.bin .add (.bin .fdiv (.var 4) (.lit (.int 1009))) (.lit (.int 69621)))) .nil)) (.lit (.int 2147483647)))) (.cons (.asg (.nm 4) (.bin .mod (.bi .int (.cons (.bin .mul (.var 4) (.bin .add (.bin .fdiv (.var 4) (.lit (.int 2003))) (.lit (.int 40692)))) .nil)) (.lit (.int 2147483399)))) (.cons (.ret (.bin .mod (.bi .int (.cons (.bin .fdiv (.var 4) (.lit (.int 16))) .nil)) (.var 1))) .nil)))))))
theorem draw_lit : b_draw_lit = b_draw := rfl
def s_draw : FSig := ⟨1, runF 2 5 1 b_draw⟩
structure Ok (h : D) : Prop where
  ex : ∃ (cells : List Int) (pos rest seed cnt : Int), h = .list [.list (cells.map .int), .int pos, .int rest, .int seed, .int cnt] ∧ (∀ c ∈ cells, 0 ≤ c) ∧ 0 ≤ pos ∧ 0 ≤ rest ∧ 0 ≤ seed
theorem pow18 : binD .pow (.int 10) (.int 18) = some (.sh (.int 1000000000000000000)) := rfl
theorem mo2 {a b : Int} (h : b.natAbs < 2 ^ 64) : mulOk a b = true := by
  unfold mulOk
  simp [h]
theorem mo3 {a b : Int} (h : a.natAbs < 2 ^ 64) : mulOk a b = true := by
  unfold mulOk
  simp [h]
set_option maxHeartbeats 1000000
theorem st0 {h : D} (hh : Ok h) (m : D) : ∃ h1 c, ex c0 [.io h, .sh m, .un, .un, .un] = .nx [.io h1, .sh m, c, .un, .un] ∧ Ok h1 := by
  obtain ⟨cells, pos, rest, seed, cnt, rfl, hc, hp, hr, hs⟩ := hh.ex
  by_cases h1 : rest = 0
  · subst h1
    by_cases h2 : pos < cells.length
    · have hp2 : pos.toNat < cells.length := by omega
      have hcell : 0 ≤ cells[pos.toNat] := hc _ (List.getElem_mem hp2)
      have hmod : (0 : Int) < 2147483629 := by decide
      have hseed : 0 ≤ (seed * 69621 + cells[pos.toNat] + 11) % 2147483629 := Int.emod_nonneg _ (by decide)
      have hd : decide (pos < (cells.length : Int)) = true := decide_eq_true h2
      have hmul : mulOk seed 69621 = true := mo2 (by decide)
      by_cases h3 : 1000000000000000000 ≤ cells[pos.toNat]
      · refine ⟨.list [.list (cells.map .int), .int (pos + 1), .int cells[pos.toNat], .int ((seed * 69621 + cells[pos.toNat] + 11) % 2147483629), .int cnt], .sh (.int cells[pos.toNat]), ?_, ⟨_, _, _, _, _, rfl, hc, by omega, hcell, hseed⟩⟩
        unfold c0
        simp [get_z, get_s, put_z, put_s, bind_ok, sr_ok, seq_nx, seq_rt, lift_s, getv, gets, getWv, getWs, vo_sh, vo_ow, vo_io, vw_sh, vw_ow, vw_io, eq_int, cmp_eq, cmp_ne, cmp_lt, cmp_gt, cmp_le, cmp_ge, bin_add, bin_sub, exs_nil, exs_cons, ev, evs, evOs, evcs, evB, evI, opOf, valR, varV, biD, lenD, storeP, storeT, store, Option.map_some, Option.bind_some, ex_whl, List.length_cons, List.length_nil, List.mapM_cons, List.mapM_nil, Option.pure_def, Option.bind_eq_bind, idxD, L2.atI, L2.ixN, ex, testR, muta, remut, setI, hd, hp, h2, hp2, bin_mul hmul, bin_mod hmod, h3, pow18]
      · refine ⟨.list [.list (cells.map .int), .int (pos + 1), .int 0, .int ((seed * 69621 + cells[pos.toNat] + 11) % 2147483629), .int cnt], .sh (.int cells[pos.toNat]), ?_, ⟨_, _, _, _, _, rfl, hc, by omega, by omega, hseed⟩⟩
        unfold c0
        simp [get_z, get_s, put_z, put_s, bind_ok, sr_ok, seq_nx, seq_rt, lift_s, getv, gets, getWv, getWs, vo_sh, vo_ow, vo_io, vw_sh, vw_ow, vw_io, eq_int, cmp_eq, cmp_ne, cmp_lt, cmp_gt, cmp_le, cmp_ge, bin_add, bin_sub, exs_nil, exs_cons, ev, evs, evOs, evcs, evB, evI, opOf, valR, varV, biD, lenD, storeP, storeT, store, Option.map_some, Option.bind_some, ex_whl, List.length_cons, List.length_nil, List.mapM_cons, List.mapM_nil, Option.pure_def, Option.bind_eq_bind, idxD, L2.atI, L2.ixN, ex, testR, muta, remut, setI, hd, hp, h2, hp2, bin_mul hmul, bin_mod hmod, h3, pow18]
    · have hd : decide (pos < (cells.length : Int)) = false := decide_eq_false h2
      refine ⟨.list [.list (cells.map .int), .int pos, .int 0, .int seed, .int cnt], .un, ?_, ⟨_, _, _, _, _, rfl, hc, hp, by omega, hs⟩⟩
      unfold c0
      simp [get_z, get_s, put_z, put_s, bind_ok, sr_ok, seq_nx, seq_rt, lift_s, getv, gets, getWv, getWs, vo_sh, vo_ow, vo_io, vw_sh, vw_ow, vw_io, eq_int, cmp_eq, cmp_ne, cmp_lt, cmp_gt, cmp_le, cmp_ge, bin_add, bin_sub, exs_nil, exs_cons, ev, evs, evOs, evcs, evB, evI, opOf, valR, varV, biD, lenD, storeP, storeT, store, Option.map_some, Option.bind_some, ex_whl, List.length_cons, List.length_nil, List.mapM_cons, List.mapM_nil, Option.pure_def, Option.bind_eq_bind, idxD, L2.atI, L2.ixN, ex, testR, hd]
  · have hd : decide (rest = 0) = false := decide_eq_false h1
    refine ⟨.list [.list (cells.map .int), .int pos, .int rest, .int seed, .int cnt], .un, ?_, ⟨_, _, _, _, _, rfl, hc, hp, hr, hs⟩⟩
    unfold c0
    simp [get_z, get_s, put_z, put_s, bind_ok, sr_ok, seq_nx, seq_rt, lift_s, getv, gets, getWv, getWs, vo_sh, vo_ow, vo_io, vw_sh, vw_ow, vw_io, eq_int, cmp_eq, cmp_ne, cmp_lt, cmp_gt, cmp_le, cmp_ge, bin_add, bin_sub, exs_nil, exs_cons, ev, evs, evOs, evcs, evB, evI, opOf, valR, varV, biD, lenD, storeP, storeT, store, Option.map_some, Option.bind_some, ex_whl, List.length_cons, List.length_nil, List.mapM_cons, List.mapM_nil, Option.pure_def, Option.bind_eq_bind, idxD, L2.atI, L2.ixN, ex, testR, hd]
theorem draw {h : D} {m : Int} (hh : Ok h) (hm : 0 < m) (hs : m.natAbs.log2 < 9000) : ∃ d h', s_draw.sem [h, .int m] = .ok (.sh (.int d)) h' ∧ 0 ≤ d ∧ d < m ∧ Ok h' := by
  obtain ⟨h1, c, e1, hh1⟩ := st0 hh (.int m)
  obtain ⟨cells, pos, rest, seed, cnt, rfl, hc, hp, hr, hse⟩ := hh1.ex
  have go : ∀ (d : Int) (h' : D) (e' : En), exs (.cons c1 (.cons c2 (.cons c3 (.cons c4 (.cons c5 (.cons c6 .nil)))))) [.io (.list [.list (cells.map .int), .int pos, .int rest, .int seed, .int cnt]), .sh (.int m), c, .un, .un] = .rt (.sh (.int d)) (.io h' :: e') → 0 ≤ d → d < m → Ok h' → ∃ d h', s_draw.sem [h, .int m] = .ok (.sh (.int d)) h' ∧ 0 ≤ d ∧ d < m ∧ Ok h' := fun d h' e' he a b k => by
    refine ⟨d, h', ?_, a, b, k⟩
    show runF 2 5 1 b_draw [h, .int m] = _
    have hq : exs b_draw [.io h, .sh (.int m), .un, .un, .un] = .rt (.sh (.int d)) (.io h' :: e') := by
      unfold b_draw
      rw [exs_cons]
      dsimp only
      rw [e1, seq_nx]
      exact he
    simp [runF, startE, firstC, hq, endF, get_z]
  by_cases hr0 : 0 < rest
  · have hd : decide (0 < rest) = true := decide_eq_true hr0
    refine go (rest % m) (.list [.list (cells.map .int), .int pos, .int (rest / m), .int seed, .int cnt]) [.sh (.int m), c, .sh (.int (rest % m)), .un] ?_ (Int.emod_nonneg _ (by omega)) (Int.emod_lt_of_pos _ hm) ⟨_, _, _, _, _, rfl, hc, hp, Int.ediv_nonneg hr (by omega), hse⟩
    unfold c1
    simp [get_z, get_s, put_z, put_s, bind_ok, sr_ok, seq_nx, seq_rt, lift_s, getv, gets, getWv, getWs, vo_sh, vo_ow, vo_io, vw_sh, vw_ow, vw_io, eq_int, cmp_eq, cmp_ne, cmp_lt, cmp_gt, cmp_le, cmp_ge, bin_add, bin_sub, exs_nil, exs_cons, ev, evs, evOs, evcs, evB, evI, opOf, valR, varV, biD, lenD, storeP, storeT, store, Option.map_some, Option.bind_some, ex_whl, List.length_cons, List.length_nil, List.mapM_cons, List.mapM_nil, Option.pure_def, Option.bind_eq_bind, idxD, L2.atI, L2.ixN, ex, testR, muta, remut, setI, hd, bin_mod hm, bin_fdiv hm hs]
  · have hd : decide (0 < rest) = false := decide_eq_false hr0
    have k1 : (0 : Int) < 2147483647 := by decide
    have k2 : (0 : Int) < 2147483399 := by decide
    have k3 : (0 : Int) < 1009 := by decide
    have k4 : (0 : Int) < 2003 := by decide
    have k5 : (0 : Int) < 16 := by decide
    have l3 : (1009 : Int).natAbs.log2 < 9000 := by decide
    have l4 : (2003 : Int).natAbs.log2 < 9000 := by decide
    have l5 : (16 : Int).natAbs.log2 < 9000 := by decide
    have sm : ∀ x k : Int, 0 < k → k < 2 ^ 32 → (x % k).natAbs < 2 ^ 64 := fun x k h1 h2 => by
      have := Int.emod_lt_of_pos x h1
      have := Int.emod_nonneg x (by omega : k ≠ 0)
      omega
    obtain ⟨n1, hn1⟩ : ∃ n, (seed + 7919 * (cnt + 1)) * 48271 % 2147483647 = n := ⟨_, rfl⟩
    have q1 : ∀ x : Int, mulOk n1 x = true := fun x => hn1 ▸ mo3 (sm _ 2147483647 k1 (by decide))
    obtain ⟨n2, hn2⟩ : ∃ n, n1 * (n1 / 1009 + 69621) % 2147483647 = n := ⟨_, rfl⟩
    have q2 : ∀ x : Int, mulOk n2 x = true := fun x => hn2 ▸ mo3 (sm _ 2147483647 k1 (by decide))
    refine go ((n2 * (n2 / 2003 + 40692) % 2147483399) / 16 % m) (.list [.list (cells.map .int), .int pos, .int rest, .int seed, .int (cnt + 1)]) [.sh (.int m), c, .un, .sh (.int (n2 * (n2 / 2003 + 40692) % 2147483399))] ?_ (Int.emod_nonneg _ (by omega)) (Int.emod_lt_of_pos _ hm) ⟨_, _, _, _, _, rfl, hc, hp, hr, hse⟩
    unfold c1 c2 c3 c4 c5 c6
    simp [get_z, get_s, put_z, put_s, bind_ok, sr_ok, seq_nx, seq_rt, lift_s, getv, gets, getWv, getWs, vo_sh, vo_ow, vo_io, vw_sh, vw_ow, vw_io, eq_int, cmp_eq, cmp_ne, cmp_lt, cmp_gt, cmp_le, cmp_ge, bin_add, bin_sub, exs_nil, exs_cons, ev, evs, evOs, evcs, evB, evI, opOf, valR, varV, biD, lenD, storeP, storeT, store, Option.map_some, Option.bind_some, ex_whl, List.length_cons, List.length_nil, List.mapM_cons, List.mapM_nil, Option.pure_def, Option.bind_eq_bind, idxD, L2.atI, L2.ixN, ex, testR, muta, remut, setI, hd, bin_mod hm, bin_mod k1, bin_mod k2, bin_fdiv k3 l3, bin_fdiv k4 l4, bin_fdiv k5 l5, bin_mul (mo3 (a := 7919) (b := cnt + 1) (by decide)), bin_mul (mo2 (a := seed + 7919 * (cnt + 1)) (b := 48271) (by decide)), bin_mul (q1 _), bin_mul (q2 _), hn1, hn2]
end PV.HandA
end
section
namespace PV
open PySem

/-- a comprehension whose turns leave the slots as they are -/
theorem lcF_eq {ct : CT} {vs : List Nat} {ft : En → R (Bool × En)} {fe : En → R (D × En)} {xs : List D} {x : Op} {e : En} (g : D → Option D) (hown : ownOk e vs = true)
    (h : ∀ d ∈ xs, turnF ct vs ft fe d (wipeE (lend e x) vs) = .ok (g d, wipeE (lend e x) vs)) : lcF ct vs ft fe xs x e = .ok (.ow (.list (xs.filterMap g)), unlend e (backE e (wipeE (lend e x) vs) vs) x) := by
  unfold lcF
  rw [if_pos hown, lcL_filter g _ xs [] h]
  rfl
theorem condR_noe (r : En → R (Cl × En)) (e : En) : condR .noe r e = .ok (true, e) := rfl
end PV
end
section
namespace PV
open PySem
/-- a call that changes the hand -/
theorem callIo {F : FSig} {i : Nat} {ds : List D} {e : En} {h h' : D} {r : Cl} (hk : F.kd = 1) (hg : get e i = .io h) (hs : F.sem (h :: ds) = .ok r h') : callS F (some i) ds e = .ok (r, put e i (.io h')) := by
  unfold callS
  rw [hk]
  simp only [hg, muta, hs, remut]
theorem callOw {F : FSig} {i : Nat} {ds : List D} {e : En} {h h' : D} {r : Cl} (hk : F.kd = 1) (hg : get e i = .ow h) (hs : F.sem (h :: ds) = .ok r h') : callS F (some i) ds e = .ok (r, put e i (.ow h')) := by
  unfold callS
  rw [hk]
  simp only [hg, muta, hs, remut]
theorem call0 {F : FSig} {ds : List D} {e : En} {r : Cl} {h : D} (hk : F.kd = 0) (hs : F.sem ds = .ok r h) : callS F none ds e = .ok (r, e) := by
  rw [callS0 hk, hs]
theorem ev_bin {op : BOp} {a b : CE} {e e1 e2 : En} {x y : Op} {dx dy : D} {r : Cl} (h1 : opOf a (ev a) e = .ok (x, e1)) (h2 : opOf b (ev b) e1 = .ok (y, e2)) (h3 : x.get e2 = some dx) (h4 : y.get e2 = some dy) (h5 : binD op dx dy = some r) : ev (.bin op a b) e = .ok (r, e2) := by
  rw [ev, h1, bind_ok]
  dsimp only
  rw [h2, bind_ok]
  dsimp only
  rw [h3, lift_s, bind_ok, h4, lift_s, bind_ok, h5, lift_s, bind_ok]
theorem opOf_val {a : CE} {r : En → R (Cl × En)} {e e1 : En} {d : D} {c : Cl} (ha : ∀ i, a ≠ .var i) (h : r e = .ok (c, e1)) (hv : valOf c = some d) : opOf a r e = .ok (.val d, e1) := by
  unfold opOf
  split
  · exact absurd rfl (ha _)
  · rw [h, bind_ok]
    dsimp only
    rw [hv]
theorem ex_asg {tg : CT} {a : CE} {e e1 e2 : En} {r : Cl} (h : ev a e = .ok (r, e1)) (hs : storeT tg r e1 = some e2) : ex (.asg tg a) e = .nx e2 := by
  rw [ex, h, sr_ok]
  dsimp only
  rw [hs]
theorem ex_par {is : List Nat} {es : CEs} {e e1 e2 : En} {ds : List Cl} (h : evcs es e = .ok (ds, e1)) (hs : storeP is ds e1 = some e2) : ex (.par is es) e = .nx e2 := by
  rw [ex, h, sr_ok]
  dsimp only
  rw [hs]
theorem evcs_cons {a : CE} {es : CEs} {e e1 e2 : En} {c : Cl} {cs : List Cl} (h1 : ev a e = .ok (c, e1)) (h2 : evcs es e1 = .ok (cs, e2)) : evcs (.cons a es) e = .ok (c :: cs, e2) := by
  rw [evcs, h1, bind_ok]
  dsimp only
  rw [h2, bind_ok]
theorem evs_cons {a : CE} {es : CEs} {e e1 e2 : En} {d : D} {ds : List D} (h1 : valR (ev a) e = .ok (d, e1)) (h2 : evs es e1 = .ok (ds, e2)) : evs (.cons a es) e = .ok (d :: ds, e2) := by
  rw [evs, h1, bind_ok]
  dsimp only
  rw [h2, bind_ok]
theorem ev_call0 {nm : Str} {F : FSig} {es : CEs} {e e1 : En} {ds : List D} {r : Cl} {h : D} (h1 : evs es e = .ok (ds, e1)) (hk : F.kd = 0) (hs : F.sem ds = .ok r h) : ev (.call nm F es) e = .ok (r, e1) := by
  have : ev (.call nm F es) e = (evs es e).bind fun (ds, e) => callS F none ds e := by cases es <;> simp [ev, hk]
  rw [this, h1, bind_ok]
  exact call0 hk hs
theorem lst_mulD {d : D} {k : Nat} (h : k ≤ 1000) : binD .mul (.list [d]) (.int k) = some (.ow (.list (List.replicate k d))) := by
  simp only [binD, mulD]
  rw [if_pos ⟨by omega, by omega, by rw [List.length_singleton, Int.toNat_natCast, Nat.one_mul]; exact Nat.le_trans h (by decide)⟩, Int.toNat_natCast]
  congr 3
  induction k with
  | zero => rfl
  | succ k ih => rw [List.replicate_succ, List.replicate_succ, List.flatten_cons, ih (by omega)]; rfl
theorem ex_exp {a : CE} {e e1 : En} {r : Cl} (h : ev a e = .ok (r, e1)) : ex (.exp a) e = .nx e1 := by
  rw [ex, h, sr_ok]
theorem exs_step {s : CS} {ss : CSs} {e e1 : En} (h : ex s e = .nx e1) : exs (.cons s ss) e = exs ss e1 := by
  rw [exs, h, seq_nx]
theorem exs_ret {a : CE} {ss : CSs} {e e1 : En} {r : Cl} (h : ev a e = .ok (r, e1)) : exs (.cons (.ret a) ss) e = .rt r e1 := by
  rw [exs, ex, h, sr_ok]; rfl
theorem valR_of {r : En → R (Cl × En)} {e e1 : En} {c : Cl} {d : D} (h : r e = .ok (c, e1)) (hv : valOf c = some d) : valR r e = .ok (d, e1) := by
  unfold valR
  rw [h, bind_ok]
  dsimp only
  rw [hv]
theorem testR_of {r : En → R (Cl × En)} {e e1 : En} {b : Bool} (h : r e = .ok (.sh (.bool b), e1)) : testR r e = .ok (b, e1) := by
  unfold testR
  rw [h, bind_ok]
theorem cut_drop {α : Type} (xs : List α) (k : Nat) : cut xs (some (k : Int)) none = xs.drop k := by
  unfold cut
  rw [show HT.sIx xs.length 0 (some (k : Int)) = min k xs.length from HT.sIx_nat xs.length 0 k]
  show (xs.drop (min k xs.length)).take (xs.length - min k xs.length) = _
  by_cases h : k ≤ xs.length
  · rw [Nat.min_eq_left h, List.take_of_length_le (by rw [List.length_drop]; omega)]
  · rw [Nat.min_eq_right (by omega), List.drop_eq_nil_of_le (by omega : xs.length ≤ xs.length), List.drop_eq_nil_of_le (by omega : xs.length ≤ k), List.take_nil]
def OkC (c : Cl) : Prop := c = .un ∨ ∃ d, c = .sh d
theorem mulL {a b : Int} (h : a.natAbs < 2 ^ 64) : mulOk a b = true := by
  unfold mulOk; rw [decide_eq_true h]; rfl
theorem intsL_map (l : List Int) : intsL (l.map PyData.int) = some l := by
  induction l with
  | nil => rfl
  | cons x l ih => show (intsL (l.map PyData.int)).map (x :: ·) = _; rw [ih]; rfl
theorem ev_cmp {op : COp} {a b : CE} {e e1 e2 : En} {x y : Op} {dx dy : D} {r : Bool} (h1 : opOf a (ev a) e = .ok (x, e1)) (h2 : opOf b (ev b) e1 = .ok (y, e2)) (h3 : x.get e2 = some dx) (h4 : y.get e2 = some dy) (h5 : cmpD op dx dy = some r) : ev (.cmp op a b) e = .ok (.sh (.bool r), e2) := by
  rw [ev, h1, bind_ok]
  dsimp only
  rw [h2, bind_ok]
  dsimp only
  rw [h3, lift_s, bind_ok, h4, lift_s, bind_ok, h5, lift_s, bind_ok]
theorem evB_or {a b : CE} {es : CEs} {e e1 : En} {r : R (Cl × En)} (h1 : ev a e = .ok (.sh (.bool false), e1)) (h2 : evB (.cons b es) false e1 = r) : evB (.cons a (.cons b es)) false e = r := by
  rw [evB, testR_of h1, bind_ok]
  · exact h2
  · intro h
    cases h
theorem evB_one {a : CE} {t : Bool} {e : En} {r : R (Cl × En)} (h1 : ev a e = r) : evB (.cons a .nil) t e = r := by
  rw [evB]
  exact h1
theorem ev_bop {t : Bool} {es : CEs} {e : En} {r : R (Cl × En)} (h : evB es t e = r) : ev (.bop t es) e = r := by
  rw [ev]; exact h
theorem ite_f {c : CE} {a : CSs} {e e1 : En} (h : ev c e = .ok (.sh (.bool false), e1)) : ex (.ite c a .nil) e = .nx e1 := by
  rw [ex_ite]
  dsimp only
  rw [testR_of h, sr_ok]
  rw [exs_nil]
  rfl
theorem eq_pair (a b : Int) : eqD (.tuple [.int a, .int b]) (.tuple [.int a, .int b]) = some true := by
  unfold eqD
  have : (SeqAt.shaped (.tuple [.int a, .int b]) && SeqAt.shaped (.tuple [.int a, .int b])) = true := rfl
  rw [this]
  simp [PyData.eqv, PyData.eqvAll]
theorem ne_pair (a b : Int) : cmpD .ne (.tuple [.int a, .int b]) (.tuple [.int a, .int b]) = some false := by
  rw [cmp_ne, eq_pair]; rfl
theorem bindT_nm {i : Nat} {d : D} {e : En} {c : Cl} (hc : get e i = c) (h : OkC c) (hl : i < e.length) : bindT (.nm i) d e = some (put e i (.sh d)) := by
  unfold bindT
  subst hc
  rcases h with h | ⟨_, h⟩ <;> rw [h] <;> dsimp only <;> rw [if_pos hl]
theorem bindT_two {i j : Nat} {a b : D} {e e1 e2 : En} (h1 : bindT (.nm i) a e = some e1) (h2 : bindT (.nm j) b e1 = some e2) : bindT (.tup (.cons (.nm i) (.cons (.nm j) .nil))) (.tuple [a, b]) e = some e2 := by
  rw [bindT, bindTs, h1, Option.bind_some, bindTs, h2, Option.bind_some, bindTs]
theorem store_sh {i : Nat} {d : D} {e : En} {c : Cl} (hc : get e i = c) (h : OkC c) (hl : i < e.length) : store e i (.sh d) = some (put e i (.sh d)) := by
  unfold store
  subst hc
  rcases h with h | ⟨_, h⟩ <;> rw [h] <;> dsimp only <;> rw [if_pos hl]
theorem storeT_nm {i : Nat} {d : D} {e : En} {c : Cl} (hc : get e i = c) (h : OkC c) (hl : i < e.length) : storeT (.nm i) (.sh d) e = some (put e i (.sh d)) := store_sh hc h hl
theorem storeT_tup {t : CT} {d : D} {e : En} {r : Option En} (h : bindT (.tup t) d e = r) : storeT (.tup t) (.sh d) e = r := h
theorem okc (d : D) : OkC (.sh d) := .inr ⟨d, rfl⟩
theorem ite_t {c : CE} {a b : CSs} {e e1 : En} {t : Bool} {r : SR} (h : ev c e = .ok (.sh (.bool t), e1)) (h2 : (if t then exs a e1 else exs b e1) = r) : ex (.ite c a b) e = r := by
  rw [ex_ite]
  dsimp only
  rw [testR_of h, sr_ok]
  exact h2
theorem evB_and {a b : CE} {es : CEs} {e e1 : En} {t : Bool} {r : R (Cl × En)} (h1 : ev a e = .ok (.sh (.bool t), e1)) (h2 : (if t = true then evB (.cons b es) true e1 else .ok (.sh (.bool t), e1)) = r) : evB (.cons a (.cons b es)) true e = r := by
  rw [evB, testR_of h1, bind_ok]
  · exact h2
  · intro h
    cases h
theorem evB_andt {a b : CE} {es : CEs} {e e1 : En} {r : R (Cl × En)} (h1 : ev a e = .ok (.sh (.bool true), e1)) (h2 : evB (.cons b es) true e1 = r) : evB (.cons a (.cons b es)) true e = r := by
  rw [evB, testR_of h1, bind_ok]
  · exact h2
  · intro h
    cases h
theorem ev_callO {nm : Str} {F : FSig} {i : Nat} {es : CEs} {e e1 : En} {ds : List D} {d0 h h' : D} {r : Cl} (hk : F.kd = 1) (h0 : get e i = .ow d0) (he : evs es e = .ok (ds, e1)) (hg : get e1 i = .ow h) (hs : F.sem (h :: ds) = .ok r h') : ev (.call nm F (.cons (.var i) es)) e = .ok (r, put e1 i (.ow h')) := by
  have a1 : okArg F.kd (get e i) = true := by rw [hk, h0]; rfl
  have a2 : F.kd ≠ 0 := by rw [hk]; decide
  rw [ev, if_neg a2]
  show (if okArg F.kd (get e i) = true then _ else _) = _
  rw [if_pos a1, he, bind_ok]
  exact callOw hk hg hs
theorem storeP2 {i j : Nat} {a b : Cl} {e e1 e2 : En} (h1 : store e i a = some e1) (h2 : store e1 j b = some e2) : storeP [i, j] [a, b] e = some e2 := by
  rw [storeP, h1, Option.bind_some, storeP, h2, Option.bind_some, storeP]
theorem cut_map (ns : List Int) (lo hi : Option Int) : cut (ns.map PyData.int) lo hi = (cut ns lo hi).map PyData.int := by
  unfold cut
  rw [List.length_map, List.map_take, List.map_drop]
end PV
end
section
namespace PV.HandA
open PySem PV PV.Lib
def b_hand : CSs := (.cons (.asg (.nm 1) (.lc [("cell", 2)] (.nm 2) (.seq (.slc (.var 0) .noe (.lit (.int 63)))) .noe (.bi .abs (.cons (.bi .int (.cons (.var 2) .nil)) .nil)))) (.cons (.ret (.lst (.cons (.var 1) (.cons (.lit (.int 0)) (.cons (.lit (.int 0)) (.cons (.bin .add (.lit (.int 1)) (.bi .len (.cons (.var 1) .nil))) (.cons (.lit (.int 0)) .nil))))))) .nil))
def s_hand : FSig := ⟨2, runF 1 3 2 b_hand⟩
def b_low : CSs := (.cons (.par [2, 3] (.cons (.bi .abs (.cons (.var 0) .nil)) (.cons (.var 1) .nil))) (.cons (.whl fuelE (.cmp .gt (.var 3) (.lit (.int 0))) (.cons (.par [2, 3] (.cons (.var 3) (.cons (.bin .mod (.bi .int (.cons (.var 2) .nil)) (.var 3)) .nil))) .nil)) (.cons (.ret (.tup (.cons (.bin .fdiv (.var 0) (.var 2)) (.cons (.bin .fdiv (.var 1) (.var 2)) .nil)))) .nil)))
def s_low : FSig := ⟨0, runF 2 4 0 b_low⟩
def b_any : CSs := (.cons (.ret (.idx (.var 1) (.call "_law_draw" s_draw (.cons (.var 0) (.cons (.bi .len (.cons (.var 1) .nil)) .nil))))) .nil)
def s_any : FSig := ⟨1, runF 2 2 1 b_any⟩
theorem sem_hand (ns : List Int) : ∃ h, s_hand.sem [.list (ns.map .int)] = .ok (.ow h) .none ∧ Ok h := by
  generalize hz : cut ns none (some 63) = zs
  have hlen : zs.length ≤ 63 := by
    rw [← hz]
    unfold cut
    rw [List.length_take, show HT.sIx ns.length ns.length (some 63) = min 63 ns.length from HT.sIx_nat ns.length ns.length 63]
    omega
  refine ⟨.list [.list ((zs.map fun z => if z < 0 then -z else z).map .int), .int 0, .int 0, .int (1 + zs.length), .int 0], ?_, ⟨_, _, _, _, _, rfl, ?_, by omega, by omega, by omega⟩⟩
  · show runF 1 3 2 b_hand [.list (ns.map .int)] = _
    have hown : ownOk [.fz (.list (ns.map .int)), .un, .un] [2] = true := rfl
    have hc := lcF_eq (ct := .nm 2) (vs := [2]) (ft := condR .noe (ev .noe)) (fe := valR (ev (.bi .abs (.cons (.bi .int (.cons (.var 2) .nil)) .nil)))) (xs := zs.map .int) (x := .val (.list (zs.map .int))) (e := [.fz (.list (ns.map .int)), .un, .un]) (fun d => match d with | .int z => some (.int (if z < 0 then -z else z)) | d => none) hown (fun d hd => by
      obtain ⟨z, _, rfl⟩ := List.mem_map.mp hd
      rw [turnF_some (e3 := [.fz (.list (ns.map .int)), .un, .sh (.int z)]) rfl]
      simp [get_z, get_s, put_z, put_s, bind_ok, sr_ok, seq_nx, seq_rt, lift_s, getv, gets, getWv, getWs, vo_sh, vo_ow, vo_io, vw_sh, vw_ow, vw_io, vw_fz, eq_int, cmp_eq, cmp_ne, cmp_lt, cmp_gt, cmp_le, cmp_ge, bin_add, bin_sub, exs_nil, exs_cons, ev, evs, evOs, evcs, evB, evI, opOf, valR, varV, optOf, biD, lenD, storeP, storeT, store, startE, firstC, Option.map_some, Option.bind_some, ex_whl, List.length_cons, List.length_nil, List.mapM_cons, List.mapM_nil, Option.pure_def, Option.bind_eq_bind, idxD, L2.atI, L2.ixN, condR_noe, wipeE, lend])
    rw [List.filterMap_map] at hc
    have hf : zs.filterMap ((fun d : D => match d with | .int z => some (.int (if z < 0 then -z else z)) | d => none) ∘ PyData.int) = (zs.map fun z => if z < 0 then -z else z).map PyData.int := by
      clear hc hz hlen
      induction zs with
      | nil => rfl
      | cons z zs ih => rw [List.filterMap_cons]; show _ :: _ = _; rw [ih]; rfl
    rw [hf] at hc
    have h1 : ex (.asg (.nm 1) (.lc [("cell", 2)] (.nm 2) (.seq (.slc (.var 0) .noe (.lit (.int 63)))) .noe (.bi .abs (.cons (.bi .int (.cons (.var 2) .nil)) .nil)))) [.fz (.list (ns.map .int)), .un, .un] = .nx [.fz (.list (ns.map .int)), .ow (.list ((zs.map fun z => if z < 0 then -z else z).map PyData.int)), .un] := by
      have h2 : evI (.seq (.slc (.var 0) .noe (.lit (.int 63)))) [.fz (.list (ns.map .int)), .un, .un] = .ok ((zs.map PyData.int, .val (.list (zs.map .int))), [.fz (.list (ns.map .int)), .un, .un]) := by
        simp [get_z, get_s, put_z, put_s, bind_ok, sr_ok, seq_nx, seq_rt, lift_s, getv, gets, getWv, getWs, vo_sh, vo_ow, vo_io, vw_sh, vw_ow, vw_io, vw_fz, eq_int, cmp_eq, cmp_ne, cmp_lt, cmp_gt, cmp_le, cmp_ge, bin_add, bin_sub, exs_nil, exs_cons, ev, evs, evOs, evcs, evB, evI, opOf, valR, varV, optOf, biD, lenD, storeP, storeT, store, startE, firstC, Option.map_some, Option.bind_some, ex_whl, List.length_cons, List.length_nil, List.mapM_cons, List.mapM_nil, Option.pure_def, Option.bind_eq_bind, idxD, L2.atI, L2.ixN, slcD, cut_map, hz, Op.getI, seqD]
      rw [ex, ev_lc]
      dsimp only
      rw [h2, bind_ok]
      have hm : List.map (fun x : Str × Nat => x.snd) [(("cell" : Str), 2)] = [2] := rfl
      dsimp only
      rw [hm, hc]
      rfl
    unfold b_hand
    simp [runF, startE, firstC, exs_cons, h1, seq_nx]
    simp [get_z, get_s, put_z, put_s, bind_ok, sr_ok, seq_nx, seq_rt, lift_s, getv, gets, getWv, getWs, vo_sh, vo_ow, vo_io, vw_sh, vw_ow, vw_io, vw_fz, eq_int, cmp_eq, cmp_ne, cmp_lt, cmp_gt, cmp_le, cmp_ge, bin_add, bin_sub, exs_nil, exs_cons, ev, evs, evOs, evcs, evB, evI, opOf, valR, varV, optOf, biD, lenD, storeP, storeT, store, startE, firstC, Option.map_some, Option.bind_some, ex_whl, List.length_cons, List.length_nil, List.mapM_cons, List.mapM_nil, Option.pure_def, Option.bind_eq_bind, idxD, L2.atI, L2.ixN, ex, endF, sizeLine]
  · intro c hc
    obtain ⟨z, _, rfl⟩ := List.mem_map.mp hc
    split <;> omega
theorem sem_low {a b : Int} (hb : 0 < b) (hs : b.natAbs < 2 ^ 200) : s_low.sem [.int a, .int b] = .ok (.sh (RD a b)) .none := by
  show runF 2 4 0 b_low [.int a, .int b] = _
  have hg := gcd_pos (a := a) hb
  have hl : (Int.gcd a b : Int).natAbs.log2 < 9000 := by
    have h1 : Int.gcd a b ≤ b.natAbs := Nat.le_of_dvd (by omega) (Int.gcd_dvd_natAbs_right a b)
    have h2 : (Int.gcd a b : Int).natAbs = Int.gcd a b := by omega
    rw [h2]
    have := lg (x := Int.gcd a b) (by omega)
    omega
  have key : ∀ (n : Nat) (x y : Nat), y < n → ∃ z, whileL (testR (ev (.cmp .gt (.var 3) (.lit (.int 0))))) (exs (.cons (.par [2, 3] (.cons (.var 3) (.cons (.bin .mod (.bi .int (.cons (.var 2) .nil)) (.var 3)) .nil))) .nil)) n [.sh (.int a), .sh (.int b), .sh (.int x), .sh (.int y)] = .nx [.sh (.int a), .sh (.int b), .sh (.int (Nat.gcd x y)), .sh z] := by
    intro n
    induction n with
    | zero => intro x y h; omega
    | succ n ih =>
      intro x y hn
      unfold whileL
      have ht : testR (ev (.cmp .gt (.var 3) (.lit (.int 0)))) [.sh (.int a), .sh (.int b), .sh (.int x), .sh (.int y)] = .ok (decide ((0 : Int) < y), [.sh (.int a), .sh (.int b), .sh (.int x), .sh (.int y)]) := tst_b _ _ _ (by
        simp only [get_z, get_s, put_z, put_s, bind_ok, sr_ok, seq_nx, seq_rt, lift_s, getv, gets, getWv, getWs, vo_sh, vo_ow, vo_io, vw_sh, vw_ow, vw_io, vw_fz, eq_int, cmp_eq, cmp_ne, cmp_lt, cmp_gt, cmp_le, cmp_ge, bin_add, bin_sub, exs_nil, exs_cons, ev, evs, evOs, evcs, evB, evI, opOf, valR, varV, optOf, biD, lenD, storeP, storeT, store, startE, firstC, Option.map_some, Option.bind_some, ex_whl, List.length_cons, List.length_nil, List.mapM_cons, List.mapM_nil, Option.pure_def, Option.bind_eq_bind, idxD, L2.atI, L2.ixN])
      rw [ht, sr_ok]
      by_cases h : y = 0
      · subst h
        exact ⟨.int 0, by simp⟩
      · have h0 : 0 < y := by omega
        obtain ⟨z, hz⟩ := ih y (x % y) (by have := Nat.mod_lt x h0; omega)
        refine ⟨z, ?_⟩
        rw [Nat.gcd_comm y, ← Nat.gcd_rec, Nat.gcd_comm] at hz
        rw [← hz]
        have h1 : (0 : Int) < y := by omega
        have hd : decide ((0 : Int) < y) = true := decide_eq_true h1
        have hb : exs (.cons (.par [2, 3] (.cons (.var 3) (.cons (.bin .mod (.bi .int (.cons (.var 2) .nil)) (.var 3)) .nil))) .nil) [.sh (.int a), .sh (.int b), .sh (.int x), .sh (.int y)] = .nx [.sh (.int a), .sh (.int b), .sh (.int y), .sh (.int (x % y : Nat))] := by
          simp [get_z, get_s, put_z, put_s, bind_ok, sr_ok, seq_nx, seq_rt, lift_s, getv, gets, getWv, getWs, vo_sh, vo_ow, vo_io, vw_sh, vw_ow, vw_io, vw_fz, eq_int, cmp_eq, cmp_ne, cmp_lt, cmp_gt, cmp_le, cmp_ge, bin_add, bin_sub, exs_nil, exs_cons, ev, evs, evOs, evcs, evB, evI, opOf, valR, varV, optOf, biD, lenD, storeP, storeT, store, startE, firstC, Option.map_some, Option.bind_some, ex_whl, List.length_cons, List.length_nil, List.mapM_cons, List.mapM_nil, Option.pure_def, Option.bind_eq_bind, idxD, L2.atI, L2.ixN, ex, bin_mod h1]
        simp only [hd, if_true, hb]
  have ha : ∀ x : Int, (if x < 0 then -x else x) = x.natAbs := fun x => by split <;> omega
  have hbn : b = (b.natAbs : Int) := by omega
  obtain ⟨z, hz⟩ := key (fuelE [.sh (.int a), .sh (.int b), .sh (.int a.natAbs), .sh (.int b.natAbs)]) a.natAbs b.natAbs (by simp [fuelE, fuelC]; omega)
  rw [← hbn] at hz
  have h1 : exs b_low [.sh (.int a), .sh (.int b), .un, .un] = .rt (.sh (RD a b)) [.sh (.int a), .sh (.int b), .sh (.int (Int.gcd a b)), .sh z] := by
    unfold b_low
    rw [exs_cons]
    have : ex (.par [2, 3] (.cons (.bi .abs (.cons (.var 0) .nil)) (.cons (.var 1) .nil))) [.sh (.int a), .sh (.int b), .un, .un] = .nx [.sh (.int a), .sh (.int b), .sh (.int a.natAbs), .sh (.int b)] := by
      simp [get_z, get_s, put_z, put_s, bind_ok, sr_ok, seq_nx, seq_rt, lift_s, getv, gets, getWv, getWs, vo_sh, vo_ow, vo_io, vw_sh, vw_ow, vw_io, vw_fz, eq_int, cmp_eq, cmp_ne, cmp_lt, cmp_gt, cmp_le, cmp_ge, bin_add, bin_sub, exs_nil, exs_cons, ev, evs, evOs, evcs, evB, evI, opOf, valR, varV, optOf, biD, lenD, storeP, storeT, store, startE, firstC, Option.map_some, Option.bind_some, ex_whl, List.length_cons, List.length_nil, List.mapM_cons, List.mapM_nil, Option.pure_def, Option.bind_eq_bind, idxD, L2.atI, L2.ixN, ex, ha]
    dsimp only
    rw [this, seq_nx, exs_cons]
    dsimp only
    rw [ex_whl]
    dsimp only
    rw [hz, seq_nx]
    show exs _ [.sh (.int a), .sh (.int b), .sh (.int (Int.gcd a b)), .sh z] = _
    simp [get_z, get_s, put_z, put_s, bind_ok, sr_ok, seq_nx, seq_rt, lift_s, getv, gets, getWv, getWs, vo_sh, vo_ow, vo_io, vw_sh, vw_ow, vw_io, vw_fz, eq_int, cmp_eq, cmp_ne, cmp_lt, cmp_gt, cmp_le, cmp_ge, bin_add, bin_sub, exs_nil, exs_cons, ev, evs, evOs, evcs, evB, evI, opOf, valR, varV, optOf, biD, lenD, storeP, storeT, store, startE, firstC, Option.map_some, Option.bind_some, ex_whl, List.length_cons, List.length_nil, List.mapM_cons, List.mapM_nil, Option.pure_def, Option.bind_eq_bind, idxD, L2.atI, L2.ixN, ex, bin_fdiv hg hl, RD, sizeLine]
  simp [runF, startE, firstC, h1, endF]
theorem lg9 {x : Nat} (h : x < 2 ^ 200) : x.log2 < 9000 := by have := lg h; omega
theorem sem_any {h : D} {ds : List D} (hh : Ok h) (h0 : ds ≠ []) (hl : ds.length < 2 ^ 64) : ∃ d h', s_any.sem [h, .list ds] = .ok (.sh d) h' ∧ d ∈ ds ∧ Ok h' := by
  have hp : 0 < ds.length := List.length_pos_iff.mpr h0
  obtain ⟨d, h', hs, d0, d1, hh'⟩ := draw (m := ds.length) hh (by omega) (lg9 (by omega))
  have hi : d.toNat < ds.length := by omega
  refine ⟨ds[d.toNat], h', ?_, List.getElem_mem hi, hh'⟩
  show runF 2 2 1 b_any [h, .list ds] = _
  have hk : s_draw.kd = 1 := rfl
  have hc : callS s_draw (some 0) [.int ds.length] [.io h, .sh (.list ds)] = .ok (.sh (.int d), [.io h', .sh (.list ds)]) := callIo hk rfl (hs)
  simp [runF, b_any, get_z, get_s, put_z, put_s, bind_ok, sr_ok, seq_nx, seq_rt, lift_s, getv, gets, getWv, getWs, vo_sh, vo_ow, vo_io, vw_sh, vw_ow, vw_io, vw_fz, eq_int, cmp_eq, cmp_ne, cmp_lt, cmp_gt, cmp_le, cmp_ge, bin_add, bin_sub, exs_nil, exs_cons, ev, evs, evOs, evcs, evB, evI, opOf, valR, varV, optOf, biD, lenD, storeP, storeT, store, startE, firstC, Option.map_some, Option.bind_some, ex_whl, List.length_cons, List.length_nil, List.mapM_cons, List.mapM_nil, Option.pure_def, Option.bind_eq_bind, idxD, L2.atI, L2.ixN, ex, hk, hc, endF, okArg, muta, d0, d1, hi]
end PV.HandA
end
section
namespace PV
open PySem
theorem ev_len {i : Nat} {e : En} {D0 d : D} (hg : get e i = .sh D0) (hl : lenD D0 = some d) : ev (.bi .len (.cons (.var i) .nil)) e = .ok (.sh d, e) := by
  have h1 : opOf (.var i) (ev (.var i)) e = .ok (.slot i, e) := by
    unfold opOf
    dsimp only
    rw [hg]
  have h2 : [Op.slot i].mapM (Op.get e) = some [D0] := by simp [gets, hg, vo_sh]
  rw [ev, evOs, h1, bind_ok]
  dsimp only
  rw [evOs, bind_ok]
  dsimp only
  rw [bind_ok]
  dsimp only
  rw [h2, lift_s, bind_ok]
  show (lift ((lenD D0).map Cl.sh)).bind _ = _
  rw [hl]; rfl
theorem lc_map {own : List (Str × Nat)} {vs : List Nat} {tg : CT} {it : CI} {elt : CE} {e e1 : En} {xs : List D} {Ds : D} (g : D → D) (hvs : own.map (·.2) = vs)
    (he : evI it e = .ok ((xs, .val Ds), e1)) (hown : ownOk e1 vs = true)
    (ht : ∀ x ∈ xs, turnF tg vs (condR .noe (ev .noe)) (valR (ev elt)) x (wipeE e1 vs) = .ok (some (g x), wipeE e1 vs)) :
    ev (.lc own tg it .noe elt) e = .ok (.ow (.list (xs.map g)), backE e1 (wipeE e1 vs) vs) := by
  rw [ev_lc]
  dsimp only
  rw [he, bind_ok]
  dsimp only
  rw [hvs, lcF_eq (fun x => some (g x)) hown ht, List.filterMap_eq_map']
  rfl
theorem turn_elt {tg : CT} {vs : List Nat} {elt : CE} {x r : D} {e e3 e4 : En} (hb : bindT tg x e = some e3) (hv : valR (ev elt) e3 = .ok (r, e4)) : turnF tg vs (condR .noe (ev .noe)) (valR (ev elt)) x e = .ok (some r, wipeE e4 vs) := by
  rw [turnF_some hb]
  rw [condR_noe, bind_ok]
  dsimp only
  rw [if_pos rfl, hv, bind_ok]
theorem bools_map : ∀ (xs : List D) (f : D → Bool), boolsL (xs.map fun x => PyData.bool (f x)) = some (xs.map f)
  | [], _ => rfl
  | x :: xs, f => by
    show (boolsL (xs.map fun x => PyData.bool (f x))).map (f x :: ·) = _
    rw [bools_map xs f]; rfl
theorem at_neg1 {α : Type} {k : Nat} (xs : List α) (h : xs.length = k + 1) : L2.atI xs (-1) = xs[k]? := by
  have : L2.ixN xs.length (-1) = some k := by
    unfold L2.ixN
    rw [if_neg (by decide), if_pos (by omega)]
    congr 1
    omega
  unfold L2.atI
  rw [this]; rfl
theorem at_zero {α : Type} {k : Nat} (xs : List α) (h : xs.length = k + 1) : L2.atI xs 0 = xs[0]? := by
  have : L2.ixN xs.length 0 = some 0 := by
    unfold L2.ixN
    rw [if_pos (by decide), if_pos (by omega)]
    rfl
  unfold L2.atI
  rw [this]; rfl
theorem idx_val {a i : CE} {e e1 e2 : En} {x : Op} {dx j r : D} (h1 : opOf a (ev a) e = .ok (x, e1)) (h2 : valR (ev i) e1 = .ok (j, e2)) (h3 : x.getW e2 = some dx) (h4 : idxD dx j = some r) : ev (.idx a i) e = .ok (.sh r, e2) := by
  rw [ev, h1, bind_ok]
  dsimp only
  rw [h2, bind_ok]
  dsimp only
  rw [h3, lift_s, bind_ok, h4, lift_s, bind_ok]
theorem run0 {np n : Nat} {b : CSs} {ds : List D} {r : Cl} {e' : En} (h1 : ds.length = np) (h2 : np ≤ n) (h : exs b (startE 0 ds ++ List.replicate (n - ds.length) .un) = .rt r e') : runF np n 0 b ds = .ok r .none := by
  unfold runF
  rw [if_pos ⟨h1, h2, .inl rfl⟩, h]
  rfl
theorem run0n {np n : Nat} {b : CSs} {ds : List D} {e' : En} (h1 : ds.length = np) (h2 : np ≤ n) (h : exs b (startE 0 ds ++ List.replicate (n - ds.length) .un) = .nx e') : runF np n 0 b ds = .ok (.sh .none) .none := by
  unfold runF
  rw [if_pos ⟨h1, h2, .inl rfl⟩, h]
  rfl
theorem fzd_of {i : Nat} {D0 : D} {xs : List D} {e : En} (hg : get e i = .sh D0) (hs : seqD D0 = some xs) : evI (.fzd (.var i)) e = .ok ((xs, .val D0), e) := by
  have : valR (ev (.var i)) e = .ok (D0, e) := by
    unfold valR
    rw [ev, varV, hg]
    rfl
  rw [evI, this, bind_ok]
  dsimp only
  rw [hs]; rfl
/-- a call that sorts -/
theorem bi_one {op : Bi} {a : CE} {e e1 : En} {c r : Cl} {d : D} (ha : ∀ i, a ≠ .var i) (h1 : ev a e = .ok (c, e1)) (hv : valOf c = some d) (h2 : biD op [d] = some r) : ev (.bi op (.cons a .nil)) e = .ok (r, e1) := by
  rw [ev, evOs, opOf_val ha h1 hv, bind_ok]
  dsimp only
  rw [evOs, bind_ok]
  dsimp only
  rw [bind_ok]
  dsimp only
  show (lift (biD op [d])).bind _ = _
  rw [h2]; rfl
theorem ev_callI {nm : Str} {F : FSig} {i : Nat} {es : CEs} {e e1 : En} {ds : List D} {d0 h h' : D} {r : Cl} (hk : F.kd = 1) (h0 : get e i = .io d0) (he : evs es e = .ok (ds, e1)) (hg : get e1 i = .io h) (hs : F.sem (h :: ds) = .ok r h') : ev (.call nm F (.cons (.var i) es)) e = .ok (r, put e1 i (.io h')) := by
  have a1 : okArg F.kd (get e i) = true := by rw [hk, h0]; rfl
  have a2 : F.kd ≠ 0 := by rw [hk]; decide
  rw [ev, if_neg a2]
  show (if okArg F.kd (get e i) = true then _ else _) = _
  rw [if_pos a1, he, bind_ok]
  exact callIo hk hg hs
theorem run1 {np n : Nat} {b : CSs} {h h' : D} {ds : List D} {r : Cl} {e' : En} (h1 : (h :: ds).length = np) (h2 : np ≤ n) (h3 : 1 ≤ np) (hx : exs b (startE 1 (h :: ds) ++ List.replicate (n - (h :: ds).length) .un) = .rt r e') (hg : get e' 0 = .io h') : runF np n 1 b (h :: ds) = .ok r h' := by
  unfold runF
  rw [if_pos ⟨h1, h2, .inr h3⟩, hx]
  show endF 1 r e' = _
  unfold endF
  rw [if_pos rfl, hg]
theorem mod2 (k : Nat) : binD .mod (.int k) (.int 2) = some (.sh (.int ((k % 2 : Nat) : Int))) := by
  rw [bin_mod (by decide)]
  congr 3
theorem ite_tt {c : CE} {a b : CSs} {e e1 : En} {r : SR} (h : ev c e = .ok (.sh (.bool true), e1)) (h2 : exs a e1 = r) : ex (.ite c a b) e = r := by
  rw [ex_ite]
  dsimp only
  rw [testR_of h, sr_ok]
  exact h2
theorem evB_ort {a b : CE} {es : CEs} {e e1 : En} (h1 : ev a e = .ok (.sh (.bool true), e1)) : evB (.cons a (.cons b es)) false e = .ok (.sh (.bool true), e1) := by
  rw [evB, testR_of h1, bind_ok]
  · rfl
  · intro h
    cases h
theorem ife_of {c a b : CE} {e e1 : En} {t : Bool} {r : R (Cl × En)} (h : ev c e = .ok (.sh (.bool t), e1)) (h2 : (if t = true then ev a e1 else ev b e1) = r) : ev (.ife c a b) e = r := by
  rw [ev, testR_of h, bind_ok]
  exact h2
theorem nm {x y : Int} {m n : Nat} (hx : x.natAbs < 2 ^ m) (hy : y.natAbs < 2 ^ n) : (x * y).natAbs < 2 ^ (m + n) := by
  rw [Int.natAbs_mul, Nat.pow_add]
  exact Nat.mul_lt_mul'' hx hy
theorem lift2 {x : Int} {m n : Nat} (h : x.natAbs < 2 ^ m) (hmn : m ≤ n) : x.natAbs < 2 ^ n := Nat.lt_of_lt_of_le h (Nat.pow_le_pow_right (by decide) hmn)
theorem eq_self {x : D} (h : SeqAt.shaped x = true) : eqD x x = some true := by
  unfold eqD
  rw [h, PySem.SeqAt.eqv_refl x (SeqAt.canLay_of_shaped h)]
  rfl
theorem ne_self {x : D} (h : SeqAt.shaped x = true) : cmpD .ne x x = some false := by
  rw [cmp_ne, eq_self h]; rfl

mutual
def deq : D → D → Bool
  | .none, .none => true
  | .bool a, .bool b => a == b
  | .int a, .int b => decide (a = b)
  | .str a, .str b => decide (a = b)
  | .tuple a, .tuple b => deqs a b
  | .list a, .list b => deqs a b
  | _, _ => false
def deqs : List D → List D → Bool
  | [], [] => true
  | x :: xs, y :: ys => deq x y && deqs xs ys
  | _, _ => false
end
mutual
theorem deq_ok : ∀ a b : D, deq a b = true → a = b
  | .none, .none, _ => rfl
  | .bool a, .bool b, h => by rw [deq, beq_iff_eq] at h; rw [h]
  | .int a, .int b, h => by rw [deq] at h; rw [of_decide_eq_true h]
  | .str a, .str b, h => by rw [deq] at h; rw [of_decide_eq_true h]
  | .tuple a, .tuple b, h => by rw [deq] at h; rw [deqs_ok a b h]
  | .list a, .list b, h => by rw [deq] at h; rw [deqs_ok a b h]
  | .none, .bool _, h | .none, .int _, h | .none, .str _, h | .none, .tuple _, h | .none, .list _, h | .none, .dict _, h => by simp [deq] at h
  | .bool _, .none, h | .bool _, .int _, h | .bool _, .str _, h | .bool _, .tuple _, h | .bool _, .list _, h | .bool _, .dict _, h => by simp [deq] at h
  | .int _, .none, h | .int _, .bool _, h | .int _, .str _, h | .int _, .tuple _, h | .int _, .list _, h | .int _, .dict _, h => by simp [deq] at h
  | .str _, .none, h | .str _, .bool _, h | .str _, .int _, h | .str _, .tuple _, h | .str _, .list _, h | .str _, .dict _, h => by simp [deq] at h
  | .tuple _, .none, h | .tuple _, .bool _, h | .tuple _, .int _, h | .tuple _, .str _, h | .tuple _, .list _, h | .tuple _, .dict _, h => by simp [deq] at h
  | .list _, .none, h | .list _, .bool _, h | .list _, .int _, h | .list _, .str _, h | .list _, .tuple _, h | .list _, .dict _, h => by simp [deq] at h
  | .dict _, _, h => by simp [deq] at h
theorem deqs_ok : ∀ a b : List D, deqs a b = true → a = b
  | [], [], _ => rfl
  | x :: xs, y :: ys, h => by
    rw [deqs, Bool.and_eq_true] at h
    rw [deq_ok x y h.1, deqs_ok xs ys h.2]
  | [], _ :: _, h => by simp [deqs] at h
  | _ :: _, [], h => by simp [deqs] at h
end
def isR (r : FR) (d : D) : Bool := match r with
  | .ok (.sh x) .none => deq x d
  | _ => false
theorem isR_ok {r : FR} {d : D} (h : isR r d = true) : r = .ok (.sh d) .none := by
  unfold isR at h
  split at h
  · rw [deq_ok _ _ h]
  · simp at h

theorem look {op : COp} {nm : Str} {F : FSig} {es : CEs} {b : CE} {e : En} {ds : List D} {d d2 : D} {r : Bool} (hk : F.kd = 0) (h1 : evs es e = .ok (ds, e)) (h2 : F.sem ds = .ok (.sh d) .none) (h3 : opOf b (ev b) e = .ok (.val d2, e)) (h4 : cmpD op d d2 = some r) : ev (.cmp op (.call nm F es) b) e = .ok (.sh (.bool r), e) :=
  ev_cmp (opOf_val (fun i h => by cases h) (ev_call0 h1 hk h2) rfl) h3 rfl rfl h4

theorem storeP3 {i j k : Nat} {a b c : Cl} {e e1 e2 e3 : En} (h1 : store e i a = some e1) (h2 : store e1 j b = some e2) (h3 : store e2 k c = some e3) : storeP [i, j, k] [a, b, c] e = some e3 := by
  rw [storeP, h1, Option.bind_some, storeP, h2, Option.bind_some, storeP, h3, Option.bind_some, storeP]
def OkO (c : Cl) : Prop := c = .un ∨ (∃ d, c = .sh d) ∨ ∃ d, c = .ow d
theorem store_o {i : Nat} {d : D} {e : En} {c : Cl} (hc : get e i = c) (h : OkO c) (hl : i < e.length) : store e i (.ow d) = some (put e i (.ow d)) := by
  unfold store
  subst hc
  rcases h with h | ⟨_, h⟩ | ⟨_, h⟩ <;> rw [h] <;> dsimp only <;> rw [if_pos hl]

theorem q3 {b : CSs} {ds : List D} {np n : Nat} {E e' : En} {r : Cl} (h1 : ds.length = np) (h2 : np ≤ n) (hE : startE 0 ds ++ List.replicate (n - ds.length) .un = E) (h : exs b E = .rt r e') : runF np n 0 b ds = .ok r .none := by
  subst hE
  exact run0 h1 h2 h
theorem smallZ {k : Nat} (h : k ≤ 1000) : k ≤ sizeLine := Nat.le_trans h (by decide)
end PV
end
section
namespace PV
open PySem
/-! ### the text that repr shows -/
def cs (d : D) : List Nat := d.shown.cps.toList
def num (m : Nat) : List Nat := (Nat.toDigits 10 m).map Char.toNat
def Simp (x : Str) : Prop := ∀ c ∈ x.cps.toList, 32 ≤ c ∧ c < 127 ∧ c ≠ 39 ∧ c ≠ 92
theorem prt : ∀ c, c < 127 → 32 ≤ c → Unicode.isPrintable c = true := by decide +kernel
theorem chr_simp {c : Nat} (h : 32 ≤ c ∧ c < 127 ∧ c ≠ 39 ∧ c ≠ 92) : Builtin.Str.reprChar 39 c = [c] := by
  unfold Builtin.Str.reprChar
  have h1 : (c == 39 || c == 92) = false := by simp [h.2.2.1, h.2.2.2]
  have h2 : (c == 10) = false := by simp; omega
  have h3 : (c == 13) = false := by simp; omega
  have h4 : (c == 9) = false := by simp; omega
  simp [h1, h2, h3, h4, prt c h.2.1 h.1]
theorem fold_simp : ∀ (l : List Nat) (acc : Array Nat), (∀ c ∈ l, 32 ≤ c ∧ c < 127 ∧ c ≠ 39 ∧ c ≠ 92) → (l.foldl (fun out c => out ++ (Builtin.Str.reprChar 39 c).toArray) acc).toList = acc.toList ++ l
  | [], acc, _ => by simp
  | c :: l, acc, h => by
    rw [List.foldl_cons, fold_simp l _ (fun d hd => h d (List.mem_cons_of_mem _ hd)), chr_simp (h c List.mem_cons_self)]
    simp
theorem cs_str {x : Str} (h : Simp x) : cs (.str x) = 39 :: (x.cps.toList ++ [39]) := by
  have hq : reprQuote x = 39 := by
    unfold reprQuote
    rw [if_neg]
    intro q
    rw [Bool.and_eq_true] at q
    have := q.1
    rw [Array.contains_iff] at this
    exact (h 39 (Array.mem_toList_iff.mpr this)).2.2.1 rfl
  show (PyData.shown (.str x)).cps.toList = _
  rw [PyData.shown_str]
  unfold reprText
  rw [hq]
  show (Array.push _ 39).toList = _
  rw [Array.toList_push, ← Array.foldl_toList, fold_simp _ _ h]
  rfl
theorem cs_none : cs .none = [78, 111, 110, 101] := by decide +kernel
theorem cs_true : cs (.bool true) = [84, 114, 117, 101] := by decide +kernel
theorem cs_false : cs (.bool false) = [70, 97, 108, 115, 101] := by decide +kernel
theorem cs_dict : cs (.dict []) = [123, 125] := by decide +kernel
theorem cs_nat (m : Nat) : cs (.int m) = num m := by
  show (PyData.shown (.int m)).cps.toList = _
  rw [PyData.shown_int]
  exact PySem.W.KIN.signs_num m
theorem cs_neg (m : Nat) : cs (.int (Int.negSucc m)) = 45 :: num (m + 1) := by
  show (PyData.shown (.int (Int.negSucc m))).cps.toList = _
  rw [PyData.shown_int]
  show (Str.ofString (Int.repr (Int.negSucc m))).cps.toList = _
  rw [PyProof.Rows.signs_ofString]
  show (("-" ++ Nat.repr (m + 1) : String)).toList.map Char.toNat = _
  rw [String.toList_append, Nat.toList_repr]
  rfl
/-- items behind the first -/
def csT (l : List D) : List Nat := l.flatMap fun d => 44 :: 32 :: cs d
def csL : List D → List Nat
  | [] => []
  | d :: l => cs d ++ csT l
theorem joins : ∀ l : List D, (Str.join ", " (PyData.shownAll l)).cps.toList = csL l
  | [] => rfl
  | [d] => by
    show d.shown.cps.toList = cs d ++ []
    rw [List.append_nil]; rfl
  | d :: e :: l => by
    have ih := joins (e :: l)
    show (d.shown ++ ", " ++ Str.join ", " (PyData.shownAll (e :: l))).cps.toList = cs d ++ csT (e :: l)
    rw [Str.cps_append, Array.toList_append, Str.cps_append, Array.toList_append, ih]
    show d.shown.cps.toList ++ [44, 32] ++ (cs e ++ csT l) = cs d ++ (44 :: 32 :: cs e ++ csT l)
    rw [List.append_assoc]; rfl
theorem cs_list (l : List D) : cs (.list l) = 91 :: (csL l ++ [93]) := by
  show (PyData.shown (.list l)).cps.toList = _
  rw [PyData.shown_list, Str.cps_append, Array.toList_append, Str.cps_append, Array.toList_append, joins]
  rfl
theorem cs_tuple (l : List D) : cs (.tuple l) = 40 :: (csL l ++ if l.length = 1 then [44, 41] else [41]) := by
  show (PyData.shown (.tuple l)).cps.toList = _
  rw [PyData.shown_tuple, Str.cps_append, Array.toList_append, Str.cps_append, Array.toList_append, joins]
  by_cases h : l.length = 1
  · rw [if_pos h]
    have : (l.length == 1) = true := by rw [h]; rfl
    rw [this]; rfl
  · rw [if_neg h]
    have : (l.length == 1) = false := by simp [h]
    rw [this]; rfl
/-! ### what may be told apart -/
mutual
def Pl : D → Prop
  | .str x => Simp x
  | .list l => Pls l
  | .tuple l => Pls l
  | .dict l => l = []
  | _ => True
def Pls : List D → Prop
  | [] => True
  | d :: l => Pl d ∧ Pls l
end
def dig (c : Nat) : Prop := 48 ≤ c ∧ c ≤ 57
theorem num_dig (m : Nat) : ∀ c ∈ num m, dig c := by
  intro c hc
  unfold num at hc
  obtain ⟨ch, h1, rfl⟩ := List.mem_map.mp hc
  have := Nat.isDigit_of_mem_toDigits (by decide) (by decide) h1
  rw [Char.isDigit_iff_toNat] at this
  exact this
theorem num_ne (m : Nat) : num m ≠ [] := by
  unfold num
  intro h
  rw [List.map_eq_nil_iff] at h
  have := Nat.length_toDigits_pos (b := 10) (n := m)
  rw [h] at this
  cases this
theorem num_inj {m n : Nat} (h : num m = num n) : m = n := by
  rw [← PySem.W.KIN.val_back m, ← PySem.W.KIN.val_back n]
  exact congrArg _ h
/-- what may stand behind -/
def Del (r : List Nat) : Prop := r = [] ∨ ∃ c t, r = c :: t ∧ (c = 44 ∨ c = 41 ∨ c = 93)
def hd : D → List Nat → Prop
  | .none, r => ∃ t, r = 78 :: t
  | .bool true, r => ∃ t, r = 84 :: t
  | .bool false, r => ∃ t, r = 70 :: t
  | .int _, r => ∃ c t, r = c :: t ∧ (c = 45 ∨ dig c)
  | .str _, r => ∃ t, r = 39 :: t
  | .list _, r => ∃ t, r = 91 :: t
  | .tuple _, r => ∃ t, r = 40 :: t
  | .dict _, r => ∃ t, r = 123 :: t
theorem num_cons (m : Nat) : ∃ c t, num m = c :: t ∧ dig c := by
  cases h : num m with
  | nil => exact absurd h (num_ne m)
  | cons c t => exact ⟨c, t, rfl, num_dig m c (by rw [h]; exact List.mem_cons_self)⟩
theorem hd_cs : ∀ d : D, Pl d → ∀ r, hd d (cs d ++ r)
  | .none, _, r => ⟨_, by rw [cs_none]; rfl⟩
  | .bool true, _, r => ⟨_, by rw [cs_true]; rfl⟩
  | .bool false, _, r => ⟨_, by rw [cs_false]; rfl⟩
  | .int (Int.ofNat m), _, r => by
    obtain ⟨c, t, e, h⟩ := num_cons m
    exact ⟨c, t ++ r, by rw [show cs (.int (Int.ofNat m)) = num m from cs_nat m, e]; rfl, .inr h⟩
  | .int (Int.negSucc m), _, r => ⟨45, num (m + 1) ++ r, by rw [cs_neg]; rfl, .inl rfl⟩
  | .str x, h, r => ⟨_, by rw [cs_str h]; rfl⟩
  | .list l, _, r => ⟨_, by rw [cs_list]; rfl⟩
  | .tuple l, _, r => ⟨_, by rw [cs_tuple]; rfl⟩
  | .dict l, h, r => by
    have h : l = [] := h
    subst h
    exact ⟨_, by rw [cs_dict]; rfl⟩
theorem dig_split : ∀ {a b r1 r2 : List Nat}, (∀ c ∈ a, dig c) → (∀ c ∈ b, dig c) → Del r1 → Del r2 → a ++ r1 = b ++ r2 → a = b ∧ r1 = r2
  | [], [], r1, r2, _, _, _, _, h => ⟨rfl, h⟩
  | [], y :: b, r1, r2, _, hb, h1, _, h => by
    exfalso
    have hy := hb y List.mem_cons_self
    rcases h1 with rfl | ⟨c, t, rfl, hc⟩
    · cases h
    · injection h with e _
      subst e
      unfold dig at hy
      omega
  | x :: a, [], r1, r2, ha, _, _, h2, h => by
    exfalso
    have hx := ha x List.mem_cons_self
    rcases h2 with rfl | ⟨c, t, rfl, hc⟩
    · cases h
    · injection h with e _
      subst e
      unfold dig at hx
      omega
  | x :: a, y :: b, r1, r2, ha, hb, h1, h2, h => by
    injection h with e h
    subst e
    obtain ⟨e1, e2⟩ := dig_split (fun c hc => ha c (List.mem_cons_of_mem _ hc)) (fun c hc => hb c (List.mem_cons_of_mem _ hc)) h1 h2 h
    exact ⟨by rw [e1], e2⟩
theorem quo_split : ∀ {a b r1 r2 : List Nat}, 39 ∉ a → 39 ∉ b → a ++ 39 :: r1 = b ++ 39 :: r2 → a = b ∧ r1 = r2
  | [], [], r1, r2, _, _, h => by injection h with _ h; exact ⟨rfl, h⟩
  | [], y :: b, r1, r2, _, hb, h => by injection h with e _; exact absurd (by rw [e]; exact List.mem_cons_self) hb
  | x :: a, [], r1, r2, ha, _, h => by injection h with e _; exact absurd (by rw [← e]; exact List.mem_cons_self) ha
  | x :: a, y :: b, r1, r2, ha, hb, h => by
    injection h with e h
    subst e
    obtain ⟨e1, e2⟩ := quo_split (fun q => ha (List.mem_cons_of_mem _ q)) (fun q => hb (List.mem_cons_of_mem _ q)) h
    exact ⟨by rw [e1], e2⟩
/-- an end of a row -/
def Tl (t : List Nat) : Prop := (∃ r, t = 93 :: r) ∨ (∃ r, t = 41 :: r) ∨ ∃ r, t = 44 :: 41 :: r
theorem Tl.del {t : List Nat} (h : Tl t) : Del t := by
  rcases h with ⟨r, rfl⟩ | ⟨r, rfl⟩ | ⟨r, rfl⟩
  · exact .inr ⟨_, _, rfl, .inr (.inr rfl)⟩
  · exact .inr ⟨_, _, rfl, .inr (.inl rfl)⟩
  · exact .inr ⟨_, _, rfl, .inl rfl⟩
theorem del_T (l : List D) {t : List Nat} (h : Tl t) : Del (csT l ++ t) := by
  cases l with
  | nil => exact h.del
  | cons d l => exact .inr ⟨44, 32 :: cs d ++ csT l ++ t, by simp [csT], .inl rfl⟩
theorem tl_not_T {l : List D} {d : D} {t t2 : List Nat} (h : Tl t) : t ≠ csT (d :: l) ++ t2 := by
  intro e
  have e2 : csT (d :: l) ++ t2 = 44 :: 32 :: (cs d ++ csT l ++ t2) := by simp [csT]
  rw [e2] at e
  rcases h with ⟨r, rfl⟩ | ⟨r, rfl⟩ | ⟨r, rfl⟩ <;> cases e
theorem tl_not_hd {d : D} {t : List Nat} (h : Tl t) (h2 : hd d t) : False := by
  have hh : ∃ c r, t = c :: r ∧ (c = 93 ∨ c = 41 ∨ c = 44) := by
    rcases h with ⟨r, rfl⟩ | ⟨r, rfl⟩ | ⟨r, rfl⟩
    · exact ⟨_, _, rfl, .inl rfl⟩
    · exact ⟨_, _, rfl, .inr (.inl rfl)⟩
    · exact ⟨_, _, rfl, .inr (.inr rfl)⟩
  obtain ⟨c, r, rfl, hc⟩ := hh
  unfold hd at h2
  split at h2
  case h_4 =>
    obtain ⟨c2, t2, e, h3⟩ := h2
    injection e with e _
    subst e
    unfold dig at h3
    omega
  all_goals
    obtain ⟨t2, e⟩ := h2
    injection e with e _
    omega
theorem hd_same {d e : D} {t : List Nat} (h1 : hd d t) (h2 : hd e t) : (d = .none ∧ e = .none) ∨ (∃ b, d = .bool b ∧ e = .bool b) ∨ (∃ i j, d = .int i ∧ e = .int j) ∨ (∃ i j, d = .str i ∧ e = .str j) ∨ (∃ i j, d = .list i ∧ e = .list j) ∨ (∃ i j, d = .tuple i ∧ e = .tuple j) ∨ (∃ i j, d = .dict i ∧ e = .dict j) := by
  have key : ∀ (x : D), hd x t → ∃ c r, t = c :: r ∧ ((c = 78 ∧ x = .none) ∨ (c = 84 ∧ x = .bool true) ∨ (c = 70 ∧ x = .bool false) ∨ ((c = 45 ∨ dig c) ∧ ∃ i, x = .int i) ∨ (c = 39 ∧ ∃ i, x = .str i) ∨ (c = 91 ∧ ∃ i, x = .list i) ∨ (c = 40 ∧ ∃ i, x = .tuple i) ∨ (c = 123 ∧ ∃ i, x = .dict i)) := by
    intro x hx
    unfold hd at hx
    split at hx
    case h_4 =>
      obtain ⟨c2, t2, e, h3⟩ := hx
      exact ⟨c2, t2, e, by simp [h3]⟩
    all_goals
      obtain ⟨t2, e⟩ := hx
      exact ⟨_, t2, e, by simp⟩
  obtain ⟨c, r, rfl, hc⟩ := key d h1
  obtain ⟨c2, r2, e2, hc2⟩ := key e h2
  injection e2 with e2 _
  subst e2
  unfold dig at hc hc2
  rcases hc with ⟨q, rfl⟩ | ⟨q, rfl⟩ | ⟨q, rfl⟩ | ⟨q, i, rfl⟩ | ⟨q, i, rfl⟩ | ⟨q, i, rfl⟩ | ⟨q, i, rfl⟩ | ⟨q, i, rfl⟩ <;>
  rcases hc2 with ⟨q2, rfl⟩ | ⟨q2, rfl⟩ | ⟨q2, rfl⟩ | ⟨q2, j, rfl⟩ | ⟨q2, j, rfl⟩ | ⟨q2, j, rfl⟩ | ⟨q2, j, rfl⟩ | ⟨q2, j, rfl⟩ <;>
  first
    | (exfalso; omega)
    | simp
theorem int_split {i j : Int} {r1 r2 : List Nat} (h1 : Del r1) (h2 : Del r2) (h : cs (.int i) ++ r1 = cs (.int j) ++ r2) : i = j ∧ r1 = r2 := by
  have neg : ∀ (m n : Nat) (a b : List Nat), num m ++ a = 45 :: num n ++ b → False := fun m n a b h => by
    obtain ⟨c, t, e, hc⟩ := num_cons m
    rw [e] at h
    injection h with e2 _
    subst e2
    unfold dig at hc
    omega
  cases i with
  | ofNat m =>
    cases j with
    | ofNat n =>
      rw [show cs (.int (Int.ofNat m)) = num m from cs_nat m, show cs (.int (Int.ofNat n)) = num n from cs_nat n] at h
      obtain ⟨e1, e2⟩ := dig_split (num_dig m) (num_dig n) h1 h2 h
      exact ⟨by rw [num_inj e1], e2⟩
    | negSucc n =>
      rw [show cs (.int (Int.ofNat m)) = num m from cs_nat m, cs_neg] at h
      exact (neg _ _ _ _ h).elim
  | negSucc m =>
    cases j with
    | ofNat n =>
      rw [show cs (.int (Int.ofNat n)) = num n from cs_nat n, cs_neg] at h
      exact (neg _ _ _ _ h.symm).elim
    | negSucc n =>
      rw [cs_neg, cs_neg] at h
      injection h with _ h
      obtain ⟨e1, e2⟩ := dig_split (num_dig (m + 1)) (num_dig (n + 1)) h1 h2 h
      have := num_inj e1
      exact ⟨by congr 1; omega, e2⟩
mutual
theorem cs_inj : ∀ (d e : D) (r1 r2 : List Nat), Pl d → Pl e → Del r1 → Del r2 → cs d ++ r1 = cs e ++ r2 → d = e ∧ r1 = r2
  | .none, e, r1, r2, p1, p2, h1, h2, h => by
    have q1 := hd_cs .none p1 r1
    have q2 := hd_cs e p2 r2
    rw [← h] at q2
    rcases hd_same q1 q2 with ⟨_, rfl⟩ | ⟨b, e1, rfl⟩ | ⟨i, j, e1, rfl⟩ | ⟨i, j, e1, rfl⟩ | ⟨i, j, e1, rfl⟩ | ⟨i, j, e1, rfl⟩ | ⟨i, j, e1, rfl⟩ <;> first | (cases e1; done) | exact ⟨rfl, List.append_cancel_left h⟩
  | .bool b, e, r1, r2, p1, p2, h1, h2, h => by
    have q1 := hd_cs (.bool b) p1 r1
    have q2 := hd_cs e p2 r2
    rw [← h] at q2
    rcases hd_same q1 q2 with ⟨e1, rfl⟩ | ⟨b2, e1, rfl⟩ | ⟨i, j, e1, rfl⟩ | ⟨i, j, e1, rfl⟩ | ⟨i, j, e1, rfl⟩ | ⟨i, j, e1, rfl⟩ | ⟨i, j, e1, rfl⟩ <;> first | (cases e1; done) | (cases e1; exact ⟨rfl, List.append_cancel_left h⟩)
  | .int n, e, r1, r2, p1, p2, h1, h2, h => by
    have q1 := hd_cs (.int n) p1 r1
    have q2 := hd_cs e p2 r2
    rw [← h] at q2
    rcases hd_same q1 q2 with ⟨e1, rfl⟩ | ⟨b2, e1, rfl⟩ | ⟨i, j, e1, rfl⟩ | ⟨i, j, e1, rfl⟩ | ⟨i, j, e1, rfl⟩ | ⟨i, j, e1, rfl⟩ | ⟨i, j, e1, rfl⟩
    case inr.inr.inl =>
      obtain ⟨e2, e3⟩ := int_split h1 h2 h
      exact ⟨by rw [e2], e3⟩
    all_goals cases e1
  | .str x, e, r1, r2, p1, p2, h1, h2, h => by
    have q1 := hd_cs (.str x) p1 r1
    have q2 := hd_cs e p2 r2
    rw [← h] at q2
    rcases hd_same q1 q2 with ⟨e1, rfl⟩ | ⟨b2, e1, rfl⟩ | ⟨i, j, e1, rfl⟩ | ⟨i, j, e1, rfl⟩ | ⟨i, j, e1, rfl⟩ | ⟨i, j, e1, rfl⟩ | ⟨i, j, e1, rfl⟩
    case inr.inr.inr.inl =>
      have s1 : Simp x := p1
      have s2 : Simp j := p2
      rw [cs_str s1, cs_str s2] at h
      injection h with _ h
      simp only [List.append_eq] at h
      rw [List.append_assoc, List.append_assoc] at h
      obtain ⟨e2, e3⟩ := quo_split (fun q => (s1 39 q).2.2.1 rfl) (fun q => (s2 39 q).2.2.1 rfl) h
      exact ⟨by rw [Str.ext' (Array.toList_inj.mp e2)], e3⟩
    all_goals cases e1
  | .list l, e, r1, r2, p1, p2, h1, h2, h => by
    have q1 := hd_cs (.list l) p1 r1
    have q2 := hd_cs e p2 r2
    rw [← h] at q2
    rcases hd_same q1 q2 with ⟨e1, rfl⟩ | ⟨b2, e1, rfl⟩ | ⟨i, j, e1, rfl⟩ | ⟨i, j, e1, rfl⟩ | ⟨i, j, e1, rfl⟩ | ⟨i, j, e1, rfl⟩ | ⟨i, j, e1, rfl⟩
    case inr.inr.inr.inr.inl =>
      rw [cs_list, cs_list] at h
      injection h with _ h
      simp only [List.append_eq] at h
      rw [List.append_assoc, List.append_assoc] at h
      obtain ⟨e2, e3⟩ := csL_inj l j (93 :: r1) (93 :: r2) p1 p2 (.inl ⟨_, rfl⟩) (.inl ⟨_, rfl⟩) h
      injection e3 with _ e3
      exact ⟨by rw [e2], e3⟩
    all_goals cases e1
  | .tuple l, e, r1, r2, p1, p2, h1, h2, h => by
    have q1 := hd_cs (.tuple l) p1 r1
    have q2 := hd_cs e p2 r2
    rw [← h] at q2
    rcases hd_same q1 q2 with ⟨e1, rfl⟩ | ⟨b2, e1, rfl⟩ | ⟨i, j, e1, rfl⟩ | ⟨i, j, e1, rfl⟩ | ⟨i, j, e1, rfl⟩ | ⟨i, j, e1, rfl⟩ | ⟨i, j, e1, rfl⟩
    case inr.inr.inr.inr.inr.inl =>
      rw [cs_tuple, cs_tuple] at h
      injection h with _ h
      simp only [List.append_eq] at h
      rw [List.append_assoc, List.append_assoc] at h
      have tl : ∀ (m : List D) (r : List Nat), Tl ((if m.length = 1 then [44, 41] else [41]) ++ r) := fun m r => by
        by_cases q : m.length = 1
        · rw [if_pos q]; exact .inr (.inr ⟨_, rfl⟩)
        · rw [if_neg q]; exact .inr (.inl ⟨_, rfl⟩)
      obtain ⟨e2, e3⟩ := csL_inj l j _ _ p1 p2 (tl l r1) (tl j r2) h
      subst e2
      exact ⟨rfl, List.append_cancel_left e3⟩
    all_goals cases e1
  | .dict l, e, r1, r2, p1, p2, h1, h2, h => by
    have q1 := hd_cs (.dict l) p1 r1
    have q2 := hd_cs e p2 r2
    rw [← h] at q2
    rcases hd_same q1 q2 with ⟨e1, rfl⟩ | ⟨b2, e1, rfl⟩ | ⟨i, j, e1, rfl⟩ | ⟨i, j, e1, rfl⟩ | ⟨i, j, e1, rfl⟩ | ⟨i, j, e1, rfl⟩ | ⟨i, j, e1, rfl⟩
    case inr.inr.inr.inr.inr.inr =>
      have s1 : l = [] := p1
      have s2 : j = [] := p2
      subst s1 s2
      exact ⟨rfl, List.append_cancel_left h⟩
    all_goals cases e1
theorem csL_inj : ∀ (l m : List D) (t1 t2 : List Nat), Pls l → Pls m → Tl t1 → Tl t2 → csL l ++ t1 = csL m ++ t2 → l = m ∧ t1 = t2
  | [], [], t1, t2, _, _, _, _, h => ⟨rfl, h⟩
  | [], e :: m, t1, t2, _, p2, h1, _, h => by
    have p2 : Pl e ∧ Pls m := p2
    have q := hd_cs e p2.1 (csT m ++ t2)
    have h : t1 = cs e ++ csT m ++ t2 := h
    rw [List.append_assoc] at h
    rw [← h] at q
    exact (tl_not_hd h1 q).elim
  | d :: l, [], t1, t2, p1, _, _, h2, h => by
    have p1 : Pl d ∧ Pls l := p1
    have q := hd_cs d p1.1 (csT l ++ t1)
    have h : cs d ++ csT l ++ t1 = t2 := h
    rw [List.append_assoc] at h
    rw [h] at q
    exact (tl_not_hd h2 q).elim
  | d :: l, e :: m, t1, t2, p1, p2, h1, h2, h => by
    have p1 : Pl d ∧ Pls l := p1
    have p2 : Pl e ∧ Pls m := p2
    have h : cs d ++ csT l ++ t1 = cs e ++ csT m ++ t2 := h
    rw [List.append_assoc, List.append_assoc] at h
    obtain ⟨rfl, h3⟩ := cs_inj d e _ _ p1.1 p2.1 (del_T l h1) (del_T m h2) h
    obtain ⟨rfl, e3⟩ := csT_inj l m t1 t2 p1.2 p2.2 h1 h2 h3
    exact ⟨rfl, e3⟩
theorem csT_inj : ∀ (l m : List D) (t1 t2 : List Nat), Pls l → Pls m → Tl t1 → Tl t2 → csT l ++ t1 = csT m ++ t2 → l = m ∧ t1 = t2
  | [], [], t1, t2, _, _, _, _, h => ⟨rfl, h⟩
  | [], e :: m, t1, t2, _, _, h1, _, h => (tl_not_T h1 h).elim
  | d :: l, [], t1, t2, _, _, _, h2, h => (tl_not_T h2 h.symm).elim
  | d :: l, e :: m, t1, t2, p1, p2, h1, h2, h => by
    have p1 : Pl d ∧ Pls l := p1
    have p2 : Pl e ∧ Pls m := p2
    have e1 : ∀ (x : D) (k : List D) (t : List Nat), csT (x :: k) ++ t = 44 :: 32 :: (cs x ++ (csT k ++ t)) := fun x k t => by simp [csT]
    rw [e1, e1] at h
    injection h with _ h
    injection h with _ h
    obtain ⟨rfl, h3⟩ := cs_inj d e _ _ p1.1 p2.1 (del_T l h1) (del_T m h2) h
    obtain ⟨rfl, e3⟩ := csT_inj l m t1 t2 p1.2 p2.2 h1 h2 h3
    exact ⟨rfl, e3⟩
end
theorem shown_inj {d e : D} (p1 : Pl d) (p2 : Pl e) (h : d.shown = e.shown) : d = e := by
  have h2 : cs d ++ [] = cs e ++ [] := by unfold cs; rw [h]
  exact (cs_inj d e [] [] p1 p2 (.inl rfl) (.inl rfl) h2).1
end PV
end
section
namespace PV
open PySem
/-! ### sizes of what repr shows -/
theorem num_small (m : Nat) : ∀ c ∈ num m, c < 128 := fun c hc => by
  have := num_dig m c hc
  unfold dig at this
  omega
mutual
theorem cs_small : ∀ d : D, Pl d → ∀ c ∈ cs d, c < 128
  | .none, _, c, h => by rw [cs_none] at h; revert c; decide
  | .bool true, _, c, h => by rw [cs_true] at h; revert c; decide
  | .bool false, _, c, h => by rw [cs_false] at h; revert c; decide
  | .int (Int.ofNat m), _, c, h => num_small m c (by rw [show cs (.int (Int.ofNat m)) = num m from cs_nat m] at h; exact h)
  | .int (Int.negSucc m), _, c, h => by
    rw [cs_neg] at h
    rcases List.mem_cons.mp h with rfl | h
    · decide
    · exact num_small _ c h
  | .str x, p, c, h => by
    have p : Simp x := p
    rw [cs_str p] at h
    rcases List.mem_cons.mp h with rfl | h
    · decide
    · rcases List.mem_append.mp h with h | h
      · have := p c h; omega
      · rw [List.mem_singleton.mp h]; decide
  | .list l, p, c, h => by
    rw [cs_list] at h
    rcases List.mem_cons.mp h with rfl | h
    · decide
    · rcases List.mem_append.mp h with h | h
      · exact csL_small l p c h
      · rw [List.mem_singleton.mp h]; decide
  | .tuple l, p, c, h => by
    rw [cs_tuple] at h
    rcases List.mem_cons.mp h with rfl | h
    · decide
    · rcases List.mem_append.mp h with h | h
      · exact csL_small l p c h
      · split at h
        · rcases List.mem_cons.mp h with rfl | h
          · decide
          · rw [List.mem_singleton.mp h]; decide
        · rw [List.mem_singleton.mp h]; decide
  | .dict l, p, c, h => by
    have p : l = [] := p
    subst p
    rw [cs_dict] at h; revert c; decide
theorem csL_small : ∀ l : List D, Pls l → ∀ c ∈ csL l, c < 128
  | [], _, c, h => by cases h
  | d :: l, p, c, h => by
    have p : Pl d ∧ Pls l := p
    rcases List.mem_append.mp h with h | h
    · exact cs_small d p.1 c h
    · exact csT_small l p.2 c h
theorem csT_small : ∀ l : List D, Pls l → ∀ c ∈ csT l, c < 128
  | [], _, c, h => by cases h
  | d :: l, p, c, h => by
    have p : Pl d ∧ Pls l := p
    have h : c ∈ 44 :: 32 :: (cs d ++ csT l) := by simpa [csT] using h
    rcases List.mem_cons.mp h with rfl | h
    · decide
    · rcases List.mem_cons.mp h with rfl | h
      · decide
      · rcases List.mem_append.mp h with h | h
        · exact cs_small d p.1 c h
        · exact csT_small l p.2 c h
end
theorem shaped_str {x : Str} (h : ∀ c ∈ x.cps.toList, c < 128) : SeqAt.shaped (.str x) = true := by
  have h2 : PyData.strOk x = true := by
    unfold PyData.strOk
    rw [Array.all_eq_true_iff_forall_mem]
    intro c hc
    have := h c (Array.mem_toList_iff.mpr hc)
    simp
    omega
  unfold SeqAt.shaped
  simp [PyData.canLay0, PyData.depth, h2]
theorem eq_text {d e : D} {b : Bool} (p1 : Pl d) (p2 : Pl e) (hb : b = true ↔ d = e) : eqD (.str d.shown) (.str e.shown) = some b := by
  unfold eqD
  rw [shaped_str (cs_small d p1), shaped_str (cs_small e p2)]
  show some (PyData.eqv _ _) = _
  rw [PyData.eqv]
  cases b with
  | true => rw [hb.mp rfl]; simp
  | false =>
    have : d.shown ≠ e.shown := fun q => by
      have := hb.mpr (shown_inj p1 p2 q)
      cases this
    simp [this]
mutual
/-- a bound on how long the text is -/
def sz : D → Nat
  | .int _ => 202
  | .str x => x.cps.toList.length + 2
  | .list l => szs l + 3
  | .tuple l => szs l + 3
  | _ => 5
def szs : List D → Nat
  | [] => 0
  | d :: l => sz d + 2 + szs l
end
mutual
def Sm : D → Prop
  | .int i => i.natAbs < 10 ^ 200
  | .list l => Sms l
  | .tuple l => Sms l
  | _ => True
def Sms : List D → Prop
  | [] => True
  | d :: l => Sm d ∧ Sms l
end
theorem len_int {i : Int} (h : i.natAbs < 10 ^ 200) : (cs (.int i)).length ≤ 202 := by
  have e := int_text_length_le10 (k := 200) (by decide) h
  show (PyData.shown (.int i)).cps.toList.length ≤ 202
  rw [PyData.shown_int, PyProof.Rows.signs_ofString, List.length_map]
  rw [← String.length_toList] at e
  omega
mutual
theorem len_cs : ∀ d : D, Pl d → Sm d → (cs d).length ≤ sz d
  | .none, _, _ => by rw [cs_none]; decide
  | .bool true, _, _ => by rw [cs_true]; decide
  | .bool false, _, _ => by rw [cs_false]; decide
  | .int i, _, h => len_int h
  | .str x, p, _ => by
    have p : Simp x := p
    rw [cs_str p, sz]
    simp
  | .list l, p, h => by
    have := len_csL l p h
    rw [cs_list, sz]
    simp
    omega
  | .tuple l, p, h => by
    have := len_csL l p h
    rw [cs_tuple, sz, List.length_cons, List.length_append]
    split <;> simp <;> omega
  | .dict l, p, _ => by
    have p : l = [] := p
    subst p
    rw [cs_dict]; decide
theorem len_csL : ∀ l : List D, Pls l → Sms l → (csL l).length ≤ szs l
  | [], _, _ => Nat.le_refl _
  | d :: l, p, h => by
    have p : Pl d ∧ Pls l := p
    have h : Sm d ∧ Sms l := h
    have h1 := len_cs d p.1 h.1
    have h2 := len_csT l p.2 h.2
    show (cs d ++ csT l).length ≤ sz d + 2 + szs l
    rw [List.length_append]; omega
theorem len_csT : ∀ l : List D, Pls l → Sms l → (csT l).length ≤ szs l
  | [], _, _ => Nat.le_refl _
  | d :: l, p, h => by
    have p : Pl d ∧ Pls l := p
    have h : Sm d ∧ Sms l := h
    have h1 := len_cs d p.1 h.1
    have h2 := len_csT l p.2 h.2
    have e : csT (d :: l) = 44 :: 32 :: (cs d ++ csT l) := by simp [csT]
    show _ ≤ sz d + 2 + szs l
    rw [e, List.length_cons, List.length_cons, List.length_append]; omega
end
mutual
theorem show_ok : ∀ d : D, Pl d → Sm d → d.showable = true
  | .none, _, _ => rfl
  | .bool _, _, _ => rfl
  | .int i, _, h => by
    have h : i.natAbs < 10 ^ 200 := h
    show decide (i.natAbs.log2 < 1920) = true
    refine decide_eq_true ?_
    by_cases z : i.natAbs = 0
    · rw [z]; decide
    · rw [Nat.log2_lt z]
      exact Nat.lt_trans h (by decide)
  | .str _, _, _ => rfl
  | .list l, p, h => by rw [PyData.showable]; exact shows_ok l p h
  | .tuple l, p, h => by rw [PyData.showable]; exact shows_ok l p h
  | .dict l, p, _ => by
    have p : l = [] := p
    subst p
    rfl
theorem shows_ok : ∀ l : List D, Pls l → Sms l → PyData.showableAll l = true
  | [], _, _ => rfl
  | d :: l, p, h => by
    have p : Pl d ∧ Pls l := p
    have h : Sm d ∧ Sms l := h
    rw [PyData.showableAll, show_ok d p.1 h.1, shows_ok l p.2 h.2]; rfl
end
theorem sh_ok {d : D} (p : Pl d) (s : Sm d) (hd : d.depth ≤ 60) (hz : sz d ≤ 100000) : shOk d = true := by
  have h := len_cs d p s
  unfold shOk
  rw [show_ok d p s, decide_eq_true hd]
  refine decide_eq_true ?_
  rw [show d.shown.length = (cs d).length from by unfold cs; simp [Str.length]]
  exact Nat.le_trans h (Nat.le_trans hz (by decide))
theorem bi_repr {d : D} (h : shOk d = true) : biD .repr [d] = some (.sh (.str d.shown)) := if_pos h
/-! ### what can not be right -/
inductive Odd : Nat → D → Prop
  | non : Odd 0 .none
  | que : Odd 0 (.str "?")
  | dct : Odd 0 (.dict [])
  | tup {n : Nat} {d : D} : Odd n d → Odd (n + 1) (.tuple [d])
  | lst {n : Nat} {d : D} : Odd n d → Odd (n + 1) (.list [d])
theorem simp_que : Simp "?" := by
  unfold Simp
  decide
theorem Odd.pl {n : Nat} {d : D} (h : Odd n d) : Pl d := by
  induction h with
  | non => trivial
  | que => exact simp_que
  | dct => rfl
  | tup _ ih => exact ⟨ih, trivial⟩
  | lst _ ih => exact ⟨ih, trivial⟩
theorem Odd.sm {n : Nat} {d : D} (h : Odd n d) : Sm d := by
  induction h with
  | non => trivial
  | que => trivial
  | dct => trivial
  | tup _ ih => exact ⟨ih, trivial⟩
  | lst _ ih => exact ⟨ih, trivial⟩
theorem Odd.dp {n : Nat} {d : D} (h : Odd n d) : d.depth ≤ n + 1 := by
  induction h with
  | non => simp [PyData.depth]
  | que => simp [PyData.depth]
  | dct => simp [PyData.depth, PyData.depthKv]
  | tup _ ih => simp [PyData.depth, PyData.depthAll]; omega
  | lst _ ih => simp [PyData.depth, PyData.depthAll]; omega
theorem Odd.sz {n : Nat} {d : D} (h : Odd n d) : PV.sz d ≤ 5 * n + 5 := by
  induction h with
  | non => decide
  | que => decide
  | dct => decide
  | tup _ ih => simp [PV.sz, szs]; omega
  | lst _ ih => simp [PV.sz, szs]; omega
theorem Odd.ok {n : Nat} {d : D} (h : Odd n d) (hn : n ≤ 50) : shOk d = true := sh_ok h.pl h.sm (by have := h.dp; omega) (by have := h.sz; omega)
namespace HandA
def b_odd : CSs := (.cons (.asg (.nm 1) (.call "_law_any" s_any (.cons (.var 0) (.cons (.lst (.cons (.lit .none) (.cons (.lit (.str ("?" : PySem.Str))) (.cons (.lit (.dict [])) .nil)))) .nil)))) (.cons (.fori (.nm 2) (.rng (.cons (.call "_law_any" s_any (.cons (.var 0) (.cons (.lst (.cons (.lit (.int 0)) (.cons (.lit (.int 5)) (.cons (.lit (.int 18)) (.cons (.lit (.int 30)) .nil))))) .nil))) .nil)) (.cons (.asg (.nm 1) (.call "_law_any" s_any (.cons (.var 0) (.cons (.lst (.cons (.tup (.cons (.var 1) .nil)) (.cons (.lst (.cons (.var 1) .nil)) .nil))) .nil)))) .nil)) (.cons (.ret (.var 1)) .nil)))
def s_odd : FSig := ⟨1, runF 1 3 1 b_odd⟩
def bO : CSs := (.cons (.asg (.nm 1) (.call "_law_any" s_any (.cons (.var 0) (.cons (.lst (.cons (.tup (.cons (.var 1) .nil)) (.cons (.lst (.cons (.var 1) .nil)) .nil))) .nil)))) .nil)
theorem loop_odd : ∀ (n : Nat) (i : Int) (h d : D) (m : Nat) (c2 : Cl), Ok h → Odd m d → OkC c2 → ∃ (h' d' : D) (c2' : Cl), Ok h' ∧ Odd (m + n) d' ∧ forL (forB (.nm 2) (exs bO)) (rangeD i n) [.io h, .sh d, c2] = .nx [.io h', .sh d', c2']
  | 0, i, h, d, m, c2, hh, hd, _ => ⟨h, d, c2, hh, hd, rfl⟩
  | n + 1, i, h, d, m, c2, hh, hd, k2 => by
    obtain ⟨x, h1, e1, hx, hh1⟩ := sem_any (ds := [.tuple [d], .list [d]]) hh (by simp) (by simp)
    have ho : Odd (m + 1) x := by
      rcases List.mem_cons.mp hx with rfl | hx
      · exact .tup hd
      · rw [List.mem_singleton.mp hx]; exact .lst hd
    obtain ⟨h2, d2, c2', hh2, hd2, hr⟩ := loop_odd n (i + 1) h1 x (m + 1) (.sh (.int i)) hh1 ho (okc _)
    refine ⟨h2, d2, c2', hh2, by rw [show m + (n + 1) = m + 1 + n by omega]; exact hd2, ?_⟩
    have hb : bindT (.nm 2) (.int i) [.io h, .sh d, c2] = some [.io h, .sh d, .sh (.int i)] := bindT_nm (i := 2) rfl k2 (by decide : 2 < 3)
    have c1 := ev_callI (nm := "_law_any") (F := s_any) (i := 0) (e := [.io h, .sh d, .sh (.int i)]) (es := .cons (.lst (.cons (.tup (.cons (.var 1) .nil)) (.cons (.lst (.cons (.var 1) .nil)) .nil))) .nil) (ds := [.list [.tuple [d], .list [d]]]) rfl rfl rfl rfl e1
    have s1 : ex (.asg (.nm 1) (.call "_law_any" s_any (.cons (.var 0) (.cons (.lst (.cons (.tup (.cons (.var 1) .nil)) (.cons (.lst (.cons (.var 1) .nil)) .nil))) .nil)))) [.io h, .sh d, .sh (.int i)] = .nx [.io h1, .sh x, .sh (.int i)] := ex_asg c1 rfl
    have ht : forB (.nm 2) (exs bO) (.int i) [.io h, .sh d, c2] = .nx [.io h1, .sh x, .sh (.int i)] := by
      unfold forB
      rw [hb]
      exact (exs_step s1).trans rfl
    show forL _ (.int i :: rangeD (i + 1) n) _ = _
    unfold forL
    rw [ht]
    exact hr
theorem sem_odd {h : D} (hh : Ok h) : ∃ (d h' : D) (n : Nat), s_odd.sem [h] = .ok (.sh d) h' ∧ Odd n d ∧ n ≤ 30 ∧ Ok h' := by
  obtain ⟨x, h1, e1, hx, hh1⟩ := sem_any (ds := [.none, .str "?", .dict []]) hh (by simp) (by simp)
  have ho : Odd 0 x := by
    rcases List.mem_cons.mp hx with rfl | hx
    · exact .non
    · rcases List.mem_cons.mp hx with rfl | hx
      · exact .que
      · rw [List.mem_singleton.mp hx]; exact .dct
  obtain ⟨y, h2, e2, hy, hh2⟩ := sem_any (ds := [.int 0, .int 5, .int 18, .int 30]) hh1 (by simp) (by simp)
  obtain ⟨n, rfl, hn⟩ : ∃ n : Nat, y = .int n ∧ n ≤ 30 := by
    simp at hy
    rcases hy with rfl | rfl | rfl | rfl
    · exact ⟨0, rfl, by decide⟩
    · exact ⟨5, rfl, by decide⟩
    · exact ⟨18, rfl, by decide⟩
    · exact ⟨30, rfl, by decide⟩
  obtain ⟨h3, d, c2, hh3, hd, hl⟩ := loop_odd n 0 h2 x 0 .un hh2 ho (.inl rfl)
  rw [Nat.zero_add] at hd
  refine ⟨d, h3, n, ?_, hd, hn, hh3⟩
  have c1 := ev_callI (nm := "_law_any") (F := s_any) (i := 0) (e := [.io h, .un, .un]) (es := .cons (.lst (.cons (.lit .none) (.cons (.lit (.str ("?" : PySem.Str))) (.cons (.lit (.dict [])) .nil)))) .nil) (ds := [.list [.none, .str "?", .dict []]]) rfl rfl rfl rfl e1
  have s1 : ex (.asg (.nm 1) (.call "_law_any" s_any (.cons (.var 0) (.cons (.lst (.cons (.lit .none) (.cons (.lit (.str ("?" : PySem.Str))) (.cons (.lit (.dict [])) .nil)))) .nil)))) [.io h, .un, .un] = .nx [.io h1, .sh x, .un] := ex_asg c1 rfl
  have c2' := ev_callI (nm := "_law_any") (F := s_any) (i := 0) (e := [.io h1, .sh x, .un]) (es := .cons (.lst (.cons (.lit (.int 0)) (.cons (.lit (.int 5)) (.cons (.lit (.int 18)) (.cons (.lit (.int 30)) .nil))))) .nil) (ds := [.list [.int 0, .int 5, .int 18, .int 30]]) rfl rfl rfl rfl e2
  have hg : rngD [.int (n : Int)] = some (rangeD 0 n) := by
    have hs : small62 (n : Int) = true := by
      unfold small62
      rw [decide_eq_true (by omega), decide_eq_true (by omega)]; rfl
    have hz : (n : Int).toNat ≤ sizeLine := smallZ (by omega)
    unfold rngD
    dsimp only
    rw [hs, decide_eq_true hz, Int.toNat_natCast]; rfl
  have he : evI (.rng (.cons (.call "_law_any" s_any (.cons (.var 0) (.cons (.lst (.cons (.lit (.int 0)) (.cons (.lit (.int 5)) (.cons (.lit (.int 18)) (.cons (.lit (.int 30)) .nil))))) .nil))) .nil)) [.io h1, .sh x, .un] = .ok ((rangeD 0 n, .val .none), [.io h2, .sh x, .un]) := by
    rw [evI, evs_cons (es := .nil) (valR_of c2' rfl) rfl, bind_ok]
    dsimp only
    rw [hg]; rfl
  have s2 : ex (.fori (.nm 2) (.rng (.cons (.call "_law_any" s_any (.cons (.var 0) (.cons (.lst (.cons (.lit (.int 0)) (.cons (.lit (.int 5)) (.cons (.lit (.int 18)) (.cons (.lit (.int 30)) .nil))))) .nil))) .nil)) bO) [.io h1, .sh x, .un] = .nx [.io h3, .sh d, c2] := by
    rw [ex_fori]
    dsimp only
    rw [he, sr_ok]
    dsimp only [lend]
    rw [hl]
    rfl
  have r1 : ev (.var 1) [.io h3, .sh d, c2] = .ok (.sh d, [.io h3, .sh d, c2]) := rfl
  have hb : exs b_odd [.io h, .un, .un] = .rt (.sh d) [.io h3, .sh d, c2] := (exs_step s1).trans ((exs_step s2).trans (exs_ret r1))
  have h0 : ∀ ds : List D, s_odd.sem ds = runF 1 3 1 b_odd ds := fun _ => rfl
  rw [h0]
  exact run1 (h := h) (ds := []) (np := 1) (n := 3) (b := b_odd) rfl (by decide) (by decide) hb rfl
end HandA
end PV
end
section
namespace PV
open PySem
/-! ### equality of plain data without flags -/
mutual
def Nb : D → Prop
  | .bool _ => False
  | .dict _ => False
  | .list l => Nbs l
  | .tuple l => Nbs l
  | _ => True
def Nbs : List D → Prop
  | [] => True
  | d :: l => Nb d ∧ Nbs l
end
mutual
theorem eqv_nb : ∀ d e : D, Nb d → Nb e → (PyData.eqv d e = true ↔ d = e)
  | .none, e, _, h => by cases e <;> simp [PyData.eqv, Nb] at *
  | .bool _, e, h, _ => by simp [Nb] at h
  | .dict _, e, h, _ => by simp [Nb] at h
  | .int i, e, _, h => by cases e <;> simp [PyData.eqv, Nb] at *
  | .str i, e, _, h => by cases e <;> simp [PyData.eqv, Nb] at *
  | .list l, e, h1, h => by
    cases e with
    | list m =>
      have := eqvs_nb l m (by simpa [Nb] using h1) (by simpa [Nb] using h)
      simp [PyData.eqv, this]
    | _ => simp [PyData.eqv]
  | .tuple l, e, h1, h => by
    cases e with
    | tuple m =>
      have := eqvs_nb l m (by simpa [Nb] using h1) (by simpa [Nb] using h)
      simp [PyData.eqv, this]
    | _ => simp [PyData.eqv]
theorem eqvs_nb : ∀ l m : List D, Nbs l → Nbs m → (PyData.eqvAll l m = true ↔ l = m)
  | [], [], _, _ => by simp [PyData.eqvAll]
  | [], _ :: _, _, _ => by simp [PyData.eqvAll]
  | _ :: _, [], _, _ => by simp [PyData.eqvAll]
  | d :: l, e :: m, h1, h2 => by
    have a := eqv_nb d e h1.1 h2.1
    have b := eqvs_nb l m h1.2 h2.2
    simp [PyData.eqvAll, a, b]
end
theorem strOk_simp {x : Str} (h : Simp x) : PyData.strOk x = true := by
  unfold PyData.strOk
  rw [Array.all_eq_true_iff_forall_mem]
  intro c hc
  have := h c (Array.mem_toList_iff.mpr hc)
  simp
  omega
mutual
theorem lay_pl : ∀ d : D, Pl d → Nb d → PyData.canLay0 d = true
  | .none, _, _ => by simp [PyData.canLay0]
  | .bool _, _, _ => by simp [PyData.canLay0]
  | .int _, _, _ => by simp [PyData.canLay0]
  | .str x, h, _ => by simp [PyData.canLay0]; exact strOk_simp h
  | .list l, h, n => by simp [PyData.canLay0]; exact lays_pl l h (by simpa [Nb] using n)
  | .tuple l, h, n => by simp [PyData.canLay0]; exact lays_pl l h (by simpa [Nb] using n)
  | .dict _, _, n => by simp [Nb] at n
theorem lays_pl : ∀ l : List D, Pls l → Nbs l → PyData.canLayAll0 l = true
  | [], _, _ => by simp [PyData.canLayAll0]
  | d :: l, h, n => by simp [PyData.canLayAll0]; exact ⟨lay_pl d h.1 n.1, lays_pl l h.2 n.2⟩
end
theorem shaped_pl {d : D} (h : Pl d) (n : Nb d) (k : d.depth ≤ 64) : SeqAt.shaped d = true := by
  unfold SeqAt.shaped
  rw [lay_pl d h n, decide_eq_true k]; rfl
theorem eq_nb {d e : D} (p1 : Pl d) (p2 : Pl e) (n1 : Nb d) (n2 : Nb e) (k1 : d.depth ≤ 64) (k2 : e.depth ≤ 64) : ∃ b, eqD d e = some b ∧ (b = true ↔ d = e) := by
  refine ⟨PyData.eqv d e, ?_, eqv_nb d e n1 n2⟩
  unfold eqD
  rw [shaped_pl p1 n1 k1, shaped_pl p2 n2 k2]; rfl
theorem eq_of {d e : D} {b : Bool} (p1 : Pl d) (p2 : Pl e) (n1 : Nb d) (n2 : Nb e) (k1 : d.depth ≤ 64) (k2 : e.depth ≤ 64) (hb : b = true ↔ d = e) : eqD d e = some b := by
  obtain ⟨c, h1, h2⟩ := eq_nb p1 p2 n1 n2 k1 k2
  have : c = b := by
    cases b <;> cases c <;> simp_all
  rw [h1, this]
/-! ### fractions -/
theorem rd_abs (a b : Int) : ∃ p q : Int, RD a b = .tuple [.int p, .int q] ∧ p.natAbs ≤ a.natAbs ∧ q.natAbs ≤ b.natAbs := ⟨_, _, rfl, Int.natAbs_ediv_le_natAbs _ _, Int.natAbs_ediv_le_natAbs _ _⟩
end PV
end
section
namespace PV
open PySem
theorem lcL_A {α : Type} {f : D → En → R (Option D × En)} {E G : α → D} {P : α → Bool} {e : En} : ∀ (l : List α) (acc : List D), (∀ a ∈ l, f (E a) e = .ok (if P a then some (G a) else none, e)) → lcL f (l.map E) acc e = .ok (acc ++ (l.filter P).map G, e)
  | [], acc, _ => by rw [List.map_nil, List.filter_nil, List.map_nil, List.append_nil]; rfl
  | a :: l, acc, h => by
    have h2 := lcL_A (f := f) (E := E) (G := G) (P := P) (e := e) l
    rw [List.map_cons, lcL, h a List.mem_cons_self, bind_ok, List.filter_cons]
    by_cases hp : P a = true
    · rw [if_pos hp, if_pos hp]
      dsimp only
      rw [h2 _ fun b hb => h b (List.mem_cons_of_mem _ hb), List.map_cons, List.append_assoc]; rfl
    · rw [if_neg hp, if_neg hp]
      dsimp only
      exact h2 _ fun b hb => h b (List.mem_cons_of_mem _ hb)
theorem lc_A {α : Type} {own : List (Str × Nat)} {vs : List Nat} {tg : CT} {it : CI} {cond elt : CE} {e e1 : En} {l : List α} {E G : α → D} {Ds : D} (P : α → Bool) (hvs : own.map (·.2) = vs)
    (he : evI it e = .ok ((l.map E, .val Ds), e1)) (hown : ownOk e1 vs = true)
    (ht : ∀ a ∈ l, turnF tg vs (condR cond (ev cond)) (valR (ev elt)) (E a) (wipeE e1 vs) = .ok (if P a then some (G a) else none, wipeE e1 vs)) :
    ev (.lc own tg it cond elt) e = .ok (.ow (.list ((l.filter P).map G)), backE e1 (wipeE e1 vs) vs) := by
  rw [ev_lc]
  dsimp only
  rw [he, bind_ok]
  dsimp only
  rw [hvs]
  unfold lcF
  rw [if_pos hown]
  show (match lcL _ (l.map E) [] (wipeE e1 vs) with | .ok (ds, e') => R.ok (Cl.ow (.list ds), backE e1 e' vs) | _ => .no) = _
  rw [lcL_A (G := G) (P := P) l [] ht]
  rfl
theorem turn_if {tg : CT} {vs : List Nat} {cond elt : CE} {x r : D} {e e3 : En} {t : Bool} (hb : bindT tg x e = some e3) (hc : condR cond (ev cond) e3 = .ok (t, e3)) (hv : t = true → valR (ev elt) e3 = .ok (r, e3)) : turnF tg vs (condR cond (ev cond)) (valR (ev elt)) x e = .ok (if t then some r else none, wipeE e3 vs) := by
  rw [turnF_some hb, hc, bind_ok]
  dsimp only
  cases t with
  | true => rw [if_pos rfl, hv rfl, bind_ok]; rfl
  | false => rfl
theorem filter_all {α : Type} (l : List α) : l.filter (fun _ => true) = l := List.filter_eq_self.mpr fun _ _ => rfl
theorem enumD_zip {α : Type} (E : α → D) : ∀ (l : List α) (k : Nat), enumD k (l.map E) = (l.zipIdx k).map fun p => PyData.tuple [.int p.2, E p.1]
  | [], k => rfl
  | a :: l, k => by
    rw [List.zipIdx_cons, List.map_cons, List.map_cons, ← enumD_zip E l (k + 1)]; rfl
theorem rangeD_map : ∀ (n : Nat) (lo : Int), rangeD lo n = (List.range n).map fun i : Nat => PyData.int (lo + i)
  | 0, _ => rfl
  | n + 1, lo => by
    rw [List.range_succ_eq_map, List.map_cons, List.map_map]
    show PyData.int lo :: rangeD (lo + 1) n = _
    rw [rangeD_map n (lo + 1)]
    congr 1
    · congr 1; simp
    · apply List.map_congr_left
      intro i _
      show PyData.int (lo + 1 + i) = PyData.int (lo + ((i + 1 : Nat) : Int))
      congr 1
      omega
theorem range_nat (n : Nat) : rangeD 0 n = (List.range n).map fun i : Nat => PyData.int i := by
  rw [rangeD_map]
  apply List.map_congr_left
  intro i _
  rw [Int.zero_add]
theorem rng1 {n : Nat} (h : n ≤ 1000) : rngD [.int n] = some ((List.range n).map fun i : Nat => PyData.int i) := by
  have hs : small62 (n : Int) = true := by
    unfold small62
    rw [decide_eq_true (by omega), decide_eq_true (by omega)]; rfl
  have hz : (n : Int).toNat ≤ sizeLine := by rw [Int.toNat_natCast]; exact smallZ h
  unfold rngD
  dsimp only
  rw [hs, decide_eq_true hz, Int.toNat_natCast, range_nat]
  rfl
theorem bools_A {α : Type} (f : α → Bool) : ∀ l : List α, boolsL (l.map fun x => PyData.bool (f x)) = some (l.map f)
  | [] => rfl
  | x :: l => by
    show (boolsL (l.map fun x => PyData.bool (f x))).map (f x :: ·) = _
    rw [bools_A f l]; rfl
theorem any_A {α : Type} (f : α → Bool) (l : List α) : biD .any [.list (l.map fun x => PyData.bool (f x))] = some (.sh (.bool (l.any f))) := by
  show (boolsL (l.map fun x => PyData.bool (f x))).map (fun bs => Cl.sh (.bool (bs.any id))) = _
  rw [bools_A, Option.map_some, List.any_map]; rfl
theorem all_A {α : Type} (f : α → Bool) (l : List α) : biD .all [.list (l.map fun x => PyData.bool (f x))] = some (.sh (.bool (l.all f))) := by
  show (boolsL (l.map fun x => PyData.bool (f x))).map (fun bs => Cl.sh (.bool (bs.all id))) = _
  rw [bools_A, Option.map_some, List.all_map]; rfl
theorem len_map {α : Type} (G : α → D) (l : List α) : biD .len [.list (l.map G)] = some (.sh (.int (l.length : Nat))) := by
  show some (Cl.sh (.int ((l.map G).length : Nat))) = _
  rw [List.length_map]
theorem bi_var {op : Bi} {i : Nat} {e : En} {D0 : D} {r : Cl} {c : Cl} (hg : get e i = c) (hv : valOf c = some D0) (h2 : biD op [D0] = some r) : ev (.bi op (.cons (.var i) .nil)) e = .ok (r, e) := by
  have hu : c ≠ .un := fun q => by rw [q] at hv; cases hv
  have h1 : opOf (.var i) (ev (.var i)) e = .ok (.slot i, e) := by
    unfold opOf
    dsimp only
    rw [hg]
    cases c <;> first | rfl | exact absurd rfl hu
  have h3 : [Op.slot i].mapM (Op.get e) = some [D0] := by simp [gets, hg, hv]
  rw [ev, evOs, h1, bind_ok]
  dsimp only
  rw [evOs, bind_ok]
  dsimp only
  rw [bind_ok]
  dsimp only
  rw [h3, lift_s, bind_ok, h2]; rfl
theorem ev_tup {es : CEs} {e e1 : En} {ds : List D} (h : evs es e = .ok (ds, e1)) (hl : ds.length ≤ 1000) : ev (.tup es) e = .ok (.sh (.tuple ds), e1) := by
  rw [ev, h, bind_ok]
  dsimp only
  rw [if_pos (smallZ hl)]
theorem ev_lst {es : CEs} {e e1 : En} {ds : List D} (h : evs es e = .ok (ds, e1)) (hl : ds.length ≤ 1000) : ev (.lst es) e = .ok (.ow (.list ds), e1) := by
  rw [ev, h, bind_ok]
  dsimp only
  rw [if_pos (smallZ hl)]
theorem okO {c : Cl} (h : OkC c) : OkO c := by
  rcases h with h | h
  · exact .inl h
  · exact .inr (.inl h)
/-- a turn that changes what is gone through only at first -/
theorem lc_B {α : Type} {own : List (Str × Nat)} {vs : List Nat} {tg : CT} {it : CI} {cond elt : CE} {e e1 : En} {l : List α} {E G : α → D} {Ds : D} (P : α → Bool) (hvs : own.map (·.2) = vs)
    (he : evI it e = .ok ((l.map E, .val Ds), e1)) (hown : ownOk e1 vs = true)
    (ht : ∀ a ∈ l, turnF tg vs (condR cond (ev cond)) (valR (ev elt)) (E a) (wipeE e1 vs) = .ok (if P a then some (G a) else none, wipeE e1 vs)) {e2 : En} (hb : backE e1 (wipeE e1 vs) vs = e2) :
    ev (.lc own tg it cond elt) e = .ok (.ow (.list ((l.filter P).map G)), e2) := by
  rw [← hb]
  exact lc_A P hvs he hown ht
theorem lc_C {α : Type} {own : List (Str × Nat)} {vs : List Nat} {tg : CT} {it : CI} {cond elt : CE} {e e1 e2 : En} {l : List α} {E G : α → D} {Ds : D} (P : α → Bool) (hvs : own.map (·.2) = vs)
    (he : evI it e = .ok ((l.map E, .val Ds), e1)) (hown : ownOk e1 vs = true)
    (h1 : ∀ a ∈ l, turnF tg vs (condR cond (ev cond)) (valR (ev elt)) (E a) (wipeE e1 vs) = .ok (if P a then some (G a) else none, wipeE e2 vs))
    (h2 : ∀ a ∈ l, turnF tg vs (condR cond (ev cond)) (valR (ev elt)) (E a) (wipeE e2 vs) = .ok (if P a then some (G a) else none, wipeE e2 vs)) :
    ∃ e3, (e3 = backE e1 (wipeE e1 vs) vs ∨ e3 = backE e1 (wipeE e2 vs) vs) ∧ ev (.lc own tg it cond elt) e = .ok (.ow (.list ((l.filter P).map G)), e3) := by
  cases l with
  | nil => exact ⟨_, .inl rfl, lc_A P hvs he hown fun a ha => by cases ha⟩
  | cons a l =>
    refine ⟨_, .inr rfl, ?_⟩
    rw [ev_lc]
    dsimp only
    rw [he, bind_ok]
    dsimp only
    rw [hvs]
    unfold lcF
    rw [if_pos hown]
    show (match lcL _ (E a :: l.map E) [] (wipeE e1 vs) with | .ok (ds, e') => R.ok (Cl.ow (.list ds), backE e1 e' vs) | _ => .no) = _
    rw [lcL, h1 a List.mem_cons_self, bind_ok]
    dsimp only
    have h3 := fun acc => lcL_A (f := turnF tg vs (condR cond (ev cond)) (valR (ev elt))) (E := E) (G := G) (P := P) (e := wipeE e2 vs) l acc fun b hb => h2 b (List.mem_cons_of_mem _ hb)
    rw [List.filter_cons]
    by_cases hp : P a = true
    · rw [if_pos hp, if_pos hp]
      dsimp only
      rw [h3]
      rfl
    · rw [if_neg hp, if_neg hp]
      dsimp only
      rw [h3]
      rfl
theorem turn_if2 {tg : CT} {vs : List Nat} {cond elt : CE} {x r : D} {e e3 e4 : En} {t : Bool} (hb : bindT tg x e = some e3) (hc : condR cond (ev cond) e3 = .ok (t, e4)) (hv : t = true → valR (ev elt) e4 = .ok (r, e4)) : turnF tg vs (condR cond (ev cond)) (valR (ev elt)) x e = .ok (if t then some r else none, wipeE e4 vs) := by
  rw [turnF_some hb, hc, bind_ok]
  dsimp only
  cases t with
  | true => rw [if_pos rfl, hv rfl, bind_ok]; rfl
  | false => rfl
theorem add_L {a b : List D} (h : a.length + b.length ≤ 1000) : binD .add (.list a) (.list b) = some (.ow (.list (a ++ b))) := by
  show (if a.length + b.length ≤ sizeLine then some (Cl.ow (.list (a ++ b))) else none) = _
  rw [if_pos (smallZ h)]
theorem nt_f {a : CE} {e e1 : En} (h : ev a e = .ok (.sh (.bool true), e1)) : ev (.nt a) e = .ok (.sh (.bool false), e1) := by
  rw [ev, testR_of h, bind_ok]; rfl
theorem nt_t {a : CE} {e e1 : En} (h : ev a e = .ok (.sh (.bool false), e1)) : ev (.nt a) e = .ok (.sh (.bool true), e1) := by
  rw [ev, testR_of h, bind_ok]; rfl
theorem exs_rt {c : CE} {a b ss : CSs} {e e1 e2 : En} {r : Cl} (h : ev c e = .ok (.sh (.bool true), e1)) (h2 : exs a e1 = .rt r e2) : exs (.cons (.ite c a b) ss) e = .rt r e2 := by
  rw [exs, ite_tt h h2, seq_rt]
theorem q6 {F : FSig} {b : CSs} {ds : List D} {np n : Nat} {E e' : En} {r : Cl} (hF : F = ⟨0, runF np n 0 b⟩) (h1 : ds.length = np) (h2 : np ≤ n) (hE : startE 0 ds ++ List.replicate (n - ds.length) .un = E) (h : exs b E = .rt r e') : F.sem ds = .ok r .none := by
  subst hF
  exact q3 h1 h2 hE h
theorem isi_at {t : Ty} {i : Nat} {e : En} {d : D} (hg : get e i = .sh d) : ev (.isi (.var i) [t]) e = .ok (.sh (.bool (tyD t d)), e) := by
  have h1 : opOf (.var i) (ev (.var i)) e = .ok (.slot i, e) := by
    unfold opOf
    dsimp only
    rw [hg]
  have h2 : Op.get e (.slot i) = some d := by
    show valOf (get e i) = _
    rw [hg]; rfl
  rw [ev, h1, bind_ok]
  dsimp only
  rw [h2, lift_s, bind_ok]
  simp
theorem ev_chn {o1 o2 : COp} {a b c : CE} {e : En} {x y z : D} {r1 r2 : Bool} (h1 : valR (ev a) e = .ok (x, e)) (h2 : valR (ev b) e = .ok (y, e)) (h3 : cmpD o1 x y = some r1) (h4 : valR (ev c) e = .ok (z, e)) (h5 : cmpD o2 y z = some r2) : ev (.chn o1 o2 a b c) e = .ok (.sh (.bool (r1 && r2)), e) := by
  rw [ev, h1, bind_ok]
  dsimp only
  rw [h2, bind_ok]
  dsimp only
  rw [h3, lift_s, bind_ok]
  cases r1 with
  | false => rfl
  | true =>
    rw [if_pos rfl, h4, bind_ok]
    dsimp only
    rw [h5, lift_s, bind_ok, Bool.true_and]
theorem ev_isi {a : CE} {ts : List Ty} {e e1 : En} {x : Op} {d : D} {r : Bool} (h1 : opOf a (ev a) e = .ok (x, e1)) (h2 : x.get e1 = some d) (h3 : (ts.any fun t => tyD t d) = r) : ev (.isi a ts) e = .ok (.sh (.bool r), e1) := by
  rw [ev, h1, bind_ok]
  dsimp only
  rw [h2, lift_s, bind_ok, h3]
theorem seq_val {a : CE} {e e1 : En} {x : Op} {d : D} {xs : List D} (h : opOf a (ev a) e = .ok (x, e1)) (hg : x.getI e1 = some d) (hs : seqD d = some xs) : evI (.seq a) e = .ok ((xs, x), e1) := by
  rw [evI, h, bind_ok]
  dsimp only
  rw [hg, lift_s, bind_ok, hs, lift_s, bind_ok]
theorem cmp_self {d : D} (p : Pl d) (n : Nb d) (k : d.depth ≤ 64) : cmpD .ne d d = some false := by
  rw [cmp_ne, eq_of (b := true) p p n n k k (by simp)]; rfl
theorem ev_slc {a lo hi : CE} {e e1 e2 e3 : En} {x : Op} {l h : Option Int} {d : D} {r : Cl} (h1 : opOf a (ev a) e = .ok (x, e1)) (h2 : optOf lo (ev lo) e1 = .ok (l, e2)) (h3 : optOf hi (ev hi) e2 = .ok (h, e3)) (h4 : x.getW e3 = some d) (h5 : slcD d l h = some r) : ev (.slc a lo hi) e = .ok (r, e3) := by
  rw [ev, h1, bind_ok]
  dsimp only
  rw [h2, bind_ok]
  dsimp only
  rw [h3, bind_ok]
  dsimp only
  rw [h4, lift_s, bind_ok, h5, lift_s, bind_ok]
theorem opt_i {a : CE} {e e1 : En} {i : Int} (hn : a ≠ .noe) (h : valR (ev a) e = .ok (.int i, e1)) : optOf a (ev a) e = .ok (some i, e1) := by
  unfold optOf
  cases a with
  | noe => exact absurd rfl hn
  | _ => dsimp only; rw [h, bind_ok]
/-- what is walked, of a fresh value -/
theorem fzd_val {a : CE} {e e1 : En} {c : Cl} {d : D} {xs : List D} (h : ev a e = .ok (c, e1)) (hv : valOf c = some d) (hs : seqD d = some xs) : evI (.fzd a) e = .ok ((xs, .val d), e1) := by
  rw [evI, valR_of h hv, bind_ok]
  dsimp only
  rw [hs, lift_s, bind_ok]
theorem ex_for {tg : CT} {it : CI} {b : CSs} {e e1 e2 : En} {xs : List D} {d : D} (h : evI it e = .ok ((xs, .val d), e1)) (hl : forL (forB tg (exs b)) xs e1 = .nx e2) : ex (.fori tg it b) e = .nx e2 := by
  rw [ex_fori]
  dsimp only
  rw [h, sr_ok]
  dsimp only [lend]
  rw [hl]
  rfl
/-- a walk that keeps what it keeps -/
theorem forL_keep {f : D → En → SR} (I : En → Prop) : ∀ (xs : List D) (e : En), I e → (∀ x ∈ xs, ∀ e, I e → ∃ e', f x e = .nx e' ∧ I e') → ∃ e', forL f xs e = .nx e' ∧ I e'
  | [], e, h, _ => ⟨e, rfl, h⟩
  | x :: xs, e, h, hf => by
    obtain ⟨e1, a, b⟩ := hf x (List.mem_cons_self ..) e h
    obtain ⟨e2, c, d⟩ := forL_keep I xs e1 b fun y hy => hf y (List.mem_cons_of_mem _ hy)
    refine ⟨e2, ?_, d⟩
    unfold forL
    rw [a]
    exact c
theorem add_T {a b : List D} (h : a.length + b.length ≤ 1000) : binD .add (.tuple a) (.tuple b) = some (.sh (.tuple (a ++ b))) := by
  show (if a.length + b.length ≤ sizeLine then some (Cl.sh (.tuple (a ++ b))) else none) = _
  rw [if_pos (Nat.le_trans h (by decide))]
theorem ne_bool (b : Bool) : cmpD .ne (.bool b) (.bool b) = some false := by cases b <;> rfl
theorem sh_bool (b : Bool) : shOk (.bool b) = true := by
  refine sh_ok ?_ ?_ ?_ ?_
  · cases b <;> trivial
  · cases b <;> trivial
  · cases b <;> simp [PyData.depth]
  · cases b <;> decide
theorem pl_bool (b : Bool) : Pl (.bool b) := by cases b <;> trivial
theorem cut_take {α : Type} (xs : List α) (k : Nat) : cut xs none (some (k : Int)) = xs.take k := by
  unfold cut
  rw [show HT.sIx xs.length xs.length (some (k : Int)) = min k xs.length from HT.sIx_nat xs.length xs.length k]
  show (xs.drop 0).take (min k xs.length - 0) = _
  rw [List.drop_zero, Nat.sub_zero]
  by_cases h : k ≤ xs.length
  · rw [Nat.min_eq_left h]
  · rw [Nat.min_eq_right (by omega), List.take_of_length_le (Nat.le_refl _), List.take_of_length_le (by omega)]
theorem pl_rd (a b : Int) : Pl (RD a b) ∧ Nb (RD a b) ∧ (RD a b).depth ≤ 64 := ⟨⟨trivial, trivial, trivial⟩, ⟨trivial, trivial, trivial⟩, by simp [RD, PyData.depth, PyData.depthAll]⟩
theorem eq_rds {a b c d : Int} {t : Bool} (h : t = true ↔ RD a b = RD c d) : cmpD .eq (RD a b) (RD c d) = some t :=
  eq_of (pl_rd a b).1 (pl_rd c d).1 (pl_rd a b).2.1 (pl_rd c d).2.1 (pl_rd a b).2.2 (pl_rd c d).2.2 h
theorem ne_text (b : Bool) : cmpD .ne (.str (PyData.bool b).shown) (.str (PyData.bool b).shown) = some false := by
  rw [cmp_ne, eq_text (b := true) (pl_bool b) (pl_bool b) (by simp)]; rfl
/-- the forms of what is told: a word, a word and a whole number -/
theorem w1_pl {s : Str} (h : Simp s) (hl : s.cps.size ≤ 1000) : Pl (.tuple [.str s]) ∧ Nb (.tuple [.str s]) ∧ PyData.depth (.tuple [.str s]) ≤ 64 ∧ shOk (.tuple [.str s]) = true := by
  have d : PyData.depth (.tuple [.str s]) ≤ 60 := by simp [PyData.depth, PyData.depthAll]
  exact ⟨⟨h, trivial⟩, ⟨trivial, trivial⟩, by omega, sh_ok ⟨h, trivial⟩ ⟨trivial, trivial⟩ d (by simp [sz, szs]; omega)⟩
theorem w2_pl {s : Str} {i : Int} (h : Simp s) (hl : s.cps.size ≤ 1000) (hi : i.natAbs < 10 ^ 200) : Pl (.tuple [.str s, .int i]) ∧ Nb (.tuple [.str s, .int i]) ∧ PyData.depth (.tuple [.str s, .int i]) ≤ 64 ∧ shOk (.tuple [.str s, .int i]) = true := by
  have d : PyData.depth (.tuple [.str s, .int i]) ≤ 60 := by simp [PyData.depth, PyData.depthAll]
  exact ⟨⟨h, trivial, trivial⟩, ⟨trivial, trivial, trivial⟩, by omega, sh_ok ⟨h, trivial, trivial⟩ ⟨trivial, hi, trivial⟩ d (by simp [sz, szs]; omega)⟩
end PV
end
section
namespace PV.Lib
open PySem PV
theorem tup_no {d : D} {a b : Int} (h : tyD .tuple d = false) : s_is_tuple.sem [d, .int a, .int b] = .ok (.sh (.bool false)) .none := by
  have i1 := isi_at (t := .tuple) (i := 0) (e := [.sh d, .sh (.int a), .sh (.int b)]) (d := d) rfl
  rw [h] at i1
  have hb : exs b_is_tuple [.sh d, .sh (.int a), .sh (.int b)] = .rt (.sh (.bool false)) [.sh d, .sh (.int a), .sh (.int b)] := exs_ret (ev_bop (evB_and i1 rfl))
  exact q6 (np := 3) (n := 3) (b := b_is_tuple) rfl rfl (by decide) rfl hb
theorem tup_yes {xs : List D} {a b : Int} : s_is_tuple.sem [.tuple xs, .int a, .int b] = .ok (.sh (.bool (decide (a ≤ xs.length) && decide ((xs.length : Int) ≤ b)))) .none := by
  have i1 : ev (.isi (.var 0) [.tuple]) [.sh (.tuple xs), .sh (.int a), .sh (.int b)] = .ok (.sh (.bool true), [.sh (.tuple xs), .sh (.int a), .sh (.int b)]) := rfl
  have i2 : ev (.chn .le .le (.var 1) (.bi .len (.cons (.var 0) .nil)) (.var 2)) [.sh (.tuple xs), .sh (.int a), .sh (.int b)] = .ok (.sh (.bool (decide (a ≤ xs.length) && decide ((xs.length : Int) ≤ b))), [.sh (.tuple xs), .sh (.int a), .sh (.int b)]) := by
    have g1 : valR (ev (.var 1)) [.sh (.tuple xs), .sh (.int a), .sh (.int b)] = .ok (.int a, [.sh (.tuple xs), .sh (.int a), .sh (.int b)]) := rfl
    have g2 : valR (ev (.bi .len (.cons (.var 0) .nil))) [.sh (.tuple xs), .sh (.int a), .sh (.int b)] = .ok (.int (xs.length : Nat), [.sh (.tuple xs), .sh (.int a), .sh (.int b)]) := valR_of (ev_len (i := 0) (D0 := .tuple xs) rfl rfl) rfl
    have g3 : valR (ev (.var 2)) [.sh (.tuple xs), .sh (.int a), .sh (.int b)] = .ok (.int b, [.sh (.tuple xs), .sh (.int a), .sh (.int b)]) := rfl
    rw [ev, g1, bind_ok]
    dsimp only
    rw [g2, bind_ok]
    dsimp only
    rw [cmp_le, lift_s, bind_ok]
    by_cases q : a ≤ xs.length
    · rw [decide_eq_true q, if_pos rfl, g3, bind_ok]
      dsimp only
      rw [cmp_le, lift_s, bind_ok, Bool.true_and]
    · rw [decide_eq_false q]; rfl
  have hb : exs b_is_tuple [.sh (.tuple xs), .sh (.int a), .sh (.int b)] = .rt (.sh (.bool (decide (a ≤ xs.length) && decide ((xs.length : Int) ≤ b)))) [.sh (.tuple xs), .sh (.int a), .sh (.int b)] := exs_ret (ev_bop (evB_andt i1 (evB_one i2)))
  exact q6 (np := 3) (n := 3) (b := b_is_tuple) rfl rfl (by decide) rfl hb
def b_is_number : CSs := (.cons (.ret (.bop true (.cons (.call "is_integer" s_is_integer (.cons (.var 0) .nil)) (.cons (.cmp .ge (.var 0) (.lit (.int 0))) .nil)))) .nil)
def s_is_number : FSig := ⟨0, runF 1 1 0 b_is_number⟩
theorem int_no {d : D} (h : tyD .int d = false) : s_is_integer.sem [d] = .ok (.sh (.bool false)) .none := by
  have i1 := isi_at (t := .int) (i := 0) (e := [.sh d]) (d := d) rfl
  rw [h] at i1
  have hb : exs b_is_integer [.sh d] = .rt (.sh (.bool false)) [.sh d] := exs_ret (ev_bop (evB_and i1 rfl))
  exact q6 (np := 1) (n := 1) (b := b_is_integer) rfl rfl (by decide) rfl hb
theorem num_no {d : D} (h : s_is_integer.sem [d] = .ok (.sh (.bool false)) .none) : s_is_number.sem [d] = .ok (.sh (.bool false)) .none := by
  have c1 := ev_call0 (nm := "is_integer") (F := s_is_integer) (e := [.sh d]) (es := .cons (.var 0) .nil) (ds := [d]) rfl rfl h
  have hb : exs b_is_number [.sh d] = .rt (.sh (.bool false)) [.sh d] := exs_ret (ev_bop (evB_and c1 rfl))
  exact q6 (np := 1) (n := 1) (b := b_is_number) rfl rfl (by decide) rfl hb
theorem num_int (i : Int) : s_is_number.sem [.int i] = .ok (.sh (.bool (decide (0 ≤ i)))) .none := by
  have c1 := ev_call0 (nm := "is_integer") (F := s_is_integer) (e := [.sh (.int i)]) (es := .cons (.var 0) .nil) (ds := [.int i]) rfl rfl (sem_is_integer i)
  have c2 := ev_cmp (op := .ge) (a := .var 0) (b := .lit (.int 0)) (e := [.sh (.int i)]) (x := .slot 0) (y := .val (.int 0)) rfl rfl rfl rfl (cmp_ge i 0)
  have hb : exs b_is_number [.sh (.int i)] = .rt (.sh (.bool (decide (0 ≤ i)))) [.sh (.int i)] := exs_ret (ev_bop (evB_andt c1 (evB_one c2)))
  exact q6 (np := 1) (n := 1) (b := b_is_number) rfl rfl (by decide) rfl hb
theorem num_bool (b : Bool) : s_is_number.sem [.bool b] = .ok (.sh (.bool false)) .none := by cases b <;> exact isR_ok (by decide +kernel)
end PV.Lib
namespace PV
open PySem PV.Lib
/-- judged rightly, and shown -/
structure Good (J : D → FR) (due d : D) : Prop where
  js : ∃ b, J d = .ok (.sh (.bool b)) .none ∧ (b = true ↔ d = due)
  pl : Pl d
  ok : shOk d = true
/-- a word, and at most one thing more -/
def Word (due : D) : Prop := ∃ s xs, due = .tuple (.str s :: xs) ∧ xs.length ≤ 1
theorem good_no {J : D → FR} {due d : D} (hp : Pl d) (ho : shOk d = true) (h : J d = .ok (.sh (.bool false)) .none) (hne : d ≠ due) : Good J due d :=
  ⟨⟨false, h, ⟨fun z => (by cases z), fun z => absurd z hne⟩⟩, hp, ho⟩
theorem good_eq {J : D → FR} {due d : D} (hp : Pl d ∧ Nb d ∧ d.depth ≤ 64 ∧ shOk d = true) (hq : Pl due ∧ Nb due ∧ due.depth ≤ 64 ∧ shOk due = true) (h : ∀ b, eqD d due = some b → J d = .ok (.sh (.bool b)) .none) : Good J due d := by
  obtain ⟨t, h1, h2⟩ := eq_nb hp.1 hq.1 hp.2.1 hq.2.1 hp.2.2.1 hq.2.2.1
  exact ⟨⟨t, h t h1, h2⟩, hp.1, hp.2.2.2⟩
theorem not_word {due d : D} (hw : Word due) (h : PV.Lib.s_is_tuple.sem [d, .int 1, .int 2] = .ok (.sh (.bool false)) .none) : d ≠ due := by
  intro z
  obtain ⟨s, xs, e, hl⟩ := hw
  rw [z, e, tup_yes, decide_eq_true (by rw [List.length_cons]; omega), decide_eq_true (by rw [List.length_cons]; omega)] at h
  cases h
theorem not_str {due y : D} {r : List D} (hw : Word due) (hy : tyD .str y = false) : PyData.tuple (y :: r) ≠ due := by
  intro z
  obtain ⟨s, xs, e, hl⟩ := hw
  rw [e] at z
  injection z with z
  injection z with z _
  rw [z] at hy
  cases hy
theorem good_odd {J : D → FR} {due d : D} {k : Nat} (hw : Word due) (ha : ∀ d, PV.Lib.s_is_tuple.sem [d, .int 1, .int 2] = .ok (.sh (.bool false)) .none → J d = .ok (.sh (.bool false)) .none) (hb : ∀ y, tyD .str y = false → J (.tuple [y]) = .ok (.sh (.bool false)) .none) (hc : Good J due (.tuple [.str "?"])) (h : Odd k d) (hk : k ≤ 30) : Good J due d := by
  have hp := h.pl
  have ho := h.ok (by omega)
  have no : ∀ d, PV.Lib.s_is_tuple.sem [d, .int 1, .int 2] = .ok (.sh (.bool false)) .none → Pl d → shOk d = true → Good J due d := fun d h p o => good_no p o (ha d h) (not_word hw h)
  have ns : ∀ y, tyD .str y = false → Pl (.tuple [y]) → shOk (.tuple [y]) = true → Good J due (.tuple [y]) := fun y h p o => good_no p o (hb y h) (not_str hw h)
  cases h with
  | non => exact no _ (tup_no rfl) hp ho
  | que => exact no _ (tup_no rfl) hp ho
  | dct => exact no _ (tup_no rfl) hp ho
  | lst _ => exact no _ (tup_no rfl) hp ho
  | tup q =>
    cases q with
    | que => exact hc
    | non => exact ns _ rfl hp ho
    | dct => exact ns _ rfl hp ho
    | tup _ => exact ns _ rfl hp ho
    | lst _ => exact ns _ rfl hp ho
theorem pl_str {s : Str} (h : Simp s) (hl : s.cps.size ≤ 1000) : Pl (.str s) ∧ shOk (.str s) = true :=
  ⟨h, sh_ok h trivial (by simp [PyData.depth]) (by simp [sz]; omega)⟩
theorem pl_non : Pl .none ∧ shOk .none = true := ⟨trivial, sh_ok trivial trivial (by simp [PyData.depth]) (by decide)⟩
theorem pl_nil : Pl (.tuple []) ∧ shOk (.tuple []) = true := ⟨trivial, sh_ok trivial trivial (by simp [PyData.depth, PyData.depthAll]) (by decide)⟩
end PV
end
section
namespace PV
open PySem
/-! ### sorting rows of whole numbers -/
def rowT (r : List Int) : D := .tuple (r.map .int)
theorem rowT_lt (a b : List Int) : PySem.W.dataLt (rowT a) (rowT b) = PySem.W.dataLt (.list (a.map .int)) (.list (b.map .int)) := by
  unfold rowT
  rw [PySem.W.dataLt_tuple, PySem.W.dataLt_list]
theorem rowT_le : PySem.W.dataLe false rowT = fun p q : List Int => decide (p ≤ q) := by
  have h := PySem.W.dataLe_rows (fun r : List Int => r)
  rw [← h]
  funext p q
  show (!PySem.W.dataLt (rowT q) (rowT p)) = !PySem.W.dataLt (.list (q.map .int)) (.list (p.map .int))
  rw [rowT_lt]
theorem ints_alike : ∀ a b : List Int, a.length = b.length → PySem.W.alikeAll (a.map .int) (b.map .int) = true
  | [], _, _ => by simp [PySem.W.alikeAll]
  | _ :: _, [], h => by simp at h
  | x :: a, y :: b, h => by
    simp only [List.map_cons, PySem.W.alikeAll, PySem.W.alike, Bool.true_and]
    exact ints_alike a b (by simpa using h)
theorem ints_depth : ∀ a : List Int, PyData.depthAll (a.map .int) = 0
  | [] => by simp [PyData.depthAll]
  | x :: a => by simp [PyData.depthAll, PyData.depth, ints_depth a]
theorem rowT_ok {l : List (List Int)} {k : Nat} (k0 : 0 < k) (hk : ∀ r ∈ l, r.length = k) : sortOk (l.map rowT) = true := by
  unfold sortOk
  rw [Bool.and_eq_true, Bool.and_eq_true, Bool.or_eq_true]
  refine ⟨⟨?_, .inl ?_⟩, ?_⟩
  · rw [List.all_eq_true]
    intro d hd
    rw [List.all_eq_true]
    intro e he
    obtain ⟨a, ha, rfl⟩ := List.mem_map.mp hd
    obtain ⟨b, hb, rfl⟩ := List.mem_map.mp he
    unfold rowT
    rw [PySem.W.alike]
    exact ints_alike a b (by rw [hk a ha, hk b hb])
  · rw [List.all_eq_true]
    intro d hd
    obtain ⟨a, ha, rfl⟩ := List.mem_map.mp hd
    have := hk a ha
    cases a with
    | nil => simp at this; omega
    | cons x a => rfl
  · rw [List.all_eq_true]
    intro d hd
    obtain ⟨a, _, rfl⟩ := List.mem_map.mp hd
    exact decide_eq_true (by unfold rowT; rw [PyData.depth, ints_depth]; decide)
abbrev leR (p q : List Int) : Bool := decide (p ≤ q)
theorem sort_rows {l : List (List Int)} {k : Nat} (k0 : 0 < k) (hk : ∀ r ∈ l, r.length = k) : biD .sorted [.list (l.map rowT)] = some (.ow (.list ((l.mergeSort leR).map rowT))) := by
  show (if sortOk (l.map rowT) then some (Cl.ow (.list ((l.map rowT).mergeSort (PySem.W.dataLe false id)))) else none) = _
  rw [if_pos (rowT_ok k0 hk)]
  congr 3
  exact (List.map_mergeSort (r := leR) (s := PySem.W.dataLe false id) (f := rowT) (fun a _ b _ => (congrFun (congrFun rowT_le a) b).symm)).symm
theorem leR_tr (a b c : List Int) : leR a b = true → leR b c = true → leR a c = true := by
  unfold leR
  rw [decide_eq_true_eq, decide_eq_true_eq, decide_eq_true_eq]
  exact fun h1 h2 => List.le_trans h1 h2
theorem leR_tot (a b : List Int) : (leR a b || leR b a) = true := by
  unfold leR
  rw [Bool.or_eq_true, decide_eq_true_eq, decide_eq_true_eq]
  exact List.le_total a b
theorem leR_anti {a b : List Int} (h1 : leR a b = true) (h2 : leR b a = true) : a = b := by
  unfold leR at h1 h2
  rw [decide_eq_true_eq] at h1 h2
  exact List.le_antisymm h1 h2
theorem leR_cons {x y : Int} {a b : List Int} : leR (x :: a) (y :: b) = true ↔ x < y ∨ (x = y ∧ leR a b = true) := by
  unfold leR
  rw [decide_eq_true_eq, decide_eq_true_eq, List.cons_le_cons_iff]
theorem sort_head {l : List (List Int)} (h : l ≠ []) : ∃ a r, l.mergeSort leR = a :: r ∧ a ∈ l ∧ ∀ b ∈ l, leR a b = true := by
  have hp := List.mergeSort_perm l leR
  have hs := List.pairwise_mergeSort leR_tr leR_tot l
  cases e : l.mergeSort leR with
  | nil =>
    rw [e] at hp
    exact absurd hp.symm.eq_nil h
  | cons a r =>
    rw [e] at hp hs
    refine ⟨a, r, rfl, hp.mem_iff.mp (List.mem_cons_self ..), fun b hb => ?_⟩
    rcases List.mem_cons.mp (hp.mem_iff.mpr hb) with rfl | hb
    · unfold leR; rw [decide_eq_true_eq]; exact List.le_refl _
    · exact (List.pairwise_cons.mp hs).1 b hb
theorem sort_mem {l : List (List Int)} {a : List Int} : a ∈ l.mergeSort leR ↔ a ∈ l := (List.mergeSort_perm l leR).mem_iff
theorem sort_len (l : List (List Int)) : (l.mergeSort leR).length = l.length := List.length_mergeSort l
/-- the greatest of some whole numbers -/
theorem maxI_le : ∀ (l : List Int) (x : Int), x ∈ l → x ≤ maxI l
  | [], x, h => by simp at h
  | [y], x, h => by
    rw [List.mem_singleton.mp h]; exact Int.le_refl _
  | y :: z :: r, x, h => by
    unfold maxI
    rcases List.mem_cons.mp h with rfl | h
    · by_cases q : x < maxI (z :: r)
      · rw [if_pos q]; omega
      · rw [if_neg q]; omega
    · have := maxI_le (z :: r) x h
      by_cases q : y < maxI (z :: r)
      · rw [if_pos q]; omega
      · rw [if_neg q]; omega
theorem maxI_mem : ∀ l : List Int, l ≠ [] → maxI l ∈ l
  | [], h => absurd rfl h
  | [y], _ => List.mem_singleton.mpr rfl
  | y :: z :: r, _ => by
    unfold maxI
    by_cases q : y < maxI (z :: r)
    · rw [if_pos q]; exact List.mem_cons_of_mem _ (maxI_mem (z :: r) (by simp))
    · rw [if_neg q]; exact List.mem_cons_self ..
/-- shown text among shown texts -/
theorem eqv_text {d e : D} (p1 : Pl d) (p2 : Pl e) : PyData.eqv (.str d.shown) (.str e.shown) = true ↔ d = e := by
  have h : ∀ b : Bool, (b = true ↔ d = e) → eqD (.str d.shown) (.str e.shown) = some b := fun b hb => eq_text p1 p2 hb
  by_cases q : d = e
  · have := h true (iff_of_true rfl q)
    unfold eqD at this
    split at this
    · injection this with this
      exact iff_of_true this q
    · cases this
  · have := h false (iff_of_false (by simp) q)
    unfold eqD at this
    split at this
    · injection this with this
      exact iff_of_false (by simp [this]) q
    · cases this
def Flat (x : D) : Prop := PyData.canLay0 x = true ∧ PyData.depth x ≤ 1
theorem flat_all : ∀ xs : List D, (∀ x ∈ xs, Flat x) → PyData.canLayAll0 xs = true ∧ PyData.depthAll xs ≤ 1
  | [], _ => ⟨rfl, by decide⟩
  | x :: xs, h => by
    have h1 := flat_all xs fun y hy => h y (List.mem_cons_of_mem _ hy)
    have h2 := h x List.mem_cons_self
    refine ⟨?_, ?_⟩
    · show (PyData.canLay0 x && PyData.canLayAll0 xs) = true
      rw [h1.1, h2.1]; rfl
    · show max (PyData.depth x) (PyData.depthAll xs) ≤ 1
      have := h1.2
      have := h2.2
      omega
theorem shaped_tuple {xs : List D} (h : ∀ x ∈ xs, Flat x) : SeqAt.shaped (.tuple xs) = true := by
  have h1 := flat_all xs h
  show (PyData.canLayAll0 xs && decide (PyData.depthAll xs + 1 ≤ 64)) = true
  rw [h1.1, decide_eq_true (by have := h1.2; omega)]; rfl
theorem shaped_list {xs : List D} (h : ∀ x ∈ xs, Flat x) : SeqAt.shaped (.list xs) = true := by
  have h1 := flat_all xs h
  show (PyData.canLayAll0 xs && decide (PyData.depthAll xs + 1 ≤ 64)) = true
  rw [h1.1, decide_eq_true (by have := h1.2; omega)]; rfl
theorem flat_text {e : D} (p : Pl e) : Flat (.str e.shown) := by
  have h := shaped_str (cs_small e p)
  unfold SeqAt.shaped at h
  rw [Bool.and_eq_true] at h
  exact ⟨h.1, by simp [PyData.depth]⟩
theorem in_text {d : D} {es : List D} {b : Bool} (p : Pl d) (ps : ∀ e ∈ es, Pl e) (hb : b = true ↔ d ∈ es) : inD (.str d.shown) (.list (es.map fun e => .str e.shown)) = some b := by
  have h1 := shaped_str (cs_small d p)
  have h2 : SeqAt.shaped (.list (es.map fun e => .str e.shown)) = true := shaped_list fun x hx => by
    obtain ⟨e, he, rfl⟩ := List.mem_map.mp hx
    exact flat_text (ps e he)
  show (if SeqAt.shaped (.str d.shown) && SeqAt.shaped (.list (es.map fun e => PyData.str e.shown)) then some (List.any (es.map fun e => PyData.str e.shown) fun z => PyData.eqv z (.str d.shown)) else none) = _
  rw [h1, h2, Bool.and_true, if_pos rfl]
  congr 1
  rw [Bool.eq_iff_iff, List.any_eq_true, hb]
  constructor
  · rintro ⟨z, hz, h⟩
    obtain ⟨e, he, rfl⟩ := List.mem_map.mp hz
    rw [← (eqv_text (ps e he) p).mp h]; exact he
  · intro h
    exact ⟨_, List.mem_map.mpr ⟨d, h, rfl⟩, (eqv_text p p).mpr rfl⟩
theorem ex_ext {x : Nat} {a : CE} {e e1 : En} {xs ys : List D} {c : Cl} (h0 : (muta (get e x)).isSome = true) (h1 : ev a e = .ok (c, e1)) (hc : valOf c = some (.list ys)) (h2 : get e1 x = .ow (.list xs)) (hl : xs.length + ys.length ≤ 1000) : ex (.ext x a) e = .nx (put e1 x (.ow (.list (xs ++ ys)))) := by
  rw [ex, if_pos h0, valR_of h1 hc, sr_ok]
  dsimp only
  rw [h2]
  show (if xs.length + ys.length ≤ sizeLine then _ else _) = _
  rw [if_pos (smallZ hl)]
  rfl
theorem ex_app {x : Nat} {a : CE} {e e1 : En} {xs : List D} {c : Cl} {d : D} (h0 : (muta (get e x)).isSome = true) (h1 : ev a e = .ok (c, e1)) (hc : valOf c = some d) (m : D → Cl) (hm : m = Cl.ow ∨ m = Cl.io) (h2 : get e1 x = m (.list xs)) (hl : xs.length < 1000) : ex (.app x a) e = .nx (put e1 x (m (.list (xs ++ [d])))) := by
  rw [ex, if_pos h0, valR_of h1 hc, sr_ok]
  dsimp only
  rw [h2]
  rcases hm with rfl | rfl
  · show (if xs.length < sizeLine then _ else _) = _
    rw [if_pos (Nat.lt_of_lt_of_le hl (by decide))]
    rfl
  · show (if xs.length < sizeLine then _ else _) = _
    rw [if_pos (Nat.lt_of_lt_of_le hl (by decide))]
    rfl
theorem ite_ff {c : CE} {a b : CSs} {e e1 : En} {r : SR} (h : ev c e = .ok (.sh (.bool false), e1)) (h2 : exs b e1 = r) : ex (.ite c a b) e = r :=
  ite_t h (by rw [if_neg (by decide)]; exact h2)
/-- a walk over one's own list, lent for the time -/
theorem lc_S {α : Type} {own : List (Str × Nat)} {vs : List Nat} {tg : CT} {it : CI} {cond elt : CE} {e e1 : En} {l : List α} {E G : α → D} {x : Op} (P : α → Bool) (hvs : own.map (·.2) = vs)
    (he : evI it e = .ok ((l.map E, x), e1)) (hown : ownOk e1 vs = true)
    (ht : ∀ a ∈ l, turnF tg vs (condR cond (ev cond)) (valR (ev elt)) (E a) (wipeE (lend e1 x) vs) = .ok (if P a then some (G a) else none, wipeE (lend e1 x) vs)) {e2 : En} (hb : unlend e1 (backE e1 (wipeE (lend e1 x) vs) vs) x = e2) :
    ev (.lc own tg it cond elt) e = .ok (.ow (.list ((l.filter P).map G)), e2) := by
  rw [ev_lc]
  dsimp only
  rw [he, bind_ok]
  dsimp only
  rw [hvs]
  unfold lcF
  rw [if_pos hown]
  show (match lcL _ (l.map E) [] (wipeE (lend e1 x) vs) with | .ok (ds, e') => R.ok (Cl.ow (.list ds), unlend e1 (backE e1 e' vs) x) | _ => .no) = _
  rw [lcL_A (G := G) (P := P) l [] ht]
  show R.ok (_, unlend e1 (backE e1 (wipeE (lend e1 x) vs) vs) x) = _
  rw [hb]
  rfl
end PV
end
section
namespace PV.HandB
open PySem PV PV.Lib PV.HandA
def c0 : CS := (.ite (.bop true (.cons (.cmp .eq (.idx (.var 0) (.lit (.int 2))) (.lit (.int 0))) (.cons (.cmp .lt (.idx (.var 0) (.lit (.int 1))) (.bi .len (.cons (.idx (.var 0) (.lit (.int 0))) .nil))) .nil))) (.cons (.asg (.nm 2) (.idx (.idx (.var 0) (.lit (.int 0))) (.idx (.var 0) (.lit (.int 1))))) (.cons (.put 0 (.lit (.int 1)) (.bin .add (.idx (.var 0) (.lit (.int 1))) (.lit (.int 1)))) (.cons (.put 0 (.lit (.int 3)) (.bin .mod (.bi .int (.cons (.bin .add (.bin .add (.bin .mul (.idx (.var 0) (.lit (.int 3))) (.lit (.int 48271))) (.bin .mul (.var 2) (.lit (.int 5)))) (.lit (.int 29))) .nil)) (.lit (.int 2147483587)))) (.cons (.put 0 (.lit (.int 2)) (.ife (.cmp .ge (.var 2) (.bin .pow (.lit (.int 10)) (.lit (.int 18)))) (.var 2) (.lit (.int 0)))) .nil)))) .nil)
def c1 : CS := (.ite (.cmp .gt (.idx (.var 0) (.lit (.int 2))) (.lit (.int 0))) (.cons (.asg (.nm 3) (.bin .mod (.bi .int (.cons (.idx (.var 0) (.lit (.int 2))) .nil)) (.var 1))) (.cons (.put 0 (.lit (.int 2)) (.bin .fdiv (.idx (.var 0) (.lit (.int 2))) (.var 1))) (.cons (.ret (.var 3)) .nil))) .nil)
def c2 : CS := (.put 0 (.lit (.int 4)) (.bin .add (.idx (.var 0) (.lit (.int 4))) (.lit (.int 1))))
def c3 : CS := (.asg (.nm 4) (.bin .mod (.bi .int (.cons (.bin .mul (.bi .int (.cons (.bin .add (.idx (.var 0) (.lit (.int 3))) (.bin .mul (.lit (.int 7877)) (.idx (.var 0) (.lit (.int 4))))) .nil)) (.lit (.int 69621))) .nil)) (.lit (.int 2147483647))))
def c4 : CS := (.asg (.nm 4) (.bin .mod (.bi .int (.cons (.bin .mul (.var 4) (.bin .add (.bin .fdiv (.var 4) (.lit (.int 1103))) (.lit (.int 40692)))) .nil)) (.lit (.int 2147483399))))
def c5 : CS := (.asg (.nm 4) (.bin .mod (.bi .int (.cons (.bin .mul (.var 4) (.bin .add (.bin .fdiv (.var 4) (.lit (.int 2311))) (.lit (.int 48271)))) .nil)) (.lit (.int 2147483629))))
def c6 : CS := (.ret (.bin .mod (.bi .int (.cons (.bin .fdiv (.var 4) (.lit (.int 16))) .nil)) (.var 1)))
def b_draw : CSs := (.cons c0 (.cons c1 (.cons c2 (.cons c3 (.cons c4 (.cons c5 (.cons c6 .nil)))))))
def s_draw : FSig := ⟨1, runF 2 5 1 b_draw⟩
set_option maxHeartbeats 1000000
theorem st0 {h : D} (hh : Ok h) (m : D) : ∃ h1 c, ex HandB.c0 [.io h, .sh m, .un, .un, .un] = .nx [.io h1, .sh m, c, .un, .un] ∧ Ok h1 := by
  obtain ⟨cells, pos, rest, seed, cnt, rfl, hc, hp, hr, hs⟩ := hh.ex
  by_cases h1 : rest = 0
  · subst h1
    by_cases h2 : pos < cells.length
    · have hp2 : pos.toNat < cells.length := by omega
      have hcell : 0 ≤ cells[pos.toNat] := hc _ (List.getElem_mem hp2)
      have hmod : (0 : Int) < 2147483587 := by decide
      have hseed : 0 ≤ (seed * 48271 + cells[pos.toNat] * 5 + 29) % 2147483587 := Int.emod_nonneg _ (by decide)
      have hd : decide (pos < (cells.length : Int)) = true := decide_eq_true h2
      have hmul2 : mulOk cells[pos.toNat] 5 = true := mo2 (by decide)
      have hmul : mulOk seed 48271 = true := mo2 (by decide)
      by_cases h3 : 1000000000000000000 ≤ cells[pos.toNat]
      · refine ⟨.list [.list (cells.map .int), .int (pos + 1), .int cells[pos.toNat], .int ((seed * 48271 + cells[pos.toNat] * 5 + 29) % 2147483587), .int cnt], .sh (.int cells[pos.toNat]), ?_, ⟨_, _, _, _, _, rfl, hc, by omega, hcell, hseed⟩⟩
        unfold HandB.c0
        simp [get_z, get_s, put_z, put_s, bind_ok, sr_ok, seq_nx, seq_rt, lift_s, getv, gets, getWv, getWs, vo_sh, vo_ow, vo_io, vw_sh, vw_ow, vw_io, eq_int, cmp_eq, cmp_ne, cmp_lt, cmp_gt, cmp_le, cmp_ge, bin_add, bin_sub, exs_nil, exs_cons, ev, evs, evOs, evcs, evB, evI, opOf, valR, varV, biD, lenD, storeP, storeT, store, Option.map_some, Option.bind_some, ex_whl, List.length_cons, List.length_nil, List.mapM_cons, List.mapM_nil, Option.pure_def, Option.bind_eq_bind, idxD, L2.atI, L2.ixN, ex, testR, muta, remut, setI, hd, hp, h2, hp2, bin_mul hmul, bin_mul hmul2, bin_mod hmod, h3, pow18]
      · refine ⟨.list [.list (cells.map .int), .int (pos + 1), .int 0, .int ((seed * 48271 + cells[pos.toNat] * 5 + 29) % 2147483587), .int cnt], .sh (.int cells[pos.toNat]), ?_, ⟨_, _, _, _, _, rfl, hc, by omega, by omega, hseed⟩⟩
        unfold HandB.c0
        simp [get_z, get_s, put_z, put_s, bind_ok, sr_ok, seq_nx, seq_rt, lift_s, getv, gets, getWv, getWs, vo_sh, vo_ow, vo_io, vw_sh, vw_ow, vw_io, eq_int, cmp_eq, cmp_ne, cmp_lt, cmp_gt, cmp_le, cmp_ge, bin_add, bin_sub, exs_nil, exs_cons, ev, evs, evOs, evcs, evB, evI, opOf, valR, varV, biD, lenD, storeP, storeT, store, Option.map_some, Option.bind_some, ex_whl, List.length_cons, List.length_nil, List.mapM_cons, List.mapM_nil, Option.pure_def, Option.bind_eq_bind, idxD, L2.atI, L2.ixN, ex, testR, muta, remut, setI, hd, hp, h2, hp2, bin_mul hmul, bin_mul hmul2, bin_mod hmod, h3, pow18]
    · have hd : decide (pos < (cells.length : Int)) = false := decide_eq_false h2
      refine ⟨.list [.list (cells.map .int), .int pos, .int 0, .int seed, .int cnt], .un, ?_, ⟨_, _, _, _, _, rfl, hc, hp, by omega, hs⟩⟩
      unfold HandB.c0
      simp [get_z, get_s, put_z, put_s, bind_ok, sr_ok, seq_nx, seq_rt, lift_s, getv, gets, getWv, getWs, vo_sh, vo_ow, vo_io, vw_sh, vw_ow, vw_io, eq_int, cmp_eq, cmp_ne, cmp_lt, cmp_gt, cmp_le, cmp_ge, bin_add, bin_sub, exs_nil, exs_cons, ev, evs, evOs, evcs, evB, evI, opOf, valR, varV, biD, lenD, storeP, storeT, store, Option.map_some, Option.bind_some, ex_whl, List.length_cons, List.length_nil, List.mapM_cons, List.mapM_nil, Option.pure_def, Option.bind_eq_bind, idxD, L2.atI, L2.ixN, ex, testR, hd]
  · have hd : decide (rest = 0) = false := decide_eq_false h1
    refine ⟨.list [.list (cells.map .int), .int pos, .int rest, .int seed, .int cnt], .un, ?_, ⟨_, _, _, _, _, rfl, hc, hp, hr, hs⟩⟩
    unfold HandB.c0
    simp [get_z, get_s, put_z, put_s, bind_ok, sr_ok, seq_nx, seq_rt, lift_s, getv, gets, getWv, getWs, vo_sh, vo_ow, vo_io, vw_sh, vw_ow, vw_io, eq_int, cmp_eq, cmp_ne, cmp_lt, cmp_gt, cmp_le, cmp_ge, bin_add, bin_sub, exs_nil, exs_cons, ev, evs, evOs, evcs, evB, evI, opOf, valR, varV, biD, lenD, storeP, storeT, store, Option.map_some, Option.bind_some, ex_whl, List.length_cons, List.length_nil, List.mapM_cons, List.mapM_nil, Option.pure_def, Option.bind_eq_bind, idxD, L2.atI, L2.ixN, ex, testR, hd]
theorem draw {h : D} {m : Int} (hh : Ok h) (hm : 0 < m) (hs : m.natAbs.log2 < 9000) : ∃ d h', HandB.s_draw.sem [h, .int m] = .ok (.sh (.int d)) h' ∧ 0 ≤ d ∧ d < m ∧ Ok h' := by
  obtain ⟨h1, c, e1, hh1⟩ := st0 hh (.int m)
  obtain ⟨cells, pos, rest, seed, cnt, rfl, hc, hp, hr, hse⟩ := hh1.ex
  have go : ∀ (d : Int) (h' : D) (e' : En), exs (.cons HandB.c1 (.cons HandB.c2 (.cons HandB.c3 (.cons HandB.c4 (.cons HandB.c5 (.cons HandB.c6 .nil)))))) [.io (.list [.list (cells.map .int), .int pos, .int rest, .int seed, .int cnt]), .sh (.int m), c, .un, .un] = .rt (.sh (.int d)) (.io h' :: e') → 0 ≤ d → d < m → Ok h' → ∃ d h', HandB.s_draw.sem [h, .int m] = .ok (.sh (.int d)) h' ∧ 0 ≤ d ∧ d < m ∧ Ok h' := fun d h' e' he a b k => by
    refine ⟨d, h', ?_, a, b, k⟩
    show runF 2 5 1 HandB.b_draw [h, .int m] = _
    have hq : exs HandB.b_draw [.io h, .sh (.int m), .un, .un, .un] = .rt (.sh (.int d)) (.io h' :: e') := by
      unfold HandB.b_draw
      rw [exs_cons]
      dsimp only
      rw [e1, seq_nx]
      exact he
    simp [runF, startE, firstC, hq, endF, get_z]
  by_cases hr0 : 0 < rest
  · have hd : decide (0 < rest) = true := decide_eq_true hr0
    refine go (rest % m) (.list [.list (cells.map .int), .int pos, .int (rest / m), .int seed, .int cnt]) [.sh (.int m), c, .sh (.int (rest % m)), .un] ?_ (Int.emod_nonneg _ (by omega)) (Int.emod_lt_of_pos _ hm) ⟨_, _, _, _, _, rfl, hc, hp, Int.ediv_nonneg hr (by omega), hse⟩
    unfold HandB.c1
    simp [get_z, get_s, put_z, put_s, bind_ok, sr_ok, seq_nx, seq_rt, lift_s, getv, gets, getWv, getWs, vo_sh, vo_ow, vo_io, vw_sh, vw_ow, vw_io, eq_int, cmp_eq, cmp_ne, cmp_lt, cmp_gt, cmp_le, cmp_ge, bin_add, bin_sub, exs_nil, exs_cons, ev, evs, evOs, evcs, evB, evI, opOf, valR, varV, biD, lenD, storeP, storeT, store, Option.map_some, Option.bind_some, ex_whl, List.length_cons, List.length_nil, List.mapM_cons, List.mapM_nil, Option.pure_def, Option.bind_eq_bind, idxD, L2.atI, L2.ixN, ex, testR, muta, remut, setI, hd, bin_mod hm, bin_fdiv hm hs]
  · have hd : decide (0 < rest) = false := decide_eq_false hr0
    have k1 : (0 : Int) < 2147483647 := by decide
    have k2 : (0 : Int) < 2147483399 := by decide
    have k6 : (0 : Int) < 2147483629 := by decide
    have k3 : (0 : Int) < 1103 := by decide
    have k4 : (0 : Int) < 2311 := by decide
    have k5 : (0 : Int) < 16 := by decide
    have l3 : (1103 : Int).natAbs.log2 < 9000 := by decide
    have l4 : (2311 : Int).natAbs.log2 < 9000 := by decide
    have l5 : (16 : Int).natAbs.log2 < 9000 := by decide
    have sm : ∀ x k : Int, 0 < k → k < 2 ^ 32 → (x % k).natAbs < 2 ^ 64 := fun x k h1 h2 => by
      have := Int.emod_lt_of_pos x h1
      have := Int.emod_nonneg x (by omega : k ≠ 0)
      omega
    obtain ⟨n1, hn1⟩ : ∃ n, (seed + 7877 * (cnt + 1)) * 69621 % 2147483647 = n := ⟨_, rfl⟩
    have q1 : ∀ x : Int, mulOk n1 x = true := fun x => hn1 ▸ mo3 (sm _ 2147483647 k1 (by decide))
    obtain ⟨n2, hn2⟩ : ∃ n, n1 * (n1 / 1103 + 40692) % 2147483399 = n := ⟨_, rfl⟩
    have q2 : ∀ x : Int, mulOk n2 x = true := fun x => hn2 ▸ mo3 (sm _ 2147483399 k2 (by decide))
    refine go ((n2 * (n2 / 2311 + 48271) % 2147483629) / 16 % m) (.list [.list (cells.map .int), .int pos, .int rest, .int seed, .int (cnt + 1)]) [.sh (.int m), c, .un, .sh (.int (n2 * (n2 / 2311 + 48271) % 2147483629))] ?_ (Int.emod_nonneg _ (by omega)) (Int.emod_lt_of_pos _ hm) ⟨_, _, _, _, _, rfl, hc, hp, hr, hse⟩
    unfold HandB.c1 HandB.c2 HandB.c3 HandB.c4 HandB.c5 HandB.c6
    simp [get_z, get_s, put_z, put_s, bind_ok, sr_ok, seq_nx, seq_rt, lift_s, getv, gets, getWv, getWs, vo_sh, vo_ow, vo_io, vw_sh, vw_ow, vw_io, eq_int, cmp_eq, cmp_ne, cmp_lt, cmp_gt, cmp_le, cmp_ge, bin_add, bin_sub, exs_nil, exs_cons, ev, evs, evOs, evcs, evB, evI, opOf, valR, varV, biD, lenD, storeP, storeT, store, Option.map_some, Option.bind_some, ex_whl, List.length_cons, List.length_nil, List.mapM_cons, List.mapM_nil, Option.pure_def, Option.bind_eq_bind, idxD, L2.atI, L2.ixN, ex, testR, muta, remut, setI, hd, bin_mod hm, bin_mod k1, bin_mod k2, bin_mod k6, bin_fdiv k3 l3, bin_fdiv k4 l4, bin_fdiv k5 l5, bin_mul (mo3 (a := 7877) (b := cnt + 1) (by decide)), bin_mul (mo2 (a := seed + 7877 * (cnt + 1)) (b := 69621) (by decide)), bin_mul (q1 _), bin_mul (q2 _), hn1, hn2]

def b_hand : CSs := (.cons (.asg (.nm 1) (.lc [("cell", 2)] (.nm 2) (.seq (.slc (.var 0) .noe (.lit (.int 63)))) .noe (.bi .abs (.cons (.bi .int (.cons (.var 2) .nil)) .nil)))) (.cons (.ret (.lst (.cons (.var 1) (.cons (.lit (.int 0)) (.cons (.lit (.int 0)) (.cons (.bin .add (.lit (.int 2161)) (.bin .mul (.lit (.int 197)) (.bi .len (.cons (.var 1) .nil)))) (.cons (.lit (.int 0)) .nil))))))) .nil))
def s_hand : FSig := ⟨2, runF 1 3 2 b_hand⟩
theorem sem_hand (ns : List Int) : ∃ h, HandB.s_hand.sem [.list (ns.map .int)] = .ok (.ow h) .none ∧ Ok h := by
  generalize hz : cut ns none (some 63) = zs
  have hlen : zs.length ≤ 63 := by
    rw [← hz]
    unfold cut
    rw [List.length_take, show HT.sIx ns.length ns.length (some 63) = min 63 ns.length from HT.sIx_nat ns.length ns.length 63]
    omega
  refine ⟨.list [.list ((zs.map fun z => if z < 0 then -z else z).map .int), .int 0, .int 0, .int (2161 + 197 * zs.length), .int 0], ?_, ⟨_, _, _, _, _, rfl, ?_, by omega, by omega, by omega⟩⟩
  · show runF 1 3 2 HandB.b_hand [.list (ns.map .int)] = _
    have hown : ownOk [.fz (.list (ns.map .int)), .un, .un] [2] = true := rfl
    have hc := lcF_eq (ct := .nm 2) (vs := [2]) (ft := condR .noe (ev .noe)) (fe := valR (ev (.bi .abs (.cons (.bi .int (.cons (.var 2) .nil)) .nil)))) (xs := zs.map .int) (x := .val (.list (zs.map .int))) (e := [.fz (.list (ns.map .int)), .un, .un]) (fun d => match d with | .int z => some (.int (if z < 0 then -z else z)) | d => none) hown (fun d hd => by
      obtain ⟨z, _, rfl⟩ := List.mem_map.mp hd
      rw [turnF_some (e3 := [.fz (.list (ns.map .int)), .un, .sh (.int z)]) rfl]
      simp [get_z, get_s, put_z, put_s, bind_ok, sr_ok, seq_nx, seq_rt, lift_s, getv, gets, getWv, getWs, vo_sh, vo_ow, vo_io, vw_sh, vw_ow, vw_io, vw_fz, eq_int, cmp_eq, cmp_ne, cmp_lt, cmp_gt, cmp_le, cmp_ge, bin_add, bin_sub, exs_nil, exs_cons, ev, evs, evOs, evcs, evB, evI, opOf, valR, varV, optOf, biD, lenD, storeP, storeT, store, startE, firstC, Option.map_some, Option.bind_some, ex_whl, List.length_cons, List.length_nil, List.mapM_cons, List.mapM_nil, Option.pure_def, Option.bind_eq_bind, idxD, L2.atI, L2.ixN, condR_noe, wipeE, lend])
    rw [List.filterMap_map] at hc
    have hf : zs.filterMap ((fun d : D => match d with | .int z => some (.int (if z < 0 then -z else z)) | d => none) ∘ PyData.int) = (zs.map fun z => if z < 0 then -z else z).map PyData.int := by
      clear hc hz hlen
      induction zs with
      | nil => rfl
      | cons z zs ih => rw [List.filterMap_cons]; show _ :: _ = _; rw [ih]; rfl
    rw [hf] at hc
    have h1 : ex (.asg (.nm 1) (.lc [("cell", 2)] (.nm 2) (.seq (.slc (.var 0) .noe (.lit (.int 63)))) .noe (.bi .abs (.cons (.bi .int (.cons (.var 2) .nil)) .nil)))) [.fz (.list (ns.map .int)), .un, .un] = .nx [.fz (.list (ns.map .int)), .ow (.list ((zs.map fun z => if z < 0 then -z else z).map PyData.int)), .un] := by
      have h2 : evI (.seq (.slc (.var 0) .noe (.lit (.int 63)))) [.fz (.list (ns.map .int)), .un, .un] = .ok ((zs.map PyData.int, .val (.list (zs.map .int))), [.fz (.list (ns.map .int)), .un, .un]) := by
        simp [get_z, get_s, put_z, put_s, bind_ok, sr_ok, seq_nx, seq_rt, lift_s, getv, gets, getWv, getWs, vo_sh, vo_ow, vo_io, vw_sh, vw_ow, vw_io, vw_fz, eq_int, cmp_eq, cmp_ne, cmp_lt, cmp_gt, cmp_le, cmp_ge, bin_add, bin_sub, exs_nil, exs_cons, ev, evs, evOs, evcs, evB, evI, opOf, valR, varV, optOf, biD, lenD, storeP, storeT, store, startE, firstC, Option.map_some, Option.bind_some, ex_whl, List.length_cons, List.length_nil, List.mapM_cons, List.mapM_nil, Option.pure_def, Option.bind_eq_bind, idxD, L2.atI, L2.ixN, slcD, cut_map, hz, Op.getI, seqD]
      rw [ex, ev_lc]
      dsimp only
      rw [h2, bind_ok]
      have hm : List.map (fun x : Str × Nat => x.snd) [(("cell" : Str), 2)] = [2] := rfl
      dsimp only
      rw [hm, hc]
      rfl
    unfold HandB.b_hand
    simp [runF, startE, firstC, exs_cons, h1, seq_nx]
    simp [get_z, get_s, put_z, put_s, bind_ok, sr_ok, seq_nx, seq_rt, lift_s, getv, gets, getWv, getWs, vo_sh, vo_ow, vo_io, vw_sh, vw_ow, vw_io, vw_fz, eq_int, cmp_eq, cmp_ne, cmp_lt, cmp_gt, cmp_le, cmp_ge, bin_add, bin_sub, exs_nil, exs_cons, ev, evs, evOs, evcs, evB, evI, opOf, valR, varV, optOf, biD, lenD, storeP, storeT, store, startE, firstC, Option.map_some, Option.bind_some, ex_whl, List.length_cons, List.length_nil, List.mapM_cons, List.mapM_nil, Option.pure_def, Option.bind_eq_bind, idxD, L2.atI, L2.ixN, ex, endF, sizeLine, bin_mul (mo3 (a := 197) (b := _) (by decide))]
  · intro c hc
    obtain ⟨z, _, rfl⟩ := List.mem_map.mp hc
    split <;> omega
def b_any : CSs := (.cons (.ret (.idx (.var 1) (.call "_law_draw" HandB.s_draw (.cons (.var 0) (.cons (.bi .len (.cons (.var 1) .nil)) .nil))))) .nil)
def s_any : FSig := ⟨1, runF 2 2 1 b_any⟩
theorem sem_any {h : D} {ds : List D} (hh : Ok h) (h0 : ds ≠ []) (hl : ds.length < 2 ^ 64) : ∃ d h', HandB.s_any.sem [h, .list ds] = .ok (.sh d) h' ∧ d ∈ ds ∧ Ok h' := by
  have hp : 0 < ds.length := List.length_pos_iff.mpr h0
  obtain ⟨d, h', hs, d0, d1, hh'⟩ := HandB.draw (m := ds.length) hh (by omega) (lg9 (by omega))
  have hi : d.toNat < ds.length := by omega
  refine ⟨ds[d.toNat], h', ?_, List.getElem_mem hi, hh'⟩
  show runF 2 2 1 HandB.b_any [h, .list ds] = _
  have hk : HandB.s_draw.kd = 1 := rfl
  have hc : callS HandB.s_draw (some 0) [.int ds.length] [.io h, .sh (.list ds)] = .ok (.sh (.int d), [.io h', .sh (.list ds)]) := callIo hk rfl (hs)
  simp [runF, HandB.b_any, get_z, get_s, put_z, put_s, bind_ok, sr_ok, seq_nx, seq_rt, lift_s, getv, gets, getWv, getWs, vo_sh, vo_ow, vo_io, vw_sh, vw_ow, vw_io, vw_fz, eq_int, cmp_eq, cmp_ne, cmp_lt, cmp_gt, cmp_le, cmp_ge, bin_add, bin_sub, exs_nil, exs_cons, ev, evs, evOs, evcs, evB, evI, opOf, valR, varV, optOf, biD, lenD, storeP, storeT, store, startE, firstC, Option.map_some, Option.bind_some, ex_whl, List.length_cons, List.length_nil, List.mapM_cons, List.mapM_nil, Option.pure_def, Option.bind_eq_bind, idxD, L2.atI, L2.ixN, ex, hk, hc, endF, okArg, muta, d0, d1, hi]
end PV.HandB
end
section
/-! texts as lists of signs -/
namespace PV
open PySem L2
def tx (l : List Nat) : Str := ⟨l.toArray⟩
def TX (l : List Nat) : D := .str (tx l)
theorem line_1m : 1000000 ≤ sizeLine := by decide
theorem len_tx (l : List Nat) : (tx l).length = l.length := rfl
theorem len_T {l : List Nat} (h : l.length ≤ 1000000) : biD .len [TX l] = some (.sh (.int (l.length : Nat))) := by
  show (if l.length ≤ sizeLine then some (PyData.int (l.length : Nat)) else none).map Cl.sh = _
  rw [if_pos (Nat.le_trans h line_1m)]; rfl
theorem idx_T {l : List Nat} {k : Nat} (h : l.length ≤ 1000000) (hk : k < l.length) : idxD (TX l) (.int k) = some (TX [l.getD k 0]) := by
  show (if l.length ≤ sizeLine then (L2.atI l k).map (fun c => PyData.str ⟨#[c]⟩) else none) = _
  rw [if_pos (Nat.le_trans h line_1m)]
  have : L2.ixN l.length (k : Int) = some k := by
    unfold L2.ixN
    rw [if_pos (by omega), if_pos (by omega), Int.toNat_natCast]
  unfold L2.atI
  rw [this]
  show (l[k]?).map _ = _
  rw [List.getD_eq_getElem?_getD, List.getElem?_eq_getElem hk]
  rfl
theorem slc_T {l : List Nat} (a b : Option Int) (h : l.length ≤ 1000000) : slcD (TX l) a b = some (.sh (TX (cut l a b))) := by
  show (if l.length ≤ sizeLine then some (Cl.sh (.str (L2.cutS (tx l) a b))) else none) = _
  rw [if_pos (Nat.le_trans h line_1m)]
  rfl
theorem slc_pre {l : List Nat} {k : Nat} (h : l.length ≤ 1000000) : slcD (TX l) none (some (k : Int)) = some (.sh (TX (l.take k))) := by rw [slc_T _ _ h, cut_take]
theorem slc_suf {l : List Nat} {k : Nat} (h : l.length ≤ 1000000) : slcD (TX l) (some (k : Int)) none = some (.sh (TX (l.drop k))) := by rw [slc_T _ _ h, cut_drop]
theorem app_tx (a b : List Nat) : tx a ++ tx b = tx (a ++ b) := by
  show Str.mk (a.toArray ++ b.toArray) = Str.mk _
  simp
theorem add_TX {a b : List Nat} (h : a.length + b.length ≤ 1000000) : binD .add (TX a) (TX b) = some (.sh (TX (a ++ b))) := by
  show (if a.length + b.length ≤ sizeLine then some (Cl.sh (.str (tx a ++ tx b))) else none) = _
  rw [if_pos (Nat.le_trans h line_1m), app_tx]; rfl
theorem mul_TX {a : List Nat} {k : Nat} (h : a.length * k ≤ 1000000) (hk : k ≤ 1000000) : binD .mul (TX a) (.int k) = some (.sh (TX (List.replicate k a).flatten)) := by
  show (if -1000000 ≤ (k : Int) ∧ (k : Int) ≤ 1000000 ∧ a.length * (k : Int).toNat ≤ 1000000 then some (Cl.sh (.str (mulS (tx a) (k : Int).toNat))) else none) = _
  rw [Int.toNat_natCast, if_pos ⟨by omega, by omega, h⟩]
  rfl
theorem tx_inj {a b : List Nat} : tx a = tx b ↔ a = b := by
  constructor
  · intro h
    have := congrArg (fun s : Str => s.cps.toList) h
    simpa [tx] using this
  · intro h; rw [h]
theorem eqv_TX (a b : List Nat) : PyData.eqv (TX a) (TX b) = decide (a = b) := by
  show (tx a == tx b) = _
  by_cases h : a = b
  · rw [decide_eq_true h, h]; simp
  · rw [decide_eq_false h]
    simp only [beq_eq_false_iff_ne, ne_eq, tx_inj]
    exact h
/-- plain signs -/
def Lo (l : List Nat) : Prop := ∀ c ∈ l, c < 128
theorem sh_TX {l : List Nat} (h : Lo l) : SeqAt.shaped (TX l) = true := shaped_str (x := tx l) h
theorem eq_TX {a b : List Nat} (ha : Lo a) (hb : Lo b) : eqD (TX a) (TX b) = some (decide (a = b)) := by
  unfold eqD
  rw [sh_TX ha, sh_TX hb, Bool.and_true, if_pos rfl, eqv_TX]
theorem in_TX (c : Nat) (l : List Nat) : inD (TX [c]) (TX l) = some (decide (c ∈ l)) := rfl
theorem isi_TX (l : List Nat) : ([Ty.str].any fun t => tyD t (TX l)) = true := rfl
theorem ixm_TX {c : Nat} {l : List Nat} (h : c ∈ l) : meD .index (TX l) [TX [c]] = some (.sh (.int (l.idxOf c : Nat))) := by
  show (if c ∈ l then some (Cl.sh (.int (l.idxOf c : Nat))) else none) = _
  rw [if_pos h]
theorem cnt_TX (c : Nat) (l : List Nat) : meD .count (TX l) [TX [c]] = some (.sh (.int (l.count c : Nat))) := rfl
def chs (l : List Nat) : List D := l.map fun c => TX [c]
theorem seq_TX {l : List Nat} (h : l.length ≤ 1000000) : seqD (TX l) = some (chs l) := by
  show (if l.length ≤ sizeLine then some (chs l) else none) = _
  rw [if_pos (Nat.le_trans h line_1m)]
theorem enu_TX {l : List Nat} (h : l.length ≤ 1000000) : enuD (TX l) = some (enumD 0 (chs l)) := by
  show (if l.length ≤ sizeLine then some (enumD 0 (chs l)) else none) = _
  rw [if_pos (Nat.le_trans h line_1m)]
theorem zip_TX {a b : List Nat} (h : a.length ≤ 1000000) (h2 : b.length ≤ 1000000) : zipDs [TX a, TX b] = some (zipD (chs a) (chs b)) := by
  show (if a.length ≤ sizeLine ∧ b.length ≤ sizeLine then some (zipD (chs a) (chs b)) else none) = _
  rw [if_pos ⟨Nat.le_trans h line_1m, Nat.le_trans h2 line_1m⟩]
theorem enum_chs (l : List Nat) (n : Nat) : enumD n (chs l) = (l.zipIdx n).map fun p => .tuple [.int (p.2 : Nat), TX [p.1]] := by
  induction l generalizing n with
  | nil => rfl
  | cons c l ih =>
    rw [List.zipIdx_cons, List.map_cons, ← ih (n + 1)]; rfl
theorem zip_chs (a b : List Nat) : zipD (chs a) (chs b) = (a.zip b).map fun p => .tuple [TX [p.1], TX [p.2]] := by
  induction a generalizing b with
  | nil => rfl
  | cons c a ih =>
    cases b with
    | nil => rfl
    | cons d b => rw [List.zip_cons_cons, List.map_cons, ← ih b]; rfl
theorem strsL_TX (L : List (List Nat)) : strsL (L.map TX) = some (L.map tx) := by
  induction L with
  | nil => rfl
  | cons a L ih => show (strsL (L.map TX)).map (tx a :: ·) = _; rw [ih]; rfl
theorem join_tx (L : List (List Nat)) : joinS (tx []) (L.map tx) = tx L.flatten := by
  have h : ∀ (L : List (List Nat)) (z : Array Nat), List.foldl (fun (acc : Array Nat) (p : Str) => acc ++ (tx []).cps ++ p.cps) z (L.map tx) = z ++ L.flatten.toArray := by
    intro L
    induction L with
    | nil => intro z; simp
    | cons a L ih =>
      intro z
      rw [List.map_cons, List.foldl_cons, ih, List.flatten_cons]
      apply Array.ext'
      simp [tx]
  cases L with
  | nil => rfl
  | cons a L =>
    show Str.mk (List.foldl (fun (acc : Array Nat) (p : Str) => acc ++ (tx []).cps ++ p.cps) (tx a).cps (L.map tx)) = _
    rw [h, List.flatten_cons]
    unfold tx
    simp
theorem join_TX {L : List (List Nat)} (h : L.flatten.length ≤ 1000000) : meD .join (TX []) [.list (L.map TX)] = some (.sh (TX L.flatten)) := by
  show ((strsL (L.map TX)).bind fun ts => if (ts.map (·.length)).sum + ts.length * (tx []).length ≤ 16777216 then some (Cl.sh (.str (joinS (tx []) ts))) else none) = _
  rw [strsL_TX, Option.bind_some]
  have : ((L.map tx).map (·.length)).sum = L.flatten.length := by
    rw [List.length_flatten, List.map_map]; rfl
  rw [this, if_pos (by show L.flatten.length + _ * 0 ≤ _; omega), join_tx]
  rfl
theorem join_one {l : List Nat} (h : l.length ≤ 1000000) : meD .join (TX []) [.list (chs l)] = some (.sh (TX l)) := by
  have e : chs l = (l.map fun c => [c]).map TX := by unfold chs; rw [List.map_map]; rfl
  have f : (l.map fun c => [c]).flatten = l := by
    clear h e
    induction l with
    | nil => rfl
    | cons a l ih => rw [List.map_cons, List.flatten_cons, ih]; rfl
  rw [e, join_TX (by rw [f]; exact h), f]
/-! the steps -/
theorem ev_me {op : Me} {a : CE} {es : CEs} {e e1 e2 : En} {x : Op} {z : Str} {ds : List D} {r : Cl} (h1 : opOf a (ev a) e = .ok (x, e1)) (h2 : x.get e1 = some (.str z)) (h3 : evs es e1 = .ok (ds, e2)) (h4 : meD op (.str z) ds = some r) : ev (.me op a es) e = .ok (r, e2) := by
  have hop : op = .count ∨ op = .index ∨ op = .join := by
    cases op <;> first | exact .inl rfl | exact .inr (.inl rfl) | exact .inr (.inr rfl) | (exfalso; revert h4; cases ds <;> simp [meD])
  rw [ev, h1, bind_ok]
  dsimp only
  rw [h2, lift_s, bind_ok]
  rcases hop with rfl | rfl | rfl <;>
  · unfold meG
    dsimp only
    rw [h3, bind_ok]
    dsimp only
    rw [h4, lift_s, bind_ok]
theorem ev_cnt {a : CE} {es : CEs} {e e1 e2 : En} {x : Op} {l l' : List D} {ds : List D} {r : Cl} (h1 : opOf a (ev a) e = .ok (x, e1)) (h2 : x.get e1 = some (.list l)) (h3 : evs es e1 = .ok (ds, e2)) (h5 : x.get e2 = some (.list l')) (h4 : meD .count (.list l') ds = some r) : ev (.me .count a es) e = .ok (r, e2) := by
  rw [ev, h1, bind_ok]
  dsimp only
  rw [h2, lift_s, bind_ok]
  unfold meG
  dsimp only
  rw [h3, bind_ok]
  dsimp only
  rw [h5, lift_s, bind_ok, h4, lift_s, bind_ok]
theorem exs_rts {c : CS} {ss : CSs} {e e1 : En} {r : Cl} (h : ex c e = .rt r e1) : exs (.cons c ss) e = .rt r e1 := by
  rw [exs, h]; rfl
theorem ex_forR {tg : CT} {it : CI} {b : CSs} {e e1 e2 : En} {xs : List D} {d : D} {r : Cl} (h : evI it e = .ok ((xs, .val d), e1)) (hl : forL (forB tg (exs b)) xs e1 = .rt r e2) : ex (.fori tg it b) e = .rt r e2 := by
  rw [ex_fori]
  dsimp only
  rw [h, sr_ok]
  dsimp only [lend]
  rw [hl]
  rfl
theorem q8 {F : FSig} {b : CSs} {ds : List D} {np n : Nat} {E e' : En} (hF : F = ⟨0, runF np n 0 b⟩) (h1 : ds.length = np) (h2 : np ≤ n) (hE : startE 0 ds ++ List.replicate (n - ds.length) .un = E) (h : exs b E = .nx e') : F.sem ds = .ok (.sh .none) .none := by
  subst hF
  show runF np n 0 b ds = _
  unfold runF
  rw [if_pos ⟨h1, h2, .inl rfl⟩, hE, h]
  rfl
end PV
end
section
/-! texts of small letters, as numbers below 26 -/
namespace PV
open PySem L2
def lets (w : List Nat) : List Nat := w.map (· + 97)
def T (w : List Nat) : D := TX (lets w)
def W (w : List Nat) : Prop := ∀ a ∈ w, a < 26
def ABC : List Nat := List.range' 97 26
def abcD : D := .str ("abcdefghijklmnopqrstuvwxyz" : PySem.Str)
theorem abc_eq : abcD = TX ABC := rfl
theorem len_lets (w : List Nat) : (lets w).length = w.length := List.length_map ..
theorem lo_lets {w : List Nat} (h : W w) : Lo (lets w) := fun c hc => by
  obtain ⟨a, ha, rfl⟩ := List.mem_map.mp hc
  have := h a ha
  show a + 97 < 128
  omega
theorem lets_inj {a b : List Nat} (h : lets a = lets b) : a = b := by
  have : ∀ a b : List Nat, lets a = lets b → a = b := by
    intro a
    induction a with
    | nil => intro b h; cases b with
      | nil => rfl
      | cons y b => simp [lets] at h
    | cons x a ih => intro b h; cases b with
      | nil => simp [lets] at h
      | cons y b =>
        simp [lets] at h
        rw [h.1, ih b (by simpa [lets] using h.2)]
  exact this a b h
theorem eq_T {a b : List Nat} (ha : W a) (hb : W b) : eqD (T a) (T b) = some (decide (a = b)) := by
  unfold T
  rw [eq_TX (lo_lets ha) (lo_lets hb)]
  congr 1
  exact decide_eq_decide.mpr ⟨lets_inj, fun h => by rw [h]⟩
theorem ne_T {a b : List Nat} (ha : W a) (hb : W b) : cmpD .ne (T a) (T b) = some (!decide (a = b)) := by rw [cmp_ne, eq_T ha hb]; rfl
theorem len_Tw {w : List Nat} (h : w.length ≤ 1000000) : biD .len [T w] = some (.sh (.int (w.length : Nat))) := by
  unfold T
  rw [len_T (by rw [len_lets]; exact h), len_lets]
theorem idx_Tw {w : List Nat} {k : Nat} (h : w.length ≤ 1000000) (hk : k < w.length) : idxD (T w) (.int k) = some (T [w.getD k 0]) := by
  unfold T
  rw [idx_T (by rw [len_lets]; exact h) (by rw [len_lets]; exact hk)]
  congr 2
  rw [List.getD_eq_getElem?_getD, List.getD_eq_getElem?_getD]
  unfold lets
  rw [List.getElem?_map, List.getElem?_eq_getElem hk]
  rfl
theorem pre_Tw {w : List Nat} {k : Nat} (h : w.length ≤ 1000000) : slcD (T w) none (some (k : Int)) = some (.sh (T (w.take k))) := by
  unfold T
  rw [slc_pre (by rw [len_lets]; exact h)]
  unfold lets
  rw [List.map_take]
theorem suf_Tw {w : List Nat} {k : Nat} (h : w.length ≤ 1000000) : slcD (T w) (some (k : Int)) none = some (.sh (T (w.drop k))) := by
  unfold T
  rw [slc_suf (by rw [len_lets]; exact h)]
  unfold lets
  rw [List.map_drop]
theorem add_Tw {a b : List Nat} (h : a.length + b.length ≤ 1000000) : binD .add (T a) (T b) = some (.sh (T (a ++ b))) := by
  unfold T
  rw [add_TX (by rw [len_lets, len_lets]; exact h)]
  unfold lets
  rw [List.map_append]
theorem mul_Tw {a : List Nat} {k : Nat} (h : a.length * k ≤ 1000000) (hk : k ≤ 1000000) : binD .mul (T a) (.int k) = some (.sh (T (List.replicate k a).flatten)) := by
  unfold T
  rw [mul_TX (by rw [len_lets]; exact h) hk]
  unfold lets
  rw [List.map_flatten, List.map_replicate]
theorem seq_Tw {w : List Nat} (h : w.length ≤ 1000000) : seqD (T w) = some (w.map fun a => T [a]) := by
  unfold T
  rw [seq_TX (by rw [len_lets]; exact h)]
  unfold chs lets
  rw [List.map_map]
  rfl
theorem enu_Tw {w : List Nat} (h : w.length ≤ 1000000) : enuD (T w) = some (w.zipIdx.map fun p => .tuple [.int (p.2 : Nat), T [p.1]]) := by
  unfold T
  rw [enu_TX (by rw [len_lets]; exact h), enum_chs]
  unfold lets
  rw [List.zipIdx_map, List.map_map]
  rfl
theorem zip_Tw {a b : List Nat} (h : a.length ≤ 1000000) (h2 : b.length ≤ 1000000) : zipDs [T a, T b] = some ((a.zip b).map fun p => .tuple [T [p.1], T [p.2]]) := by
  unfold T
  rw [zip_TX (by rw [len_lets]; exact h) (by rw [len_lets]; exact h2), zip_chs]
  unfold lets
  rw [List.zip_map, List.map_map]
  rfl
theorem isi_T (w : List Nat) : ([Ty.str].any fun t => tyD t (T w)) = true := rfl
theorem in_ABC {a : Nat} (h : a < 26) : inD (T [a]) abcD = some true := by
  show some (decide (a + 97 ∈ ABC)) = _
  rw [decide_eq_true]
  unfold ABC
  rw [List.mem_range'_1]
  omega
theorem ix_ABC {a : Nat} (h : a < 26) : meD .index abcD [T [a]] = some (.sh (.int (a : Nat))) := by
  have h1 : ∀ a, a < 26 → (a + 97 ∈ ABC) ∧ ABC.idxOf (a + 97) = a := by decide +kernel
  have h2 := h1 a h
  rw [abc_eq]
  show meD .index (TX ABC) [TX [a + 97]] = _
  rw [ixm_TX h2.1, h2.2]
theorem at_ABC {k : Nat} (h : k < 26) : idxD abcD (.int (k : Nat)) = some (T [k]) := by
  have h1 : ∀ k, k < 26 → ABC.getD k 0 = k + 97 := by decide +kernel
  rw [abc_eq, idx_T (by decide) h, h1 k h]
  rfl
theorem len_ABC : biD .len [abcD] = some (.sh (.int 26)) := rfl
theorem rng_e {es : CEs} {e e1 : En} {ds xs : List D} (h : evs es e = .ok (ds, e1)) (hr : rngD ds = some xs) : evI (.rng es) e = .ok ((xs, .val .none), e1) := by
  rw [evI, h, bind_ok]
  dsimp only
  rw [hr, lift_s, bind_ok]
theorem rng_v {i n : Nat} {e : En} (hg : get e i = .sh (.int n)) (hn : n ≤ 1000) : evI (.rng (.cons (.var i) .nil)) e = .ok (((List.range n).map fun k : Nat => PyData.int k, .val .none), e) := by
  have g : valR (ev (.var i)) e = .ok (.int n, e) := by
    have h : ev (.var i) e = .ok (.sh (.int n), e) := by
      rw [ev]
      unfold varV
      rw [hg]
    exact valR_of h rfl
  rw [evI, evs_cons (es := .nil) g rfl, bind_ok]
  dsimp only
  rw [rng1 hn]
  rfl
theorem rng1n {m : Nat} (h : m ≤ 900) : rngD [.int 1, .int ((m + 1 : Nat) : Int)] = some ((List.range' 1 m).map fun k : Nat => PyData.int k) := by
  have s1 : small62 1 = true := rfl
  have s2 : small62 ((m + 1 : Nat) : Int) = true := by unfold small62; rw [decide_eq_true (by omega), decide_eq_true (by omega)]; rfl
  have s3 : (((m + 1 : Nat) : Int) - 1).toNat ≤ sizeLine := smallZ (by omega)
  show (if small62 1 && small62 ((m + 1 : Nat) : Int) && decide ((((m + 1 : Nat) : Int) - 1).toNat ≤ sizeLine) then some (rangeD 1 (((m + 1 : Nat) : Int) - 1).toNat) else none) = _
  rw [s1, s2, decide_eq_true s3, Bool.and_true, Bool.and_true, if_pos rfl, rangeD_map, show (((m + 1 : Nat) : Int) - 1).toNat = m by omega, List.range'_eq_map_range, List.map_map]
  congr 1
theorem q7 {F : FSig} {b : CSs} {h h' : D} {ds : List D} {np n : Nat} {r : Cl} {E e' : En} (hF : F = ⟨1, runF np n 1 b⟩) (h1 : (h :: ds).length = np) (h2 : np ≤ n) (h3 : 1 ≤ np) (hE : startE 1 (h :: ds) ++ List.replicate (n - (h :: ds).length) .un = E) (hx : exs b E = .rt r e') (hg : get e' 0 = .io h') : F.sem (h :: ds) = .ok r h' := by
  subst hF
  subst hE
  exact run1 h1 h2 h3 hx hg
def em : D := .str ("" : PySem.Str)
theorem join_Tw {L : List (List Nat)} (h : L.flatten.length ≤ 1000000) : meD .join em [.list (L.map T)] = some (.sh (T L.flatten)) := by
  have e : L.map T = (L.map lets).map TX := by rw [List.map_map]; rfl
  have f : (L.map lets).flatten = lets L.flatten := by
    unfold lets
    rw [List.map_flatten]
  rw [e]
  show meD .join (TX []) [.list ((L.map lets).map TX)] = _
  rw [join_TX (by rw [f, len_lets]; exact h), f]
  rfl
theorem join_ws {w : List Nat} (h : w.length ≤ 1000000) : meD .join em [.list (w.map fun a => T [a])] = some (.sh (T w)) := by
  have f : (w.map fun c => [c]).flatten = w := by
    clear h
    induction w with
    | nil => rfl
    | cons a l ih => rw [List.map_cons, List.flatten_cons, ih]; rfl
  have := join_Tw (L := w.map fun c => [c]) (by rw [f]; exact h)
  rw [f, List.map_map] at this
  exact this
theorem W_take {w : List Nat} (h : W w) (k : Nat) : W (w.take k) := fun a ha => h a (List.mem_of_mem_take ha)
theorem W_drop {w : List Nat} (h : W w) (k : Nat) : W (w.drop k) := fun a ha => h a (List.mem_of_mem_drop ha)
theorem W_app {a b : List Nat} (h : W a) (h2 : W b) : W (a ++ b) := fun x hx => (List.mem_append.mp hx).elim (h x) (h2 x)
theorem W_get {w : List Nat} (h : W w) (k : Nat) : w.getD k 0 < 26 := by
  rw [List.getD_eq_getElem?_getD]
  cases q : w[k]? with
  | none => decide
  | some a => exact h a (List.mem_of_getElem? q)
theorem bi_ops2 {op : Bi} {a b : CE} {e e1 e2 : En} {x y : Op} {d1 d2 : D} {r : Cl} (h1 : opOf a (ev a) e = .ok (x, e1)) (h2 : opOf b (ev b) e1 = .ok (y, e2)) (h3 : x.get e2 = some d1) (h4 : y.get e2 = some d2) (h5 : biD op [d1, d2] = some r) : ev (.bi op (.cons a (.cons b .nil))) e = .ok (r, e2) := by
  rw [ev, evOs, h1, bind_ok]
  dsimp only
  rw [evOs, h2, bind_ok]
  dsimp only
  rw [evOs, bind_ok]
  dsimp only
  rw [bind_ok]
  dsimp only
  rw [bind_ok]
  dsimp only
  have hm : [x, y].mapM (Op.get e2) = some [d1, d2] := by
    simp [List.mapM_cons, h3, h4]
  rw [hm, lift_s, bind_ok, h5, lift_s, bind_ok]
theorem ife_tt {c a b : CE} {e e1 : En} {r : R (Cl × En)} (h : ev c e = .ok (.sh (.bool true), e1)) (h2 : ev a e1 = r) : ev (.ife c a b) e = r := ife_of h (by rw [if_pos rfl]; exact h2)
theorem ife_ff {c a b : CE} {e e1 : En} {r : R (Cl × En)} (h : ev c e = .ok (.sh (.bool false), e1)) (h2 : ev b e1 = r) : ev (.ife c a b) e = r := ife_of h (by rw [if_neg (by decide)]; exact h2)
end PV
end
section
namespace PV.HandC
open PySem PV PV.Lib PV.HandA
def c0 : CS := (.ite (.bop true (.cons (.cmp .eq (.idx (.var 0) (.lit (.int 2))) (.lit (.int 0))) (.cons (.cmp .lt (.idx (.var 0) (.lit (.int 1))) (.bi .len (.cons (.idx (.var 0) (.lit (.int 0))) .nil))) .nil))) (.cons (.asg (.nm 2) (.idx (.idx (.var 0) (.lit (.int 0))) (.idx (.var 0) (.lit (.int 1))))) (.cons (.put 0 (.lit (.int 1)) (.bin .add (.idx (.var 0) (.lit (.int 1))) (.lit (.int 1)))) (.cons (.put 0 (.lit (.int 3)) (.bin .mod (.bi .int (.cons (.bin .add (.bin .add (.bin .mul (.idx (.var 0) (.lit (.int 3))) (.lit (.int 69621))) (.bin .mul (.var 2) (.lit (.int 48271)))) (.lit (.int 17))) .nil)) (.lit (.int 2147483629)))) (.cons (.ite (.cmp .ge (.var 2) (.bin .pow (.lit (.int 10)) (.lit (.int 18)))) (.cons (.put 0 (.lit (.int 2)) (.var 2)) .nil) .nil) .nil)))) .nil)
def c1 : CS := (.ite (.cmp .gt (.idx (.var 0) (.lit (.int 2))) (.lit (.int 0))) (.cons (.asg (.nm 3) (.bin .mod (.bi .int (.cons (.idx (.var 0) (.lit (.int 2))) .nil)) (.var 1))) (.cons (.put 0 (.lit (.int 2)) (.bin .fdiv (.idx (.var 0) (.lit (.int 2))) (.var 1))) (.cons (.ret (.var 3)) .nil))) .nil)
def c2 : CS := (.put 0 (.lit (.int 4)) (.bin .add (.idx (.var 0) (.lit (.int 4))) (.lit (.int 1))))
def c3 : CS := (.asg (.nm 4) (.bin .mod (.bi .int (.cons (.bin .mul (.bi .int (.cons (.bin .add (.idx (.var 0) (.lit (.int 3))) (.bin .mul (.lit (.int 7919)) (.idx (.var 0) (.lit (.int 4))))) .nil)) (.lit (.int 40692))) .nil)) (.lit (.int 2147483647))))
def c4 : CS := (.asg (.nm 4) (.bin .mod (.bi .int (.cons (.bin .mul (.var 4) (.bin .add (.bin .fdiv (.var 4) (.lit (.int 1009))) (.lit (.int 69621)))) .nil)) (.lit (.int 2147483647))))
def c5 : CS := (.asg (.nm 4) (.bin .mod (.bi .int (.cons (.bin .mul (.var 4) (.bin .add (.bin .fdiv (.var 4) (.lit (.int 2003))) (.lit (.int 40014)))) .nil)) (.lit (.int 2147483563))))
def c6 : CS := (.ret (.bin .mod (.bi .int (.cons (.bin .fdiv (.var 4) (.lit (.int 16))) .nil)) (.var 1)))
def b_draw : CSs := (.cons c0 (.cons c1 (.cons c2 (.cons c3 (.cons c4 (.cons c5 (.cons c6 .nil)))))))
def s_draw : FSig := ⟨1, runF 2 5 1 b_draw⟩
set_option maxHeartbeats 1000000
theorem st0 {h : D} (hh : Ok h) (m : D) : ∃ h1 c, ex HandC.c0 [.io h, .sh m, .un, .un, .un] = .nx [.io h1, .sh m, c, .un, .un] ∧ Ok h1 := by
  obtain ⟨cells, pos, rest, seed, cnt, rfl, hc, hp, hr, hs⟩ := hh.ex
  by_cases h1 : rest = 0
  · subst h1
    by_cases h2 : pos < cells.length
    · have hp2 : pos.toNat < cells.length := by omega
      have hcell : 0 ≤ cells[pos.toNat] := hc _ (List.getElem_mem hp2)
      have hmod : (0 : Int) < 2147483629 := by decide
      have hseed : 0 ≤ (seed * 69621 + cells[pos.toNat] * 48271 + 17) % 2147483629 := Int.emod_nonneg _ (by decide)
      have hd : decide (pos < (cells.length : Int)) = true := decide_eq_true h2
      have hmul2 : mulOk cells[pos.toNat] 48271 = true := mo2 (by decide)
      have hmul : mulOk seed 69621 = true := mo2 (by decide)
      by_cases h3 : 1000000000000000000 ≤ cells[pos.toNat]
      · refine ⟨.list [.list (cells.map .int), .int (pos + 1), .int cells[pos.toNat], .int ((seed * 69621 + cells[pos.toNat] * 48271 + 17) % 2147483629), .int cnt], .sh (.int cells[pos.toNat]), ?_, ⟨_, _, _, _, _, rfl, hc, by omega, hcell, hseed⟩⟩
        unfold HandC.c0
        simp [get_z, get_s, put_z, put_s, bind_ok, sr_ok, seq_nx, seq_rt, lift_s, getv, gets, getWv, getWs, vo_sh, vo_ow, vo_io, vw_sh, vw_ow, vw_io, eq_int, cmp_eq, cmp_ne, cmp_lt, cmp_gt, cmp_le, cmp_ge, bin_add, bin_sub, exs_nil, exs_cons, ev, evs, evOs, evcs, evB, evI, opOf, valR, varV, biD, lenD, storeP, storeT, store, Option.map_some, Option.bind_some, ex_whl, List.length_cons, List.length_nil, List.mapM_cons, List.mapM_nil, Option.pure_def, Option.bind_eq_bind, idxD, L2.atI, L2.ixN, ex, testR, muta, remut, setI, hd, hp, h2, hp2, bin_mul hmul, bin_mul hmul2, bin_mod hmod, h3, pow18]
      · refine ⟨.list [.list (cells.map .int), .int (pos + 1), .int 0, .int ((seed * 69621 + cells[pos.toNat] * 48271 + 17) % 2147483629), .int cnt], .sh (.int cells[pos.toNat]), ?_, ⟨_, _, _, _, _, rfl, hc, by omega, by omega, hseed⟩⟩
        unfold HandC.c0
        simp [get_z, get_s, put_z, put_s, bind_ok, sr_ok, seq_nx, seq_rt, lift_s, getv, gets, getWv, getWs, vo_sh, vo_ow, vo_io, vw_sh, vw_ow, vw_io, eq_int, cmp_eq, cmp_ne, cmp_lt, cmp_gt, cmp_le, cmp_ge, bin_add, bin_sub, exs_nil, exs_cons, ev, evs, evOs, evcs, evB, evI, opOf, valR, varV, biD, lenD, storeP, storeT, store, Option.map_some, Option.bind_some, ex_whl, List.length_cons, List.length_nil, List.mapM_cons, List.mapM_nil, Option.pure_def, Option.bind_eq_bind, idxD, L2.atI, L2.ixN, ex, testR, muta, remut, setI, hd, hp, h2, hp2, bin_mul hmul, bin_mul hmul2, bin_mod hmod, h3, pow18]
    · have hd : decide (pos < (cells.length : Int)) = false := decide_eq_false h2
      refine ⟨.list [.list (cells.map .int), .int pos, .int 0, .int seed, .int cnt], .un, ?_, ⟨_, _, _, _, _, rfl, hc, hp, by omega, hs⟩⟩
      unfold HandC.c0
      simp [get_z, get_s, put_z, put_s, bind_ok, sr_ok, seq_nx, seq_rt, lift_s, getv, gets, getWv, getWs, vo_sh, vo_ow, vo_io, vw_sh, vw_ow, vw_io, eq_int, cmp_eq, cmp_ne, cmp_lt, cmp_gt, cmp_le, cmp_ge, bin_add, bin_sub, exs_nil, exs_cons, ev, evs, evOs, evcs, evB, evI, opOf, valR, varV, biD, lenD, storeP, storeT, store, Option.map_some, Option.bind_some, ex_whl, List.length_cons, List.length_nil, List.mapM_cons, List.mapM_nil, Option.pure_def, Option.bind_eq_bind, idxD, L2.atI, L2.ixN, ex, testR, hd]
  · have hd : decide (rest = 0) = false := decide_eq_false h1
    refine ⟨.list [.list (cells.map .int), .int pos, .int rest, .int seed, .int cnt], .un, ?_, ⟨_, _, _, _, _, rfl, hc, hp, hr, hs⟩⟩
    unfold HandC.c0
    simp [get_z, get_s, put_z, put_s, bind_ok, sr_ok, seq_nx, seq_rt, lift_s, getv, gets, getWv, getWs, vo_sh, vo_ow, vo_io, vw_sh, vw_ow, vw_io, eq_int, cmp_eq, cmp_ne, cmp_lt, cmp_gt, cmp_le, cmp_ge, bin_add, bin_sub, exs_nil, exs_cons, ev, evs, evOs, evcs, evB, evI, opOf, valR, varV, biD, lenD, storeP, storeT, store, Option.map_some, Option.bind_some, ex_whl, List.length_cons, List.length_nil, List.mapM_cons, List.mapM_nil, Option.pure_def, Option.bind_eq_bind, idxD, L2.atI, L2.ixN, ex, testR, hd]
theorem draw {h : D} {m : Int} (hh : Ok h) (hm : 0 < m) (hs : m.natAbs.log2 < 9000) : ∃ d h', HandC.s_draw.sem [h, .int m] = .ok (.sh (.int d)) h' ∧ 0 ≤ d ∧ d < m ∧ Ok h' := by
  obtain ⟨h1, c, e1, hh1⟩ := st0 hh (.int m)
  obtain ⟨cells, pos, rest, seed, cnt, rfl, hc, hp, hr, hse⟩ := hh1.ex
  have go : ∀ (d : Int) (h' : D) (e' : En), exs (.cons HandC.c1 (.cons HandC.c2 (.cons HandC.c3 (.cons HandC.c4 (.cons HandC.c5 (.cons HandC.c6 .nil)))))) [.io (.list [.list (cells.map .int), .int pos, .int rest, .int seed, .int cnt]), .sh (.int m), c, .un, .un] = .rt (.sh (.int d)) (.io h' :: e') → 0 ≤ d → d < m → Ok h' → ∃ d h', HandC.s_draw.sem [h, .int m] = .ok (.sh (.int d)) h' ∧ 0 ≤ d ∧ d < m ∧ Ok h' := fun d h' e' he a b k => by
    refine ⟨d, h', ?_, a, b, k⟩
    show runF 2 5 1 HandC.b_draw [h, .int m] = _
    have hq : exs HandC.b_draw [.io h, .sh (.int m), .un, .un, .un] = .rt (.sh (.int d)) (.io h' :: e') := by
      unfold HandC.b_draw
      rw [exs_cons]
      dsimp only
      rw [e1, seq_nx]
      exact he
    simp [runF, startE, firstC, hq, endF, get_z]
  by_cases hr0 : 0 < rest
  · have hd : decide (0 < rest) = true := decide_eq_true hr0
    refine go (rest % m) (.list [.list (cells.map .int), .int pos, .int (rest / m), .int seed, .int cnt]) [.sh (.int m), c, .sh (.int (rest % m)), .un] ?_ (Int.emod_nonneg _ (by omega)) (Int.emod_lt_of_pos _ hm) ⟨_, _, _, _, _, rfl, hc, hp, Int.ediv_nonneg hr (by omega), hse⟩
    unfold HandC.c1
    simp [get_z, get_s, put_z, put_s, bind_ok, sr_ok, seq_nx, seq_rt, lift_s, getv, gets, getWv, getWs, vo_sh, vo_ow, vo_io, vw_sh, vw_ow, vw_io, eq_int, cmp_eq, cmp_ne, cmp_lt, cmp_gt, cmp_le, cmp_ge, bin_add, bin_sub, exs_nil, exs_cons, ev, evs, evOs, evcs, evB, evI, opOf, valR, varV, biD, lenD, storeP, storeT, store, Option.map_some, Option.bind_some, ex_whl, List.length_cons, List.length_nil, List.mapM_cons, List.mapM_nil, Option.pure_def, Option.bind_eq_bind, idxD, L2.atI, L2.ixN, ex, testR, muta, remut, setI, hd, bin_mod hm, bin_fdiv hm hs]
  · have hd : decide (0 < rest) = false := decide_eq_false hr0
    have k1 : (0 : Int) < 2147483647 := by decide
    have k2 : (0 : Int) < 2147483647 := by decide
    have k6 : (0 : Int) < 2147483563 := by decide
    have k3 : (0 : Int) < 1009 := by decide
    have k4 : (0 : Int) < 2003 := by decide
    have k5 : (0 : Int) < 16 := by decide
    have l3 : (1009 : Int).natAbs.log2 < 9000 := by decide
    have l4 : (2003 : Int).natAbs.log2 < 9000 := by decide
    have l5 : (16 : Int).natAbs.log2 < 9000 := by decide
    have sm : ∀ x k : Int, 0 < k → k < 2 ^ 32 → (x % k).natAbs < 2 ^ 64 := fun x k h1 h2 => by
      have := Int.emod_lt_of_pos x h1
      have := Int.emod_nonneg x (by omega : k ≠ 0)
      omega
    obtain ⟨n1, hn1⟩ : ∃ n, (seed + 7919 * (cnt + 1)) * 40692 % 2147483647 = n := ⟨_, rfl⟩
    have q1 : ∀ x : Int, mulOk n1 x = true := fun x => hn1 ▸ mo3 (sm _ 2147483647 k1 (by decide))
    obtain ⟨n2, hn2⟩ : ∃ n, n1 * (n1 / 1009 + 69621) % 2147483647 = n := ⟨_, rfl⟩
    have q2 : ∀ x : Int, mulOk n2 x = true := fun x => hn2 ▸ mo3 (sm _ 2147483647 k2 (by decide))
    refine go ((n2 * (n2 / 2003 + 40014) % 2147483563) / 16 % m) (.list [.list (cells.map .int), .int pos, .int rest, .int seed, .int (cnt + 1)]) [.sh (.int m), c, .un, .sh (.int (n2 * (n2 / 2003 + 40014) % 2147483563))] ?_ (Int.emod_nonneg _ (by omega)) (Int.emod_lt_of_pos _ hm) ⟨_, _, _, _, _, rfl, hc, hp, hr, hse⟩
    unfold HandC.c1 HandC.c2 HandC.c3 HandC.c4 HandC.c5 HandC.c6
    simp [get_z, get_s, put_z, put_s, bind_ok, sr_ok, seq_nx, seq_rt, lift_s, getv, gets, getWv, getWs, vo_sh, vo_ow, vo_io, vw_sh, vw_ow, vw_io, eq_int, cmp_eq, cmp_ne, cmp_lt, cmp_gt, cmp_le, cmp_ge, bin_add, bin_sub, exs_nil, exs_cons, ev, evs, evOs, evcs, evB, evI, opOf, valR, varV, biD, lenD, storeP, storeT, store, Option.map_some, Option.bind_some, ex_whl, List.length_cons, List.length_nil, List.mapM_cons, List.mapM_nil, Option.pure_def, Option.bind_eq_bind, idxD, L2.atI, L2.ixN, ex, testR, muta, remut, setI, hd, bin_mod hm, bin_mod k1, bin_mod k2, bin_mod k6, bin_fdiv k3 l3, bin_fdiv k4 l4, bin_fdiv k5 l5, bin_mul (mo3 (a := 7919) (b := cnt + 1) (by decide)), bin_mul (mo2 (a := seed + 7919 * (cnt + 1)) (b := 40692) (by decide)), bin_mul (q1 _), bin_mul (q2 _), hn1, hn2]

def b_hand : CSs := (.cons (.asg (.nm 1) (.lc [("cell", 2)] (.nm 2) (.seq (.slc (.var 0) .noe (.lit (.int 63)))) .noe (.bin .mod (.bi .int (.cons (.bi .abs (.cons (.bi .int (.cons (.var 2) .nil)) .nil)) .nil)) (.bin .pow (.lit (.int 10)) (.lit (.int 36)))))) (.cons (.ret (.lst (.cons (.var 1) (.cons (.lit (.int 0)) (.cons (.lit (.int 0)) (.cons (.bin .add (.lit (.int 859)) (.bin .mul (.lit (.int 461)) (.bi .len (.cons (.var 1) .nil)))) (.cons (.lit (.int 0)) .nil))))))) .nil))
def s_hand : FSig := ⟨2, runF 1 3 2 b_hand⟩
def cellF (z : Int) : Int := (if z < 0 then -z else z) % (10 ^ 36)
theorem pow36 : binD .pow (.int 10) (.int 36) = some (.sh (.int (10 ^ 36))) := rfl
theorem ev_cell (L : D) (z : Int) : ev (.bin .mod (.bi .int (.cons (.bi .abs (.cons (.bi .int (.cons (.var 2) .nil)) .nil)) .nil)) (.bin .pow (.lit (.int 10)) (.lit (.int 36)))) [.fz L, .un, .sh (.int z)] = .ok (.sh (.int (cellF z)), [.fz L, .un, .sh (.int z)]) := by
  have x1 : ev (.bi .int (.cons (.var 2) .nil)) [.fz L, .un, .sh (.int z)] = .ok (.sh (.int z), [.fz L, .un, .sh (.int z)]) := bi_var (i := 2) rfl rfl rfl
  have x2 : ev (.bi .abs (.cons (.bi .int (.cons (.var 2) .nil)) .nil)) [.fz L, .un, .sh (.int z)] = .ok (.sh (.int (if z < 0 then -z else z)), [.fz L, .un, .sh (.int z)]) := bi_one (op := .abs) (fun i h => by cases h) x1 rfl rfl
  have x3 : ev (.bi .int (.cons (.bi .abs (.cons (.bi .int (.cons (.var 2) .nil)) .nil)) .nil)) [.fz L, .un, .sh (.int z)] = .ok (.sh (.int (if z < 0 then -z else z)), [.fz L, .un, .sh (.int z)]) := bi_one (op := .int) (fun i h => by cases h) x2 rfl rfl
  have x4 : opOf (.bi .int (.cons (.bi .abs (.cons (.bi .int (.cons (.var 2) .nil)) .nil)) .nil)) (ev (.bi .int (.cons (.bi .abs (.cons (.bi .int (.cons (.var 2) .nil)) .nil)) .nil))) [.fz L, .un, .sh (.int z)] = .ok (.val (.int (if z < 0 then -z else z)), [.fz L, .un, .sh (.int z)]) := opOf_val (fun i h => by cases h) x3 rfl
  have x5 : ev (.lit (.int 10)) [.fz L, .un, .sh (.int z)] = .ok (.sh (.int 10), [.fz L, .un, .sh (.int z)]) := rfl
  have x6 : opOf (.lit (.int 10)) (ev (.lit (.int 10))) [.fz L, .un, .sh (.int z)] = .ok (.val (.int 10), [.fz L, .un, .sh (.int z)]) := opOf_val (fun i h => by cases h) x5 rfl
  have x7 : ev (.lit (.int 36)) [.fz L, .un, .sh (.int z)] = .ok (.sh (.int 36), [.fz L, .un, .sh (.int z)]) := rfl
  have x8 : opOf (.lit (.int 36)) (ev (.lit (.int 36))) [.fz L, .un, .sh (.int z)] = .ok (.val (.int 36), [.fz L, .un, .sh (.int z)]) := opOf_val (fun i h => by cases h) x7 rfl
  have x9 : ev (.bin .pow (.lit (.int 10)) (.lit (.int 36))) [.fz L, .un, .sh (.int z)] = .ok (.sh (.int (10 ^ 36)), [.fz L, .un, .sh (.int z)]) := ev_bin x6 x8 rfl rfl pow36
  have x10 : opOf (.bin .pow (.lit (.int 10)) (.lit (.int 36))) (ev (.bin .pow (.lit (.int 10)) (.lit (.int 36)))) [.fz L, .un, .sh (.int z)] = .ok (.val (.int (10 ^ 36)), [.fz L, .un, .sh (.int z)]) := opOf_val (fun i h => by cases h) x9 rfl
  have x11 : ev (.bin .mod (.bi .int (.cons (.bi .abs (.cons (.bi .int (.cons (.var 2) .nil)) .nil)) .nil)) (.bin .pow (.lit (.int 10)) (.lit (.int 36)))) [.fz L, .un, .sh (.int z)] = .ok (.sh (.int (cellF z)), [.fz L, .un, .sh (.int z)]) := ev_bin x4 x10 rfl rfl (bin_mod (by decide))
  exact x11
theorem sem_hand (ns : List Int) : ∃ h, HandC.s_hand.sem [.list (ns.map .int)] = .ok (.ow h) .none ∧ Ok h := by
  generalize hz : cut ns none (some 63) = zs
  have hlen : zs.length ≤ 63 := by
    rw [← hz]
    unfold cut
    rw [List.length_take, show HT.sIx ns.length ns.length (some 63) = min 63 ns.length from HT.sIx_nat ns.length ns.length 63]
    omega
  refine ⟨.list [.list ((zs.map fun z => cellF z).map .int), .int 0, .int 0, .int (859 + 461 * zs.length), .int 0], ?_, ⟨_, _, _, _, _, rfl, ?_, by omega, by omega, by omega⟩⟩
  · show runF 1 3 2 HandC.b_hand [.list (ns.map .int)] = _
    have hown : ownOk [.fz (.list (ns.map .int)), .un, .un] [2] = true := rfl
    have hc := lcF_eq (ct := .nm 2) (vs := [2]) (ft := condR .noe (ev .noe)) (fe := valR (ev (.bin .mod (.bi .int (.cons (.bi .abs (.cons (.bi .int (.cons (.var 2) .nil)) .nil)) .nil)) (.bin .pow (.lit (.int 10)) (.lit (.int 36)))))) (xs := zs.map .int) (x := .val (.list (zs.map .int))) (e := [.fz (.list (ns.map .int)), .un, .un]) (fun d => match d with | .int z => some (.int (cellF z)) | d => none) hown (fun d hd => by
      obtain ⟨z, _, rfl⟩ := List.mem_map.mp hd
      exact turn_elt (e3 := [.fz (.list (ns.map .int)), .un, .sh (.int z)]) (e4 := [.fz (.list (ns.map .int)), .un, .sh (.int z)]) rfl (valR_of (ev_cell _ z) rfl))
    rw [List.filterMap_map] at hc
    have hf : zs.filterMap ((fun d : D => match d with | .int z => some (.int (cellF z)) | d => none) ∘ PyData.int) = (zs.map fun z => cellF z).map PyData.int := by
      clear hc hz hlen
      induction zs with
      | nil => rfl
      | cons z zs ih => rw [List.filterMap_cons]; show _ :: _ = _; rw [ih]; rfl
    rw [hf] at hc
    have h1 : ex (.asg (.nm 1) (.lc [("cell", 2)] (.nm 2) (.seq (.slc (.var 0) .noe (.lit (.int 63)))) .noe (.bin .mod (.bi .int (.cons (.bi .abs (.cons (.bi .int (.cons (.var 2) .nil)) .nil)) .nil)) (.bin .pow (.lit (.int 10)) (.lit (.int 36)))))) [.fz (.list (ns.map .int)), .un, .un] = .nx [.fz (.list (ns.map .int)), .ow (.list ((zs.map fun z => cellF z).map PyData.int)), .un] := by
      have h2 : evI (.seq (.slc (.var 0) .noe (.lit (.int 63)))) [.fz (.list (ns.map .int)), .un, .un] = .ok ((zs.map PyData.int, .val (.list (zs.map .int))), [.fz (.list (ns.map .int)), .un, .un]) := by
        simp [get_z, get_s, put_z, put_s, bind_ok, sr_ok, seq_nx, seq_rt, lift_s, getv, gets, getWv, getWs, vo_sh, vo_ow, vo_io, vw_sh, vw_ow, vw_io, vw_fz, eq_int, cmp_eq, cmp_ne, cmp_lt, cmp_gt, cmp_le, cmp_ge, bin_add, bin_sub, exs_nil, exs_cons, ev, evs, evOs, evcs, evB, evI, opOf, valR, varV, optOf, biD, lenD, storeP, storeT, store, startE, firstC, Option.map_some, Option.bind_some, ex_whl, List.length_cons, List.length_nil, List.mapM_cons, List.mapM_nil, Option.pure_def, Option.bind_eq_bind, idxD, L2.atI, L2.ixN, slcD, cut_map, hz, Op.getI, seqD]
      rw [ex, ev_lc]
      dsimp only
      rw [h2, bind_ok]
      have hm : List.map (fun x : Str × Nat => x.snd) [(("cell" : Str), 2)] = [2] := rfl
      dsimp only
      rw [hm, hc]
      rfl
    unfold HandC.b_hand
    simp [runF, startE, firstC, exs_cons, h1, seq_nx]
    simp [get_z, get_s, put_z, put_s, bind_ok, sr_ok, seq_nx, seq_rt, lift_s, getv, gets, getWv, getWs, vo_sh, vo_ow, vo_io, vw_sh, vw_ow, vw_io, vw_fz, eq_int, cmp_eq, cmp_ne, cmp_lt, cmp_gt, cmp_le, cmp_ge, bin_add, bin_sub, exs_nil, exs_cons, ev, evs, evOs, evcs, evB, evI, opOf, valR, varV, optOf, biD, lenD, storeP, storeT, store, startE, firstC, Option.map_some, Option.bind_some, ex_whl, List.length_cons, List.length_nil, List.mapM_cons, List.mapM_nil, Option.pure_def, Option.bind_eq_bind, idxD, L2.atI, L2.ixN, ex, endF, sizeLine, bin_mul (mo3 (a := 461) (b := _) (by decide))]
  · intro c hc
    obtain ⟨z, _, rfl⟩ := List.mem_map.mp hc
    exact Int.emod_nonneg _ (by decide)
def b_any : CSs := (.cons (.ret (.idx (.var 1) (.call "_law_draw" HandC.s_draw (.cons (.var 0) (.cons (.bi .len (.cons (.var 1) .nil)) .nil))))) .nil)
def s_any : FSig := ⟨1, runF 2 2 1 b_any⟩
theorem sem_any {h : D} {ds : List D} (hh : Ok h) (h0 : ds ≠ []) (hl : ds.length < 2 ^ 64) : ∃ d h', HandC.s_any.sem [h, .list ds] = .ok (.sh d) h' ∧ d ∈ ds ∧ Ok h' := by
  have hp : 0 < ds.length := List.length_pos_iff.mpr h0
  obtain ⟨d, h', hs, d0, d1, hh'⟩ := HandC.draw (m := ds.length) hh (by omega) (lg9 (by omega))
  have hi : d.toNat < ds.length := by omega
  refine ⟨ds[d.toNat], h', ?_, List.getElem_mem hi, hh'⟩
  show runF 2 2 1 HandC.b_any [h, .list ds] = _
  have hk : HandC.s_draw.kd = 1 := rfl
  have hc : callS HandC.s_draw (some 0) [.int ds.length] [.io h, .sh (.list ds)] = .ok (.sh (.int d), [.io h', .sh (.list ds)]) := callIo hk rfl (hs)
  simp [runF, HandC.b_any, get_z, get_s, put_z, put_s, bind_ok, sr_ok, seq_nx, seq_rt, lift_s, getv, gets, getWv, getWs, vo_sh, vo_ow, vo_io, vw_sh, vw_ow, vw_io, vw_fz, eq_int, cmp_eq, cmp_ne, cmp_lt, cmp_gt, cmp_le, cmp_ge, bin_add, bin_sub, exs_nil, exs_cons, ev, evs, evOs, evcs, evB, evI, opOf, valR, varV, optOf, biD, lenD, storeP, storeT, store, startE, firstC, Option.map_some, Option.bind_some, ex_whl, List.length_cons, List.length_nil, List.mapM_cons, List.mapM_nil, Option.pure_def, Option.bind_eq_bind, idxD, L2.atI, L2.ixN, ex, hk, hc, endF, okArg, muta, d0, d1, hi]
theorem drawN {h : D} {m : Nat} (hh : Ok h) (hm : 0 < m) (hs : m ≤ 1000) : ∃ (d : Nat) (h' : D), HandC.s_draw.sem [h, .int (m : Nat)] = .ok (.sh (.int (d : Nat))) h' ∧ d < m ∧ Ok h' := by
  obtain ⟨d, h', e, d0, d1, hh'⟩ := HandC.draw (m := m) hh (by omega) (HandA.lg9 (x := ((m : Int)).natAbs) (Nat.lt_of_le_of_lt (by omega : ((m : Int)).natAbs ≤ 1000) (by decide)))
  refine ⟨d.toNat, h', ?_, by omega, hh'⟩
  rw [show ((d.toNat : Nat) : Int) = d by omega]
  exact e
theorem any_in {h : D} {α : Type} {E : α → D} {l : List α} (hh : Ok h) (h0 : l ≠ []) (hl : l.length < 2 ^ 64) : ∃ (a : α) (h' : D), HandC.s_any.sem [h, .list (l.map E)] = .ok (.sh (E a)) h' ∧ a ∈ l ∧ Ok h' := by
  obtain ⟨d, h', e, hd, hh'⟩ := HandC.sem_any (ds := l.map E) hh (by simpa using h0) (by rw [List.length_map]; exact hl)
  obtain ⟨a, ha, rfl⟩ := List.mem_map.mp hd
  exact ⟨a, h', e, ha, hh'⟩
theorem any_str {h : D} {w : List Nat} (hh : Ok h) (h0 : 0 < w.length) (hl : w.length ≤ 1000) : ∃ (i : Nat) (h' : D), HandC.s_any.sem [h, TX w] = .ok (.sh (TX [w.getD i 0])) h' ∧ i < w.length ∧ Ok h' := by
  obtain ⟨i, h', e, hi, hh'⟩ := drawN hh h0 hl
  refine ⟨i, h', ?_, hi, hh'⟩
  have l1 : w.length ≤ 1000000 := by omega
  have x1 : ev (.bi .len (.cons (.var 1) .nil)) [.io h, .sh (TX w)] = .ok (.sh (.int (w.length : Nat)), [.io h, .sh (TX w)]) := bi_var (i := 1) rfl rfl (len_T l1)
  have x2 := ev_callI (nm := "_law_draw") (F := HandC.s_draw) (i := 0) (es := .cons (.bi .len (.cons (.var 1) .nil)) .nil) (e := [.io h, .sh (TX w)]) rfl rfl (evs_cons (es := .nil) (valR_of x1 rfl) rfl) rfl e
  have x3 := idx_val (a := .var 1) (x := .slot 1) (e := [.io h, .sh (TX w)]) rfl (valR_of x2 rfl) rfl (idx_T l1 hi)
  have hb : exs HandC.b_any [.io h, .sh (TX w)] = .rt (.sh (TX [w.getD i 0])) [.io h', .sh (TX w)] := exs_ret x3
  exact q7 (h := h) (ds := [TX w]) (np := 2) (n := 2) (b := HandC.b_any) rfl rfl (by decide) (by decide) rfl hb rfl
end PV.HandC
end
section
namespace K19
open PySem L2 PV
def topS (i : Nat) : Stmt := PySem.Challenge.pw_fewclues_k19_whole_fences.main.body.getD i (.Pass ⟨0, 0, 0, 0⟩)
def n__law_hand : List Str := ["script", "cells", "cell"]
def b__law_hand : CSs := (.cons (.asg (.nm 1) (.lc [("cell", 2)] (.nm 2) (.seq (.slc (.var 0) .noe (.lit (.int 63)))) .noe (.bin .mod (.bi .int (.cons (.bi .abs (.cons (.bi .int (.cons (.var 2) .nil)) .nil)) .nil)) (.bin .pow (.lit (.int 10)) (.lit (.int 36)))))) (.cons (.ret (.lst (.cons (.var 1) (.cons (.lit (.int 0)) (.cons (.lit (.int 0)) (.cons (.bin .add (.lit (.int 859)) (.bin .mul (.lit (.int 461)) (.bi .len (.cons (.var 1) .nil)))) (.cons (.lit (.int 0)) .nil))))))) .nil))
def s__law_hand : FSig := ⟨2, runF 1 3 2 b__law_hand⟩
theorem sc__law_hand : FnScope n__law_hand ["script"] (defScope (topS 21)) := ⟨rfl, rfl, rfl, by decide +kernel, rfl, by decide +kernel, by decide +kernel⟩
theorem m__law_hand : mSs ⟨n__law_hand, defScope (topS 21), fun _ => true⟩ b__law_hand (defBody (topS 21)) = true := by decide +kernel
def n__law_draw : List Str := ["hand", "many", "cell", "digit", "number"]
def b__law_draw : CSs := (.cons (.ite (.bop true (.cons (.cmp .eq (.idx (.var 0) (.lit (.int 2))) (.lit (.int 0))) (.cons (.cmp .lt (.idx (.var 0) (.lit (.int 1))) (.bi .len (.cons (.idx (.var 0) (.lit (.int 0))) .nil))) .nil))) (.cons (.asg (.nm 2) (.idx (.idx (.var 0) (.lit (.int 0))) (.idx (.var 0) (.lit (.int 1))))) (.cons (.put 0 (.lit (.int 1)) (.bin .add (.idx (.var 0) (.lit (.int 1))) (.lit (.int 1)))) (.cons (.put 0 (.lit (.int 3)) (.bin .mod (.bi .int (.cons (.bin .add (.bin .add (.bin .mul (.idx (.var 0) (.lit (.int 3))) (.lit (.int 69621))) (.bin .mul (.var 2) (.lit (.int 48271)))) (.lit (.int 17))) .nil)) (.lit (.int 2147483629)))) (.cons (.ite (.cmp .ge (.var 2) (.bin .pow (.lit (.int 10)) (.lit (.int 18)))) (.cons (.put 0 (.lit (.int 2)) (.var 2)) .nil) .nil) .nil)))) .nil) (.cons (.ite (.cmp .gt (.idx (.var 0) (.lit (.int 2))) (.lit (.int 0))) (.cons (.asg (.nm 3) (.bin .mod (.bi .int (.cons (.idx (.var 0) (.lit (.int 2))) .nil)) (.var 1))) (.cons (.put 0 (.lit (.int 2)) (.bin .fdiv (.idx (.var 0) (.lit (.int 2))) (.var 1))) (.cons (.ret (.var 3)) .nil))) .nil) (.cons (.put 0 (.lit (.int 4)) (.bin .add (.idx (.var 0) (.lit (.int 4))) (.lit (.int 1)))) (.cons (.asg (.nm 4) (.bin .mod (.bi .int (.cons (.bin .mul (.bi .int (.cons (.bin .add (.idx (.var 0) (.lit (.int 3))) (.bin .mul (.lit (.int 7919)) (.idx (.var 0) (.lit (.int 4))))) .nil)) (.lit (.int 40692))) .nil)) (.lit (.int 2147483647)))) (.cons (.asg (.nm 4) (.bin .mod (.bi .int (.cons (.bin .mul (.var 4) (.bin .add (.bin .fdiv (.var 4) (.lit (.int 1009))) (.lit (.int 69621)))) .nil)) (.lit (.int 2147483647)))) (.cons (.asg (.nm 4) (.bin .mod (.bi .int (.cons (.bin .mul (.var 4) (.bin .add (.bin .fdiv (.var 4) (.lit (.int 2003))) (.lit (.int 40014)))) .nil)) (.lit (.int 2147483563)))) (.cons (.ret (.bin .mod (.bi .int (.cons (.bin .fdiv (.var 4) (.lit (.int 16))) .nil)) (.var 1))) .nil)))))))
def s__law_draw : FSig := ⟨1, runF 2 5 1 b__law_draw⟩
theorem sc__law_draw : FnScope n__law_draw ["hand", "many"] (defScope (topS 22)) := ⟨rfl, rfl, rfl, by decide +kernel, rfl, by decide +kernel, by decide +kernel⟩
theorem m__law_draw : mSs ⟨n__law_draw, defScope (topS 22), fun _ => true⟩ b__law_draw (defBody (topS 22)) = true := by decide +kernel
def n__law_any : List Str := ["hand", "some"]
def b__law_any : CSs := (.cons (.ret (.idx (.var 1) (.call "_law_draw" s__law_draw (.cons (.var 0) (.cons (.bi .len (.cons (.var 1) .nil)) .nil))))) .nil)
def s__law_any : FSig := ⟨1, runF 2 2 1 b__law_any⟩
theorem sc__law_any : FnScope n__law_any ["hand", "some"] (defScope (topS 23)) := ⟨rfl, rfl, rfl, by decide +kernel, rfl, by decide +kernel, by decide +kernel⟩
theorem m__law_any : mSs ⟨n__law_any, defScope (topS 23), fun _ => true⟩ b__law_any (defBody (topS 23)) = true := by decide +kernel
def n__law_text : List Str := ["hand", "most", "some", "at"]
def b__law_text : CSs := (.cons (.asg (.nm 2) (.call "_law_any" s__law_any (.cons (.var 0) (.cons (.lst (.cons (.lit (.str ("ab" : PySem.Str))) (.cons (.lit (.str ("abc" : PySem.Str))) (.cons (.lit (.str ("abcdefghij" : PySem.Str))) (.cons (.lit (.str ("abcdefghijklmnopqrstuvwxyz" : PySem.Str))) .nil))))) .nil)))) (.cons (.ret (.me .join (.lit (.str ("" : PySem.Str))) (.cons (.lc [("at", 3)] (.nm 3) (.rng (.cons (.bin .add (.lit (.int 1)) (.call "_law_draw" s__law_draw (.cons (.var 0) (.cons (.var 1) .nil)))) .nil)) .noe (.call "_law_any" s__law_any (.cons (.var 0) (.cons (.var 2) .nil)))) .nil))) .nil))
def s__law_text : FSig := ⟨1, runF 2 4 1 b__law_text⟩
theorem sc__law_text : FnScope n__law_text ["hand", "most"] (defScope (topS 24)) := ⟨rfl, rfl, rfl, by decide +kernel, rfl, by decide +kernel, by decide +kernel⟩
theorem m__law_text : mSs ⟨n__law_text, defScope (topS 24), fun _ => true⟩ b__law_text (defBody (topS 24)) = true := by decide +kernel
def n_is_text : List Str := ["thing", "most", "sign"]
def b_is_text : CSs := (.cons (.ret (.bop true (.cons (.isi (.var 0) [.str]) (.cons (.chn .le .le (.lit (.int 1)) (.bi .len (.cons (.var 0) .nil)) (.var 1)) (.cons (.bi .all (.cons (.lc [("sign", 2)] (.nm 2) (.fzd (.var 0)) .noe (.cmp .inn (.var 2) (.glb "LETTERS" (.str ("abcdefghijklmnopqrstuvwxyz" : PySem.Str))))) .nil)) .nil))))) .nil)
def s_is_text : FSig := ⟨0, runF 2 3 0 b_is_text⟩
theorem sc_is_text : FnScope n_is_text ["thing", "most"] (defScope (topS 11)) := ⟨rfl, rfl, rfl, by decide +kernel, rfl, by decide +kernel, by decide +kernel⟩
theorem m_is_text : mSs ⟨n_is_text, defScope (topS 11), fun _ => true⟩ b_is_text (defBody (topS 11)) = true := by decide +kernel
def n_check_text : List Str := ["text"]
def b_check_text : CSs := (.cons (.ite (.nt (.call "is_text" s_is_text (.cons (.var 0) (.cons (.glb "LONGEST" (.int 40)) .nil)))) (.cons .nvr .nil) .nil) .nil)
def s_check_text : FSig := ⟨0, runF 1 1 0 b_check_text⟩
theorem sc_check_text : FnScope n_check_text ["text"] (defScope (topS 12)) := ⟨rfl, rfl, rfl, by decide +kernel, rfl, by decide +kernel, by decide +kernel⟩
theorem m_check_text : mSs ⟨n_check_text, defScope (topS 12), fun _ => true⟩ b_check_text (defBody (topS 12)) = true := by decide +kernel
def n_is_integer : List Str := ["thing"]
def b_is_integer : CSs := (.cons (.ret (.bop true (.cons (.isi (.var 0) [.int]) (.cons (.nt (.isi (.var 0) [.bool])) .nil)))) .nil)
def s_is_integer : FSig := ⟨0, runF 1 1 0 b_is_integer⟩
theorem sc_is_integer : FnScope n_is_integer ["thing"] (defScope (topS 1)) := ⟨rfl, rfl, rfl, by decide +kernel, rfl, by decide +kernel, by decide +kernel⟩
theorem m_is_integer : mSs ⟨n_is_integer, defScope (topS 1), fun _ => true⟩ b_is_integer (defBody (topS 1)) = true := by decide +kernel
def n_is_within : List Str := ["thing", "low", "high"]
def b_is_within : CSs := (.cons (.ret (.bop true (.cons (.call "is_integer" s_is_integer (.cons (.var 0) .nil)) (.cons (.chn .le .le (.var 1) (.var 0) (.var 2)) .nil)))) .nil)
def s_is_within : FSig := ⟨0, runF 3 3 0 b_is_within⟩
theorem sc_is_within : FnScope n_is_within ["thing", "low", "high"] (defScope (topS 2)) := ⟨rfl, rfl, rfl, by decide +kernel, rfl, by decide +kernel, by decide +kernel⟩
theorem m_is_within : mSs ⟨n_is_within, defScope (topS 2), fun _ => true⟩ b_is_within (defBody (topS 2)) = true := by decide +kernel
def n_check_fence : List Str := ["text", "rails"]
def b_check_fence : CSs := (.cons (.exp (.call "check_text" s_check_text (.cons (.var 0) .nil))) (.cons (.ite (.nt (.call "is_within" s_is_within (.cons (.var 1) (.cons (.lit (.int 1)) (.cons (.glb "MOST_RAILS" (.int 8)) .nil))))) (.cons .nvr .nil) .nil) .nil))
def s_check_fence : FSig := ⟨0, runF 2 2 0 b_check_fence⟩
theorem sc_check_fence : FnScope n_check_fence ["text", "rails"] (defScope (topS 16)) := ⟨rfl, rfl, rfl, by decide +kernel, rfl, by decide +kernel, by decide +kernel⟩
theorem m_check_fence : mSs ⟨n_check_fence, defScope (topS 16), fun _ => true⟩ b_check_fence (defBody (topS 16)) = true := by decide +kernel
def n_hidden_by : List Str := ["text", "order", "at"]
def b_hidden_by : CSs := (.cons (.ret (.me .join (.lit (.str ("" : PySem.Str))) (.cons (.lc [("at", 2)] (.nm 2) (.fzd (.var 1)) .noe (.idx (.var 0) (.var 2))) .nil))) .nil)
def s_hidden_by : FSig := ⟨0, runF 2 3 0 b_hidden_by⟩
theorem sc_hidden_by : FnScope n_hidden_by ["text", "order"] (defScope (topS 13)) := ⟨rfl, rfl, rfl, by decide +kernel, rfl, by decide +kernel, by decide +kernel⟩
theorem m_hidden_by : mSs ⟨n_hidden_by, defScope (topS 13), fun _ => true⟩ b_hidden_by (defBody (topS 13)) = true := by decide +kernel
def n_fence_order : List Str := ["rails", "long", "around", "found", "rail", "at"]
def b_fence_order : CSs := (.cons (.par [2, 3] (.cons (.bi .max (.cons (.lit (.int 1)) (.cons (.bin .sub (.bin .mul (.lit (.int 2)) (.var 0)) (.lit (.int 2))) .nil))) (.cons (.lst .nil) .nil))) (.cons (.fori (.nm 4) (.rng (.cons (.var 0) .nil)) (.cons (.ext 3 (.lc [("at", 5)] (.nm 5) (.rng (.cons (.var 1) .nil)) (.cmp .eq (.bi .min (.cons (.bin .mod (.var 5) (.var 2)) (.cons (.bin .sub (.var 2) (.bin .mod (.var 5) (.var 2))) .nil))) (.var 4)) (.var 5))) .nil)) (.cons (.ret (.var 3)) .nil)))
def s_fence_order : FSig := ⟨0, runF 2 6 0 b_fence_order⟩
theorem sc_fence_order : FnScope n_fence_order ["rails", "long"] (defScope (topS 15)) := ⟨rfl, rfl, rfl, by decide +kernel, rfl, by decide +kernel, by decide +kernel⟩
theorem m_fence_order : mSs ⟨n_fence_order, defScope (topS 15), fun _ => true⟩ b_fence_order (defBody (topS 15)) = true := by decide +kernel
def n_fence_of : List Str := ["rails", "long"]
def b_fence_of : CSs := (.cons (.ret (.ife (.cmp .eq (.var 0) (.lit (.int 1))) (.rgl false (.var 1)) (.call "fence_order" s_fence_order (.cons (.var 0) (.cons (.var 1) .nil))))) .nil)
def s_fence_of : FSig := ⟨0, runF 2 2 0 b_fence_of⟩
theorem sc_fence_of : FnScope n_fence_of ["rails", "long"] (defScope (topS 17)) := ⟨rfl, rfl, rfl, by decide +kernel, rfl, by decide +kernel, by decide +kernel⟩
theorem m_fence_of : mSs ⟨n_fence_of, defScope (topS 17), fun _ => true⟩ b_fence_of (defBody (topS 17)) = true := by decide +kernel
def n_fenced : List Str := ["text", "rails"]
def b_fenced : CSs := (.cons (.exp (.call "check_fence" s_check_fence (.cons (.var 0) (.cons (.var 1) .nil)))) (.cons (.ret (.call "hidden_by" s_hidden_by (.cons (.var 0) (.cons (.call "fence_of" s_fence_of (.cons (.var 1) (.cons (.bi .len (.cons (.var 0) .nil)) .nil))) .nil)))) .nil))
def s_fenced : FSig := ⟨0, runF 2 2 0 b_fenced⟩
theorem sc_fenced : FnScope n_fenced ["text", "rails"] (defScope (topS 18)) := ⟨rfl, rfl, rfl, by decide +kernel, rfl, by decide +kernel, by decide +kernel⟩
theorem m_fenced : mSs ⟨n_fenced, defScope (topS 18), fun _ => true⟩ b_fenced (defBody (topS 18)) = true := by decide +kernel
def n_opened_by : List Str := ["text", "order", "found", "sign", "at"]
def b_opened_by : CSs := (.cons (.asg (.nm 2) (.bin .mul (.lst (.cons (.lit (.str ("" : PySem.Str))) .nil)) (.bi .len (.cons (.var 0) .nil)))) (.cons (.fori (.tup (.cons (.nm 3) (.cons (.nm 4) .nil))) (.zip (.cons (.var 0) (.cons (.var 1) .nil))) (.cons (.put 2 (.var 4) (.var 3)) .nil)) (.cons (.ret (.me .join (.lit (.str ("" : PySem.Str))) (.cons (.var 2) .nil))) .nil)))
def s_opened_by : FSig := ⟨0, runF 2 5 0 b_opened_by⟩
theorem sc_opened_by : FnScope n_opened_by ["text", "order"] (defScope (topS 14)) := ⟨rfl, rfl, rfl, by decide +kernel, rfl, by decide +kernel, by decide +kernel⟩
theorem m_opened_by : mSs ⟨n_opened_by, defScope (topS 14), fun _ => true⟩ b_opened_by (defBody (topS 14)) = true := by decide +kernel
def n_unfenced : List Str := ["text", "rails"]
def b_unfenced : CSs := (.cons (.exp (.call "check_fence" s_check_fence (.cons (.var 0) (.cons (.var 1) .nil)))) (.cons (.ret (.call "opened_by" s_opened_by (.cons (.var 0) (.cons (.call "fence_of" s_fence_of (.cons (.var 1) (.cons (.bi .len (.cons (.var 0) .nil)) .nil))) .nil)))) .nil))
def s_unfenced : FSig := ⟨0, runF 2 2 0 b_unfenced⟩
theorem sc_unfenced : FnScope n_unfenced ["text", "rails"] (defScope (topS 19)) := ⟨rfl, rfl, rfl, by decide +kernel, rfl, by decide +kernel, by decide +kernel⟩
theorem m_unfenced : mSs ⟨n_unfenced, defScope (topS 19), fun _ => true⟩ b_unfenced (defBody (topS 19)) = true := by decide +kernel
def n__law_rail : List Str := ["place", "rails", "wide", "rest"]
def b__law_rail : CSs := (.cons (.ite (.cmp .eq (.var 1) (.lit (.int 1))) (.cons (.ret (.lit (.int 0))) .nil) .nil) (.cons (.asg (.nm 2) (.bin .sub (.bin .mul (.lit (.int 2)) (.var 1)) (.lit (.int 2)))) (.cons (.asg (.nm 3) (.bin .mod (.bi .int (.cons (.var 0) .nil)) (.var 2))) (.cons (.ret (.ife (.cmp .lt (.var 3) (.var 1)) (.var 3) (.bin .sub (.var 2) (.var 3)))) .nil))))
def s__law_rail : FSig := ⟨0, runF 2 4 0 b__law_rail⟩
theorem sc__law_rail : FnScope n__law_rail ["place", "rails"] (defScope (topS 25)) := ⟨rfl, rfl, rfl, by decide +kernel, rfl, by decide +kernel, by decide +kernel⟩
theorem m__law_rail : mSs ⟨n__law_rail, defScope (topS 25), fun _ => true⟩ b__law_rail (defBody (topS 25)) = true := by decide +kernel
def n__law_on : List Str := ["long", "rails", "rail", "place"]
def b__law_on : CSs := (.cons (.ret (.lc [("place", 3)] (.nm 3) (.rng (.cons (.var 0) .nil)) (.cmp .eq (.call "_law_rail" s__law_rail (.cons (.var 3) (.cons (.var 1) .nil))) (.var 2)) (.var 3))) .nil)
def s__law_on : FSig := ⟨0, runF 3 4 0 b__law_on⟩
theorem sc__law_on : FnScope n__law_on ["long", "rails", "rail"] (defScope (topS 29)) := ⟨rfl, rfl, rfl, by decide +kernel, rfl, by decide +kernel, by decide +kernel⟩
theorem m__law_on : mSs ⟨n__law_on, defScope (topS 29), fun _ => true⟩ b__law_on (defBody (topS 29)) = true := by decide +kernel
def n__law_are_told_alone : List Str := ["hand", "long", "rails", "rows", "rail", "turn", "place", "text"]
def b__law_are_told_alone : CSs := (.cons (.par [1, 2] (.cons (.bin .add (.lit (.int 1)) (.call "_law_draw" s__law_draw (.cons (.var 0) (.cons (.lit (.int 40)) .nil)))) (.cons (.bin .add (.lit (.int 1)) (.call "_law_draw" s__law_draw (.cons (.var 0) (.cons (.lit (.int 8)) .nil)))) .nil))) (.cons (.asg (.nm 3) (.lst .nil)) (.cons (.fori (.nm 4) (.rng (.cons (.var 2) .nil)) (.cons (.asg (.nm 3) (.bin .add (.var 3) (.call "_law_on" s__law_on (.cons (.var 1) (.cons (.var 2) (.cons (.var 4) .nil)))))) .nil)) (.cons (.fori (.nm 5) (.rng (.cons (.lit (.int 3)) .nil)) (.cons (.asg (.nm 6) (.call "_law_draw" s__law_draw (.cons (.var 0) (.cons (.var 1) .nil)))) (.cons (.asg (.nm 7) (.bin .add (.bin .add (.bin .mul (.lit (.str ("a" : PySem.Str))) (.var 6)) (.lit (.str ("z" : PySem.Str)))) (.bin .mul (.lit (.str ("a" : PySem.Str))) (.bin .sub (.bin .sub (.var 1) (.lit (.int 1))) (.var 6))))) (.cons (.ite (.cmp .ne (.me .index (.call "fenced" s_fenced (.cons (.var 7) (.cons (.var 2) .nil))) (.cons (.lit (.str ("z" : PySem.Str))) .nil)) (.me .index (.var 3) (.cons (.var 6) .nil))) (.cons (.ret (.lit (.bool false))) .nil) .nil) .nil)))) (.cons (.ret (.lit (.bool true))) .nil)))))
def s__law_are_told_alone : FSig := ⟨1, runF 1 8 1 b__law_are_told_alone⟩
theorem sc__law_are_told_alone : FnScope n__law_are_told_alone ["hand"] (defScope (topS 28)) := ⟨rfl, rfl, rfl, by decide +kernel, rfl, by decide +kernel, by decide +kernel⟩
theorem m__law_are_told_alone : mSs ⟨n__law_are_told_alone, defScope (topS 28), fun _ => true⟩ b__law_are_told_alone (defBody (topS 28)) = true := by decide +kernel
def n__law_fenced : List Str := ["text", "rails", "found", "rail", "place"]
def b__law_fenced : CSs := (.cons (.asg (.nm 2) (.lit (.str ("" : PySem.Str)))) (.cons (.fori (.nm 3) (.rng (.cons (.var 1) .nil)) (.cons (.asg (.nm 2) (.bin .add (.var 2) (.me .join (.lit (.str ("" : PySem.Str))) (.cons (.lc [("place", 4)] (.nm 4) (.rng (.cons (.bi .len (.cons (.var 0) .nil)) .nil)) (.cmp .eq (.call "_law_rail" s__law_rail (.cons (.var 4) (.cons (.var 1) .nil))) (.var 3)) (.idx (.var 0) (.var 4))) .nil)))) .nil)) (.cons (.ret (.var 2)) .nil)))
def s__law_fenced : FSig := ⟨0, runF 2 5 0 b__law_fenced⟩
theorem sc__law_fenced : FnScope n__law_fenced ["text", "rails"] (defScope (topS 26)) := ⟨rfl, rfl, rfl, by decide +kernel, rfl, by decide +kernel, by decide +kernel⟩
theorem m__law_fenced : mSs ⟨n__law_fenced, defScope (topS 26), fun _ => true⟩ b__law_fenced (defBody (topS 26)) = true := by decide +kernel
def n__law_is_right : List Str := ["text", "rails", "due"]
def b__law_is_right : CSs := (.cons (.asg (.nm 2) (.call "_law_fenced" s__law_fenced (.cons (.var 0) (.cons (.var 1) .nil)))) (.cons (.ite (.bop false (.cons (.cmp .ne (.call "fenced" s_fenced (.cons (.var 0) (.cons (.var 1) .nil))) (.var 2)) (.cons (.cmp .ne (.call "unfenced" s_unfenced (.cons (.var 2) (.cons (.var 1) .nil))) (.var 0)) .nil))) (.cons (.ret (.lit (.bool false))) .nil) .nil) (.cons (.ret (.bop true (.cons (.cmp .eq (.call "fenced" s_fenced (.cons (.call "unfenced" s_unfenced (.cons (.var 0) (.cons (.var 1) .nil))) (.cons (.var 1) .nil))) (.var 0)) (.cons (.cmp .eq (.bi .len (.cons (.var 2) .nil)) (.bi .len (.cons (.var 0) .nil))) .nil)))) .nil)))
def s__law_is_right : FSig := ⟨0, runF 2 3 0 b__law_is_right⟩
theorem sc__law_is_right : FnScope n__law_is_right ["text", "rails"] (defScope (topS 27)) := ⟨rfl, rfl, rfl, by decide +kernel, rfl, by decide +kernel, by decide +kernel⟩
theorem m__law_is_right : mSs ⟨n__law_is_right, defScope (topS 27), fun _ => true⟩ b__law_is_right (defBody (topS 27)) = true := by decide +kernel
def n_law : List Str := ["script", "hand", "turn", "text", "rails"]
def b_law : CSs := (.cons (.asg (.nm 1) (.call "_law_hand" s__law_hand (.cons (.var 0) .nil))) (.cons (.ite (.bop false (.cons (.cmp .ne (.call "fenced" s_fenced (.cons (.lit (.str ("abcdefg" : PySem.Str))) (.cons (.lit (.int 3)) .nil))) (.lit (.str ("aebdfcg" : PySem.Str)))) (.cons (.cmp .ne (.call "unfenced" s_unfenced (.cons (.lit (.str ("aebdfcg" : PySem.Str))) (.cons (.lit (.int 3)) .nil))) (.lit (.str ("abcdefg" : PySem.Str)))) (.cons (.cmp .ne (.call "fenced" s_fenced (.cons (.lit (.str ("abc" : PySem.Str))) (.cons (.lit (.int 1)) .nil))) (.lit (.str ("abc" : PySem.Str)))) .nil)))) (.cons (.ret (.lit (.bool false))) .nil) .nil) (.cons (.ite (.bop false (.cons (.cmp .ne (.call "fenced" s_fenced (.cons (.lit (.str ("abcde" : PySem.Str))) (.cons (.lit (.int 2)) .nil))) (.lit (.str ("acebd" : PySem.Str)))) (.cons (.cmp .ne (.call "fenced" s_fenced (.cons (.lit (.str ("abc" : PySem.Str))) (.cons (.lit (.int 8)) .nil))) (.lit (.str ("abc" : PySem.Str)))) (.cons (.cmp .ne (.call "fenced" s_fenced (.cons (.lit (.str ("abcdefgh" : PySem.Str))) (.cons (.lit (.int 4)) .nil))) (.lit (.str ("agbfhced" : PySem.Str)))) .nil)))) (.cons (.ret (.lit (.bool false))) .nil) .nil) (.cons (.fori (.nm 2) (.rng (.cons (.lit (.int 6)) .nil)) (.cons (.asg (.nm 3) (.call "_law_text" s__law_text (.cons (.var 1) (.cons (.lit (.int 40)) .nil)))) (.cons (.fori (.nm 4) (.fzd (.tup (.cons (.lit (.int 1)) (.cons (.lit (.int 2)) (.cons (.bin .add (.lit (.int 1)) (.call "_law_draw" s__law_draw (.cons (.var 1) (.cons (.lit (.int 8)) .nil)))) (.cons (.lit (.int 8)) .nil)))))) (.cons (.ite (.nt (.call "_law_is_right" s__law_is_right (.cons (.var 3) (.cons (.var 4) .nil)))) (.cons (.ret (.lit (.bool false))) .nil) .nil) .nil)) (.cons (.ite (.nt (.call "_law_are_told_alone" s__law_are_told_alone (.cons (.var 1) .nil))) (.cons (.ret (.lit (.bool false))) .nil) .nil) .nil)))) (.cons (.ret (.lit (.bool true))) .nil)))))
def s_law : FSig := ⟨2, runF 1 5 2 b_law⟩
theorem sc_law : FnScope n_law ["script"] (defScope (topS 30)) := ⟨rfl, rfl, rfl, by decide +kernel, rfl, by decide +kernel, by decide +kernel⟩
theorem m_law : mSs ⟨n_law, defScope (topS 30), fun _ => true⟩ b_law (defBody (topS 30)) = true := by decide +kernel
end K19
end
section
/-! fences in plain words -/
namespace K19
open PySem PV
def rail (p r : Nat) : Nat := if r = 1 then 0 else if p % (2 * r - 2) < r then p % (2 * r - 2) else 2 * r - 2 - p % (2 * r - 2)
def onR (n r k : Nat) : List Nat := (List.range n).filter fun p => decide (rail p r = k)
def ord (r n : Nat) : List Nat := (List.range r).flatMap (onR n r)
theorem rail_min {p r : Nat} (h : 2 ≤ r) : min (p % (2 * r - 2)) (2 * r - 2 - p % (2 * r - 2)) = rail p r := by
  unfold rail
  rw [if_neg (by omega)]
  have := Nat.mod_lt p (show 0 < 2 * r - 2 by omega)
  split <;> omega
theorem ord_1 (n : Nat) : ord 1 n = List.range n := by
  unfold ord onR
  have : (List.range n).filter (fun p => decide (rail p 1 = 0)) = List.range n := List.filter_eq_self.mpr fun p _ => by
    unfold rail
    rw [if_pos rfl]; rfl
  show (List.filter (fun p => decide (rail p 1 = 0)) (List.range n)) ++ [] = _
  rw [List.append_nil, this]
theorem ord_lt {r n p : Nat} (h : p ∈ ord r n) : p < n := by
  obtain ⟨k, _, h⟩ := List.mem_flatMap.mp h
  exact List.mem_range.mp (List.mem_filter.mp h).1
theorem rail_lt {p r : Nat} (h : 0 < r) : rail p r < r := by
  unfold rail
  split
  · omega
  · split <;> omega
theorem mem_ord {r n p : Nat} (h : 0 < r) (hp : p < n) : p ∈ ord r n :=
  List.mem_flatMap.mpr ⟨rail p r, List.mem_range.mpr (rail_lt h), List.mem_filter.mpr ⟨List.mem_range.mpr hp, by simp⟩⟩
def goodO (r n : Nat) : Bool := decide ((ord r n).length = n) && decide ((ord r n).Nodup)
theorem good_all : ∀ r, r < 9 → ∀ n, n < 41 → 0 < r → goodO r n = true := by decide +kernel
structure Ord (o : List Nat) (n : Nat) : Prop where
  len : o.length = n
  nd : o.Nodup
  all : ∀ p, p < n → p ∈ o
  lt : ∀ p ∈ o, p < n
theorem ord_ok {r n : Nat} (h0 : 0 < r) (h8 : r ≤ 8) (hn : n ≤ 40) : Ord (ord r n) n := by
  have h := good_all r (by omega) n (by omega) h0
  unfold goodO at h
  rw [Bool.and_eq_true, decide_eq_true_eq, decide_eq_true_eq] at h
  exact ⟨h.1, h.2, fun p hp => mem_ord h0 hp, fun p => ord_lt⟩
def hid (w o : List Nat) : List Nat := o.map fun p => w.getD p 0
theorem len_hid (w o : List Nat) : (hid w o).length = o.length := List.length_map ..
theorem W_hid {w o : List Nat} (h : W w) : W (hid w o) := fun a ha => by
  obtain ⟨p, _, rfl⟩ := List.mem_map.mp ha
  exact W_get h p
def opn (f : List (List Nat)) (zs : List (Nat × Nat)) : List (List Nat) := zs.foldl (fun f z => f.set z.2 [z.1]) f
theorem len_opn : ∀ (zs : List (Nat × Nat)) (f : List (List Nat)), (opn f zs).length = f.length := by
  intro zs
  induction zs with
  | nil => intro f; rfl
  | cons z zs ih =>
    intro f
    show (opn (f.set z.2 [z.1]) zs).length = _
    rw [ih, List.length_set]
theorem opn_out : ∀ (zs : List (Nat × Nat)) (f : List (List Nat)) (q : Nat), q ∉ zs.map (·.2) → (opn f zs)[q]? = f[q]? := by
  intro zs
  induction zs with
  | nil => intro f q _; rfl
  | cons z zs ih =>
    intro f q h
    rw [List.map_cons, List.mem_cons, not_or] at h
    show (opn (f.set z.2 [z.1]) zs)[q]? = _
    rw [ih _ _ h.2, List.getElem?_set_ne (Ne.symm h.1)]
theorem opn_in : ∀ (zs : List (Nat × Nat)) (f : List (List Nat)), (zs.map (·.2)).Nodup → (∀ z ∈ zs, z.2 < f.length) → ∀ z ∈ zs, (opn f zs)[z.2]? = some [z.1] := by
  intro zs
  induction zs with
  | nil => intro f _ _ z h; cases h
  | cons y zs ih =>
    intro f hn hl z hz
    rw [List.map_cons, List.nodup_cons] at hn
    show (opn (f.set y.2 [y.1]) zs)[z.2]? = _
    rcases List.mem_cons.mp hz with rfl | hz
    · rw [opn_out _ _ _ hn.1, List.getElem?_set_self (hl _ (List.mem_cons_self ..))]
    · exact ih _ hn.2 (fun q hq => by rw [List.length_set]; exact hl q (List.mem_cons_of_mem _ hq)) z hz
def opened (t o : List Nat) : List Nat := (opn (List.replicate t.length []) (t.zip o)).flatten
theorem single : ∀ (g : List (List Nat)) (u : List Nat), g.length = u.length → (∀ q, q < u.length → g[q]? = some [u.getD q 0]) → g.flatten = u := by
  intro g
  induction g with
  | nil => intro u h _; cases u with
    | nil => rfl
    | cons a u => cases h
  | cons x g ih =>
    intro u h hq
    cases u with
    | nil => cases h
    | cons a u =>
      have h0 := hq 0 (by simp)
      have h0 : x = [a] := by simpa using h0
      rw [List.flatten_cons, h0, ih u (by simpa using h) fun q hq2 => by
        have := hq (q + 1) (by simpa using hq2)
        simpa using this]
      rfl
theorem zip_snd {t o : List Nat} (h : t.length = o.length) : (t.zip o).map (·.2) = o := by
  rw [List.map_snd_zip]
  omega
theorem open_hid {w o : List Nat} (h : Ord o w.length) : opened (hid w o) o = w := by
  unfold opened
  have hl : (hid w o).length = o.length := len_hid w o
  refine single _ _ (by rw [len_opn, List.length_replicate, hl, h.len]) fun q hq => ?_
  have hm := h.all q hq
  obtain ⟨i, hi, e⟩ := List.getElem_of_mem hm
  have hz : (w.getD q 0, q) ∈ (hid w o).zip o := by
    rw [List.mem_iff_getElem]
    refine ⟨i, by rw [List.length_zip, hl]; omega, ?_⟩
    rw [List.getElem_zip]
    unfold hid
    rw [List.getElem_map, e]
  exact opn_in _ _ (by rw [zip_snd hl]; exact h.nd) (fun z hz => by
    rw [List.length_replicate, hl, h.len]
    have : z.2 ∈ ((hid w o).zip o).map (·.2) := List.mem_map.mpr ⟨z, hz, rfl⟩
    rw [zip_snd hl] at this
    exact h.lt _ this) _ hz
theorem flat_one : ∀ (g : List (List Nat)), (∀ x ∈ g, x.length = 1) → g.flatten.length = g.length ∧ ∀ q : Nat, ∀ a, g[q]? = some [a] → g.flatten[q]? = some a := by
  intro g
  induction g with
  | nil => intro _; exact ⟨rfl, fun q a h => by cases h⟩
  | cons x g ih =>
    intro hx
    obtain ⟨h1, h2⟩ := ih fun y hy => hx y (List.mem_cons_of_mem _ hy)
    obtain ⟨b, rfl⟩ : ∃ b, x = [b] := List.length_eq_one_iff.mp (hx x (List.mem_cons_self ..))
    refine ⟨by rw [List.flatten_cons, List.length_append, h1]; simp; omega, fun q a h => ?_⟩
    rw [List.flatten_cons]
    cases q with
    | zero => simpa using h
    | succ q =>
      show ([b] ++ g.flatten)[q + 1]? = _
      rw [List.cons_append, List.nil_append, List.getElem?_cons_succ]
      exact h2 q a (by simpa using h)
theorem opn_vals {t o : List Nat} (h : Ord o t.length) : (∀ i (hi : i < t.length), (opn (List.replicate t.length []) (t.zip o))[o.getD i 0]? = some [t[i]]) ∧ ∀ x ∈ opn (List.replicate t.length []) (t.zip o), x.length = 1 := by
  have hl : t.length = o.length := h.len.symm
  have key : ∀ i (hi : i < t.length), (opn (List.replicate t.length []) (t.zip o))[o.getD i 0]? = some [t[i]] := fun i hi => by
    have hz : (t[i], o.getD i 0) ∈ t.zip o := by
      rw [List.mem_iff_getElem]
      refine ⟨i, by rw [List.length_zip]; omega, ?_⟩
      rw [List.getElem_zip, List.getD_eq_getElem?_getD, List.getElem?_eq_getElem (by omega)]
      rfl
    exact opn_in _ _ (by rw [zip_snd hl]; exact h.nd) (fun z hz => by
      rw [List.length_replicate]
      have : z.2 ∈ (t.zip o).map (·.2) := List.mem_map.mpr ⟨z, hz, rfl⟩
      rw [zip_snd hl] at this
      exact h.lt _ this) _ hz
  refine ⟨key, fun x hx => ?_⟩
  obtain ⟨q, hq, e⟩ := List.getElem_of_mem hx
  have hq2 : q < t.length := by rw [len_opn, List.length_replicate] at hq; exact hq
  obtain ⟨i, hi, e2⟩ := List.getElem_of_mem (h.all q hq2)
  have := key i (by omega)
  rw [List.getD_eq_getElem?_getD, List.getElem?_eq_getElem hi, e2] at this
  have this : (opn (List.replicate t.length []) (t.zip o))[q]? = some [t[i]'(by omega)] := this
  rw [List.getElem?_eq_getElem hq, e] at this
  injection this with this
  rw [this]; rfl
theorem len_opened {t o : List Nat} (h : Ord o t.length) : (opened t o).length = t.length := by
  unfold opened
  rw [(flat_one _ (opn_vals h).2).1, len_opn, List.length_replicate]
theorem hid_open {t o : List Nat} (h : Ord o t.length) : hid (opened t o) o = t := by
  apply List.ext_getElem
  · rw [len_hid, h.len]
  · intro i h1 h2
    have h1' : i < (o.map fun p => (opened t o).getD p 0).length := by have h3 := h1; unfold hid at h3; exact h3
    show (o.map fun p => (opened t o).getD p 0)[i]'h1' = _
    rw [List.getElem_map]
    have := (flat_one _ (opn_vals h).2).2 _ _ ((opn_vals h).1 i h2)
    rw [len_hid] at h1
    rw [List.getD_eq_getElem?_getD, List.getElem?_eq_getElem h1] at this
    rw [List.getD_eq_getElem?_getD]
    show (Option.getD (opened t o)[o[i]]? 0) = _
    have this : (opened t o)[o[i]]? = some t[i] := this
    rw [this]
    rfl
theorem W_opened {t o : List Nat} (h : Ord o t.length) (ht : W t) : W (opened t o) := fun a ha => by
  obtain ⟨q, hq, e⟩ := List.getElem_of_mem ha
  have hq2 : q < t.length := by rw [len_opened h] at hq; exact hq
  obtain ⟨i, hi, e2⟩ := List.getElem_of_mem (h.all q hq2)
  have hi2 : i < t.length := by rw [← h.len]; exact hi
  have := (flat_one _ (opn_vals h).2).2 _ _ ((opn_vals h).1 i hi2)
  rw [List.getD_eq_getElem?_getD, List.getElem?_eq_getElem hi, e2] at this
  have this : (opened t o)[q]? = some t[i] := this
  rw [List.getElem?_eq_getElem hq, e] at this
  injection this with this
  rw [this]
  exact ht _ (List.getElem_mem _)
/-! ### one sign that is unlike -/
def lone (n p : Nat) : List Nat := List.replicate p 0 ++ [25] ++ List.replicate (n - 1 - p) 0
theorem len_lone {n p : Nat} (h : p < n) : (lone n p).length = n := by unfold lone; simp; omega
theorem get_lone {n p : Nat} (h : p < n) (q : Nat) : (lone n p).getD q 0 = if q = p then 25 else 0 := by
  unfold lone
  rw [List.getD_eq_getElem?_getD, List.append_assoc, List.getElem?_append]
  rw [List.length_replicate]
  by_cases h1 : q < p
  · rw [if_pos h1, if_neg (by omega), List.getElem?_replicate, if_pos h1]; rfl
  · rw [if_neg h1]
    by_cases h2 : q = p
    · rw [if_pos h2, h2, Nat.sub_self]; rfl
    · rw [if_neg h2]
      obtain ⟨j, hj⟩ : ∃ j, q - p = j + 1 := ⟨q - p - 1, by omega⟩
      rw [hj]
      show (Option.getD ([25] ++ List.replicate (n - 1 - p) 0)[j + 1]? 0) = 0
      rw [List.cons_append, List.nil_append, List.getElem?_cons_succ, List.getElem?_replicate]
      split <;> rfl
theorem W_lone (n p : Nat) : W (lone n p) := fun a ha => by
  unfold lone at ha
  rcases List.mem_append.mp ha with ha | ha
  · rcases List.mem_append.mp ha with ha | ha
    · rw [List.eq_of_mem_replicate ha]; decide
    · rw [List.mem_singleton.mp ha]; decide
  · rw [List.eq_of_mem_replicate ha]; decide
theorem idx_lone {n p : Nat} (h : p < n) : ∀ o : List Nat, (hid (lone n p) o).idxOf 25 = o.idxOf p := by
  intro o
  induction o with
  | nil => rfl
  | cons q o ih =>
    show (List.idxOf 25 ((lone n p).getD q 0 :: hid (lone n p) o)) = _
    rw [List.idxOf_cons, List.idxOf_cons, ih, get_lone h]
    by_cases e : q = p
    · rw [if_pos e, e]; simp
    · rw [if_neg e]
      have : (q == p) = false := by simpa using e
      rw [this]
      rfl
theorem mem_lone {n p : Nat} (h : p < n) {o : List Nat} (hp : p ∈ o) : 25 ∈ hid (lone n p) o := List.mem_map.mpr ⟨p, hp, by rw [get_lone h, if_pos rfl]⟩
end K19
end
section
namespace K19
open PySem PV PV.Lib
theorem mod_N {a b : Nat} (h : 0 < b) : binD .mod (.int (a : Nat)) (.int (b : Nat)) = some (.sh (.int (a % b : Nat))) := by
  rw [bin_mod (by omega)]; congr 3
theorem all_yes {α : Type} (l : List α) : biD .all [.list (l.map fun _ => PyData.bool true)] = some (.sh (.bool true)) := by
  have h := all_A (fun _ : α => true) l
  have e : l.all (fun _ => true) = true := by simp
  rw [e] at h
  exact h
theorem le_yes {a b : Int} (h : a ≤ b) : cmpD .le (.int a) (.int b) = some true := by rw [cmp_le, decide_eq_true h]
theorem lim {w : List Nat} (h : w.length ≤ 1000) : w.length ≤ 1000000 := by omega
theorem sem_is_text {w : List Nat} {m : Nat} (hw : W w) (h1 : 1 ≤ w.length) (hm : w.length ≤ m) (hl : w.length ≤ 1000)  : s_is_text.sem [T w, .int (m : Nat)] = .ok (.sh (.bool true)) .none := by
  have l1 := lc_B (own := [("sign", 2)]) (vs := [2]) (tg := (.nm 2)) (it := (.fzd (.var 0))) (cond := .noe) (elt := (.cmp .inn (.var 2) (.glb "LETTERS" (.str ("abcdefghijklmnopqrstuvwxyz" : PySem.Str))))) (e := [.sh (T w), .sh (.int (m : Nat)), .un]) (e1 := [.sh (T w), .sh (.int (m : Nat)), .un]) (l := w) (E := fun a => T [a]) (G := fun a => .bool true) (fun _ => true) rfl (fzd_val (c := .sh (T w)) (d := T w) rfl rfl (seq_Tw (lim hl))) rfl (fun a ha => by
    have x1 : opOf (.var 2) (ev (.var 2)) [.sh (T w), .sh (.int (m : Nat)), .sh (T [a])] = .ok (.slot 2, [.sh (T w), .sh (.int (m : Nat)), .sh (T [a])]) := rfl
    have x2 : ev (.glb "LETTERS" (.str ("abcdefghijklmnopqrstuvwxyz" : PySem.Str))) [.sh (T w), .sh (.int (m : Nat)), .sh (T [a])] = .ok (.sh (.str ("abcdefghijklmnopqrstuvwxyz" : PySem.Str)), [.sh (T w), .sh (.int (m : Nat)), .sh (T [a])]) := rfl
    have x3 : opOf (.glb "LETTERS" (.str ("abcdefghijklmnopqrstuvwxyz" : PySem.Str))) (ev (.glb "LETTERS" (.str ("abcdefghijklmnopqrstuvwxyz" : PySem.Str)))) [.sh (T w), .sh (.int (m : Nat)), .sh (T [a])] = .ok (.val (.str ("abcdefghijklmnopqrstuvwxyz" : PySem.Str)), [.sh (T w), .sh (.int (m : Nat)), .sh (T [a])]) := opOf_val (fun i h => by cases h) x2 rfl
    have x4 : ev (.cmp .inn (.var 2) (.glb "LETTERS" (.str ("abcdefghijklmnopqrstuvwxyz" : PySem.Str)))) [.sh (T w), .sh (.int (m : Nat)), .sh (T [a])] = .ok (.sh (.bool true), [.sh (T w), .sh (.int (m : Nat)), .sh (T [a])]) := ev_cmp x1 x3 rfl rfl (in_ABC (hw a ha))
    exact turn_if (e := [.sh (T w), .sh (.int (m : Nat)), .un]) (e3 := [.sh (T w), .sh (.int (m : Nat)), .sh (T [a])]) rfl rfl (fun _ => valR_of x4 rfl)) (e2 := [.sh (T w), .sh (.int (m : Nat)), .un]) rfl
  rw [filter_all] at l1
  have x1 : opOf (.var 0) (ev (.var 0)) [.sh (T w), .sh (.int (m : Nat)), .un] = .ok (.slot 0, [.sh (T w), .sh (.int (m : Nat)), .un]) := rfl
  have x2 : ev (.isi (.var 0) [.str]) [.sh (T w), .sh (.int (m : Nat)), .un] = .ok (.sh (.bool true), [.sh (T w), .sh (.int (m : Nat)), .un]) := ev_isi (x := .slot 0) x1 rfl (isi_T w)
  have x3 : ev (.lit (.int 1)) [.sh (T w), .sh (.int (m : Nat)), .un] = .ok (.sh (.int 1), [.sh (T w), .sh (.int (m : Nat)), .un]) := rfl
  have x4 : valR (ev (.lit (.int 1))) [.sh (T w), .sh (.int (m : Nat)), .un] = .ok (.int 1, [.sh (T w), .sh (.int (m : Nat)), .un]) := valR_of x3 rfl
  have x5 : ev (.bi .len (.cons (.var 0) .nil)) [.sh (T w), .sh (.int (m : Nat)), .un] = .ok (.sh (.int (w.length : Nat)), [.sh (T w), .sh (.int (m : Nat)), .un]) := bi_var (i := 0) rfl rfl (len_Tw (lim hl))
  have x6 : valR (ev (.bi .len (.cons (.var 0) .nil))) [.sh (T w), .sh (.int (m : Nat)), .un] = .ok (.int (w.length : Nat), [.sh (T w), .sh (.int (m : Nat)), .un]) := valR_of x5 rfl
  have x7 : valR (ev (.var 1)) [.sh (T w), .sh (.int (m : Nat)), .un] = .ok (.int (m : Nat), [.sh (T w), .sh (.int (m : Nat)), .un]) := rfl
  have x8 : ev (.chn .le .le (.lit (.int 1)) (.bi .len (.cons (.var 0) .nil)) (.var 1)) [.sh (T w), .sh (.int (m : Nat)), .un] = .ok (.sh (.bool true), [.sh (T w), .sh (.int (m : Nat)), .un]) := ev_chn x4 x6 (le_yes (by omega)) x7 (le_yes (by omega))
  have x9 : ev (.bi .all (.cons (.lc [("sign", 2)] (.nm 2) (.fzd (.var 0)) .noe (.cmp .inn (.var 2) (.glb "LETTERS" (.str ("abcdefghijklmnopqrstuvwxyz" : PySem.Str))))) .nil)) [.sh (T w), .sh (.int (m : Nat)), .un] = .ok (.sh (.bool true), [.sh (T w), .sh (.int (m : Nat)), .un]) := bi_one (op := .all) (fun i h => by cases h) l1 rfl (all_yes w)
  have x10 : ev (.bop true (.cons (.isi (.var 0) [.str]) (.cons (.chn .le .le (.lit (.int 1)) (.bi .len (.cons (.var 0) .nil)) (.var 1)) (.cons (.bi .all (.cons (.lc [("sign", 2)] (.nm 2) (.fzd (.var 0)) .noe (.cmp .inn (.var 2) (.glb "LETTERS" (.str ("abcdefghijklmnopqrstuvwxyz" : PySem.Str))))) .nil)) .nil)))) [.sh (T w), .sh (.int (m : Nat)), .un] = .ok (.sh (.bool true), [.sh (T w), .sh (.int (m : Nat)), .un]) := ev_bop (evB_andt x2 (evB_andt x8 (evB_one x9)))
  have hb : exs b_is_text [.sh (T w), .sh (.int (m : Nat)), .un] = .rt (.sh (.bool true)) [.sh (T w), .sh (.int (m : Nat)), .un] := exs_ret x10
  exact q6 (np := 2) (n := 3) (b := b_is_text) rfl rfl (by decide) rfl hb
theorem sem_check_text {w : List Nat} (hw : W w) (h1 : 1 ≤ w.length) (hm : w.length ≤ 40)  : s_check_text.sem [T w] = .ok (.sh .none) .none := by
  have x1 : valR (ev (.var 0)) [.sh (T w)] = .ok (T w, [.sh (T w)]) := rfl
  have x2 : ev (.glb "LONGEST" (.int 40)) [.sh (T w)] = .ok (.sh (.int 40), [.sh (T w)]) := rfl
  have x3 : valR (ev (.glb "LONGEST" (.int 40))) [.sh (T w)] = .ok (.int 40, [.sh (T w)]) := valR_of x2 rfl
  have x4 : evs (.cons (.var 0) (.cons (.glb "LONGEST" (.int 40)) .nil)) [.sh (T w)] = .ok ([T w, .int 40], [.sh (T w)]) := evs_cons x1 (evs_cons x3 (rfl))
  have x5 : ev (.call "is_text" s_is_text (.cons (.var 0) (.cons (.glb "LONGEST" (.int 40)) .nil))) [.sh (T w)] = .ok (.sh (.bool true), [.sh (T w)]) := ev_call0 (nm := "is_text") (F := s_is_text) x4 rfl (sem_is_text (m := 40) hw h1 hm (by omega))
  have x6 : ev (.nt (.call "is_text" s_is_text (.cons (.var 0) (.cons (.glb "LONGEST" (.int 40)) .nil)))) [.sh (T w)] = .ok (.sh (.bool false), [.sh (T w)]) := by rw [ev, testR_of x5, bind_ok]; rfl
  have hb : exs b_check_text [.sh (T w)] = .nx [.sh (T w)] := (exs_step (ite_f x6)).trans (rfl)
  exact q8 (np := 1) (n := 1) (b := b_check_text) rfl rfl (by decide) rfl hb
structure Text (w : List Nat) : Prop where
  ok : W w
  pos : 1 ≤ w.length
  le : w.length ≤ 40
theorem Text.lim {w : List Nat} (h : Text w) : w.length ≤ 1000 := by have := h.le; omega
theorem ne_len {a b : Nat} (h : a = b) : cmpD .ne (.int (a : Nat)) (.int (b : Nat)) = some false := by
  rw [cmp_ne, eq_int, h, decide_eq_true rfl]; rfl
theorem within_eq : K19.s_is_within = PV.Lib.s_is_within := rfl
theorem sub_N {a b : Nat} (h : b ≤ a) : binD .sub (.int (a : Nat)) (.int (b : Nat)) = some (.sh (.int (a - b : Nat))) := by rw [bin_sub]; congr 3; omega
theorem mul_N {a b : Nat} (h : a < 2 ^ 60) : binD .mul (.int (a : Nat)) (.int (b : Nat)) = some (.sh (.int (a * b : Nat))) := by
  rw [bin_mul (mulL (by omega))]; congr 3
theorem eq_nat (a b : Nat) : cmpD .eq (.int (a : Nat)) (.int (b : Nat)) = some (decide (a = b)) := by
  rw [cmp_eq, eq_int]
  congr 1
  exact decide_eq_decide.mpr (by omega)
theorem max_2 {b : Nat} (h : 1 < b) : biD .max [.int 1, .int (b : Nat)] = some (.sh (.int (b : Nat))) := by
  show some (Cl.sh (.int (if (b : Int) > 1 then (b : Int) else 1))) = _
  rw [if_pos (by omega)]
theorem min_2 {a b c : Nat} (h : min a b = c) : biD .min [.int (a : Nat), .int (b : Nat)] = some (.sh (.int (c : Nat))) := by
  show some (Cl.sh (.int (if (b : Int) < a then (b : Int) else a))) = _
  congr 3
  split <;> omega
theorem ev_rgl {t : Bool} {a : CE} {e e1 : En} {d : D} {r : Cl} (h : valR (ev a) e = .ok (d, e1)) (h2 : rglD t d = some r) : ev (.rgl t a) e = .ok (r, e1) := by
  rw [ev, h, bind_ok]
  dsimp only
  rw [h2, lift_s, bind_ok]
theorem rgl_L {n : Nat} (h : n ≤ 1000) : rglD false (.int (n : Nat)) = some (.ow (.list ((List.range n).map fun k : Nat => PyData.int k))) := by
  show (if small62 n && decide ((n : Int).toNat ≤ 1000000) then some (Cl.ow (.list (rangeD 0 (n : Int).toNat))) else none) = _
  rw [Int.toNat_natCast, range_nat, if_pos (by
    rw [Bool.and_eq_true, decide_eq_true_eq]
    refine ⟨?_, by omega⟩
    unfold small62
    rw [Bool.and_eq_true, decide_eq_true_eq, decide_eq_true_eq]
    omega)]
theorem zip_es {es : CEs} {e e1 : En} {ds xs : List D} (h : evs es e = .ok (ds, e1)) (hs : zipDs ds = some xs) : evI (.zip es) e = .ok ((xs, .val .none), e1) := by
  rw [evI, h, bind_ok]
  dsimp only
  rw [hs, lift_s, bind_ok]
theorem ex_put {x : Nat} {i a : CE} {e e1 e2 : En} {xs ys : List D} {j : Int} {d : D} (h0 : (muta (get e x)).isSome = true) (h1 : valR (ev a) e = .ok (d, e1)) (h2 : valR (ev i) e1 = .ok (.int j, e2)) (h3 : get e2 x = .ow (.list xs)) (h4 : setI xs j d = some ys) : ex (.put x i a) e = .nx (put e2 x (.ow (.list ys))) := by
  rw [ex, if_pos h0, h1, sr_ok]
  dsimp only
  rw [h2, sr_ok]
  dsimp only
  rw [h3]
  show (match setI xs j d with | some ys => SR.nx (PV.put e2 x (remut (.ow (.list xs)) (.list ys))) | none => .no) = _
  rw [h4]
  rfl
theorem set_at {l : List (List Nat)} {k : Nat} {x : List Nat} (h : k < l.length) : setI (l.map T) (k : Nat) (T x) = some ((l.set k x).map T) := by
  unfold setI
  have : L2.ixN (l.map T).length (k : Int) = some k := by
    unfold L2.ixN
    rw [List.length_map, if_pos (by omega), if_pos (by omega), Int.toNat_natCast]
  rw [this, List.map_set]
  rfl
theorem sem_in_8 {r : Nat} (h1 : 1 ≤ r) (h2 : r ≤ 8) : s_is_within.sem [.int (r : Nat), .int 1, .int 8] = .ok (.sh (.bool true)) .none := by rw [within_eq, sem_is_within, decide_eq_true (by omega), decide_eq_true (by omega)]; rfl
theorem zip_TM {w : List Nat} {ds : List D} (h : w.length ≤ 1000000) : zipDs [T w, .list ds] = some (zipD (w.map fun a => T [a]) ds) := by
  show (if (lets w).length ≤ sizeLine then some (zipD (chs (lets w)) ds) else none) = _
  rw [len_lets, if_pos (Nat.le_trans h line_1m)]
  unfold chs lets
  rw [List.map_map]
  rfl
theorem hid_T (w o : List Nat) : (o.map fun p => T [w.getD p 0]) = (hid w o).map fun a => T [a] := by unfold hid; rw [List.map_map]; rfl
theorem sem_check_fence {w : List Nat} {r : Nat} (h : Text w) (r1 : 1 ≤ r) (r8 : r ≤ 8)  : s_check_fence.sem [T w, .int (r : Nat)] = .ok (.sh .none) .none := by
  have x1 : valR (ev (.var 0)) [.sh (T w), .sh (.int (r : Nat))] = .ok (T w, [.sh (T w), .sh (.int (r : Nat))]) := rfl
  have x2 : evs (.cons (.var 0) .nil) [.sh (T w), .sh (.int (r : Nat))] = .ok ([T w], [.sh (T w), .sh (.int (r : Nat))]) := evs_cons x1 (rfl)
  have x3 : ev (.call "check_text" s_check_text (.cons (.var 0) .nil)) [.sh (T w), .sh (.int (r : Nat))] = .ok (.sh .none, [.sh (T w), .sh (.int (r : Nat))]) := ev_call0 (nm := "check_text") (F := s_check_text) x2 rfl (sem_check_text h.ok h.pos h.le)
  have x4 : valR (ev (.var 1)) [.sh (T w), .sh (.int (r : Nat))] = .ok (.int (r : Nat), [.sh (T w), .sh (.int (r : Nat))]) := rfl
  have x5 : ev (.lit (.int 1)) [.sh (T w), .sh (.int (r : Nat))] = .ok (.sh (.int 1), [.sh (T w), .sh (.int (r : Nat))]) := rfl
  have x6 : valR (ev (.lit (.int 1))) [.sh (T w), .sh (.int (r : Nat))] = .ok (.int 1, [.sh (T w), .sh (.int (r : Nat))]) := valR_of x5 rfl
  have x7 : ev (.glb "MOST_RAILS" (.int 8)) [.sh (T w), .sh (.int (r : Nat))] = .ok (.sh (.int 8), [.sh (T w), .sh (.int (r : Nat))]) := rfl
  have x8 : valR (ev (.glb "MOST_RAILS" (.int 8))) [.sh (T w), .sh (.int (r : Nat))] = .ok (.int 8, [.sh (T w), .sh (.int (r : Nat))]) := valR_of x7 rfl
  have x9 : evs (.cons (.var 1) (.cons (.lit (.int 1)) (.cons (.glb "MOST_RAILS" (.int 8)) .nil))) [.sh (T w), .sh (.int (r : Nat))] = .ok ([.int (r : Nat), .int 1, .int 8], [.sh (T w), .sh (.int (r : Nat))]) := evs_cons x4 (evs_cons x6 (evs_cons x8 (rfl)))
  have x10 : ev (.call "is_within" s_is_within (.cons (.var 1) (.cons (.lit (.int 1)) (.cons (.glb "MOST_RAILS" (.int 8)) .nil)))) [.sh (T w), .sh (.int (r : Nat))] = .ok (.sh (.bool true), [.sh (T w), .sh (.int (r : Nat))]) := ev_call0 (nm := "is_within") (F := s_is_within) x9 rfl (sem_in_8 r1 r8)
  have x11 : ev (.nt (.call "is_within" s_is_within (.cons (.var 1) (.cons (.lit (.int 1)) (.cons (.glb "MOST_RAILS" (.int 8)) .nil))))) [.sh (T w), .sh (.int (r : Nat))] = .ok (.sh (.bool false), [.sh (T w), .sh (.int (r : Nat))]) := by rw [ev, testR_of x10, bind_ok]; rfl
  have hb : exs b_check_fence [.sh (T w), .sh (.int (r : Nat))] = .nx [.sh (T w), .sh (.int (r : Nat))] := (exs_step (ex_exp x3)).trans ((exs_step (ite_f x11)).trans (rfl))
  exact q8 (np := 2) (n := 2) (b := b_check_fence) rfl rfl (by decide) rfl hb
theorem sem_hidden_by {w o : List Nat} (ho : ∀ p ∈ o, p < w.length) (hl : w.length ≤ 1000) (hol : o.length ≤ 1000)  : s_hidden_by.sem [T w, .list (o.map fun k : Nat => PyData.int k)] = .ok (.sh (T (hid w o))) .none := by
  have l1 := lc_B (own := [("at", 2)]) (vs := [2]) (tg := (.nm 2)) (it := (.fzd (.var 1))) (cond := .noe) (elt := (.idx (.var 0) (.var 2))) (e := [.sh (T w), .sh (.list (o.map fun k : Nat => PyData.int k)), .un]) (e1 := [.sh (T w), .sh (.list (o.map fun k : Nat => PyData.int k)), .un]) (l := o) (E := fun k : Nat => PyData.int k) (G := fun p => T [w.getD p 0]) (fun _ => true) rfl (fzd_val (c := .sh (.list (o.map fun k : Nat => PyData.int k))) (d := .list (o.map fun k : Nat => PyData.int k)) rfl rfl rfl) rfl (fun p hp => by
    have x1 : opOf (.var 0) (ev (.var 0)) [.sh (T w), .sh (.list (o.map fun k : Nat => PyData.int k)), .sh (.int (p : Nat))] = .ok (.slot 0, [.sh (T w), .sh (.list (o.map fun k : Nat => PyData.int k)), .sh (.int (p : Nat))]) := rfl
    have x2 : valR (ev (.var 2)) [.sh (T w), .sh (.list (o.map fun k : Nat => PyData.int k)), .sh (.int (p : Nat))] = .ok (.int (p : Nat), [.sh (T w), .sh (.list (o.map fun k : Nat => PyData.int k)), .sh (.int (p : Nat))]) := rfl
    have x3 : ev (.idx (.var 0) (.var 2)) [.sh (T w), .sh (.list (o.map fun k : Nat => PyData.int k)), .sh (.int (p : Nat))] = .ok (.sh (T [w.getD p 0]), [.sh (T w), .sh (.list (o.map fun k : Nat => PyData.int k)), .sh (.int (p : Nat))]) := idx_val (x := .slot 0) x1 x2 rfl (idx_Tw (lim hl) (ho p hp))
    exact turn_if (e := [.sh (T w), .sh (.list (o.map fun k : Nat => PyData.int k)), .un]) (e3 := [.sh (T w), .sh (.list (o.map fun k : Nat => PyData.int k)), .sh (.int (p : Nat))]) rfl rfl (fun _ => valR_of x3 rfl)) (e2 := [.sh (T w), .sh (.list (o.map fun k : Nat => PyData.int k)), .un]) rfl
  rw [filter_all] at l1
  rw [hid_T] at l1
  have x1 : ev (.lit (.str ("" : PySem.Str))) [.sh (T w), .sh (.list (o.map fun k : Nat => PyData.int k)), .un] = .ok (.sh (.str ("" : PySem.Str)), [.sh (T w), .sh (.list (o.map fun k : Nat => PyData.int k)), .un]) := rfl
  have x2 : opOf (.lit (.str ("" : PySem.Str))) (ev (.lit (.str ("" : PySem.Str)))) [.sh (T w), .sh (.list (o.map fun k : Nat => PyData.int k)), .un] = .ok (.val (.str ("" : PySem.Str)), [.sh (T w), .sh (.list (o.map fun k : Nat => PyData.int k)), .un]) := opOf_val (fun i h => by cases h) x1 rfl
  have x3 : valR (ev (.lc [("at", 2)] (.nm 2) (.fzd (.var 1)) .noe (.idx (.var 0) (.var 2)))) [.sh (T w), .sh (.list (o.map fun k : Nat => PyData.int k)), .un] = .ok (.list ((hid w o).map fun a => T [a]), [.sh (T w), .sh (.list (o.map fun k : Nat => PyData.int k)), .un]) := valR_of l1 rfl
  have x4 : evs (.cons (.lc [("at", 2)] (.nm 2) (.fzd (.var 1)) .noe (.idx (.var 0) (.var 2))) .nil) [.sh (T w), .sh (.list (o.map fun k : Nat => PyData.int k)), .un] = .ok ([.list ((hid w o).map fun a => T [a])], [.sh (T w), .sh (.list (o.map fun k : Nat => PyData.int k)), .un]) := evs_cons x3 (rfl)
  have x5 : ev (.me .join (.lit (.str ("" : PySem.Str))) (.cons (.lc [("at", 2)] (.nm 2) (.fzd (.var 1)) .noe (.idx (.var 0) (.var 2))) .nil)) [.sh (T w), .sh (.list (o.map fun k : Nat => PyData.int k)), .un] = .ok (.sh (T (hid w o)), [.sh (T w), .sh (.list (o.map fun k : Nat => PyData.int k)), .un]) := ev_me (x := .val (.str ("" : PySem.Str))) x2 rfl x4 (join_ws (by rw [len_hid]; exact lim hol))
  have hb : exs b_hidden_by [.sh (T w), .sh (.list (o.map fun k : Nat => PyData.int k)), .un] = .rt (.sh (T (hid w o))) [.sh (T w), .sh (.list (o.map fun k : Nat => PyData.int k)), .un] := exs_ret x5
  exact q6 (np := 2) (n := 3) (b := b_hidden_by) rfl rfl (by decide) rfl hb
def bF : CSs := (.cons (.ext 3 (.lc [("at", 5)] (.nm 5) (.rng (.cons (.var 1) .nil)) (.cmp .eq (.bi .min (.cons (.bin .mod (.var 5) (.var 2)) (.cons (.bin .sub (.var 2) (.bin .mod (.var 5) (.var 2))) .nil))) (.var 4)) (.var 5))) .nil)
theorem turnFo {r n k : Nat} {acc : List Nat} (r2 : 2 ≤ r) (r8 : r ≤ 8) (n40 : n ≤ 40) (hl : acc.length ≤ 900) {c4 : Cl} (k4 : OkC c4) : forB (.nm 4) (exs bF) (.int (k : Nat)) [.sh (.int (r : Nat)), .sh (.int (n : Nat)), .sh (.int (2 * r - 2 : Nat)), .ow (.list ((acc).map fun k : Nat => PyData.int k)), c4, .un] = .nx [.sh (.int (r : Nat)), .sh (.int (n : Nat)), .sh (.int (2 * r - 2 : Nat)), .ow (.list ((acc ++ onR n r k).map fun k : Nat => PyData.int k)), .sh (.int (k : Nat)), .un] := by
  have b1 := bindT_nm (i := 4) (d := .int (k : Nat)) (e := [.sh (.int (r : Nat)), .sh (.int (n : Nat)), .sh (.int (2 * r - 2 : Nat)), .ow (.list ((acc).map fun k : Nat => PyData.int k)), c4, .un]) rfl k4 (by decide : 4 < 6)
  have l1 := lc_B (own := [("at", 5)]) (vs := [5]) (tg := (.nm 5)) (it := (.rng (.cons (.var 1) .nil))) (cond := (.cmp .eq (.bi .min (.cons (.bin .mod (.var 5) (.var 2)) (.cons (.bin .sub (.var 2) (.bin .mod (.var 5) (.var 2))) .nil))) (.var 4))) (elt := (.var 5)) (e := [.sh (.int (r : Nat)), .sh (.int (n : Nat)), .sh (.int (2 * r - 2 : Nat)), .ow (.list ((acc).map fun k : Nat => PyData.int k)), .sh (.int (k : Nat)), .un]) (e1 := [.sh (.int (r : Nat)), .sh (.int (n : Nat)), .sh (.int (2 * r - 2 : Nat)), .ow (.list ((acc).map fun k : Nat => PyData.int k)), .sh (.int (k : Nat)), .un]) (l := List.range n) (E := fun k : Nat => PyData.int k) (G := fun p => .int (p : Nat)) (fun p => decide (rail p r = k)) rfl (rng_v (i := 1) rfl (by omega)) rfl (fun p hp => by
    have x101 : opOf (.var 5) (ev (.var 5)) [.sh (.int (r : Nat)), .sh (.int (n : Nat)), .sh (.int (2 * r - 2 : Nat)), .ow (.list ((acc).map fun k : Nat => PyData.int k)), .sh (.int (k : Nat)), .sh (.int (p : Nat))] = .ok (.slot 5, [.sh (.int (r : Nat)), .sh (.int (n : Nat)), .sh (.int (2 * r - 2 : Nat)), .ow (.list ((acc).map fun k : Nat => PyData.int k)), .sh (.int (k : Nat)), .sh (.int (p : Nat))]) := rfl
    have x102 : opOf (.var 2) (ev (.var 2)) [.sh (.int (r : Nat)), .sh (.int (n : Nat)), .sh (.int (2 * r - 2 : Nat)), .ow (.list ((acc).map fun k : Nat => PyData.int k)), .sh (.int (k : Nat)), .sh (.int (p : Nat))] = .ok (.slot 2, [.sh (.int (r : Nat)), .sh (.int (n : Nat)), .sh (.int (2 * r - 2 : Nat)), .ow (.list ((acc).map fun k : Nat => PyData.int k)), .sh (.int (k : Nat)), .sh (.int (p : Nat))]) := rfl
    have x103 : ev (.bin .mod (.var 5) (.var 2)) [.sh (.int (r : Nat)), .sh (.int (n : Nat)), .sh (.int (2 * r - 2 : Nat)), .ow (.list ((acc).map fun k : Nat => PyData.int k)), .sh (.int (k : Nat)), .sh (.int (p : Nat))] = .ok (.sh (.int (p % (2 * r - 2) : Nat)), [.sh (.int (r : Nat)), .sh (.int (n : Nat)), .sh (.int (2 * r - 2 : Nat)), .ow (.list ((acc).map fun k : Nat => PyData.int k)), .sh (.int (k : Nat)), .sh (.int (p : Nat))]) := ev_bin x101 x102 rfl rfl (mod_N (by omega))
    have x104 : opOf (.bin .mod (.var 5) (.var 2)) (ev (.bin .mod (.var 5) (.var 2))) [.sh (.int (r : Nat)), .sh (.int (n : Nat)), .sh (.int (2 * r - 2 : Nat)), .ow (.list ((acc).map fun k : Nat => PyData.int k)), .sh (.int (k : Nat)), .sh (.int (p : Nat))] = .ok (.val (.int (p % (2 * r - 2) : Nat)), [.sh (.int (r : Nat)), .sh (.int (n : Nat)), .sh (.int (2 * r - 2 : Nat)), .ow (.list ((acc).map fun k : Nat => PyData.int k)), .sh (.int (k : Nat)), .sh (.int (p : Nat))]) := opOf_val (fun i h => by cases h) x103 rfl
    have x105 : opOf (.var 2) (ev (.var 2)) [.sh (.int (r : Nat)), .sh (.int (n : Nat)), .sh (.int (2 * r - 2 : Nat)), .ow (.list ((acc).map fun k : Nat => PyData.int k)), .sh (.int (k : Nat)), .sh (.int (p : Nat))] = .ok (.slot 2, [.sh (.int (r : Nat)), .sh (.int (n : Nat)), .sh (.int (2 * r - 2 : Nat)), .ow (.list ((acc).map fun k : Nat => PyData.int k)), .sh (.int (k : Nat)), .sh (.int (p : Nat))]) := rfl
    have x106 : opOf (.var 5) (ev (.var 5)) [.sh (.int (r : Nat)), .sh (.int (n : Nat)), .sh (.int (2 * r - 2 : Nat)), .ow (.list ((acc).map fun k : Nat => PyData.int k)), .sh (.int (k : Nat)), .sh (.int (p : Nat))] = .ok (.slot 5, [.sh (.int (r : Nat)), .sh (.int (n : Nat)), .sh (.int (2 * r - 2 : Nat)), .ow (.list ((acc).map fun k : Nat => PyData.int k)), .sh (.int (k : Nat)), .sh (.int (p : Nat))]) := rfl
    have x107 : opOf (.var 2) (ev (.var 2)) [.sh (.int (r : Nat)), .sh (.int (n : Nat)), .sh (.int (2 * r - 2 : Nat)), .ow (.list ((acc).map fun k : Nat => PyData.int k)), .sh (.int (k : Nat)), .sh (.int (p : Nat))] = .ok (.slot 2, [.sh (.int (r : Nat)), .sh (.int (n : Nat)), .sh (.int (2 * r - 2 : Nat)), .ow (.list ((acc).map fun k : Nat => PyData.int k)), .sh (.int (k : Nat)), .sh (.int (p : Nat))]) := rfl
    have x108 : ev (.bin .mod (.var 5) (.var 2)) [.sh (.int (r : Nat)), .sh (.int (n : Nat)), .sh (.int (2 * r - 2 : Nat)), .ow (.list ((acc).map fun k : Nat => PyData.int k)), .sh (.int (k : Nat)), .sh (.int (p : Nat))] = .ok (.sh (.int (p % (2 * r - 2) : Nat)), [.sh (.int (r : Nat)), .sh (.int (n : Nat)), .sh (.int (2 * r - 2 : Nat)), .ow (.list ((acc).map fun k : Nat => PyData.int k)), .sh (.int (k : Nat)), .sh (.int (p : Nat))]) := ev_bin x106 x107 rfl rfl (mod_N (by omega))
    have x109 : opOf (.bin .mod (.var 5) (.var 2)) (ev (.bin .mod (.var 5) (.var 2))) [.sh (.int (r : Nat)), .sh (.int (n : Nat)), .sh (.int (2 * r - 2 : Nat)), .ow (.list ((acc).map fun k : Nat => PyData.int k)), .sh (.int (k : Nat)), .sh (.int (p : Nat))] = .ok (.val (.int (p % (2 * r - 2) : Nat)), [.sh (.int (r : Nat)), .sh (.int (n : Nat)), .sh (.int (2 * r - 2 : Nat)), .ow (.list ((acc).map fun k : Nat => PyData.int k)), .sh (.int (k : Nat)), .sh (.int (p : Nat))]) := opOf_val (fun i h => by cases h) x108 rfl
    have x110 : ev (.bin .sub (.var 2) (.bin .mod (.var 5) (.var 2))) [.sh (.int (r : Nat)), .sh (.int (n : Nat)), .sh (.int (2 * r - 2 : Nat)), .ow (.list ((acc).map fun k : Nat => PyData.int k)), .sh (.int (k : Nat)), .sh (.int (p : Nat))] = .ok (.sh (.int (2 * r - 2 - p % (2 * r - 2) : Nat)), [.sh (.int (r : Nat)), .sh (.int (n : Nat)), .sh (.int (2 * r - 2 : Nat)), .ow (.list ((acc).map fun k : Nat => PyData.int k)), .sh (.int (k : Nat)), .sh (.int (p : Nat))]) := ev_bin x105 x109 rfl rfl (sub_N (Nat.le_of_lt (Nat.mod_lt _ (by omega))))
    have x111 : opOf (.bin .sub (.var 2) (.bin .mod (.var 5) (.var 2))) (ev (.bin .sub (.var 2) (.bin .mod (.var 5) (.var 2)))) [.sh (.int (r : Nat)), .sh (.int (n : Nat)), .sh (.int (2 * r - 2 : Nat)), .ow (.list ((acc).map fun k : Nat => PyData.int k)), .sh (.int (k : Nat)), .sh (.int (p : Nat))] = .ok (.val (.int (2 * r - 2 - p % (2 * r - 2) : Nat)), [.sh (.int (r : Nat)), .sh (.int (n : Nat)), .sh (.int (2 * r - 2 : Nat)), .ow (.list ((acc).map fun k : Nat => PyData.int k)), .sh (.int (k : Nat)), .sh (.int (p : Nat))]) := opOf_val (fun i h => by cases h) x110 rfl
    have x112 : ev (.bi .min (.cons (.bin .mod (.var 5) (.var 2)) (.cons (.bin .sub (.var 2) (.bin .mod (.var 5) (.var 2))) .nil))) [.sh (.int (r : Nat)), .sh (.int (n : Nat)), .sh (.int (2 * r - 2 : Nat)), .ow (.list ((acc).map fun k : Nat => PyData.int k)), .sh (.int (k : Nat)), .sh (.int (p : Nat))] = .ok (.sh (.int (rail p r : Nat)), [.sh (.int (r : Nat)), .sh (.int (n : Nat)), .sh (.int (2 * r - 2 : Nat)), .ow (.list ((acc).map fun k : Nat => PyData.int k)), .sh (.int (k : Nat)), .sh (.int (p : Nat))]) := bi_ops2 (op := .min) x104 x111 rfl rfl (min_2 (rail_min r2))
    have x113 : opOf (.bi .min (.cons (.bin .mod (.var 5) (.var 2)) (.cons (.bin .sub (.var 2) (.bin .mod (.var 5) (.var 2))) .nil))) (ev (.bi .min (.cons (.bin .mod (.var 5) (.var 2)) (.cons (.bin .sub (.var 2) (.bin .mod (.var 5) (.var 2))) .nil)))) [.sh (.int (r : Nat)), .sh (.int (n : Nat)), .sh (.int (2 * r - 2 : Nat)), .ow (.list ((acc).map fun k : Nat => PyData.int k)), .sh (.int (k : Nat)), .sh (.int (p : Nat))] = .ok (.val (.int (rail p r : Nat)), [.sh (.int (r : Nat)), .sh (.int (n : Nat)), .sh (.int (2 * r - 2 : Nat)), .ow (.list ((acc).map fun k : Nat => PyData.int k)), .sh (.int (k : Nat)), .sh (.int (p : Nat))]) := opOf_val (fun i h => by cases h) x112 rfl
    have x114 : opOf (.var 4) (ev (.var 4)) [.sh (.int (r : Nat)), .sh (.int (n : Nat)), .sh (.int (2 * r - 2 : Nat)), .ow (.list ((acc).map fun k : Nat => PyData.int k)), .sh (.int (k : Nat)), .sh (.int (p : Nat))] = .ok (.slot 4, [.sh (.int (r : Nat)), .sh (.int (n : Nat)), .sh (.int (2 * r - 2 : Nat)), .ow (.list ((acc).map fun k : Nat => PyData.int k)), .sh (.int (k : Nat)), .sh (.int (p : Nat))]) := rfl
    have x115 : ev (.cmp .eq (.bi .min (.cons (.bin .mod (.var 5) (.var 2)) (.cons (.bin .sub (.var 2) (.bin .mod (.var 5) (.var 2))) .nil))) (.var 4)) [.sh (.int (r : Nat)), .sh (.int (n : Nat)), .sh (.int (2 * r - 2 : Nat)), .ow (.list ((acc).map fun k : Nat => PyData.int k)), .sh (.int (k : Nat)), .sh (.int (p : Nat))] = .ok (.sh (.bool (decide (rail p r = k))), [.sh (.int (r : Nat)), .sh (.int (n : Nat)), .sh (.int (2 * r - 2 : Nat)), .ow (.list ((acc).map fun k : Nat => PyData.int k)), .sh (.int (k : Nat)), .sh (.int (p : Nat))]) := ev_cmp x113 x114 rfl rfl (eq_nat _ _)
    exact turn_if (e := [.sh (.int (r : Nat)), .sh (.int (n : Nat)), .sh (.int (2 * r - 2 : Nat)), .ow (.list ((acc).map fun k : Nat => PyData.int k)), .sh (.int (k : Nat)), .un]) (e3 := [.sh (.int (r : Nat)), .sh (.int (n : Nat)), .sh (.int (2 * r - 2 : Nat)), .ow (.list ((acc).map fun k : Nat => PyData.int k)), .sh (.int (k : Nat)), .sh (.int (p : Nat))]) rfl (testR_of x115) (fun _ => rfl)) (e2 := [.sh (.int (r : Nat)), .sh (.int (n : Nat)), .sh (.int (2 * r - 2 : Nat)), .ow (.list ((acc).map fun k : Nat => PyData.int k)), .sh (.int (k : Nat)), .un]) rfl
  have hl1 : (onR n r k).length ≤ n := by
    unfold onR
    have := List.length_filter_le (fun p => decide (rail p r = k)) (List.range n)
    rw [List.length_range] at this
    exact this
  have l1 : ev (.lc [("at", 5)] (.nm 5) (.rng (.cons (.var 1) .nil)) (.cmp .eq (.bi .min (.cons (.bin .mod (.var 5) (.var 2)) (.cons (.bin .sub (.var 2) (.bin .mod (.var 5) (.var 2))) .nil))) (.var 4)) (.var 5)) [.sh (.int (r : Nat)), .sh (.int (n : Nat)), .sh (.int (2 * r - 2 : Nat)), .ow (.list ((acc).map fun k : Nat => PyData.int k)), .sh (.int (k : Nat)), .un] = .ok (.ow (.list ((onR n r k).map fun k : Nat => PyData.int k)), [.sh (.int (r : Nat)), .sh (.int (n : Nat)), .sh (.int (2 * r - 2 : Nat)), .ow (.list ((acc).map fun k : Nat => PyData.int k)), .sh (.int (k : Nat)), .un]) := l1
  have hl2 : ((acc).map (fun k : Nat => PyData.int k)).length + ((onR n r k).map (fun k : Nat => PyData.int k)).length ≤ 1000 := by
    rw [List.length_map, List.length_map]
    omega

  unfold forB
  rw [b1, List.map_append]
  exact (exs_step (ex_ext rfl l1 rfl rfl hl2)).trans (rfl)
theorem loopF {r n : Nat} (r2 : 2 ≤ r) (r8 : r ≤ 8) (n40 : n ≤ 40) : ∀ (l : List Nat) (acc : List Nat) (c4 : Cl), acc.length + 40 * l.length ≤ 900 → OkC c4 → ∃ c4', forL (forB (.nm 4) (exs bF)) (l.map fun k : Nat => PyData.int k) [.sh (.int (r : Nat)), .sh (.int (n : Nat)), .sh (.int (2 * r - 2 : Nat)), .ow (.list ((acc).map fun k : Nat => PyData.int k)), c4, .un] = .nx [.sh (.int (r : Nat)), .sh (.int (n : Nat)), .sh (.int (2 * r - 2 : Nat)), .ow (.list ((acc ++ l.flatMap (onR n r)).map fun k : Nat => PyData.int k)), c4', .un] := by
  intro l
  induction l with
  | nil => exact fun acc c4 _ _ => ⟨c4, by simp only [List.flatMap_nil, List.append_nil]; rfl⟩
  | cons k l ih =>
    intro acc c4 hl k4
    rw [List.length_cons] at hl
    have hl1 : (onR n r k).length ≤ n := by
      unfold onR
      have := List.length_filter_le (fun p => decide (rail p r = k)) (List.range n)
      rw [List.length_range] at this
      exact this
    obtain ⟨c4', h⟩ := ih (acc ++ onR n r k) (.sh (.int (k : Nat))) (by rw [List.length_append]; omega) (okc _)
    refine ⟨c4', ?_⟩
    rw [List.map_cons]
    unfold forL
    rw [turnFo r2 r8 n40 (by omega) k4, List.flatMap_cons, ← List.append_assoc]
    exact h
theorem sem_fence_order {r n : Nat} (r2 : 2 ≤ r) (r8 : r ≤ 8) (n40 : n ≤ 40) : s_fence_order.sem [.int (r : Nat), .int (n : Nat)] = .ok (.sh (.list ((ord r n).map fun k : Nat => PyData.int k))) .none := by
  have x1 : ev (.lit (.int 1)) [.sh (.int (r : Nat)), .sh (.int (n : Nat)), .un, .un, .un, .un] = .ok (.sh (.int 1), [.sh (.int (r : Nat)), .sh (.int (n : Nat)), .un, .un, .un, .un]) := rfl
  have x2 : opOf (.lit (.int 1)) (ev (.lit (.int 1))) [.sh (.int (r : Nat)), .sh (.int (n : Nat)), .un, .un, .un, .un] = .ok (.val (.int 1), [.sh (.int (r : Nat)), .sh (.int (n : Nat)), .un, .un, .un, .un]) := opOf_val (fun i h => by cases h) x1 rfl
  have x3 : ev (.lit (.int 2)) [.sh (.int (r : Nat)), .sh (.int (n : Nat)), .un, .un, .un, .un] = .ok (.sh (.int 2), [.sh (.int (r : Nat)), .sh (.int (n : Nat)), .un, .un, .un, .un]) := rfl
  have x4 : opOf (.lit (.int 2)) (ev (.lit (.int 2))) [.sh (.int (r : Nat)), .sh (.int (n : Nat)), .un, .un, .un, .un] = .ok (.val (.int 2), [.sh (.int (r : Nat)), .sh (.int (n : Nat)), .un, .un, .un, .un]) := opOf_val (fun i h => by cases h) x3 rfl
  have x5 : opOf (.var 0) (ev (.var 0)) [.sh (.int (r : Nat)), .sh (.int (n : Nat)), .un, .un, .un, .un] = .ok (.slot 0, [.sh (.int (r : Nat)), .sh (.int (n : Nat)), .un, .un, .un, .un]) := rfl
  have x6 : ev (.bin .mul (.lit (.int 2)) (.var 0)) [.sh (.int (r : Nat)), .sh (.int (n : Nat)), .un, .un, .un, .un] = .ok (.sh (.int (2 * r : Nat)), [.sh (.int (r : Nat)), .sh (.int (n : Nat)), .un, .un, .un, .un]) := ev_bin x4 x5 rfl rfl (mul_N (a := 2) (by decide))
  have x7 : opOf (.bin .mul (.lit (.int 2)) (.var 0)) (ev (.bin .mul (.lit (.int 2)) (.var 0))) [.sh (.int (r : Nat)), .sh (.int (n : Nat)), .un, .un, .un, .un] = .ok (.val (.int (2 * r : Nat)), [.sh (.int (r : Nat)), .sh (.int (n : Nat)), .un, .un, .un, .un]) := opOf_val (fun i h => by cases h) x6 rfl
  have x8 : ev (.lit (.int 2)) [.sh (.int (r : Nat)), .sh (.int (n : Nat)), .un, .un, .un, .un] = .ok (.sh (.int 2), [.sh (.int (r : Nat)), .sh (.int (n : Nat)), .un, .un, .un, .un]) := rfl
  have x9 : opOf (.lit (.int 2)) (ev (.lit (.int 2))) [.sh (.int (r : Nat)), .sh (.int (n : Nat)), .un, .un, .un, .un] = .ok (.val (.int 2), [.sh (.int (r : Nat)), .sh (.int (n : Nat)), .un, .un, .un, .un]) := opOf_val (fun i h => by cases h) x8 rfl
  have x10 : ev (.bin .sub (.bin .mul (.lit (.int 2)) (.var 0)) (.lit (.int 2))) [.sh (.int (r : Nat)), .sh (.int (n : Nat)), .un, .un, .un, .un] = .ok (.sh (.int (2 * r - 2 : Nat)), [.sh (.int (r : Nat)), .sh (.int (n : Nat)), .un, .un, .un, .un]) := ev_bin x7 x9 rfl rfl (sub_N (b := 2) (by omega))
  have x11 : opOf (.bin .sub (.bin .mul (.lit (.int 2)) (.var 0)) (.lit (.int 2))) (ev (.bin .sub (.bin .mul (.lit (.int 2)) (.var 0)) (.lit (.int 2)))) [.sh (.int (r : Nat)), .sh (.int (n : Nat)), .un, .un, .un, .un] = .ok (.val (.int (2 * r - 2 : Nat)), [.sh (.int (r : Nat)), .sh (.int (n : Nat)), .un, .un, .un, .un]) := opOf_val (fun i h => by cases h) x10 rfl
  have x12 : ev (.bi .max (.cons (.lit (.int 1)) (.cons (.bin .sub (.bin .mul (.lit (.int 2)) (.var 0)) (.lit (.int 2))) .nil))) [.sh (.int (r : Nat)), .sh (.int (n : Nat)), .un, .un, .un, .un] = .ok (.sh (.int (2 * r - 2 : Nat)), [.sh (.int (r : Nat)), .sh (.int (n : Nat)), .un, .un, .un, .un]) := bi_ops2 (op := .max) x2 x11 rfl rfl (max_2 (by omega))
  have x13 : evs .nil [.sh (.int (r : Nat)), .sh (.int (n : Nat)), .un, .un, .un, .un] = .ok ([], [.sh (.int (r : Nat)), .sh (.int (n : Nat)), .un, .un, .un, .un]) := rfl
  have x14 : ev (.lst .nil) [.sh (.int (r : Nat)), .sh (.int (n : Nat)), .un, .un, .un, .un] = .ok (.ow (.list []), [.sh (.int (r : Nat)), .sh (.int (n : Nat)), .un, .un, .un, .un]) := ev_lst x13 (Nat.le_of_ble_eq_true rfl)
  have y1 : ex (.par [2, 3] (.cons (.bi .max (.cons (.lit (.int 1)) (.cons (.bin .sub (.bin .mul (.lit (.int 2)) (.var 0)) (.lit (.int 2))) .nil))) (.cons (.lst .nil) .nil))) [.sh (.int (r : Nat)), .sh (.int (n : Nat)), .un, .un, .un, .un] = .nx [.sh (.int (r : Nat)), .sh (.int (n : Nat)), .sh (.int (2 * r - 2 : Nat)), .ow (.list (([]).map fun k : Nat => PyData.int k)), .un, .un] := ex_par (evcs_cons x12 (evcs_cons x14 (rfl))) (storeP2 rfl rfl)
  obtain ⟨c4', lp⟩ := loopF r2 r8 n40 (List.range r) [] .un (by rw [List.length_range]; show 0 + _ ≤ _; omega) (.inl rfl)
  rw [List.nil_append] at lp
  have lp : forL (forB (.nm 4) (exs bF)) ((List.range r).map fun k : Nat => PyData.int k) [.sh (.int (r : Nat)), .sh (.int (n : Nat)), .sh (.int (2 * r - 2 : Nat)), .ow (.list (([]).map fun k : Nat => PyData.int k)), .un, .un] = .nx [.sh (.int (r : Nat)), .sh (.int (n : Nat)), .sh (.int (2 * r - 2 : Nat)), .ow (.list ((ord r n).map fun k : Nat => PyData.int k)), c4', .un] := lp
  have he : evI (.rng (.cons (.var 0) .nil)) [.sh (.int (r : Nat)), .sh (.int (n : Nat)), .sh (.int (2 * r - 2 : Nat)), .ow (.list (([]).map fun k : Nat => PyData.int k)), .un, .un] = .ok (((List.range r).map fun k : Nat => PyData.int k, .val .none), [.sh (.int (r : Nat)), .sh (.int (n : Nat)), .sh (.int (2 * r - 2 : Nat)), .ow (.list (([]).map fun k : Nat => PyData.int k)), .un, .un]) := rng_v (i := 0) rfl (by omega)
  have y2 := ex_for (tg := .nm 4) (b := bF) he lp
  unfold bF at y2
  have x9 : ev (.var 3) [.sh (.int (r : Nat)), .sh (.int (n : Nat)), .sh (.int (2 * r - 2 : Nat)), .ow (.list ((ord r n).map fun k : Nat => PyData.int k)), c4', .un] = .ok (.sh (.list ((ord r n).map fun k : Nat => PyData.int k)), [.sh (.int (r : Nat)), .sh (.int (n : Nat)), .sh (.int (2 * r - 2 : Nat)), .sh (.list ((ord r n).map fun k : Nat => PyData.int k)), c4', .un]) := rfl
  have hb : exs b_fence_order [.sh (.int (r : Nat)), .sh (.int (n : Nat)), .un, .un, .un, .un] = .rt (.sh (.list ((ord r n).map fun k : Nat => PyData.int k))) [.sh (.int (r : Nat)), .sh (.int (n : Nat)), .sh (.int (2 * r - 2 : Nat)), .sh (.list ((ord r n).map fun k : Nat => PyData.int k)), c4', .un] := (exs_step y1).trans ((exs_step y2).trans (exs_ret x9))
  exact q6 (np := 2) (n := 6) (b := b_fence_order) rfl rfl (by decide) rfl hb
theorem sem_fence_of_1 {r n : Nat} (r1 : r = 1) (n40 : n ≤ 40) : s_fence_of.sem [.int (r : Nat), .int (n : Nat)] = .ok (.ow (.list ((List.range n).map fun k : Nat => PyData.int k))) .none := by
  have x1 : opOf (.var 0) (ev (.var 0)) [.sh (.int (r : Nat)), .sh (.int (n : Nat))] = .ok (.slot 0, [.sh (.int (r : Nat)), .sh (.int (n : Nat))]) := rfl
  have x2 : ev (.lit (.int 1)) [.sh (.int (r : Nat)), .sh (.int (n : Nat))] = .ok (.sh (.int 1), [.sh (.int (r : Nat)), .sh (.int (n : Nat))]) := rfl
  have x3 : opOf (.lit (.int 1)) (ev (.lit (.int 1))) [.sh (.int (r : Nat)), .sh (.int (n : Nat))] = .ok (.val (.int 1), [.sh (.int (r : Nat)), .sh (.int (n : Nat))]) := opOf_val (fun i h => by cases h) x2 rfl
  have x4 : ev (.cmp .eq (.var 0) (.lit (.int 1))) [.sh (.int (r : Nat)), .sh (.int (n : Nat))] = .ok (.sh (.bool true), [.sh (.int (r : Nat)), .sh (.int (n : Nat))]) := ev_cmp x1 x3 rfl rfl (by rw [cmp_eq, eq_int, decide_eq_true (by omega)])
  have x5 : valR (ev (.var 1)) [.sh (.int (r : Nat)), .sh (.int (n : Nat))] = .ok (.int (n : Nat), [.sh (.int (r : Nat)), .sh (.int (n : Nat))]) := rfl
  have x6 : ev (.rgl false (.var 1)) [.sh (.int (r : Nat)), .sh (.int (n : Nat))] = .ok (.ow (.list ((List.range n).map fun k : Nat => PyData.int k)), [.sh (.int (r : Nat)), .sh (.int (n : Nat))]) := ev_rgl x5 (rgl_L (by omega))
  have x7 : ev (.ife (.cmp .eq (.var 0) (.lit (.int 1))) (.rgl false (.var 1)) (.call "fence_order" s_fence_order (.cons (.var 0) (.cons (.var 1) .nil)))) [.sh (.int (r : Nat)), .sh (.int (n : Nat))] = .ok (.ow (.list ((List.range n).map fun k : Nat => PyData.int k)), [.sh (.int (r : Nat)), .sh (.int (n : Nat))]) := ife_tt x4 x6
  have hb : exs b_fence_of [.sh (.int (r : Nat)), .sh (.int (n : Nat))] = .rt (.ow (.list ((List.range n).map fun k : Nat => PyData.int k))) [.sh (.int (r : Nat)), .sh (.int (n : Nat))] := exs_ret x7
  exact q6 (np := 2) (n := 2) (b := b_fence_of) rfl rfl (by decide) rfl hb
theorem sem_fence_of_2 {r n : Nat} (r2 : 2 ≤ r) (r8 : r ≤ 8) (n40 : n ≤ 40) : s_fence_of.sem [.int (r : Nat), .int (n : Nat)] = .ok (.sh (.list ((ord r n).map fun k : Nat => PyData.int k))) .none := by
  have x1 : opOf (.var 0) (ev (.var 0)) [.sh (.int (r : Nat)), .sh (.int (n : Nat))] = .ok (.slot 0, [.sh (.int (r : Nat)), .sh (.int (n : Nat))]) := rfl
  have x2 : ev (.lit (.int 1)) [.sh (.int (r : Nat)), .sh (.int (n : Nat))] = .ok (.sh (.int 1), [.sh (.int (r : Nat)), .sh (.int (n : Nat))]) := rfl
  have x3 : opOf (.lit (.int 1)) (ev (.lit (.int 1))) [.sh (.int (r : Nat)), .sh (.int (n : Nat))] = .ok (.val (.int 1), [.sh (.int (r : Nat)), .sh (.int (n : Nat))]) := opOf_val (fun i h => by cases h) x2 rfl
  have x4 : ev (.cmp .eq (.var 0) (.lit (.int 1))) [.sh (.int (r : Nat)), .sh (.int (n : Nat))] = .ok (.sh (.bool false), [.sh (.int (r : Nat)), .sh (.int (n : Nat))]) := ev_cmp x1 x3 rfl rfl (by rw [cmp_eq, eq_int, decide_eq_false (by omega)])
  have x5 : valR (ev (.var 0)) [.sh (.int (r : Nat)), .sh (.int (n : Nat))] = .ok (.int (r : Nat), [.sh (.int (r : Nat)), .sh (.int (n : Nat))]) := rfl
  have x6 : valR (ev (.var 1)) [.sh (.int (r : Nat)), .sh (.int (n : Nat))] = .ok (.int (n : Nat), [.sh (.int (r : Nat)), .sh (.int (n : Nat))]) := rfl
  have x7 : evs (.cons (.var 0) (.cons (.var 1) .nil)) [.sh (.int (r : Nat)), .sh (.int (n : Nat))] = .ok ([.int (r : Nat), .int (n : Nat)], [.sh (.int (r : Nat)), .sh (.int (n : Nat))]) := evs_cons x5 (evs_cons x6 (rfl))
  have x8 : ev (.call "fence_order" s_fence_order (.cons (.var 0) (.cons (.var 1) .nil))) [.sh (.int (r : Nat)), .sh (.int (n : Nat))] = .ok (.sh (.list ((ord r n).map fun k : Nat => PyData.int k)), [.sh (.int (r : Nat)), .sh (.int (n : Nat))]) := ev_call0 (nm := "fence_order") (F := s_fence_order) x7 rfl (sem_fence_order r2 r8 n40)
  have x9 : ev (.ife (.cmp .eq (.var 0) (.lit (.int 1))) (.rgl false (.var 1)) (.call "fence_order" s_fence_order (.cons (.var 0) (.cons (.var 1) .nil)))) [.sh (.int (r : Nat)), .sh (.int (n : Nat))] = .ok (.sh (.list ((ord r n).map fun k : Nat => PyData.int k)), [.sh (.int (r : Nat)), .sh (.int (n : Nat))]) := ife_ff x4 x8
  have hb : exs b_fence_of [.sh (.int (r : Nat)), .sh (.int (n : Nat))] = .rt (.sh (.list ((ord r n).map fun k : Nat => PyData.int k))) [.sh (.int (r : Nat)), .sh (.int (n : Nat))] := exs_ret x9
  exact q6 (np := 2) (n := 2) (b := b_fence_of) rfl rfl (by decide) rfl hb
theorem sem_fence_of {r n : Nat} (r1 : 1 ≤ r) (r8 : r ≤ 8) (n40 : n ≤ 40) : ∃ c, s_fence_of.sem [.int (r : Nat), .int (n : Nat)] = .ok c .none ∧ valOf c = some (.list ((ord r n).map fun k : Nat => PyData.int k)) := by
  by_cases q : r = 1
  · refine ⟨_, sem_fence_of_1 q n40, ?_⟩
    rw [q, ord_1]
    rfl
  · exact ⟨_, sem_fence_of_2 (by omega) r8 n40, rfl⟩
theorem sem_fenced {w : List Nat} {r : Nat} (h : Text w) (r1 : 1 ≤ r) (r8 : r ≤ 8) : s_fenced.sem [T w, .int (r : Nat)] = .ok (.sh (T (hid w (ord r w.length)))) .none := by
  have ho := ord_ok (r := r) (n := w.length) (by omega) r8 h.le
  obtain ⟨c, hc, hv⟩ := sem_fence_of r1 r8 h.le
  have x1 : valR (ev (.var 0)) [.sh (T w), .sh (.int (r : Nat))] = .ok (T w, [.sh (T w), .sh (.int (r : Nat))]) := rfl
  have x2 : valR (ev (.var 1)) [.sh (T w), .sh (.int (r : Nat))] = .ok (.int (r : Nat), [.sh (T w), .sh (.int (r : Nat))]) := rfl
  have x3 : evs (.cons (.var 0) (.cons (.var 1) .nil)) [.sh (T w), .sh (.int (r : Nat))] = .ok ([T w, .int (r : Nat)], [.sh (T w), .sh (.int (r : Nat))]) := evs_cons x1 (evs_cons x2 (rfl))
  have x4 : ev (.call "check_fence" s_check_fence (.cons (.var 0) (.cons (.var 1) .nil))) [.sh (T w), .sh (.int (r : Nat))] = .ok (.sh .none, [.sh (T w), .sh (.int (r : Nat))]) := ev_call0 (nm := "check_fence") (F := s_check_fence) x3 rfl (sem_check_fence h r1 r8)
  have x5 : valR (ev (.var 1)) [.sh (T w), .sh (.int (r : Nat))] = .ok (.int (r : Nat), [.sh (T w), .sh (.int (r : Nat))]) := rfl
  have x6 : ev (.bi .len (.cons (.var 0) .nil)) [.sh (T w), .sh (.int (r : Nat))] = .ok (.sh (.int (w.length : Nat)), [.sh (T w), .sh (.int (r : Nat))]) := bi_var (i := 0) rfl rfl (len_Tw (lim h.lim))
  have x7 : valR (ev (.bi .len (.cons (.var 0) .nil))) [.sh (T w), .sh (.int (r : Nat))] = .ok (.int (w.length : Nat), [.sh (T w), .sh (.int (r : Nat))]) := valR_of x6 rfl
  have x8 : evs (.cons (.var 1) (.cons (.bi .len (.cons (.var 0) .nil)) .nil)) [.sh (T w), .sh (.int (r : Nat))] = .ok ([.int (r : Nat), .int (w.length : Nat)], [.sh (T w), .sh (.int (r : Nat))]) := evs_cons x5 (evs_cons x7 (rfl))
  have z1 := ev_call0 (nm := "fence_of") (F := s_fence_of) (e := [.sh (T w), .sh (.int (r : Nat))]) x8 rfl hc
  have z2 : valR (ev (.call "fence_of" s_fence_of (.cons (.var 1) (.cons (.bi .len (.cons (.var 0) .nil)) .nil))) ) [.sh (T w), .sh (.int (r : Nat))] = .ok (.list ((ord r w.length).map fun k : Nat => PyData.int k), [.sh (T w), .sh (.int (r : Nat))]) := valR_of z1 hv
  have z3 : evs (.cons (.var 0) (.cons (.call "fence_of" s_fence_of (.cons (.var 1) (.cons (.bi .len (.cons (.var 0) .nil)) .nil))) .nil)) [.sh (T w), .sh (.int (r : Nat))] = .ok ([T w, .list ((ord r w.length).map fun k : Nat => PyData.int k)], [.sh (T w), .sh (.int (r : Nat))]) := evs_cons (es := .cons (.call "fence_of" s_fence_of (.cons (.var 1) (.cons (.bi .len (.cons (.var 0) .nil)) .nil))) .nil) rfl (evs_cons (es := .nil) z2 rfl)
  have z4 := ev_call0 (nm := "hidden_by") (F := s_hidden_by) (e := [.sh (T w), .sh (.int (r : Nat))]) z3 rfl (sem_hidden_by ho.lt h.lim (by rw [ho.len]; exact h.lim))
  have hb : exs b_fenced [.sh (T w), .sh (.int (r : Nat))] = .rt (.sh (T (hid w (ord r w.length)))) [.sh (T w), .sh (.int (r : Nat))] := (exs_step (ex_exp x4)).trans (exs_ret z4)
  exact q6 (np := 2) (n := 2) (b := b_fenced) rfl rfl (by decide) rfl hb
def bO : CSs := (.cons (.put 2 (.var 4) (.var 3)) .nil)
theorem turnO {w o : List Nat} {f : List (List Nat)} {z : Nat × Nat} (hz : z.2 < f.length) {c3 c4 : Cl} (k3 : OkC c3) (k4 : OkC c4) : forB (.tup (.cons (.nm 3) (.cons (.nm 4) .nil))) (exs bO) (.tuple [T [z.1], .int (z.2 : Nat)]) [.sh (T w), .sh (.list (o.map fun k : Nat => PyData.int k)), .ow (.list ((f).map T)), c3, c4] = .nx [.sh (T w), .sh (.list (o.map fun k : Nat => PyData.int k)), .ow (.list ((f.set z.2 [z.1]).map T)), .sh (T [z.1]), .sh (.int (z.2 : Nat))] := by
  have b1 := bindT_nm (i := 3) (d := T [z.1]) (e := [.sh (T w), .sh (.list (o.map fun k : Nat => PyData.int k)), .ow (.list ((f).map T)), c3, c4]) rfl k3 (by decide : 3 < 5)
  have b2 := bindT_nm (i := 4) (d := .int (z.2 : Nat)) (e := [.sh (T w), .sh (.list (o.map fun k : Nat => PyData.int k)), .ow (.list ((f).map T)), .sh (T [z.1]), c4]) rfl k4 (by decide : 4 < 5)
  unfold forB
  rw [bindT_two b1 b2]
  have x1 : valR (ev (.var 3)) [.sh (T w), .sh (.list (o.map fun k : Nat => PyData.int k)), .ow (.list ((f).map T)), .sh (T [z.1]), .sh (.int (z.2 : Nat))] = .ok (T [z.1], [.sh (T w), .sh (.list (o.map fun k : Nat => PyData.int k)), .ow (.list ((f).map T)), .sh (T [z.1]), .sh (.int (z.2 : Nat))]) := rfl
  have x2 : valR (ev (.var 4)) [.sh (T w), .sh (.list (o.map fun k : Nat => PyData.int k)), .ow (.list ((f).map T)), .sh (T [z.1]), .sh (.int (z.2 : Nat))] = .ok (.int (z.2 : Nat), [.sh (T w), .sh (.list (o.map fun k : Nat => PyData.int k)), .ow (.list ((f).map T)), .sh (T [z.1]), .sh (.int (z.2 : Nat))]) := rfl
  exact (exs_step (ex_put (x := 2) rfl x1 x2 rfl (set_at hz))).trans (rfl)
theorem loopO {w o : List Nat} : ∀ (zs : List (Nat × Nat)) (f : List (List Nat)) (c3 c4 : Cl), (∀ z ∈ zs, z.2 < f.length) → OkC c3 → OkC c4 → ∃ c3' c4', forL (forB (.tup (.cons (.nm 3) (.cons (.nm 4) .nil))) (exs bO)) (zs.map fun z => .tuple [T [z.1], .int (z.2 : Nat)]) [.sh (T w), .sh (.list (o.map fun k : Nat => PyData.int k)), .ow (.list ((f).map T)), c3, c4] = .nx [.sh (T w), .sh (.list (o.map fun k : Nat => PyData.int k)), .ow (.list ((opn f zs).map T)), c3', c4'] := by
  intro zs
  induction zs with
  | nil => exact fun f c3 c4 _ _ _ => ⟨c3, c4, rfl⟩
  | cons z zs ih =>
    intro f c3 c4 hz k3 k4
    obtain ⟨c3', c4', h⟩ := ih (f.set z.2 [z.1]) (.sh (T [z.1])) (.sh (.int (z.2 : Nat))) (fun q hq => by rw [List.length_set]; exact hz q (List.mem_cons_of_mem _ hq)) (okc _) (okc _)
    refine ⟨c3', c4', ?_⟩
    rw [List.map_cons]
    unfold forL
    rw [turnO (hz z (List.mem_cons_self ..)) k3 k4]
    exact h
theorem zip_TL {w o : List Nat} : zipD (w.map fun a => T [a]) (o.map fun k : Nat => PyData.int k) = (w.zip o).map fun z => .tuple [T [z.1], .int (z.2 : Nat)] := by
  induction w generalizing o with
  | nil => rfl
  | cons a w ih =>
    cases o with
    | nil => rfl
    | cons b o =>
      show PyData.tuple [T [a], .int (b : Nat)] :: zipD (w.map fun a => T [a]) (o.map (fun k : Nat => PyData.int k)) = _
      rw [ih]
      rfl
theorem sem_opened_by {w o : List Nat} (ho : Ord o w.length) (hl : w.length ≤ 1000) : s_opened_by.sem [T w, .list (o.map fun k : Nat => PyData.int k)] = .ok (.sh (T (opened w o))) .none := by
  have x1 : ev (.lit (.str ("" : PySem.Str))) [.sh (T w), .sh (.list (o.map fun k : Nat => PyData.int k)), .un, .un, .un] = .ok (.sh (.str ("" : PySem.Str)), [.sh (T w), .sh (.list (o.map fun k : Nat => PyData.int k)), .un, .un, .un]) := rfl
  have x2 : valR (ev (.lit (.str ("" : PySem.Str)))) [.sh (T w), .sh (.list (o.map fun k : Nat => PyData.int k)), .un, .un, .un] = .ok (.str ("" : PySem.Str), [.sh (T w), .sh (.list (o.map fun k : Nat => PyData.int k)), .un, .un, .un]) := valR_of x1 rfl
  have x3 : evs (.cons (.lit (.str ("" : PySem.Str))) .nil) [.sh (T w), .sh (.list (o.map fun k : Nat => PyData.int k)), .un, .un, .un] = .ok ([.str ("" : PySem.Str)], [.sh (T w), .sh (.list (o.map fun k : Nat => PyData.int k)), .un, .un, .un]) := evs_cons x2 (rfl)
  have x4 : ev (.lst (.cons (.lit (.str ("" : PySem.Str))) .nil)) [.sh (T w), .sh (.list (o.map fun k : Nat => PyData.int k)), .un, .un, .un] = .ok (.ow (.list [.str ("" : PySem.Str)]), [.sh (T w), .sh (.list (o.map fun k : Nat => PyData.int k)), .un, .un, .un]) := ev_lst x3 (Nat.le_of_ble_eq_true rfl)
  have x5 : opOf (.lst (.cons (.lit (.str ("" : PySem.Str))) .nil)) (ev (.lst (.cons (.lit (.str ("" : PySem.Str))) .nil))) [.sh (T w), .sh (.list (o.map fun k : Nat => PyData.int k)), .un, .un, .un] = .ok (.val (.list [.str ("" : PySem.Str)]), [.sh (T w), .sh (.list (o.map fun k : Nat => PyData.int k)), .un, .un, .un]) := opOf_val (fun i h => by cases h) x4 rfl
  have x6 : ev (.bi .len (.cons (.var 0) .nil)) [.sh (T w), .sh (.list (o.map fun k : Nat => PyData.int k)), .un, .un, .un] = .ok (.sh (.int (w.length : Nat)), [.sh (T w), .sh (.list (o.map fun k : Nat => PyData.int k)), .un, .un, .un]) := bi_var (i := 0) rfl rfl (len_Tw (lim hl))
  have x7 : opOf (.bi .len (.cons (.var 0) .nil)) (ev (.bi .len (.cons (.var 0) .nil))) [.sh (T w), .sh (.list (o.map fun k : Nat => PyData.int k)), .un, .un, .un] = .ok (.val (.int (w.length : Nat)), [.sh (T w), .sh (.list (o.map fun k : Nat => PyData.int k)), .un, .un, .un]) := opOf_val (fun i h => by cases h) x6 rfl
  have x8 : ev (.bin .mul (.lst (.cons (.lit (.str ("" : PySem.Str))) .nil)) (.bi .len (.cons (.var 0) .nil))) [.sh (T w), .sh (.list (o.map fun k : Nat => PyData.int k)), .un, .un, .un] = .ok (.ow (.list ((List.replicate w.length ([] : List Nat)).map T)), [.sh (T w), .sh (.list (o.map fun k : Nat => PyData.int k)), .un, .un, .un]) := ev_bin x5 x7 rfl rfl (by rw [lst_mulD hl, List.map_replicate]; rfl)
  obtain ⟨c3', c4', lp⟩ := loopO (w := w) (o := o) (w.zip o) (List.replicate w.length []) .un .un (fun z hz => by
    rw [List.length_replicate]
    exact ho.lt _ (List.of_mem_zip (a := z.1) (b := z.2) hz).2) (.inl rfl) (.inl rfl)
  have he : evI (.zip (.cons (.var 0) (.cons (.var 1) .nil))) [.sh (T w), .sh (.list (o.map fun k : Nat => PyData.int k)), .ow (.list ((List.replicate w.length ([] : List Nat)).map T)), .un, .un] = .ok (((w.zip o).map fun z => .tuple [T [z.1], .int (z.2 : Nat)], .val .none), [.sh (T w), .sh (.list (o.map fun k : Nat => PyData.int k)), .ow (.list ((List.replicate w.length ([] : List Nat)).map T)), .un, .un]) := by
    have x91 : valR (ev (.var 0)) [.sh (T w), .sh (.list (o.map fun k : Nat => PyData.int k)), .ow (.list ((List.replicate w.length ([] : List Nat)).map T)), .un, .un] = .ok (T w, [.sh (T w), .sh (.list (o.map fun k : Nat => PyData.int k)), .ow (.list ((List.replicate w.length ([] : List Nat)).map T)), .un, .un]) := rfl
    have x92 : valR (ev (.var 1)) [.sh (T w), .sh (.list (o.map fun k : Nat => PyData.int k)), .ow (.list ((List.replicate w.length ([] : List Nat)).map T)), .un, .un] = .ok (.list (o.map fun k : Nat => PyData.int k), [.sh (T w), .sh (.list (o.map fun k : Nat => PyData.int k)), .ow (.list ((List.replicate w.length ([] : List Nat)).map T)), .un, .un]) := rfl
    have x93 : evs (.cons (.var 0) (.cons (.var 1) .nil)) [.sh (T w), .sh (.list (o.map fun k : Nat => PyData.int k)), .ow (.list ((List.replicate w.length ([] : List Nat)).map T)), .un, .un] = .ok ([T w, .list (o.map fun k : Nat => PyData.int k)], [.sh (T w), .sh (.list (o.map fun k : Nat => PyData.int k)), .ow (.list ((List.replicate w.length ([] : List Nat)).map T)), .un, .un]) := evs_cons x91 (evs_cons x92 (rfl))
    exact zip_es x93 (by rw [zip_TM (lim hl), zip_TL])
  have y2 := ex_for (tg := (.tup (.cons (.nm 3) (.cons (.nm 4) .nil)))) (b := bO) he lp
  unfold bO at y2
  have x51 : ev (.lit (.str ("" : PySem.Str))) [.sh (T w), .sh (.list (o.map fun k : Nat => PyData.int k)), .ow (.list ((opn (List.replicate w.length []) (w.zip o)).map T)), c3', c4'] = .ok (.sh (.str ("" : PySem.Str)), [.sh (T w), .sh (.list (o.map fun k : Nat => PyData.int k)), .ow (.list ((opn (List.replicate w.length []) (w.zip o)).map T)), c3', c4']) := rfl
  have x52 : opOf (.lit (.str ("" : PySem.Str))) (ev (.lit (.str ("" : PySem.Str)))) [.sh (T w), .sh (.list (o.map fun k : Nat => PyData.int k)), .ow (.list ((opn (List.replicate w.length []) (w.zip o)).map T)), c3', c4'] = .ok (.val (.str ("" : PySem.Str)), [.sh (T w), .sh (.list (o.map fun k : Nat => PyData.int k)), .ow (.list ((opn (List.replicate w.length []) (w.zip o)).map T)), c3', c4']) := opOf_val (fun i h => by cases h) x51 rfl
  have x53 : valR (ev (.var 2)) [.sh (T w), .sh (.list (o.map fun k : Nat => PyData.int k)), .ow (.list ((opn (List.replicate w.length []) (w.zip o)).map T)), c3', c4'] = .ok (.list ((opn (List.replicate w.length []) (w.zip o)).map T), [.sh (T w), .sh (.list (o.map fun k : Nat => PyData.int k)), .sh (.list ((opn (List.replicate w.length []) (w.zip o)).map T)), c3', c4']) := rfl
  have x54 : evs (.cons (.var 2) .nil) [.sh (T w), .sh (.list (o.map fun k : Nat => PyData.int k)), .ow (.list ((opn (List.replicate w.length []) (w.zip o)).map T)), c3', c4'] = .ok ([.list ((opn (List.replicate w.length []) (w.zip o)).map T)], [.sh (T w), .sh (.list (o.map fun k : Nat => PyData.int k)), .sh (.list ((opn (List.replicate w.length []) (w.zip o)).map T)), c3', c4']) := evs_cons x53 (rfl)
  have x55 : ev (.me .join (.lit (.str ("" : PySem.Str))) (.cons (.var 2) .nil)) [.sh (T w), .sh (.list (o.map fun k : Nat => PyData.int k)), .ow (.list ((opn (List.replicate w.length []) (w.zip o)).map T)), c3', c4'] = .ok (.sh (T (opened w o)), [.sh (T w), .sh (.list (o.map fun k : Nat => PyData.int k)), .sh (.list ((opn (List.replicate w.length []) (w.zip o)).map T)), c3', c4']) := ev_me (x := .val (.str ("" : PySem.Str))) x52 rfl x54 (join_Tw (L := opn (List.replicate w.length []) (w.zip o)) (by have := len_opened ho; unfold opened at this; rw [this]; exact lim hl))
  have hb : exs b_opened_by [.sh (T w), .sh (.list (o.map fun k : Nat => PyData.int k)), .un, .un, .un] = .rt (.sh (T (opened w o))) [.sh (T w), .sh (.list (o.map fun k : Nat => PyData.int k)), .sh (.list ((opn (List.replicate w.length []) (w.zip o)).map T)), c3', c4'] := (exs_step (ex_asg x8 rfl)).trans ((exs_step y2).trans (exs_ret x55))
  exact q6 (np := 2) (n := 5) (b := b_opened_by) rfl rfl (by decide) rfl hb
theorem sem_unfenced {w : List Nat} {r : Nat} (h : Text w) (r1 : 1 ≤ r) (r8 : r ≤ 8) : s_unfenced.sem [T w, .int (r : Nat)] = .ok (.sh (T (opened w (ord r w.length)))) .none := by
  have ho := ord_ok (r := r) (n := w.length) (by omega) r8 h.le
  obtain ⟨c, hc, hv⟩ := sem_fence_of r1 r8 h.le
  have x1 : valR (ev (.var 0)) [.sh (T w), .sh (.int (r : Nat))] = .ok (T w, [.sh (T w), .sh (.int (r : Nat))]) := rfl
  have x2 : valR (ev (.var 1)) [.sh (T w), .sh (.int (r : Nat))] = .ok (.int (r : Nat), [.sh (T w), .sh (.int (r : Nat))]) := rfl
  have x3 : evs (.cons (.var 0) (.cons (.var 1) .nil)) [.sh (T w), .sh (.int (r : Nat))] = .ok ([T w, .int (r : Nat)], [.sh (T w), .sh (.int (r : Nat))]) := evs_cons x1 (evs_cons x2 (rfl))
  have x4 : ev (.call "check_fence" s_check_fence (.cons (.var 0) (.cons (.var 1) .nil))) [.sh (T w), .sh (.int (r : Nat))] = .ok (.sh .none, [.sh (T w), .sh (.int (r : Nat))]) := ev_call0 (nm := "check_fence") (F := s_check_fence) x3 rfl (sem_check_fence h r1 r8)
  have x5 : valR (ev (.var 1)) [.sh (T w), .sh (.int (r : Nat))] = .ok (.int (r : Nat), [.sh (T w), .sh (.int (r : Nat))]) := rfl
  have x6 : ev (.bi .len (.cons (.var 0) .nil)) [.sh (T w), .sh (.int (r : Nat))] = .ok (.sh (.int (w.length : Nat)), [.sh (T w), .sh (.int (r : Nat))]) := bi_var (i := 0) rfl rfl (len_Tw (lim h.lim))
  have x7 : valR (ev (.bi .len (.cons (.var 0) .nil))) [.sh (T w), .sh (.int (r : Nat))] = .ok (.int (w.length : Nat), [.sh (T w), .sh (.int (r : Nat))]) := valR_of x6 rfl
  have x8 : evs (.cons (.var 1) (.cons (.bi .len (.cons (.var 0) .nil)) .nil)) [.sh (T w), .sh (.int (r : Nat))] = .ok ([.int (r : Nat), .int (w.length : Nat)], [.sh (T w), .sh (.int (r : Nat))]) := evs_cons x5 (evs_cons x7 (rfl))
  have z1 := ev_call0 (nm := "fence_of") (F := s_fence_of) (e := [.sh (T w), .sh (.int (r : Nat))]) x8 rfl hc
  have z2 : valR (ev (.call "fence_of" s_fence_of (.cons (.var 1) (.cons (.bi .len (.cons (.var 0) .nil)) .nil))) ) [.sh (T w), .sh (.int (r : Nat))] = .ok (.list ((ord r w.length).map fun k : Nat => PyData.int k), [.sh (T w), .sh (.int (r : Nat))]) := valR_of z1 hv
  have z3 : evs (.cons (.var 0) (.cons (.call "fence_of" s_fence_of (.cons (.var 1) (.cons (.bi .len (.cons (.var 0) .nil)) .nil))) .nil)) [.sh (T w), .sh (.int (r : Nat))] = .ok ([T w, .list ((ord r w.length).map fun k : Nat => PyData.int k)], [.sh (T w), .sh (.int (r : Nat))]) := evs_cons (es := .cons (.call "fence_of" s_fence_of (.cons (.var 1) (.cons (.bi .len (.cons (.var 0) .nil)) .nil))) .nil) rfl (evs_cons (es := .nil) z2 rfl)
  have z4 := ev_call0 (nm := "opened_by") (F := s_opened_by) (e := [.sh (T w), .sh (.int (r : Nat))]) z3 rfl (sem_opened_by ho h.lim)
  have hb : exs b_unfenced [.sh (T w), .sh (.int (r : Nat))] = .rt (.sh (T (opened w (ord r w.length)))) [.sh (T w), .sh (.int (r : Nat))] := (exs_step (ex_exp x4)).trans (exs_ret z4)
  exact q6 (np := 2) (n := 2) (b := b_unfenced) rfl rfl (by decide) rfl hb
theorem sem__law_rail_1 {p r : Nat} (r1 : r = 1) : s__law_rail.sem [.int (p : Nat), .int (r : Nat)] = .ok (.sh (.int 0)) .none := by
  have x1 : opOf (.var 1) (ev (.var 1)) [.sh (.int (p : Nat)), .sh (.int (r : Nat)), .un, .un] = .ok (.slot 1, [.sh (.int (p : Nat)), .sh (.int (r : Nat)), .un, .un]) := rfl
  have x2 : ev (.lit (.int 1)) [.sh (.int (p : Nat)), .sh (.int (r : Nat)), .un, .un] = .ok (.sh (.int 1), [.sh (.int (p : Nat)), .sh (.int (r : Nat)), .un, .un]) := rfl
  have x3 : opOf (.lit (.int 1)) (ev (.lit (.int 1))) [.sh (.int (p : Nat)), .sh (.int (r : Nat)), .un, .un] = .ok (.val (.int 1), [.sh (.int (p : Nat)), .sh (.int (r : Nat)), .un, .un]) := opOf_val (fun i h => by cases h) x2 rfl
  have x4 : ev (.cmp .eq (.var 1) (.lit (.int 1))) [.sh (.int (p : Nat)), .sh (.int (r : Nat)), .un, .un] = .ok (.sh (.bool true), [.sh (.int (p : Nat)), .sh (.int (r : Nat)), .un, .un]) := ev_cmp x1 x3 rfl rfl (by rw [cmp_eq, eq_int, decide_eq_true (by omega)])
  have x5 : ev (.lit (.int 0)) [.sh (.int (p : Nat)), .sh (.int (r : Nat)), .un, .un] = .ok (.sh (.int 0), [.sh (.int (p : Nat)), .sh (.int (r : Nat)), .un, .un]) := rfl
  have hb : exs b__law_rail [.sh (.int (p : Nat)), .sh (.int (r : Nat)), .un, .un] = .rt (.sh (.int 0)) [.sh (.int (p : Nat)), .sh (.int (r : Nat)), .un, .un] := exs_rt x4 (exs_ret x5)
  exact q6 (np := 2) (n := 4) (b := b__law_rail) rfl rfl (by decide) rfl hb
theorem sem__law_rail_t {p r : Nat} (r2 : 2 ≤ r) (hq : p % (2 * r - 2) < r) : s__law_rail.sem [.int (p : Nat), .int (r : Nat)] = .ok (.sh (.int (p % (2 * r - 2) : Nat))) .none := by
  have x1 : opOf (.var 1) (ev (.var 1)) [.sh (.int (p : Nat)), .sh (.int (r : Nat)), .un, .un] = .ok (.slot 1, [.sh (.int (p : Nat)), .sh (.int (r : Nat)), .un, .un]) := rfl
  have x2 : ev (.lit (.int 1)) [.sh (.int (p : Nat)), .sh (.int (r : Nat)), .un, .un] = .ok (.sh (.int 1), [.sh (.int (p : Nat)), .sh (.int (r : Nat)), .un, .un]) := rfl
  have x3 : opOf (.lit (.int 1)) (ev (.lit (.int 1))) [.sh (.int (p : Nat)), .sh (.int (r : Nat)), .un, .un] = .ok (.val (.int 1), [.sh (.int (p : Nat)), .sh (.int (r : Nat)), .un, .un]) := opOf_val (fun i h => by cases h) x2 rfl
  have x4 : ev (.cmp .eq (.var 1) (.lit (.int 1))) [.sh (.int (p : Nat)), .sh (.int (r : Nat)), .un, .un] = .ok (.sh (.bool false), [.sh (.int (p : Nat)), .sh (.int (r : Nat)), .un, .un]) := ev_cmp x1 x3 rfl rfl (by rw [cmp_eq, eq_int, decide_eq_false (by omega)])
  have x5 : ev (.lit (.int 2)) [.sh (.int (p : Nat)), .sh (.int (r : Nat)), .un, .un] = .ok (.sh (.int 2), [.sh (.int (p : Nat)), .sh (.int (r : Nat)), .un, .un]) := rfl
  have x6 : opOf (.lit (.int 2)) (ev (.lit (.int 2))) [.sh (.int (p : Nat)), .sh (.int (r : Nat)), .un, .un] = .ok (.val (.int 2), [.sh (.int (p : Nat)), .sh (.int (r : Nat)), .un, .un]) := opOf_val (fun i h => by cases h) x5 rfl
  have x7 : opOf (.var 1) (ev (.var 1)) [.sh (.int (p : Nat)), .sh (.int (r : Nat)), .un, .un] = .ok (.slot 1, [.sh (.int (p : Nat)), .sh (.int (r : Nat)), .un, .un]) := rfl
  have x8 : ev (.bin .mul (.lit (.int 2)) (.var 1)) [.sh (.int (p : Nat)), .sh (.int (r : Nat)), .un, .un] = .ok (.sh (.int (2 * r : Nat)), [.sh (.int (p : Nat)), .sh (.int (r : Nat)), .un, .un]) := ev_bin x6 x7 rfl rfl (mul_N (a := 2) (by decide))
  have x9 : opOf (.bin .mul (.lit (.int 2)) (.var 1)) (ev (.bin .mul (.lit (.int 2)) (.var 1))) [.sh (.int (p : Nat)), .sh (.int (r : Nat)), .un, .un] = .ok (.val (.int (2 * r : Nat)), [.sh (.int (p : Nat)), .sh (.int (r : Nat)), .un, .un]) := opOf_val (fun i h => by cases h) x8 rfl
  have x10 : ev (.lit (.int 2)) [.sh (.int (p : Nat)), .sh (.int (r : Nat)), .un, .un] = .ok (.sh (.int 2), [.sh (.int (p : Nat)), .sh (.int (r : Nat)), .un, .un]) := rfl
  have x11 : opOf (.lit (.int 2)) (ev (.lit (.int 2))) [.sh (.int (p : Nat)), .sh (.int (r : Nat)), .un, .un] = .ok (.val (.int 2), [.sh (.int (p : Nat)), .sh (.int (r : Nat)), .un, .un]) := opOf_val (fun i h => by cases h) x10 rfl
  have x12 : ev (.bin .sub (.bin .mul (.lit (.int 2)) (.var 1)) (.lit (.int 2))) [.sh (.int (p : Nat)), .sh (.int (r : Nat)), .un, .un] = .ok (.sh (.int (2 * r - 2 : Nat)), [.sh (.int (p : Nat)), .sh (.int (r : Nat)), .un, .un]) := ev_bin x9 x11 rfl rfl (sub_N (b := 2) (by omega))
  have x13 : ev (.bi .int (.cons (.var 0) .nil)) [.sh (.int (p : Nat)), .sh (.int (r : Nat)), .sh (.int (2 * r - 2 : Nat)), .un] = .ok (.sh (.int (p : Nat)), [.sh (.int (p : Nat)), .sh (.int (r : Nat)), .sh (.int (2 * r - 2 : Nat)), .un]) := bi_var (i := 0) rfl rfl rfl
  have x14 : opOf (.bi .int (.cons (.var 0) .nil)) (ev (.bi .int (.cons (.var 0) .nil))) [.sh (.int (p : Nat)), .sh (.int (r : Nat)), .sh (.int (2 * r - 2 : Nat)), .un] = .ok (.val (.int (p : Nat)), [.sh (.int (p : Nat)), .sh (.int (r : Nat)), .sh (.int (2 * r - 2 : Nat)), .un]) := opOf_val (fun i h => by cases h) x13 rfl
  have x15 : opOf (.var 2) (ev (.var 2)) [.sh (.int (p : Nat)), .sh (.int (r : Nat)), .sh (.int (2 * r - 2 : Nat)), .un] = .ok (.slot 2, [.sh (.int (p : Nat)), .sh (.int (r : Nat)), .sh (.int (2 * r - 2 : Nat)), .un]) := rfl
  have x16 : ev (.bin .mod (.bi .int (.cons (.var 0) .nil)) (.var 2)) [.sh (.int (p : Nat)), .sh (.int (r : Nat)), .sh (.int (2 * r - 2 : Nat)), .un] = .ok (.sh (.int (p % (2 * r - 2) : Nat)), [.sh (.int (p : Nat)), .sh (.int (r : Nat)), .sh (.int (2 * r - 2 : Nat)), .un]) := ev_bin x14 x15 rfl rfl (mod_N (by omega))
  have x17 : opOf (.var 3) (ev (.var 3)) [.sh (.int (p : Nat)), .sh (.int (r : Nat)), .sh (.int (2 * r - 2 : Nat)), .sh (.int (p % (2 * r - 2) : Nat))] = .ok (.slot 3, [.sh (.int (p : Nat)), .sh (.int (r : Nat)), .sh (.int (2 * r - 2 : Nat)), .sh (.int (p % (2 * r - 2) : Nat))]) := rfl
  have x18 : opOf (.var 1) (ev (.var 1)) [.sh (.int (p : Nat)), .sh (.int (r : Nat)), .sh (.int (2 * r - 2 : Nat)), .sh (.int (p % (2 * r - 2) : Nat))] = .ok (.slot 1, [.sh (.int (p : Nat)), .sh (.int (r : Nat)), .sh (.int (2 * r - 2 : Nat)), .sh (.int (p % (2 * r - 2) : Nat))]) := rfl
  have x19 : ev (.cmp .lt (.var 3) (.var 1)) [.sh (.int (p : Nat)), .sh (.int (r : Nat)), .sh (.int (2 * r - 2 : Nat)), .sh (.int (p % (2 * r - 2) : Nat))] = .ok (.sh (.bool true), [.sh (.int (p : Nat)), .sh (.int (r : Nat)), .sh (.int (2 * r - 2 : Nat)), .sh (.int (p % (2 * r - 2) : Nat))]) := ev_cmp x17 x18 rfl rfl (by rw [cmp_lt, decide_eq_true (by omega)])
  have x20 : ev (.var 3) [.sh (.int (p : Nat)), .sh (.int (r : Nat)), .sh (.int (2 * r - 2 : Nat)), .sh (.int (p % (2 * r - 2) : Nat))] = .ok (.sh (.int (p % (2 * r - 2) : Nat)), [.sh (.int (p : Nat)), .sh (.int (r : Nat)), .sh (.int (2 * r - 2 : Nat)), .sh (.int (p % (2 * r - 2) : Nat))]) := rfl
  have x21 : ev (.ife (.cmp .lt (.var 3) (.var 1)) (.var 3) (.bin .sub (.var 2) (.var 3))) [.sh (.int (p : Nat)), .sh (.int (r : Nat)), .sh (.int (2 * r - 2 : Nat)), .sh (.int (p % (2 * r - 2) : Nat))] = .ok (.sh (.int (p % (2 * r - 2) : Nat)), [.sh (.int (p : Nat)), .sh (.int (r : Nat)), .sh (.int (2 * r - 2 : Nat)), .sh (.int (p % (2 * r - 2) : Nat))]) := ife_tt x19 x20
  have hb : exs b__law_rail [.sh (.int (p : Nat)), .sh (.int (r : Nat)), .un, .un] = .rt (.sh (.int (p % (2 * r - 2) : Nat))) [.sh (.int (p : Nat)), .sh (.int (r : Nat)), .sh (.int (2 * r - 2 : Nat)), .sh (.int (p % (2 * r - 2) : Nat))] := (exs_step (ite_f x4)).trans ((exs_step (ex_asg x12 rfl)).trans ((exs_step (ex_asg x16 rfl)).trans (exs_ret x21)))
  exact q6 (np := 2) (n := 4) (b := b__law_rail) rfl rfl (by decide) rfl hb
theorem sem__law_rail_f {p r : Nat} (r2 : 2 ≤ r) (hq : ¬p % (2 * r - 2) < r) : s__law_rail.sem [.int (p : Nat), .int (r : Nat)] = .ok (.sh (.int (2 * r - 2 - p % (2 * r - 2) : Nat))) .none := by
  have x1 : opOf (.var 1) (ev (.var 1)) [.sh (.int (p : Nat)), .sh (.int (r : Nat)), .un, .un] = .ok (.slot 1, [.sh (.int (p : Nat)), .sh (.int (r : Nat)), .un, .un]) := rfl
  have x2 : ev (.lit (.int 1)) [.sh (.int (p : Nat)), .sh (.int (r : Nat)), .un, .un] = .ok (.sh (.int 1), [.sh (.int (p : Nat)), .sh (.int (r : Nat)), .un, .un]) := rfl
  have x3 : opOf (.lit (.int 1)) (ev (.lit (.int 1))) [.sh (.int (p : Nat)), .sh (.int (r : Nat)), .un, .un] = .ok (.val (.int 1), [.sh (.int (p : Nat)), .sh (.int (r : Nat)), .un, .un]) := opOf_val (fun i h => by cases h) x2 rfl
  have x4 : ev (.cmp .eq (.var 1) (.lit (.int 1))) [.sh (.int (p : Nat)), .sh (.int (r : Nat)), .un, .un] = .ok (.sh (.bool false), [.sh (.int (p : Nat)), .sh (.int (r : Nat)), .un, .un]) := ev_cmp x1 x3 rfl rfl (by rw [cmp_eq, eq_int, decide_eq_false (by omega)])
  have x5 : ev (.lit (.int 2)) [.sh (.int (p : Nat)), .sh (.int (r : Nat)), .un, .un] = .ok (.sh (.int 2), [.sh (.int (p : Nat)), .sh (.int (r : Nat)), .un, .un]) := rfl
  have x6 : opOf (.lit (.int 2)) (ev (.lit (.int 2))) [.sh (.int (p : Nat)), .sh (.int (r : Nat)), .un, .un] = .ok (.val (.int 2), [.sh (.int (p : Nat)), .sh (.int (r : Nat)), .un, .un]) := opOf_val (fun i h => by cases h) x5 rfl
  have x7 : opOf (.var 1) (ev (.var 1)) [.sh (.int (p : Nat)), .sh (.int (r : Nat)), .un, .un] = .ok (.slot 1, [.sh (.int (p : Nat)), .sh (.int (r : Nat)), .un, .un]) := rfl
  have x8 : ev (.bin .mul (.lit (.int 2)) (.var 1)) [.sh (.int (p : Nat)), .sh (.int (r : Nat)), .un, .un] = .ok (.sh (.int (2 * r : Nat)), [.sh (.int (p : Nat)), .sh (.int (r : Nat)), .un, .un]) := ev_bin x6 x7 rfl rfl (mul_N (a := 2) (by decide))
  have x9 : opOf (.bin .mul (.lit (.int 2)) (.var 1)) (ev (.bin .mul (.lit (.int 2)) (.var 1))) [.sh (.int (p : Nat)), .sh (.int (r : Nat)), .un, .un] = .ok (.val (.int (2 * r : Nat)), [.sh (.int (p : Nat)), .sh (.int (r : Nat)), .un, .un]) := opOf_val (fun i h => by cases h) x8 rfl
  have x10 : ev (.lit (.int 2)) [.sh (.int (p : Nat)), .sh (.int (r : Nat)), .un, .un] = .ok (.sh (.int 2), [.sh (.int (p : Nat)), .sh (.int (r : Nat)), .un, .un]) := rfl
  have x11 : opOf (.lit (.int 2)) (ev (.lit (.int 2))) [.sh (.int (p : Nat)), .sh (.int (r : Nat)), .un, .un] = .ok (.val (.int 2), [.sh (.int (p : Nat)), .sh (.int (r : Nat)), .un, .un]) := opOf_val (fun i h => by cases h) x10 rfl
  have x12 : ev (.bin .sub (.bin .mul (.lit (.int 2)) (.var 1)) (.lit (.int 2))) [.sh (.int (p : Nat)), .sh (.int (r : Nat)), .un, .un] = .ok (.sh (.int (2 * r - 2 : Nat)), [.sh (.int (p : Nat)), .sh (.int (r : Nat)), .un, .un]) := ev_bin x9 x11 rfl rfl (sub_N (b := 2) (by omega))
  have x13 : ev (.bi .int (.cons (.var 0) .nil)) [.sh (.int (p : Nat)), .sh (.int (r : Nat)), .sh (.int (2 * r - 2 : Nat)), .un] = .ok (.sh (.int (p : Nat)), [.sh (.int (p : Nat)), .sh (.int (r : Nat)), .sh (.int (2 * r - 2 : Nat)), .un]) := bi_var (i := 0) rfl rfl rfl
  have x14 : opOf (.bi .int (.cons (.var 0) .nil)) (ev (.bi .int (.cons (.var 0) .nil))) [.sh (.int (p : Nat)), .sh (.int (r : Nat)), .sh (.int (2 * r - 2 : Nat)), .un] = .ok (.val (.int (p : Nat)), [.sh (.int (p : Nat)), .sh (.int (r : Nat)), .sh (.int (2 * r - 2 : Nat)), .un]) := opOf_val (fun i h => by cases h) x13 rfl
  have x15 : opOf (.var 2) (ev (.var 2)) [.sh (.int (p : Nat)), .sh (.int (r : Nat)), .sh (.int (2 * r - 2 : Nat)), .un] = .ok (.slot 2, [.sh (.int (p : Nat)), .sh (.int (r : Nat)), .sh (.int (2 * r - 2 : Nat)), .un]) := rfl
  have x16 : ev (.bin .mod (.bi .int (.cons (.var 0) .nil)) (.var 2)) [.sh (.int (p : Nat)), .sh (.int (r : Nat)), .sh (.int (2 * r - 2 : Nat)), .un] = .ok (.sh (.int (p % (2 * r - 2) : Nat)), [.sh (.int (p : Nat)), .sh (.int (r : Nat)), .sh (.int (2 * r - 2 : Nat)), .un]) := ev_bin x14 x15 rfl rfl (mod_N (by omega))
  have x17 : opOf (.var 3) (ev (.var 3)) [.sh (.int (p : Nat)), .sh (.int (r : Nat)), .sh (.int (2 * r - 2 : Nat)), .sh (.int (p % (2 * r - 2) : Nat))] = .ok (.slot 3, [.sh (.int (p : Nat)), .sh (.int (r : Nat)), .sh (.int (2 * r - 2 : Nat)), .sh (.int (p % (2 * r - 2) : Nat))]) := rfl
  have x18 : opOf (.var 1) (ev (.var 1)) [.sh (.int (p : Nat)), .sh (.int (r : Nat)), .sh (.int (2 * r - 2 : Nat)), .sh (.int (p % (2 * r - 2) : Nat))] = .ok (.slot 1, [.sh (.int (p : Nat)), .sh (.int (r : Nat)), .sh (.int (2 * r - 2 : Nat)), .sh (.int (p % (2 * r - 2) : Nat))]) := rfl
  have x19 : ev (.cmp .lt (.var 3) (.var 1)) [.sh (.int (p : Nat)), .sh (.int (r : Nat)), .sh (.int (2 * r - 2 : Nat)), .sh (.int (p % (2 * r - 2) : Nat))] = .ok (.sh (.bool false), [.sh (.int (p : Nat)), .sh (.int (r : Nat)), .sh (.int (2 * r - 2 : Nat)), .sh (.int (p % (2 * r - 2) : Nat))]) := ev_cmp x17 x18 rfl rfl (by rw [cmp_lt, decide_eq_false (by omega)])
  have x20 : opOf (.var 2) (ev (.var 2)) [.sh (.int (p : Nat)), .sh (.int (r : Nat)), .sh (.int (2 * r - 2 : Nat)), .sh (.int (p % (2 * r - 2) : Nat))] = .ok (.slot 2, [.sh (.int (p : Nat)), .sh (.int (r : Nat)), .sh (.int (2 * r - 2 : Nat)), .sh (.int (p % (2 * r - 2) : Nat))]) := rfl
  have x21 : opOf (.var 3) (ev (.var 3)) [.sh (.int (p : Nat)), .sh (.int (r : Nat)), .sh (.int (2 * r - 2 : Nat)), .sh (.int (p % (2 * r - 2) : Nat))] = .ok (.slot 3, [.sh (.int (p : Nat)), .sh (.int (r : Nat)), .sh (.int (2 * r - 2 : Nat)), .sh (.int (p % (2 * r - 2) : Nat))]) := rfl
  have x22 : ev (.bin .sub (.var 2) (.var 3)) [.sh (.int (p : Nat)), .sh (.int (r : Nat)), .sh (.int (2 * r - 2 : Nat)), .sh (.int (p % (2 * r - 2) : Nat))] = .ok (.sh (.int (2 * r - 2 - p % (2 * r - 2) : Nat)), [.sh (.int (p : Nat)), .sh (.int (r : Nat)), .sh (.int (2 * r - 2 : Nat)), .sh (.int (p % (2 * r - 2) : Nat))]) := ev_bin x20 x21 rfl rfl (sub_N (Nat.le_of_lt (Nat.mod_lt _ (by omega))))
  have x23 : ev (.ife (.cmp .lt (.var 3) (.var 1)) (.var 3) (.bin .sub (.var 2) (.var 3))) [.sh (.int (p : Nat)), .sh (.int (r : Nat)), .sh (.int (2 * r - 2 : Nat)), .sh (.int (p % (2 * r - 2) : Nat))] = .ok (.sh (.int (2 * r - 2 - p % (2 * r - 2) : Nat)), [.sh (.int (p : Nat)), .sh (.int (r : Nat)), .sh (.int (2 * r - 2 : Nat)), .sh (.int (p % (2 * r - 2) : Nat))]) := ife_ff x19 x22
  have hb : exs b__law_rail [.sh (.int (p : Nat)), .sh (.int (r : Nat)), .un, .un] = .rt (.sh (.int (2 * r - 2 - p % (2 * r - 2) : Nat))) [.sh (.int (p : Nat)), .sh (.int (r : Nat)), .sh (.int (2 * r - 2 : Nat)), .sh (.int (p % (2 * r - 2) : Nat))] := (exs_step (ite_f x4)).trans ((exs_step (ex_asg x12 rfl)).trans ((exs_step (ex_asg x16 rfl)).trans (exs_ret x23)))
  exact q6 (np := 2) (n := 4) (b := b__law_rail) rfl rfl (by decide) rfl hb
theorem sem__law_rail {p r : Nat} (r1 : 1 ≤ r) : s__law_rail.sem [.int (p : Nat), .int (r : Nat)] = .ok (.sh (.int (rail p r : Nat))) .none := by
  unfold rail
  by_cases q : r = 1
  · rw [if_pos q]
    exact sem__law_rail_1 q
  · rw [if_neg q]
    by_cases q2 : p % (2 * r - 2) < r
    · rw [if_pos q2]
      exact sem__law_rail_t (by omega) q2
    · rw [if_neg q2]
      exact sem__law_rail_f (by omega) q2
theorem sem__law_on {n r k : Nat} (r1 : 1 ≤ r) (n40 : n ≤ 40)  : s__law_on.sem [.int (n : Nat), .int (r : Nat), .int (k : Nat)] = .ok (.ow (.list ((onR n r k).map fun k : Nat => PyData.int k))) .none := by
  have l1 := lc_B (own := [("place", 3)]) (vs := [3]) (tg := (.nm 3)) (it := (.rng (.cons (.var 0) .nil))) (cond := (.cmp .eq (.call "_law_rail" s__law_rail (.cons (.var 3) (.cons (.var 1) .nil))) (.var 2))) (elt := (.var 3)) (e := [.sh (.int (n : Nat)), .sh (.int (r : Nat)), .sh (.int (k : Nat)), .un]) (e1 := [.sh (.int (n : Nat)), .sh (.int (r : Nat)), .sh (.int (k : Nat)), .un]) (l := List.range n) (E := fun k : Nat => PyData.int k) (G := fun p => .int (p : Nat)) (fun p => decide (rail p r = k)) rfl (rng_v (i := 0) rfl (by omega)) rfl (fun p hp => by
    have x101 : valR (ev (.var 3)) [.sh (.int (n : Nat)), .sh (.int (r : Nat)), .sh (.int (k : Nat)), .sh (.int (p : Nat))] = .ok (.int (p : Nat), [.sh (.int (n : Nat)), .sh (.int (r : Nat)), .sh (.int (k : Nat)), .sh (.int (p : Nat))]) := rfl
    have x102 : valR (ev (.var 1)) [.sh (.int (n : Nat)), .sh (.int (r : Nat)), .sh (.int (k : Nat)), .sh (.int (p : Nat))] = .ok (.int (r : Nat), [.sh (.int (n : Nat)), .sh (.int (r : Nat)), .sh (.int (k : Nat)), .sh (.int (p : Nat))]) := rfl
    have x103 : evs (.cons (.var 3) (.cons (.var 1) .nil)) [.sh (.int (n : Nat)), .sh (.int (r : Nat)), .sh (.int (k : Nat)), .sh (.int (p : Nat))] = .ok ([.int (p : Nat), .int (r : Nat)], [.sh (.int (n : Nat)), .sh (.int (r : Nat)), .sh (.int (k : Nat)), .sh (.int (p : Nat))]) := evs_cons x101 (evs_cons x102 (rfl))
    have x104 : ev (.call "_law_rail" s__law_rail (.cons (.var 3) (.cons (.var 1) .nil))) [.sh (.int (n : Nat)), .sh (.int (r : Nat)), .sh (.int (k : Nat)), .sh (.int (p : Nat))] = .ok (.sh (.int (rail p r : Nat)), [.sh (.int (n : Nat)), .sh (.int (r : Nat)), .sh (.int (k : Nat)), .sh (.int (p : Nat))]) := ev_call0 (nm := "_law_rail") (F := s__law_rail) x103 rfl (sem__law_rail r1)
    have x105 : opOf (.call "_law_rail" s__law_rail (.cons (.var 3) (.cons (.var 1) .nil))) (ev (.call "_law_rail" s__law_rail (.cons (.var 3) (.cons (.var 1) .nil)))) [.sh (.int (n : Nat)), .sh (.int (r : Nat)), .sh (.int (k : Nat)), .sh (.int (p : Nat))] = .ok (.val (.int (rail p r : Nat)), [.sh (.int (n : Nat)), .sh (.int (r : Nat)), .sh (.int (k : Nat)), .sh (.int (p : Nat))]) := opOf_val (fun i h => by cases h) x104 rfl
    have x106 : opOf (.var 2) (ev (.var 2)) [.sh (.int (n : Nat)), .sh (.int (r : Nat)), .sh (.int (k : Nat)), .sh (.int (p : Nat))] = .ok (.slot 2, [.sh (.int (n : Nat)), .sh (.int (r : Nat)), .sh (.int (k : Nat)), .sh (.int (p : Nat))]) := rfl
    have x107 : ev (.cmp .eq (.call "_law_rail" s__law_rail (.cons (.var 3) (.cons (.var 1) .nil))) (.var 2)) [.sh (.int (n : Nat)), .sh (.int (r : Nat)), .sh (.int (k : Nat)), .sh (.int (p : Nat))] = .ok (.sh (.bool (decide (rail p r = k))), [.sh (.int (n : Nat)), .sh (.int (r : Nat)), .sh (.int (k : Nat)), .sh (.int (p : Nat))]) := ev_cmp x105 x106 rfl rfl (eq_nat _ _)
    exact turn_if (e := [.sh (.int (n : Nat)), .sh (.int (r : Nat)), .sh (.int (k : Nat)), .un]) (e3 := [.sh (.int (n : Nat)), .sh (.int (r : Nat)), .sh (.int (k : Nat)), .sh (.int (p : Nat))]) rfl (testR_of x107) (fun _ => rfl)) (e2 := [.sh (.int (n : Nat)), .sh (.int (r : Nat)), .sh (.int (k : Nat)), .un]) rfl
  have l1 : ev (.lc [("place", 3)] (.nm 3) (.rng (.cons (.var 0) .nil)) (.cmp .eq (.call "_law_rail" s__law_rail (.cons (.var 3) (.cons (.var 1) .nil))) (.var 2)) (.var 3)) [.sh (.int (n : Nat)), .sh (.int (r : Nat)), .sh (.int (k : Nat)), .un] = .ok (.ow (.list ((onR n r k).map fun k : Nat => PyData.int k)), [.sh (.int (n : Nat)), .sh (.int (r : Nat)), .sh (.int (k : Nat)), .un]) := l1

  have hb : exs b__law_on [.sh (.int (n : Nat)), .sh (.int (r : Nat)), .sh (.int (k : Nat)), .un] = .rt (.ow (.list ((onR n r k).map fun k : Nat => PyData.int k))) [.sh (.int (n : Nat)), .sh (.int (r : Nat)), .sh (.int (k : Nat)), .un] := exs_ret l1
  exact q6 (np := 3) (n := 4) (b := b__law_on) rfl rfl (by decide) rfl hb
def bL : CSs := (.cons (.asg (.nm 2) (.bin .add (.var 2) (.me .join (.lit (.str ("" : PySem.Str))) (.cons (.lc [("place", 4)] (.nm 4) (.rng (.cons (.bi .len (.cons (.var 0) .nil)) .nil)) (.cmp .eq (.call "_law_rail" s__law_rail (.cons (.var 4) (.cons (.var 1) .nil))) (.var 3)) (.idx (.var 0) (.var 4))) .nil)))) .nil)
theorem turnL {w acc : List Nat} {r k : Nat} (r1 : 1 ≤ r) (hl : w.length ≤ 1000) (ha : acc.length ≤ 100000) {c3 : Cl} (k3 : OkC c3) : forB (.nm 3) (exs bL) (.int (k : Nat)) [.sh (T w), .sh (.int (r : Nat)), .sh (T (acc)), c3, .un] = .nx [.sh (T w), .sh (.int (r : Nat)), .sh (T (acc ++ hid w (onR w.length r k))), .sh (.int (k : Nat)), .un] := by
  have hl1 : (onR w.length r k).length ≤ w.length := by
      unfold onR
      have := List.length_filter_le (fun p => decide (rail p r = k)) (List.range w.length)
      rw [List.length_range] at this
      exact this
  have b1 := bindT_nm (i := 3) (d := .int (k : Nat)) (e := [.sh (T w), .sh (.int (r : Nat)), .sh (T (acc)), c3, .un]) rfl k3 (by decide : 3 < 5)
  have x61 : ev (.bi .len (.cons (.var 0) .nil)) [.sh (T w), .sh (.int (r : Nat)), .sh (T (acc)), .sh (.int (k : Nat)), .un] = .ok (.sh (.int (w.length : Nat)), [.sh (T w), .sh (.int (r : Nat)), .sh (T (acc)), .sh (.int (k : Nat)), .un]) := bi_var (i := 0) rfl rfl (len_Tw (lim hl))
  have x62 : valR (ev (.bi .len (.cons (.var 0) .nil))) [.sh (T w), .sh (.int (r : Nat)), .sh (T (acc)), .sh (.int (k : Nat)), .un] = .ok (.int (w.length : Nat), [.sh (T w), .sh (.int (r : Nat)), .sh (T (acc)), .sh (.int (k : Nat)), .un]) := valR_of x61 rfl
  have x63 : evs (.cons (.bi .len (.cons (.var 0) .nil)) .nil) [.sh (T w), .sh (.int (r : Nat)), .sh (T (acc)), .sh (.int (k : Nat)), .un] = .ok ([.int (w.length : Nat)], [.sh (T w), .sh (.int (r : Nat)), .sh (T (acc)), .sh (.int (k : Nat)), .un]) := evs_cons x62 (rfl)
  have l1 := lc_B (own := [("place", 4)]) (vs := [4]) (tg := (.nm 4)) (it := (.rng (.cons (.bi .len (.cons (.var 0) .nil)) .nil))) (cond := (.cmp .eq (.call "_law_rail" s__law_rail (.cons (.var 4) (.cons (.var 1) .nil))) (.var 3))) (elt := (.idx (.var 0) (.var 4))) (e := [.sh (T w), .sh (.int (r : Nat)), .sh (T (acc)), .sh (.int (k : Nat)), .un]) (e1 := [.sh (T w), .sh (.int (r : Nat)), .sh (T (acc)), .sh (.int (k : Nat)), .un]) (l := List.range w.length) (E := fun k : Nat => PyData.int k) (G := fun p => T [w.getD p 0]) (fun p => decide (rail p r = k)) rfl (rng_e x63 (rng1 hl)) rfl (fun p hp => by
    have x101 : valR (ev (.var 4)) [.sh (T w), .sh (.int (r : Nat)), .sh (T (acc)), .sh (.int (k : Nat)), .sh (.int (p : Nat))] = .ok (.int (p : Nat), [.sh (T w), .sh (.int (r : Nat)), .sh (T (acc)), .sh (.int (k : Nat)), .sh (.int (p : Nat))]) := rfl
    have x102 : valR (ev (.var 1)) [.sh (T w), .sh (.int (r : Nat)), .sh (T (acc)), .sh (.int (k : Nat)), .sh (.int (p : Nat))] = .ok (.int (r : Nat), [.sh (T w), .sh (.int (r : Nat)), .sh (T (acc)), .sh (.int (k : Nat)), .sh (.int (p : Nat))]) := rfl
    have x103 : evs (.cons (.var 4) (.cons (.var 1) .nil)) [.sh (T w), .sh (.int (r : Nat)), .sh (T (acc)), .sh (.int (k : Nat)), .sh (.int (p : Nat))] = .ok ([.int (p : Nat), .int (r : Nat)], [.sh (T w), .sh (.int (r : Nat)), .sh (T (acc)), .sh (.int (k : Nat)), .sh (.int (p : Nat))]) := evs_cons x101 (evs_cons x102 (rfl))
    have x104 : ev (.call "_law_rail" s__law_rail (.cons (.var 4) (.cons (.var 1) .nil))) [.sh (T w), .sh (.int (r : Nat)), .sh (T (acc)), .sh (.int (k : Nat)), .sh (.int (p : Nat))] = .ok (.sh (.int (rail p r : Nat)), [.sh (T w), .sh (.int (r : Nat)), .sh (T (acc)), .sh (.int (k : Nat)), .sh (.int (p : Nat))]) := ev_call0 (nm := "_law_rail") (F := s__law_rail) x103 rfl (sem__law_rail r1)
    have x105 : opOf (.call "_law_rail" s__law_rail (.cons (.var 4) (.cons (.var 1) .nil))) (ev (.call "_law_rail" s__law_rail (.cons (.var 4) (.cons (.var 1) .nil)))) [.sh (T w), .sh (.int (r : Nat)), .sh (T (acc)), .sh (.int (k : Nat)), .sh (.int (p : Nat))] = .ok (.val (.int (rail p r : Nat)), [.sh (T w), .sh (.int (r : Nat)), .sh (T (acc)), .sh (.int (k : Nat)), .sh (.int (p : Nat))]) := opOf_val (fun i h => by cases h) x104 rfl
    have x106 : opOf (.var 3) (ev (.var 3)) [.sh (T w), .sh (.int (r : Nat)), .sh (T (acc)), .sh (.int (k : Nat)), .sh (.int (p : Nat))] = .ok (.slot 3, [.sh (T w), .sh (.int (r : Nat)), .sh (T (acc)), .sh (.int (k : Nat)), .sh (.int (p : Nat))]) := rfl
    have x107 : ev (.cmp .eq (.call "_law_rail" s__law_rail (.cons (.var 4) (.cons (.var 1) .nil))) (.var 3)) [.sh (T w), .sh (.int (r : Nat)), .sh (T (acc)), .sh (.int (k : Nat)), .sh (.int (p : Nat))] = .ok (.sh (.bool (decide (rail p r = k))), [.sh (T w), .sh (.int (r : Nat)), .sh (T (acc)), .sh (.int (k : Nat)), .sh (.int (p : Nat))]) := ev_cmp x105 x106 rfl rfl (eq_nat _ _)
    have x1 : opOf (.var 0) (ev (.var 0)) [.sh (T w), .sh (.int (r : Nat)), .sh (T (acc)), .sh (.int (k : Nat)), .sh (.int (p : Nat))] = .ok (.slot 0, [.sh (T w), .sh (.int (r : Nat)), .sh (T (acc)), .sh (.int (k : Nat)), .sh (.int (p : Nat))]) := rfl
    have x2 : valR (ev (.var 4)) [.sh (T w), .sh (.int (r : Nat)), .sh (T (acc)), .sh (.int (k : Nat)), .sh (.int (p : Nat))] = .ok (.int (p : Nat), [.sh (T w), .sh (.int (r : Nat)), .sh (T (acc)), .sh (.int (k : Nat)), .sh (.int (p : Nat))]) := rfl
    have x3 : ev (.idx (.var 0) (.var 4)) [.sh (T w), .sh (.int (r : Nat)), .sh (T (acc)), .sh (.int (k : Nat)), .sh (.int (p : Nat))] = .ok (.sh (T [w.getD p 0]), [.sh (T w), .sh (.int (r : Nat)), .sh (T (acc)), .sh (.int (k : Nat)), .sh (.int (p : Nat))]) := idx_val (x := .slot 0) x1 x2 rfl (idx_Tw (lim hl) (List.mem_range.mp hp))
    exact turn_if (e := [.sh (T w), .sh (.int (r : Nat)), .sh (T (acc)), .sh (.int (k : Nat)), .un]) (e3 := [.sh (T w), .sh (.int (r : Nat)), .sh (T (acc)), .sh (.int (k : Nat)), .sh (.int (p : Nat))]) rfl (testR_of x107) (fun _ => valR_of x3 rfl)) (e2 := [.sh (T w), .sh (.int (r : Nat)), .sh (T (acc)), .sh (.int (k : Nat)), .un]) rfl
  have l1 : ev (.lc [("place", 4)] (.nm 4) (.rng (.cons (.bi .len (.cons (.var 0) .nil)) .nil)) (.cmp .eq (.call "_law_rail" s__law_rail (.cons (.var 4) (.cons (.var 1) .nil))) (.var 3)) (.idx (.var 0) (.var 4))) [.sh (T w), .sh (.int (r : Nat)), .sh (T (acc)), .sh (.int (k : Nat)), .un] = .ok (.ow (.list ((onR w.length r k).map fun p => T [w.getD p 0])), [.sh (T w), .sh (.int (r : Nat)), .sh (T (acc)), .sh (.int (k : Nat)), .un]) := l1
  rw [hid_T] at l1
  have x151 : opOf (.var 2) (ev (.var 2)) [.sh (T w), .sh (.int (r : Nat)), .sh (T (acc)), .sh (.int (k : Nat)), .un] = .ok (.slot 2, [.sh (T w), .sh (.int (r : Nat)), .sh (T (acc)), .sh (.int (k : Nat)), .un]) := rfl
  have x152 : ev (.lit (.str ("" : PySem.Str))) [.sh (T w), .sh (.int (r : Nat)), .sh (T (acc)), .sh (.int (k : Nat)), .un] = .ok (.sh (.str ("" : PySem.Str)), [.sh (T w), .sh (.int (r : Nat)), .sh (T (acc)), .sh (.int (k : Nat)), .un]) := rfl
  have x153 : opOf (.lit (.str ("" : PySem.Str))) (ev (.lit (.str ("" : PySem.Str)))) [.sh (T w), .sh (.int (r : Nat)), .sh (T (acc)), .sh (.int (k : Nat)), .un] = .ok (.val (.str ("" : PySem.Str)), [.sh (T w), .sh (.int (r : Nat)), .sh (T (acc)), .sh (.int (k : Nat)), .un]) := opOf_val (fun i h => by cases h) x152 rfl
  have x154 : valR (ev (.lc [("place", 4)] (.nm 4) (.rng (.cons (.bi .len (.cons (.var 0) .nil)) .nil)) (.cmp .eq (.call "_law_rail" s__law_rail (.cons (.var 4) (.cons (.var 1) .nil))) (.var 3)) (.idx (.var 0) (.var 4)))) [.sh (T w), .sh (.int (r : Nat)), .sh (T (acc)), .sh (.int (k : Nat)), .un] = .ok (.list ((hid w (onR w.length r k)).map fun a => T [a]), [.sh (T w), .sh (.int (r : Nat)), .sh (T (acc)), .sh (.int (k : Nat)), .un]) := valR_of l1 rfl
  have x155 : evs (.cons (.lc [("place", 4)] (.nm 4) (.rng (.cons (.bi .len (.cons (.var 0) .nil)) .nil)) (.cmp .eq (.call "_law_rail" s__law_rail (.cons (.var 4) (.cons (.var 1) .nil))) (.var 3)) (.idx (.var 0) (.var 4))) .nil) [.sh (T w), .sh (.int (r : Nat)), .sh (T (acc)), .sh (.int (k : Nat)), .un] = .ok ([.list ((hid w (onR w.length r k)).map fun a => T [a])], [.sh (T w), .sh (.int (r : Nat)), .sh (T (acc)), .sh (.int (k : Nat)), .un]) := evs_cons x154 (rfl)
  have x156 : ev (.me .join (.lit (.str ("" : PySem.Str))) (.cons (.lc [("place", 4)] (.nm 4) (.rng (.cons (.bi .len (.cons (.var 0) .nil)) .nil)) (.cmp .eq (.call "_law_rail" s__law_rail (.cons (.var 4) (.cons (.var 1) .nil))) (.var 3)) (.idx (.var 0) (.var 4))) .nil)) [.sh (T w), .sh (.int (r : Nat)), .sh (T (acc)), .sh (.int (k : Nat)), .un] = .ok (.sh (T (hid w (onR w.length r k))), [.sh (T w), .sh (.int (r : Nat)), .sh (T (acc)), .sh (.int (k : Nat)), .un]) := ev_me (x := .val (.str ("" : PySem.Str))) x153 rfl x155 (join_ws (by rw [len_hid]; omega))
  have x157 : opOf (.me .join (.lit (.str ("" : PySem.Str))) (.cons (.lc [("place", 4)] (.nm 4) (.rng (.cons (.bi .len (.cons (.var 0) .nil)) .nil)) (.cmp .eq (.call "_law_rail" s__law_rail (.cons (.var 4) (.cons (.var 1) .nil))) (.var 3)) (.idx (.var 0) (.var 4))) .nil)) (ev (.me .join (.lit (.str ("" : PySem.Str))) (.cons (.lc [("place", 4)] (.nm 4) (.rng (.cons (.bi .len (.cons (.var 0) .nil)) .nil)) (.cmp .eq (.call "_law_rail" s__law_rail (.cons (.var 4) (.cons (.var 1) .nil))) (.var 3)) (.idx (.var 0) (.var 4))) .nil))) [.sh (T w), .sh (.int (r : Nat)), .sh (T (acc)), .sh (.int (k : Nat)), .un] = .ok (.val (T (hid w (onR w.length r k))), [.sh (T w), .sh (.int (r : Nat)), .sh (T (acc)), .sh (.int (k : Nat)), .un]) := opOf_val (fun i h => by cases h) x156 rfl
  have x158 : ev (.bin .add (.var 2) (.me .join (.lit (.str ("" : PySem.Str))) (.cons (.lc [("place", 4)] (.nm 4) (.rng (.cons (.bi .len (.cons (.var 0) .nil)) .nil)) (.cmp .eq (.call "_law_rail" s__law_rail (.cons (.var 4) (.cons (.var 1) .nil))) (.var 3)) (.idx (.var 0) (.var 4))) .nil))) [.sh (T w), .sh (.int (r : Nat)), .sh (T (acc)), .sh (.int (k : Nat)), .un] = .ok (.sh (T (acc ++ hid w (onR w.length r k))), [.sh (T w), .sh (.int (r : Nat)), .sh (T (acc)), .sh (.int (k : Nat)), .un]) := ev_bin x151 x157 rfl rfl (add_Tw (by rw [len_hid]; omega))
  unfold forB
  rw [b1]
  exact (exs_step (ex_asg x158 rfl)).trans (rfl)
theorem loopL {w : List Nat} {r : Nat} (r1 : 1 ≤ r) (hl : w.length ≤ 1000) : ∀ (l acc : List Nat) (c3 : Cl), acc.length + 1000 * l.length ≤ 100000 → OkC c3 → ∃ c3', forL (forB (.nm 3) (exs bL)) (l.map fun k : Nat => PyData.int k) [.sh (T w), .sh (.int (r : Nat)), .sh (T (acc)), c3, .un] = .nx [.sh (T w), .sh (.int (r : Nat)), .sh (T (acc ++ hid w (l.flatMap (onR w.length r)))), c3', .un] := by
  intro l
  induction l with
  | nil => exact fun acc c3 _ _ => ⟨c3, by show _ = SR.nx [.sh (T w), .sh (.int (r : Nat)), .sh (T (acc ++ [])), c3, .un]; rw [List.append_nil]; rfl⟩
  | cons k l ih =>
    intro acc c3 ha k3
    rw [List.length_cons] at ha
    have hl1 : (onR w.length r k).length ≤ w.length := by
        unfold onR
        have := List.length_filter_le (fun p => decide (rail p r = k)) (List.range w.length)
        rw [List.length_range] at this
        exact this
    obtain ⟨c3', h⟩ := ih (acc ++ hid w (onR w.length r k)) (.sh (.int (k : Nat))) (by rw [List.length_append, len_hid]; omega) (okc _)
    refine ⟨c3', ?_⟩
    rw [List.map_cons]
    unfold forL
    rw [turnL r1 hl (by omega) k3, List.flatMap_cons]
    have e9 : acc ++ hid w (onR w.length r k ++ l.flatMap (onR w.length r)) = acc ++ hid w (onR w.length r k) ++ hid w (l.flatMap (onR w.length r)) := by
      unfold hid
      rw [List.map_append, List.append_assoc]
    rw [e9]
    exact h
theorem sem__law_fenced {w : List Nat} {r : Nat} (h : Text w) (r1 : 1 ≤ r) (r8 : r ≤ 8) : s__law_fenced.sem [T w, .int (r : Nat)] = .ok (.sh (T (hid w (ord r w.length)))) .none := by
  have x1 : ev (.lit (.str ("" : PySem.Str))) [.sh (T w), .sh (.int (r : Nat)), .un, .un, .un] = .ok (.sh (.str ("" : PySem.Str)), [.sh (T w), .sh (.int (r : Nat)), .un, .un, .un]) := rfl
  have y1 : ex (.asg (.nm 2) (.lit (.str ("" : PySem.Str)))) [.sh (T w), .sh (.int (r : Nat)), .un, .un, .un] = .nx [.sh (T w), .sh (.int (r : Nat)), .sh (T ([])), .un, .un] := ex_asg x1 rfl
  obtain ⟨c3', lp⟩ := loopL (w := w) r1 h.lim (List.range r) [] .un (by rw [List.length_range]; show 0 + _ ≤ _; omega) (.inl rfl)
  rw [List.nil_append] at lp
  have he : evI (.rng (.cons (.var 1) .nil)) [.sh (T w), .sh (.int (r : Nat)), .sh (T ([])), .un, .un] = .ok (((List.range r).map fun k : Nat => PyData.int k, .val .none), [.sh (T w), .sh (.int (r : Nat)), .sh (T ([])), .un, .un]) := rng_v (i := 1) rfl (by omega)
  have y2 := ex_for (tg := .nm 3) (b := bL) he lp
  unfold bL at y2
  have x51 : ev (.var 2) [.sh (T w), .sh (.int (r : Nat)), .sh (T (hid w (ord r w.length))), c3', .un] = .ok (.sh (T (hid w (ord r w.length))), [.sh (T w), .sh (.int (r : Nat)), .sh (T (hid w (ord r w.length))), c3', .un]) := rfl
  have hb : exs b__law_fenced [.sh (T w), .sh (.int (r : Nat)), .un, .un, .un] = .rt (.sh (T (hid w (ord r w.length)))) [.sh (T w), .sh (.int (r : Nat)), .sh (T (hid w (ord r w.length))), c3', .un] := (exs_step y1).trans ((exs_step y2).trans (exs_ret x51))
  exact q6 (np := 2) (n := 5) (b := b__law_fenced) rfl rfl (by decide) rfl hb
theorem ne_self {w : List Nat} (h : W w) : cmpD .ne (T w) (T w) = some false := by rw [ne_T h h, decide_eq_true rfl]; rfl
theorem eq_self {w : List Nat} (h : W w) : cmpD .eq (T w) (T w) = some true := by rw [cmp_eq, eq_T h h, decide_eq_true rfl]
theorem sem__law_is_right {w : List Nat} {r : Nat} (h : Text w) (r1 : 1 ≤ r) (r8 : r ≤ 8) : s__law_is_right.sem [T w, .int (r : Nat)] = .ok (.sh (.bool true)) .none := by
  have ho := ord_ok (r := r) (n := w.length) (by omega) r8 h.le
  have l1 : (hid w (ord r w.length)).length = w.length := by rw [len_hid, ho.len]
  have h1 : Text (hid w (ord r w.length)) := ⟨W_hid h.ok, by rw [l1]; exact h.pos, by rw [l1]; exact h.le⟩
  have hu := sem_unfenced h1 r1 r8
  rw [l1, open_hid ho] at hu
  have l2 : (opened w (ord r w.length)).length = w.length := len_opened ho
  have h2 : Text (opened w (ord r w.length)) := ⟨W_opened ho h.ok, by rw [l2]; exact h.pos, by rw [l2]; exact h.le⟩
  have hf := sem_fenced h2 r1 r8
  rw [l2, hid_open ho] at hf
  have hln := len_Tw (w := hid w (ord r w.length)) (by rw [l1]; exact lim h.lim)
  rw [l1] at hln
  have x1 : valR (ev (.var 0)) [.sh (T w), .sh (.int (r : Nat)), .un] = .ok (T w, [.sh (T w), .sh (.int (r : Nat)), .un]) := rfl
  have x2 : valR (ev (.var 1)) [.sh (T w), .sh (.int (r : Nat)), .un] = .ok (.int (r : Nat), [.sh (T w), .sh (.int (r : Nat)), .un]) := rfl
  have x3 : evs (.cons (.var 0) (.cons (.var 1) .nil)) [.sh (T w), .sh (.int (r : Nat)), .un] = .ok ([T w, .int (r : Nat)], [.sh (T w), .sh (.int (r : Nat)), .un]) := evs_cons x1 (evs_cons x2 (rfl))
  have x4 : ev (.call "_law_fenced" s__law_fenced (.cons (.var 0) (.cons (.var 1) .nil))) [.sh (T w), .sh (.int (r : Nat)), .un] = .ok (.sh (T (hid w (ord r w.length))), [.sh (T w), .sh (.int (r : Nat)), .un]) := ev_call0 (nm := "_law_fenced") (F := s__law_fenced) x3 rfl (sem__law_fenced h r1 r8)
  have x5 : valR (ev (.var 0)) [.sh (T w), .sh (.int (r : Nat)), .sh (T (hid w (ord r w.length)))] = .ok (T w, [.sh (T w), .sh (.int (r : Nat)), .sh (T (hid w (ord r w.length)))]) := rfl
  have x6 : valR (ev (.var 1)) [.sh (T w), .sh (.int (r : Nat)), .sh (T (hid w (ord r w.length)))] = .ok (.int (r : Nat), [.sh (T w), .sh (.int (r : Nat)), .sh (T (hid w (ord r w.length)))]) := rfl
  have x7 : evs (.cons (.var 0) (.cons (.var 1) .nil)) [.sh (T w), .sh (.int (r : Nat)), .sh (T (hid w (ord r w.length)))] = .ok ([T w, .int (r : Nat)], [.sh (T w), .sh (.int (r : Nat)), .sh (T (hid w (ord r w.length)))]) := evs_cons x5 (evs_cons x6 (rfl))
  have x8 : ev (.call "fenced" s_fenced (.cons (.var 0) (.cons (.var 1) .nil))) [.sh (T w), .sh (.int (r : Nat)), .sh (T (hid w (ord r w.length)))] = .ok (.sh (T (hid w (ord r w.length))), [.sh (T w), .sh (.int (r : Nat)), .sh (T (hid w (ord r w.length)))]) := ev_call0 (nm := "fenced") (F := s_fenced) x7 rfl (sem_fenced h r1 r8)
  have x9 : opOf (.call "fenced" s_fenced (.cons (.var 0) (.cons (.var 1) .nil))) (ev (.call "fenced" s_fenced (.cons (.var 0) (.cons (.var 1) .nil)))) [.sh (T w), .sh (.int (r : Nat)), .sh (T (hid w (ord r w.length)))] = .ok (.val (T (hid w (ord r w.length))), [.sh (T w), .sh (.int (r : Nat)), .sh (T (hid w (ord r w.length)))]) := opOf_val (fun i h => by cases h) x8 rfl
  have x10 : opOf (.var 2) (ev (.var 2)) [.sh (T w), .sh (.int (r : Nat)), .sh (T (hid w (ord r w.length)))] = .ok (.slot 2, [.sh (T w), .sh (.int (r : Nat)), .sh (T (hid w (ord r w.length)))]) := rfl
  have x11 : ev (.cmp .ne (.call "fenced" s_fenced (.cons (.var 0) (.cons (.var 1) .nil))) (.var 2)) [.sh (T w), .sh (.int (r : Nat)), .sh (T (hid w (ord r w.length)))] = .ok (.sh (.bool false), [.sh (T w), .sh (.int (r : Nat)), .sh (T (hid w (ord r w.length)))]) := ev_cmp x9 x10 rfl rfl (ne_self (W_hid h.ok))
  have x12 : valR (ev (.var 2)) [.sh (T w), .sh (.int (r : Nat)), .sh (T (hid w (ord r w.length)))] = .ok (T (hid w (ord r w.length)), [.sh (T w), .sh (.int (r : Nat)), .sh (T (hid w (ord r w.length)))]) := rfl
  have x13 : valR (ev (.var 1)) [.sh (T w), .sh (.int (r : Nat)), .sh (T (hid w (ord r w.length)))] = .ok (.int (r : Nat), [.sh (T w), .sh (.int (r : Nat)), .sh (T (hid w (ord r w.length)))]) := rfl
  have x14 : evs (.cons (.var 2) (.cons (.var 1) .nil)) [.sh (T w), .sh (.int (r : Nat)), .sh (T (hid w (ord r w.length)))] = .ok ([T (hid w (ord r w.length)), .int (r : Nat)], [.sh (T w), .sh (.int (r : Nat)), .sh (T (hid w (ord r w.length)))]) := evs_cons x12 (evs_cons x13 (rfl))
  have x15 : ev (.call "unfenced" s_unfenced (.cons (.var 2) (.cons (.var 1) .nil))) [.sh (T w), .sh (.int (r : Nat)), .sh (T (hid w (ord r w.length)))] = .ok (.sh (T w), [.sh (T w), .sh (.int (r : Nat)), .sh (T (hid w (ord r w.length)))]) := ev_call0 (nm := "unfenced") (F := s_unfenced) x14 rfl hu
  have x16 : opOf (.call "unfenced" s_unfenced (.cons (.var 2) (.cons (.var 1) .nil))) (ev (.call "unfenced" s_unfenced (.cons (.var 2) (.cons (.var 1) .nil)))) [.sh (T w), .sh (.int (r : Nat)), .sh (T (hid w (ord r w.length)))] = .ok (.val (T w), [.sh (T w), .sh (.int (r : Nat)), .sh (T (hid w (ord r w.length)))]) := opOf_val (fun i h => by cases h) x15 rfl
  have x17 : opOf (.var 0) (ev (.var 0)) [.sh (T w), .sh (.int (r : Nat)), .sh (T (hid w (ord r w.length)))] = .ok (.slot 0, [.sh (T w), .sh (.int (r : Nat)), .sh (T (hid w (ord r w.length)))]) := rfl
  have x18 : ev (.cmp .ne (.call "unfenced" s_unfenced (.cons (.var 2) (.cons (.var 1) .nil))) (.var 0)) [.sh (T w), .sh (.int (r : Nat)), .sh (T (hid w (ord r w.length)))] = .ok (.sh (.bool false), [.sh (T w), .sh (.int (r : Nat)), .sh (T (hid w (ord r w.length)))]) := ev_cmp x16 x17 rfl rfl (ne_self h.ok)
  have x19 : ev (.bop false (.cons (.cmp .ne (.call "fenced" s_fenced (.cons (.var 0) (.cons (.var 1) .nil))) (.var 2)) (.cons (.cmp .ne (.call "unfenced" s_unfenced (.cons (.var 2) (.cons (.var 1) .nil))) (.var 0)) .nil))) [.sh (T w), .sh (.int (r : Nat)), .sh (T (hid w (ord r w.length)))] = .ok (.sh (.bool false), [.sh (T w), .sh (.int (r : Nat)), .sh (T (hid w (ord r w.length)))]) := ev_bop (evB_or x11 (evB_one x18))
  have x20 : valR (ev (.var 0)) [.sh (T w), .sh (.int (r : Nat)), .sh (T (hid w (ord r w.length)))] = .ok (T w, [.sh (T w), .sh (.int (r : Nat)), .sh (T (hid w (ord r w.length)))]) := rfl
  have x21 : valR (ev (.var 1)) [.sh (T w), .sh (.int (r : Nat)), .sh (T (hid w (ord r w.length)))] = .ok (.int (r : Nat), [.sh (T w), .sh (.int (r : Nat)), .sh (T (hid w (ord r w.length)))]) := rfl
  have x22 : evs (.cons (.var 0) (.cons (.var 1) .nil)) [.sh (T w), .sh (.int (r : Nat)), .sh (T (hid w (ord r w.length)))] = .ok ([T w, .int (r : Nat)], [.sh (T w), .sh (.int (r : Nat)), .sh (T (hid w (ord r w.length)))]) := evs_cons x20 (evs_cons x21 (rfl))
  have x23 : ev (.call "unfenced" s_unfenced (.cons (.var 0) (.cons (.var 1) .nil))) [.sh (T w), .sh (.int (r : Nat)), .sh (T (hid w (ord r w.length)))] = .ok (.sh (T (opened w (ord r w.length))), [.sh (T w), .sh (.int (r : Nat)), .sh (T (hid w (ord r w.length)))]) := ev_call0 (nm := "unfenced") (F := s_unfenced) x22 rfl (sem_unfenced h r1 r8)
  have x24 : valR (ev (.call "unfenced" s_unfenced (.cons (.var 0) (.cons (.var 1) .nil)))) [.sh (T w), .sh (.int (r : Nat)), .sh (T (hid w (ord r w.length)))] = .ok (T (opened w (ord r w.length)), [.sh (T w), .sh (.int (r : Nat)), .sh (T (hid w (ord r w.length)))]) := valR_of x23 rfl
  have x25 : valR (ev (.var 1)) [.sh (T w), .sh (.int (r : Nat)), .sh (T (hid w (ord r w.length)))] = .ok (.int (r : Nat), [.sh (T w), .sh (.int (r : Nat)), .sh (T (hid w (ord r w.length)))]) := rfl
  have x26 : evs (.cons (.call "unfenced" s_unfenced (.cons (.var 0) (.cons (.var 1) .nil))) (.cons (.var 1) .nil)) [.sh (T w), .sh (.int (r : Nat)), .sh (T (hid w (ord r w.length)))] = .ok ([T (opened w (ord r w.length)), .int (r : Nat)], [.sh (T w), .sh (.int (r : Nat)), .sh (T (hid w (ord r w.length)))]) := evs_cons x24 (evs_cons x25 (rfl))
  have x27 : ev (.call "fenced" s_fenced (.cons (.call "unfenced" s_unfenced (.cons (.var 0) (.cons (.var 1) .nil))) (.cons (.var 1) .nil))) [.sh (T w), .sh (.int (r : Nat)), .sh (T (hid w (ord r w.length)))] = .ok (.sh (T w), [.sh (T w), .sh (.int (r : Nat)), .sh (T (hid w (ord r w.length)))]) := ev_call0 (nm := "fenced") (F := s_fenced) x26 rfl hf
  have x28 : opOf (.call "fenced" s_fenced (.cons (.call "unfenced" s_unfenced (.cons (.var 0) (.cons (.var 1) .nil))) (.cons (.var 1) .nil))) (ev (.call "fenced" s_fenced (.cons (.call "unfenced" s_unfenced (.cons (.var 0) (.cons (.var 1) .nil))) (.cons (.var 1) .nil)))) [.sh (T w), .sh (.int (r : Nat)), .sh (T (hid w (ord r w.length)))] = .ok (.val (T w), [.sh (T w), .sh (.int (r : Nat)), .sh (T (hid w (ord r w.length)))]) := opOf_val (fun i h => by cases h) x27 rfl
  have x29 : opOf (.var 0) (ev (.var 0)) [.sh (T w), .sh (.int (r : Nat)), .sh (T (hid w (ord r w.length)))] = .ok (.slot 0, [.sh (T w), .sh (.int (r : Nat)), .sh (T (hid w (ord r w.length)))]) := rfl
  have x30 : ev (.cmp .eq (.call "fenced" s_fenced (.cons (.call "unfenced" s_unfenced (.cons (.var 0) (.cons (.var 1) .nil))) (.cons (.var 1) .nil))) (.var 0)) [.sh (T w), .sh (.int (r : Nat)), .sh (T (hid w (ord r w.length)))] = .ok (.sh (.bool true), [.sh (T w), .sh (.int (r : Nat)), .sh (T (hid w (ord r w.length)))]) := ev_cmp x28 x29 rfl rfl (eq_self h.ok)
  have x31 : ev (.bi .len (.cons (.var 2) .nil)) [.sh (T w), .sh (.int (r : Nat)), .sh (T (hid w (ord r w.length)))] = .ok (.sh (.int (w.length : Nat)), [.sh (T w), .sh (.int (r : Nat)), .sh (T (hid w (ord r w.length)))]) := bi_var (i := 2) rfl rfl hln
  have x32 : opOf (.bi .len (.cons (.var 2) .nil)) (ev (.bi .len (.cons (.var 2) .nil))) [.sh (T w), .sh (.int (r : Nat)), .sh (T (hid w (ord r w.length)))] = .ok (.val (.int (w.length : Nat)), [.sh (T w), .sh (.int (r : Nat)), .sh (T (hid w (ord r w.length)))]) := opOf_val (fun i h => by cases h) x31 rfl
  have x33 : ev (.bi .len (.cons (.var 0) .nil)) [.sh (T w), .sh (.int (r : Nat)), .sh (T (hid w (ord r w.length)))] = .ok (.sh (.int (w.length : Nat)), [.sh (T w), .sh (.int (r : Nat)), .sh (T (hid w (ord r w.length)))]) := bi_var (i := 0) rfl rfl (len_Tw (lim h.lim))
  have x34 : opOf (.bi .len (.cons (.var 0) .nil)) (ev (.bi .len (.cons (.var 0) .nil))) [.sh (T w), .sh (.int (r : Nat)), .sh (T (hid w (ord r w.length)))] = .ok (.val (.int (w.length : Nat)), [.sh (T w), .sh (.int (r : Nat)), .sh (T (hid w (ord r w.length)))]) := opOf_val (fun i h => by cases h) x33 rfl
  have x35 : ev (.cmp .eq (.bi .len (.cons (.var 2) .nil)) (.bi .len (.cons (.var 0) .nil))) [.sh (T w), .sh (.int (r : Nat)), .sh (T (hid w (ord r w.length)))] = .ok (.sh (.bool true), [.sh (T w), .sh (.int (r : Nat)), .sh (T (hid w (ord r w.length)))]) := ev_cmp x32 x34 rfl rfl (by rw [eq_nat, decide_eq_true rfl])
  have x36 : ev (.bop true (.cons (.cmp .eq (.call "fenced" s_fenced (.cons (.call "unfenced" s_unfenced (.cons (.var 0) (.cons (.var 1) .nil))) (.cons (.var 1) .nil))) (.var 0)) (.cons (.cmp .eq (.bi .len (.cons (.var 2) .nil)) (.bi .len (.cons (.var 0) .nil))) .nil))) [.sh (T w), .sh (.int (r : Nat)), .sh (T (hid w (ord r w.length)))] = .ok (.sh (.bool true), [.sh (T w), .sh (.int (r : Nat)), .sh (T (hid w (ord r w.length)))]) := ev_bop (evB_andt x30 (evB_one x35))
  have hb : exs b__law_is_right [.sh (T w), .sh (.int (r : Nat)), .un] = .rt (.sh (.bool true)) [.sh (T w), .sh (.int (r : Nat)), .sh (T (hid w (ord r w.length)))] := (exs_step (ex_asg x4 rfl)).trans ((exs_step (ite_f x19)).trans (exs_ret x36))
  exact q6 (np := 2) (n := 3) (b := b__law_is_right) rfl rfl (by decide) rfl hb
end K19
end
section
namespace K19
open PySem PV PV.Lib
open PV.HandA (Ok)
theorem draw_eq : s__law_draw = HandC.s_draw := rfl
theorem any_eq : s__law_any = HandC.s_any := rfl
theorem hand_eq : s__law_hand = HandC.s_hand := rfl
theorem drawK {h : D} {m : Nat} (hh : Ok h) (hm : 0 < m) (hs : m ≤ 1000) : ∃ (f : Nat) (d : Nat) (h' : D), s__law_draw.sem [h, .int (m : Nat)] = .ok (.sh (.int (d : Nat))) h' ∧ binD .add (.int 1) (.int (d : Nat)) = some (.sh (.int (f : Nat))) ∧ 1 ≤ f ∧ f ≤ m ∧ Ok h' := by
  obtain ⟨d, h', e, hd, hh'⟩ := HandC.drawN hh hm hs
  exact ⟨1 + d, d, h', e, by rw [bin_add]; rfl, by omega, by omega, hh'⟩
theorem ev_lix {a : CE} {es : CEs} {e e1 e2 : En} {x : Op} {l l' : List D} {ds : List D} {r : Cl} (h1 : opOf a (ev a) e = .ok (x, e1)) (h2 : x.get e1 = some (.list l)) (h3 : evs es e1 = .ok (ds, e2)) (h5 : x.get e2 = some (.list l')) (h4 : meD .index (.list l') ds = some r) : ev (.me .index a es) e = .ok (r, e2) := by
  rw [ev, h1, bind_ok]
  dsimp only
  rw [h2, lift_s, bind_ok]
  unfold meG
  dsimp only
  rw [h3, bind_ok]
  dsimp only
  rw [h5, lift_s, bind_ok, h4, lift_s, bind_ok]
theorem idx_lets (x : List Nat) (a : Nat) : (lets x).idxOf (a + 97) = x.idxOf a := by
  induction x with
  | nil => rfl
  | cons b x ih =>
    show List.idxOf (a + 97) ((b + 97) :: lets x) = _
    rw [List.idxOf_cons, List.idxOf_cons, ih]
    have : (b + 97 == a + 97) = (b == a) := by rw [Bool.eq_iff_iff]; simp
    rw [this]
theorem ix_z {x : List Nat} (h : 25 ∈ x) : meD .index (T x) [.str ("z" : PySem.Str)] = some (.sh (.int (x.idxOf 25 : Nat))) := by
  have := ixm_TX (c := 25 + 97) (l := lets x) (List.mem_map.mpr ⟨25, h, rfl⟩)
  rw [idx_lets] at this
  exact this
theorem idx_cast (o : List Nat) (p : Nat) : (o.map fun k : Nat => (k : Int)).idxOf (p : Int) = o.idxOf p := by
  induction o with
  | nil => rfl
  | cons b o ih =>
    rw [List.map_cons, List.idxOf_cons, List.idxOf_cons, ih]
    have : ((b : Int) == (p : Int)) = (b == p) := by rw [Bool.eq_iff_iff]; simp; omega
    rw [this]
theorem ix_L {o : List Nat} {p : Nat} (h : p ∈ o) : meD .index (.list (o.map fun k : Nat => PyData.int k)) [.int (p : Nat)] = some (.sh (.int (o.idxOf p : Nat))) := by
  have e : o.map (fun k : Nat => PyData.int k) = (o.map fun k : Nat => (k : Int)).map PyData.int := by rw [List.map_map]; rfl
  rw [e]
  show ((intsL _).bind fun ns => if (p : Int) ∈ ns then some (Cl.sh (.int (ns.idxOf (p : Int) : Nat))) else none) = _
  rw [intsL_map, Option.bind_some, if_pos (List.mem_map.mpr ⟨p, h, rfl⟩), idx_cast]
theorem mul_a {m : Nat} (h : m ≤ 1000) : binD .mul (.str ("a" : PySem.Str)) (.int (m : Nat)) = some (.sh (T (List.replicate m 0))) := by
  have := mul_Tw (a := [0]) (k := m) (by simp; omega) (by omega)
  rw [List.flatten_replicate_singleton] at this
  exact this
theorem any_T {h : D} {w : List Nat} (hh : Ok h) (h0 : 0 < w.length) (hl : w.length ≤ 1000) : ∃ (a : Nat) (h' : D), s__law_any.sem [h, T w] = .ok (.sh (T [a])) h' ∧ a ∈ w ∧ Ok h' := by
  obtain ⟨i, h', e, hi, hh'⟩ := HandC.any_str (w := lets w) hh (by rw [len_lets]; exact h0) (by rw [len_lets]; exact hl)
  rw [len_lets] at hi
  have e2 : (lets w).getD i 0 = w[i] + 97 := by
    unfold lets
    rw [List.getD_eq_getElem?_getD, List.getElem?_map, List.getElem?_eq_getElem hi]; rfl
  rw [e2] at e
  exact ⟨w[i], h', e, List.getElem_mem hi, hh'⟩
theorem turnsT {w : List Nat} {m : Nat} (h0 : 0 < w.length) (hl : w.length ≤ 1000) : ∀ (xs : List D) (h : D) (acc : List D), Ok h → ∃ (u : List Nat) (h' : D), u.length = xs.length ∧ (∀ x ∈ u, x ∈ w) ∧ Ok h' ∧ lcL (turnF (.nm 3) [3] (condR .noe (ev .noe)) (valR (ev (.call "_law_any" s__law_any (.cons (.var 0) (.cons (.var 2) .nil)))))) xs acc [.io h, .sh (.int (m : Nat)), .sh (T w), .un] = .ok (acc ++ u.map (fun a => T [a]), [.io h', .sh (.int (m : Nat)), .sh (T w), .un]) := by
  intro xs
  induction xs with
  | nil => exact fun h acc hh => ⟨[], h, rfl, (fun x hx => by cases hx), hh, by rw [List.map_nil, List.append_nil]; rfl⟩
  | cons x xs ih =>
    intro h acc hh
    obtain ⟨a, h1, e1, ha, hh1⟩ := any_T hh h0 hl
    obtain ⟨u, h2, hu, hw, hh2, hr⟩ := ih h1 (acc ++ [T [a]]) hh1
    refine ⟨a :: u, h2, by rw [List.length_cons, hu, List.length_cons], fun y hy => ?_, hh2, ?_⟩
    · rcases List.mem_cons.mp hy with rfl | hy
      · exact ha
      · exact hw y hy
    · have b1 := ev_callI (nm := "_law_any") (F := s__law_any) (i := 0) (es := .cons (.var 2) .nil) (e := [.io h, .sh (.int (m : Nat)), .sh (T w), .sh x]) (ds := [T w]) rfl rfl rfl rfl e1
      have t1 : turnF (.nm 3) [3] (condR .noe (ev .noe)) (valR (ev (.call "_law_any" s__law_any (.cons (.var 0) (.cons (.var 2) .nil))))) x [.io h, .sh (.int (m : Nat)), .sh (T w), .un] = .ok (some (T [a]), [.io h1, .sh (.int (m : Nat)), .sh (T w), .un]) := turn_elt (e3 := [.io h, .sh (.int (m : Nat)), .sh (T w), .sh x]) (e4 := [.io h1, .sh (.int (m : Nat)), .sh (T w), .sh x]) rfl (valR_of b1 rfl)
      rw [lcL, t1, bind_ok]
      dsimp only
      rw [hr, List.map_cons, List.append_assoc]
      rfl
theorem sem__law_text {h : D} {m : Nat} (hh : Ok h) (hm : 0 < m) (hm2 : m ≤ 900) : ∃ (w : List Nat) (h' : D), s__law_text.sem [h, .int (m : Nat)] = .ok (.sh (T w)) h' ∧ W w ∧ 1 ≤ w.length ∧ w.length ≤ m ∧ Ok h' := by
  obtain ⟨w, h1, e1, hw, hh1⟩ := HandC.any_in (E := T) (l := [[0, 1], [0, 1, 2], List.range 10, List.range 26]) hh (by simp) (by simp)
  have e1 : s__law_any.sem [h, .list [.str ("ab" : PySem.Str), .str ("abc" : PySem.Str), .str ("abcdefghij" : PySem.Str), .str ("abcdefghijklmnopqrstuvwxyz" : PySem.Str)]] = .ok (.sh (T w)) h1 := e1
  have pw : W w ∧ 0 < w.length ∧ w.length ≤ 1000 := by
    simp only [List.mem_cons, List.not_mem_nil, or_false] at hw
    rcases hw with rfl | rfl | rfl | rfl
    · exact ⟨by unfold W; decide, by decide, by decide⟩
    · exact ⟨by unfold W; decide, by decide, by decide⟩
    · exact ⟨by unfold W; decide, by decide, by decide⟩
    · exact ⟨fun a ha => List.mem_range.mp ha, by decide, by decide⟩
  obtain ⟨d, h2, e2, hd, hh2⟩ := HandC.drawN (m := m) hh1 hm (by omega)
  obtain ⟨u, h3, hu, huw, hh3, hr⟩ := turnsT (w := w) (m := m) pw.2.1 pw.2.2 ((List.range (1 + d)).map fun k : Nat => PyData.int k) h2 [] hh2
  rw [List.length_map, List.length_range] at hu
  have e2 : s__law_draw.sem [h1, .int (m : Nat)] = .ok (.sh (.int (d : Nat))) h2 := e2
  have wu : W u := fun x hx => pw.1 x (huw x hx)
  have x1 : ev (.lit (.str ("ab" : PySem.Str))) [.io h, .sh (.int (m : Nat)), .un, .un] = .ok (.sh (.str ("ab" : PySem.Str)), [.io h, .sh (.int (m : Nat)), .un, .un]) := rfl
  have x2 : valR (ev (.lit (.str ("ab" : PySem.Str)))) [.io h, .sh (.int (m : Nat)), .un, .un] = .ok (.str ("ab" : PySem.Str), [.io h, .sh (.int (m : Nat)), .un, .un]) := valR_of x1 rfl
  have x3 : ev (.lit (.str ("abc" : PySem.Str))) [.io h, .sh (.int (m : Nat)), .un, .un] = .ok (.sh (.str ("abc" : PySem.Str)), [.io h, .sh (.int (m : Nat)), .un, .un]) := rfl
  have x4 : valR (ev (.lit (.str ("abc" : PySem.Str)))) [.io h, .sh (.int (m : Nat)), .un, .un] = .ok (.str ("abc" : PySem.Str), [.io h, .sh (.int (m : Nat)), .un, .un]) := valR_of x3 rfl
  have x5 : ev (.lit (.str ("abcdefghij" : PySem.Str))) [.io h, .sh (.int (m : Nat)), .un, .un] = .ok (.sh (.str ("abcdefghij" : PySem.Str)), [.io h, .sh (.int (m : Nat)), .un, .un]) := rfl
  have x6 : valR (ev (.lit (.str ("abcdefghij" : PySem.Str)))) [.io h, .sh (.int (m : Nat)), .un, .un] = .ok (.str ("abcdefghij" : PySem.Str), [.io h, .sh (.int (m : Nat)), .un, .un]) := valR_of x5 rfl
  have x7 : ev (.lit (.str ("abcdefghijklmnopqrstuvwxyz" : PySem.Str))) [.io h, .sh (.int (m : Nat)), .un, .un] = .ok (.sh (.str ("abcdefghijklmnopqrstuvwxyz" : PySem.Str)), [.io h, .sh (.int (m : Nat)), .un, .un]) := rfl
  have x8 : valR (ev (.lit (.str ("abcdefghijklmnopqrstuvwxyz" : PySem.Str)))) [.io h, .sh (.int (m : Nat)), .un, .un] = .ok (.str ("abcdefghijklmnopqrstuvwxyz" : PySem.Str), [.io h, .sh (.int (m : Nat)), .un, .un]) := valR_of x7 rfl
  have x9 : evs (.cons (.lit (.str ("ab" : PySem.Str))) (.cons (.lit (.str ("abc" : PySem.Str))) (.cons (.lit (.str ("abcdefghij" : PySem.Str))) (.cons (.lit (.str ("abcdefghijklmnopqrstuvwxyz" : PySem.Str))) .nil)))) [.io h, .sh (.int (m : Nat)), .un, .un] = .ok ([.str ("ab" : PySem.Str), .str ("abc" : PySem.Str), .str ("abcdefghij" : PySem.Str), .str ("abcdefghijklmnopqrstuvwxyz" : PySem.Str)], [.io h, .sh (.int (m : Nat)), .un, .un]) := evs_cons x2 (evs_cons x4 (evs_cons x6 (evs_cons x8 (rfl))))
  have x10 : ev (.lst (.cons (.lit (.str ("ab" : PySem.Str))) (.cons (.lit (.str ("abc" : PySem.Str))) (.cons (.lit (.str ("abcdefghij" : PySem.Str))) (.cons (.lit (.str ("abcdefghijklmnopqrstuvwxyz" : PySem.Str))) .nil))))) [.io h, .sh (.int (m : Nat)), .un, .un] = .ok (.ow (.list [.str ("ab" : PySem.Str), .str ("abc" : PySem.Str), .str ("abcdefghij" : PySem.Str), .str ("abcdefghijklmnopqrstuvwxyz" : PySem.Str)]), [.io h, .sh (.int (m : Nat)), .un, .un]) := ev_lst x9 (Nat.le_of_ble_eq_true rfl)
  have x11 : valR (ev (.lst (.cons (.lit (.str ("ab" : PySem.Str))) (.cons (.lit (.str ("abc" : PySem.Str))) (.cons (.lit (.str ("abcdefghij" : PySem.Str))) (.cons (.lit (.str ("abcdefghijklmnopqrstuvwxyz" : PySem.Str))) .nil)))))) [.io h, .sh (.int (m : Nat)), .un, .un] = .ok (.list [.str ("ab" : PySem.Str), .str ("abc" : PySem.Str), .str ("abcdefghij" : PySem.Str), .str ("abcdefghijklmnopqrstuvwxyz" : PySem.Str)], [.io h, .sh (.int (m : Nat)), .un, .un]) := valR_of x10 rfl
  have x12 : evs (.cons (.lst (.cons (.lit (.str ("ab" : PySem.Str))) (.cons (.lit (.str ("abc" : PySem.Str))) (.cons (.lit (.str ("abcdefghij" : PySem.Str))) (.cons (.lit (.str ("abcdefghijklmnopqrstuvwxyz" : PySem.Str))) .nil))))) .nil) [.io h, .sh (.int (m : Nat)), .un, .un] = .ok ([.list [.str ("ab" : PySem.Str), .str ("abc" : PySem.Str), .str ("abcdefghij" : PySem.Str), .str ("abcdefghijklmnopqrstuvwxyz" : PySem.Str)]], [.io h, .sh (.int (m : Nat)), .un, .un]) := evs_cons x11 (rfl)
  have x13 : ev (.call "_law_any" s__law_any (.cons (.var 0) (.cons (.lst (.cons (.lit (.str ("ab" : PySem.Str))) (.cons (.lit (.str ("abc" : PySem.Str))) (.cons (.lit (.str ("abcdefghij" : PySem.Str))) (.cons (.lit (.str ("abcdefghijklmnopqrstuvwxyz" : PySem.Str))) .nil))))) .nil))) [.io h, .sh (.int (m : Nat)), .un, .un] = .ok (.sh (T w), [.io h1, .sh (.int (m : Nat)), .un, .un]) := ev_callI (nm := "_law_any") (F := s__law_any) (i := 0) rfl rfl x12 rfl e1
  have a1 : binD .add (.int 1) (.int (d : Nat)) = some (.sh (.int (1 + d : Nat))) := by rw [bin_add]; rfl
  have x51 : ev (.lit (.int 1)) [.io h1, .sh (.int (m : Nat)), .sh (T w), .un] = .ok (.sh (.int 1), [.io h1, .sh (.int (m : Nat)), .sh (T w), .un]) := rfl
  have x52 : opOf (.lit (.int 1)) (ev (.lit (.int 1))) [.io h1, .sh (.int (m : Nat)), .sh (T w), .un] = .ok (.val (.int 1), [.io h1, .sh (.int (m : Nat)), .sh (T w), .un]) := opOf_val (fun i h => by cases h) x51 rfl
  have x53 : valR (ev (.var 1)) [.io h1, .sh (.int (m : Nat)), .sh (T w), .un] = .ok (.int (m : Nat), [.io h1, .sh (.int (m : Nat)), .sh (T w), .un]) := rfl
  have x54 : evs (.cons (.var 1) .nil) [.io h1, .sh (.int (m : Nat)), .sh (T w), .un] = .ok ([.int (m : Nat)], [.io h1, .sh (.int (m : Nat)), .sh (T w), .un]) := evs_cons x53 (rfl)
  have x55 : ev (.call "_law_draw" s__law_draw (.cons (.var 0) (.cons (.var 1) .nil))) [.io h1, .sh (.int (m : Nat)), .sh (T w), .un] = .ok (.sh (.int (d : Nat)), [.io h2, .sh (.int (m : Nat)), .sh (T w), .un]) := ev_callI (nm := "_law_draw") (F := s__law_draw) (i := 0) rfl rfl x54 rfl e2
  have x56 : opOf (.call "_law_draw" s__law_draw (.cons (.var 0) (.cons (.var 1) .nil))) (ev (.call "_law_draw" s__law_draw (.cons (.var 0) (.cons (.var 1) .nil)))) [.io h1, .sh (.int (m : Nat)), .sh (T w), .un] = .ok (.val (.int (d : Nat)), [.io h2, .sh (.int (m : Nat)), .sh (T w), .un]) := opOf_val (fun i h => by cases h) x55 rfl
  have x57 : ev (.bin .add (.lit (.int 1)) (.call "_law_draw" s__law_draw (.cons (.var 0) (.cons (.var 1) .nil)))) [.io h1, .sh (.int (m : Nat)), .sh (T w), .un] = .ok (.sh (.int (1 + d : Nat)), [.io h2, .sh (.int (m : Nat)), .sh (T w), .un]) := ev_bin x52 x56 rfl rfl a1
  have x58 : valR (ev (.bin .add (.lit (.int 1)) (.call "_law_draw" s__law_draw (.cons (.var 0) (.cons (.var 1) .nil))))) [.io h1, .sh (.int (m : Nat)), .sh (T w), .un] = .ok (.int (1 + d : Nat), [.io h2, .sh (.int (m : Nat)), .sh (T w), .un]) := valR_of x57 rfl
  have x59 : evs (.cons (.bin .add (.lit (.int 1)) (.call "_law_draw" s__law_draw (.cons (.var 0) (.cons (.var 1) .nil)))) .nil) [.io h1, .sh (.int (m : Nat)), .sh (T w), .un] = .ok ([.int (1 + d : Nat)], [.io h2, .sh (.int (m : Nat)), .sh (T w), .un]) := evs_cons x58 (rfl)
  have he : evI (.rng (.cons (.bin .add (.lit (.int 1)) (.call "_law_draw" s__law_draw (.cons (.var 0) (.cons (.var 1) .nil)))) .nil)) [.io h1, .sh (.int (m : Nat)), .sh (T w), .un] = .ok (((List.range (1 + d)).map fun k : Nat => PyData.int k, .val .none), [.io h2, .sh (.int (m : Nat)), .sh (T w), .un]) := rng_e x59 (rng1 (by omega))
  have l1 : ev (.lc [("at", 3)] (.nm 3) (.rng (.cons (.bin .add (.lit (.int 1)) (.call "_law_draw" s__law_draw (.cons (.var 0) (.cons (.var 1) .nil)))) .nil)) .noe (.call "_law_any" s__law_any (.cons (.var 0) (.cons (.var 2) .nil)))) [.io h1, .sh (.int (m : Nat)), .sh (T w), .un] = .ok (.ow (.list (u.map fun a => T [a])), [.io h3, .sh (.int (m : Nat)), .sh (T w), .un]) := by
    rw [ev_lc]
    dsimp only
    rw [he, bind_ok]
    dsimp only
    rw [show List.map (fun x : Str × Nat => x.snd) [("at", 3)] = [3] from rfl]
    unfold lcF
    rw [if_pos (show ownOk [.io h2, .sh (.int (m : Nat)), .sh (T w), .un] [3] = true from rfl)]
    show (match lcL (turnF (.nm 3) [3] (condR .noe (ev .noe)) (valR (ev (.call "_law_any" s__law_any (.cons (.var 0) (.cons (.var 2) .nil)))))) ((List.range (1 + d)).map fun k : Nat => PyData.int k) [] [.io h2, .sh (.int (m : Nat)), .sh (T w), .un] with | .ok (ds, e') => R.ok (Cl.ow (.list ds), unlend [.io h2, .sh (.int (m : Nat)), .sh (T w), .un] (backE [.io h2, .sh (.int (m : Nat)), .sh (T w), .un] e' [3]) (.val .none)) | _ => .no) = _
    rw [hr]
    rfl
  have x2 := ev_me (op := .join) (a := .lit (.str ("" : PySem.Str))) (es := .cons (.lc [("at", 3)] (.nm 3) (.rng (.cons (.bin .add (.lit (.int 1)) (.call "_law_draw" s__law_draw (.cons (.var 0) (.cons (.var 1) .nil)))) .nil)) .noe (.call "_law_any" s__law_any (.cons (.var 0) (.cons (.var 2) .nil)))) .nil) (e := [.io h1, .sh (.int (m : Nat)), .sh (T w), .un]) (x := .val (.str ("" : PySem.Str))) rfl rfl (evs_cons (es := .nil) (valR_of l1 rfl) rfl) (join_ws (w := u) (by omega))
  have hb : exs b__law_text [.io h, .sh (.int (m : Nat)), .un, .un] = .rt (.sh (T u)) [.io h3, .sh (.int (m : Nat)), .sh (T w), .un] := (exs_step (ex_asg x13 rfl)).trans (exs_ret x2)
  exact ⟨u, h3, q7 (h := h) (ds := [.int (m : Nat)]) (np := 2) (n := 4) (b := b__law_text) rfl rfl (by decide) (by decide) rfl hb rfl, wu, by omega, by omega, hh3⟩
def bA : CSs := (.cons (.asg (.nm 3) (.bin .add (.var 3) (.call "_law_on" s__law_on (.cons (.var 1) (.cons (.var 2) (.cons (.var 4) .nil)))))) .nil)
def bB : CSs := (.cons (.asg (.nm 6) (.call "_law_draw" s__law_draw (.cons (.var 0) (.cons (.var 1) .nil)))) (.cons (.asg (.nm 7) (.bin .add (.bin .add (.bin .mul (.lit (.str ("a" : PySem.Str))) (.var 6)) (.lit (.str ("z" : PySem.Str)))) (.bin .mul (.lit (.str ("a" : PySem.Str))) (.bin .sub (.bin .sub (.var 1) (.lit (.int 1))) (.var 6))))) (.cons (.ite (.cmp .ne (.me .index (.call "fenced" s_fenced (.cons (.var 7) (.cons (.var 2) .nil))) (.cons (.lit (.str ("z" : PySem.Str))) .nil)) (.me .index (.var 3) (.cons (.var 6) .nil))) (.cons (.ret (.lit (.bool false))) .nil) .nil) .nil)))
theorem on_le (n r k : Nat) : (onR n r k).length ≤ n := by
  unfold onR
  have := List.length_filter_le (fun p => decide (rail p r = k)) (List.range n)
  rw [List.length_range] at this
  exact this
theorem loopA {n r : Nat} {h : D} (r1 : 1 ≤ r) (n40 : n ≤ 40) : ∀ (l acc : List Nat) (c4 : Cl), acc.length + 40 * l.length ≤ 900 → OkC c4 → ∃ c4', OkC c4' ∧ forL (forB (.nm 4) (exs bA)) (l.map fun k : Nat => PyData.int k) [.io h, .sh (.int (n : Nat)), .sh (.int (r : Nat)), .ow (.list ((acc).map fun k : Nat => PyData.int k)), c4, .un, .un, .un] = .nx [.io h, .sh (.int (n : Nat)), .sh (.int (r : Nat)), .ow (.list ((acc ++ l.flatMap (onR n r)).map fun k : Nat => PyData.int k)), c4', .un, .un, .un] := by
  intro l
  induction l with
  | nil => exact fun acc c4 _ k4 => ⟨c4, k4, by simp only [List.flatMap_nil, List.append_nil]; rfl⟩
  | cons k l ih =>
    intro acc c4 hl k4
    rw [List.length_cons] at hl
    have hl1 := on_le n r k
    obtain ⟨c4', k4', hr⟩ := ih (acc ++ onR n r k) (.sh (.int (k : Nat))) (by rw [List.length_append]; omega) (okc _)
    have b1 := bindT_nm (i := 4) (d := .int (k : Nat)) (e := [.io h, .sh (.int (n : Nat)), .sh (.int (r : Nat)), .ow (.list ((acc).map fun k : Nat => PyData.int k)), c4, .un, .un, .un]) rfl k4 (by decide : 4 < 8)
    have ha : binD .add (.list ((acc).map (fun k : Nat => PyData.int k))) (.list ((onR n r k).map fun k : Nat => PyData.int k)) = some (.ow (.list ((acc ++ onR n r k).map fun k : Nat => PyData.int k))) := by
      rw [add_L (by rw [List.length_map, List.length_map]; omega), List.map_append]
    have x1 : opOf (.var 3) (ev (.var 3)) [.io h, .sh (.int (n : Nat)), .sh (.int (r : Nat)), .ow (.list ((acc).map fun k : Nat => PyData.int k)), .sh (.int (k : Nat)), .un, .un, .un] = .ok (.slot 3, [.io h, .sh (.int (n : Nat)), .sh (.int (r : Nat)), .ow (.list ((acc).map fun k : Nat => PyData.int k)), .sh (.int (k : Nat)), .un, .un, .un]) := rfl
    have x2 : valR (ev (.var 1)) [.io h, .sh (.int (n : Nat)), .sh (.int (r : Nat)), .ow (.list ((acc).map fun k : Nat => PyData.int k)), .sh (.int (k : Nat)), .un, .un, .un] = .ok (.int (n : Nat), [.io h, .sh (.int (n : Nat)), .sh (.int (r : Nat)), .ow (.list ((acc).map fun k : Nat => PyData.int k)), .sh (.int (k : Nat)), .un, .un, .un]) := rfl
    have x3 : valR (ev (.var 2)) [.io h, .sh (.int (n : Nat)), .sh (.int (r : Nat)), .ow (.list ((acc).map fun k : Nat => PyData.int k)), .sh (.int (k : Nat)), .un, .un, .un] = .ok (.int (r : Nat), [.io h, .sh (.int (n : Nat)), .sh (.int (r : Nat)), .ow (.list ((acc).map fun k : Nat => PyData.int k)), .sh (.int (k : Nat)), .un, .un, .un]) := rfl
    have x4 : valR (ev (.var 4)) [.io h, .sh (.int (n : Nat)), .sh (.int (r : Nat)), .ow (.list ((acc).map fun k : Nat => PyData.int k)), .sh (.int (k : Nat)), .un, .un, .un] = .ok (.int (k : Nat), [.io h, .sh (.int (n : Nat)), .sh (.int (r : Nat)), .ow (.list ((acc).map fun k : Nat => PyData.int k)), .sh (.int (k : Nat)), .un, .un, .un]) := rfl
    have x5 : evs (.cons (.var 1) (.cons (.var 2) (.cons (.var 4) .nil))) [.io h, .sh (.int (n : Nat)), .sh (.int (r : Nat)), .ow (.list ((acc).map fun k : Nat => PyData.int k)), .sh (.int (k : Nat)), .un, .un, .un] = .ok ([.int (n : Nat), .int (r : Nat), .int (k : Nat)], [.io h, .sh (.int (n : Nat)), .sh (.int (r : Nat)), .ow (.list ((acc).map fun k : Nat => PyData.int k)), .sh (.int (k : Nat)), .un, .un, .un]) := evs_cons x2 (evs_cons x3 (evs_cons x4 (rfl)))
    have x6 : ev (.call "_law_on" s__law_on (.cons (.var 1) (.cons (.var 2) (.cons (.var 4) .nil)))) [.io h, .sh (.int (n : Nat)), .sh (.int (r : Nat)), .ow (.list ((acc).map fun k : Nat => PyData.int k)), .sh (.int (k : Nat)), .un, .un, .un] = .ok (.ow (.list ((onR n r k).map fun k : Nat => PyData.int k)), [.io h, .sh (.int (n : Nat)), .sh (.int (r : Nat)), .ow (.list ((acc).map fun k : Nat => PyData.int k)), .sh (.int (k : Nat)), .un, .un, .un]) := ev_call0 (nm := "_law_on") (F := s__law_on) x5 rfl (sem__law_on r1 n40)
    have x7 : opOf (.call "_law_on" s__law_on (.cons (.var 1) (.cons (.var 2) (.cons (.var 4) .nil)))) (ev (.call "_law_on" s__law_on (.cons (.var 1) (.cons (.var 2) (.cons (.var 4) .nil))))) [.io h, .sh (.int (n : Nat)), .sh (.int (r : Nat)), .ow (.list ((acc).map fun k : Nat => PyData.int k)), .sh (.int (k : Nat)), .un, .un, .un] = .ok (.val (.list ((onR n r k).map fun k : Nat => PyData.int k)), [.io h, .sh (.int (n : Nat)), .sh (.int (r : Nat)), .ow (.list ((acc).map fun k : Nat => PyData.int k)), .sh (.int (k : Nat)), .un, .un, .un]) := opOf_val (fun i h => by cases h) x6 rfl
    have x8 : ev (.bin .add (.var 3) (.call "_law_on" s__law_on (.cons (.var 1) (.cons (.var 2) (.cons (.var 4) .nil))))) [.io h, .sh (.int (n : Nat)), .sh (.int (r : Nat)), .ow (.list ((acc).map fun k : Nat => PyData.int k)), .sh (.int (k : Nat)), .un, .un, .un] = .ok (.ow (.list ((acc ++ onR n r k).map fun k : Nat => PyData.int k)), [.io h, .sh (.int (n : Nat)), .sh (.int (r : Nat)), .ow (.list ((acc).map fun k : Nat => PyData.int k)), .sh (.int (k : Nat)), .un, .un, .un]) := ev_bin x1 x7 rfl rfl ha
    have t1 : forB (.nm 4) (exs bA) (.int (k : Nat)) [.io h, .sh (.int (n : Nat)), .sh (.int (r : Nat)), .ow (.list ((acc).map fun k : Nat => PyData.int k)), c4, .un, .un, .un] = .nx [.io h, .sh (.int (n : Nat)), .sh (.int (r : Nat)), .ow (.list ((acc ++ onR n r k).map fun k : Nat => PyData.int k)), .sh (.int (k : Nat)), .un, .un, .un] := by
      unfold forB
      rw [b1]
      exact (exs_step (ex_asg x8 rfl)).trans (rfl)
    refine ⟨c4', k4', ?_⟩
    rw [List.map_cons]
    unfold forL
    rw [t1, List.flatMap_cons, ← List.append_assoc]
    exact hr
theorem loopB {n r : Nat} {c4 : Cl} (n1 : 1 ≤ n) (n40 : n ≤ 40) (r1 : 1 ≤ r) (r8 : r ≤ 8) : ∀ (xs : List D) (h : D) (c5 c6 c7 : Cl), Ok h → OkC c5 → OkC c6 → OkC c7 → ∃ h' c5' c6' c7', Ok h' ∧ forL (forB (.nm 5) (exs bB)) xs [.io h, .sh (.int (n : Nat)), .sh (.int (r : Nat)), .ow (.list ((ord r n).map fun k : Nat => PyData.int k)), c4, c5, c6, c7] = .nx [.io h', .sh (.int (n : Nat)), .sh (.int (r : Nat)), .ow (.list ((ord r n).map fun k : Nat => PyData.int k)), c4, c5', c6', c7'] := by
  have ho := ord_ok (r := r) (n := n) r1 r8 n40
  intro xs
  induction xs with
  | nil => exact fun h c5 c6 c7 hh _ _ _ => ⟨h, c5, c6, c7, hh, rfl⟩
  | cons x xs ih =>
    intro h c5 c6 c7 hh k5 k6 k7
    obtain ⟨p, h1, e1, hp, hh1⟩ := HandC.drawN (m := n) hh (by omega) (by omega)
    have e1 : s__law_draw.sem [h, .int (n : Nat)] = .ok (.sh (.int (p : Nat))) h1 := e1
    have hln := len_lone hp
    have tl : Text (lone n p) := ⟨W_lone n p, by omega, by omega⟩
    have hf := sem_fenced tl r1 r8
    rw [hln] at hf
    have hi1 : meD .index (T (hid (lone n p) (ord r n))) [.str ("z" : PySem.Str)] = some (.sh (.int ((ord r n).idxOf p : Nat))) := by
      rw [ix_z (mem_lone hp (ho.all p hp)), idx_lone hp]
    obtain ⟨h', c5', c6', c7', hh', hr⟩ := ih h1 (.sh x) (.sh (.int (p : Nat))) (.sh (T (lone n p))) hh1 (okc _) (okc _) (okc _)
    have b1 := bindT_nm (i := 5) (d := x) (e := [.io h, .sh (.int (n : Nat)), .sh (.int (r : Nat)), .ow (.list ((ord r n).map fun k : Nat => PyData.int k)), c4, c5, c6, c7]) rfl k5 (by decide : 5 < 8)
    refine ⟨h', c5', c6', c7', hh', ?_⟩
    have x1 : valR (ev (.var 1)) [.io h, .sh (.int (n : Nat)), .sh (.int (r : Nat)), .ow (.list ((ord r n).map fun k : Nat => PyData.int k)), c4, .sh x, c6, c7] = .ok (.int (n : Nat), [.io h, .sh (.int (n : Nat)), .sh (.int (r : Nat)), .ow (.list ((ord r n).map fun k : Nat => PyData.int k)), c4, .sh x, c6, c7]) := rfl
    have x2 : evs (.cons (.var 1) .nil) [.io h, .sh (.int (n : Nat)), .sh (.int (r : Nat)), .ow (.list ((ord r n).map fun k : Nat => PyData.int k)), c4, .sh x, c6, c7] = .ok ([.int (n : Nat)], [.io h, .sh (.int (n : Nat)), .sh (.int (r : Nat)), .ow (.list ((ord r n).map fun k : Nat => PyData.int k)), c4, .sh x, c6, c7]) := evs_cons x1 (rfl)
    have x3 : ev (.call "_law_draw" s__law_draw (.cons (.var 0) (.cons (.var 1) .nil))) [.io h, .sh (.int (n : Nat)), .sh (.int (r : Nat)), .ow (.list ((ord r n).map fun k : Nat => PyData.int k)), c4, .sh x, c6, c7] = .ok (.sh (.int (p : Nat)), [.io h1, .sh (.int (n : Nat)), .sh (.int (r : Nat)), .ow (.list ((ord r n).map fun k : Nat => PyData.int k)), c4, .sh x, c6, c7]) := ev_callI (nm := "_law_draw") (F := s__law_draw) (i := 0) rfl rfl x2 rfl e1
    have s3 : ex (.asg (.nm 6) (.call "_law_draw" s__law_draw (.cons (.var 0) (.cons (.var 1) .nil)))) [.io h, .sh (.int (n : Nat)), .sh (.int (r : Nat)), .ow (.list ((ord r n).map fun k : Nat => PyData.int k)), c4, .sh x, c6, c7] = .nx [.io h1, .sh (.int (n : Nat)), .sh (.int (r : Nat)), .ow (.list ((ord r n).map fun k : Nat => PyData.int k)), c4, .sh x, .sh (.int (p : Nat)), c7] := ex_asg x3 (storeT_nm (i := 6) rfl k6 (by decide : 6 < 8))
    have x4 : ev (.lit (.str ("a" : PySem.Str))) [.io h1, .sh (.int (n : Nat)), .sh (.int (r : Nat)), .ow (.list ((ord r n).map fun k : Nat => PyData.int k)), c4, .sh x, .sh (.int (p : Nat)), c7] = .ok (.sh (.str ("a" : PySem.Str)), [.io h1, .sh (.int (n : Nat)), .sh (.int (r : Nat)), .ow (.list ((ord r n).map fun k : Nat => PyData.int k)), c4, .sh x, .sh (.int (p : Nat)), c7]) := rfl
    have x5 : opOf (.lit (.str ("a" : PySem.Str))) (ev (.lit (.str ("a" : PySem.Str)))) [.io h1, .sh (.int (n : Nat)), .sh (.int (r : Nat)), .ow (.list ((ord r n).map fun k : Nat => PyData.int k)), c4, .sh x, .sh (.int (p : Nat)), c7] = .ok (.val (.str ("a" : PySem.Str)), [.io h1, .sh (.int (n : Nat)), .sh (.int (r : Nat)), .ow (.list ((ord r n).map fun k : Nat => PyData.int k)), c4, .sh x, .sh (.int (p : Nat)), c7]) := opOf_val (fun i h => by cases h) x4 rfl
    have x6 : opOf (.var 6) (ev (.var 6)) [.io h1, .sh (.int (n : Nat)), .sh (.int (r : Nat)), .ow (.list ((ord r n).map fun k : Nat => PyData.int k)), c4, .sh x, .sh (.int (p : Nat)), c7] = .ok (.slot 6, [.io h1, .sh (.int (n : Nat)), .sh (.int (r : Nat)), .ow (.list ((ord r n).map fun k : Nat => PyData.int k)), c4, .sh x, .sh (.int (p : Nat)), c7]) := rfl
    have x7 : ev (.bin .mul (.lit (.str ("a" : PySem.Str))) (.var 6)) [.io h1, .sh (.int (n : Nat)), .sh (.int (r : Nat)), .ow (.list ((ord r n).map fun k : Nat => PyData.int k)), c4, .sh x, .sh (.int (p : Nat)), c7] = .ok (.sh (T (List.replicate p 0)), [.io h1, .sh (.int (n : Nat)), .sh (.int (r : Nat)), .ow (.list ((ord r n).map fun k : Nat => PyData.int k)), c4, .sh x, .sh (.int (p : Nat)), c7]) := ev_bin x5 x6 rfl rfl (mul_a (by omega))
    have x8 : opOf (.bin .mul (.lit (.str ("a" : PySem.Str))) (.var 6)) (ev (.bin .mul (.lit (.str ("a" : PySem.Str))) (.var 6))) [.io h1, .sh (.int (n : Nat)), .sh (.int (r : Nat)), .ow (.list ((ord r n).map fun k : Nat => PyData.int k)), c4, .sh x, .sh (.int (p : Nat)), c7] = .ok (.val (T (List.replicate p 0)), [.io h1, .sh (.int (n : Nat)), .sh (.int (r : Nat)), .ow (.list ((ord r n).map fun k : Nat => PyData.int k)), c4, .sh x, .sh (.int (p : Nat)), c7]) := opOf_val (fun i h => by cases h) x7 rfl
    have x9 : ev (.lit (.str ("z" : PySem.Str))) [.io h1, .sh (.int (n : Nat)), .sh (.int (r : Nat)), .ow (.list ((ord r n).map fun k : Nat => PyData.int k)), c4, .sh x, .sh (.int (p : Nat)), c7] = .ok (.sh (.str ("z" : PySem.Str)), [.io h1, .sh (.int (n : Nat)), .sh (.int (r : Nat)), .ow (.list ((ord r n).map fun k : Nat => PyData.int k)), c4, .sh x, .sh (.int (p : Nat)), c7]) := rfl
    have x10 : opOf (.lit (.str ("z" : PySem.Str))) (ev (.lit (.str ("z" : PySem.Str)))) [.io h1, .sh (.int (n : Nat)), .sh (.int (r : Nat)), .ow (.list ((ord r n).map fun k : Nat => PyData.int k)), c4, .sh x, .sh (.int (p : Nat)), c7] = .ok (.val (.str ("z" : PySem.Str)), [.io h1, .sh (.int (n : Nat)), .sh (.int (r : Nat)), .ow (.list ((ord r n).map fun k : Nat => PyData.int k)), c4, .sh x, .sh (.int (p : Nat)), c7]) := opOf_val (fun i h => by cases h) x9 rfl
    have x11 : ev (.bin .add (.bin .mul (.lit (.str ("a" : PySem.Str))) (.var 6)) (.lit (.str ("z" : PySem.Str)))) [.io h1, .sh (.int (n : Nat)), .sh (.int (r : Nat)), .ow (.list ((ord r n).map fun k : Nat => PyData.int k)), c4, .sh x, .sh (.int (p : Nat)), c7] = .ok (.sh (T (List.replicate p 0 ++ [25])), [.io h1, .sh (.int (n : Nat)), .sh (.int (r : Nat)), .ow (.list ((ord r n).map fun k : Nat => PyData.int k)), c4, .sh x, .sh (.int (p : Nat)), c7]) := ev_bin x8 x10 rfl rfl (add_Tw (b := [25]) (by simp; omega))
    have x12 : opOf (.bin .add (.bin .mul (.lit (.str ("a" : PySem.Str))) (.var 6)) (.lit (.str ("z" : PySem.Str)))) (ev (.bin .add (.bin .mul (.lit (.str ("a" : PySem.Str))) (.var 6)) (.lit (.str ("z" : PySem.Str))))) [.io h1, .sh (.int (n : Nat)), .sh (.int (r : Nat)), .ow (.list ((ord r n).map fun k : Nat => PyData.int k)), c4, .sh x, .sh (.int (p : Nat)), c7] = .ok (.val (T (List.replicate p 0 ++ [25])), [.io h1, .sh (.int (n : Nat)), .sh (.int (r : Nat)), .ow (.list ((ord r n).map fun k : Nat => PyData.int k)), c4, .sh x, .sh (.int (p : Nat)), c7]) := opOf_val (fun i h => by cases h) x11 rfl
    have x13 : ev (.lit (.str ("a" : PySem.Str))) [.io h1, .sh (.int (n : Nat)), .sh (.int (r : Nat)), .ow (.list ((ord r n).map fun k : Nat => PyData.int k)), c4, .sh x, .sh (.int (p : Nat)), c7] = .ok (.sh (.str ("a" : PySem.Str)), [.io h1, .sh (.int (n : Nat)), .sh (.int (r : Nat)), .ow (.list ((ord r n).map fun k : Nat => PyData.int k)), c4, .sh x, .sh (.int (p : Nat)), c7]) := rfl
    have x14 : opOf (.lit (.str ("a" : PySem.Str))) (ev (.lit (.str ("a" : PySem.Str)))) [.io h1, .sh (.int (n : Nat)), .sh (.int (r : Nat)), .ow (.list ((ord r n).map fun k : Nat => PyData.int k)), c4, .sh x, .sh (.int (p : Nat)), c7] = .ok (.val (.str ("a" : PySem.Str)), [.io h1, .sh (.int (n : Nat)), .sh (.int (r : Nat)), .ow (.list ((ord r n).map fun k : Nat => PyData.int k)), c4, .sh x, .sh (.int (p : Nat)), c7]) := opOf_val (fun i h => by cases h) x13 rfl
    have x15 : opOf (.var 1) (ev (.var 1)) [.io h1, .sh (.int (n : Nat)), .sh (.int (r : Nat)), .ow (.list ((ord r n).map fun k : Nat => PyData.int k)), c4, .sh x, .sh (.int (p : Nat)), c7] = .ok (.slot 1, [.io h1, .sh (.int (n : Nat)), .sh (.int (r : Nat)), .ow (.list ((ord r n).map fun k : Nat => PyData.int k)), c4, .sh x, .sh (.int (p : Nat)), c7]) := rfl
    have x16 : ev (.lit (.int 1)) [.io h1, .sh (.int (n : Nat)), .sh (.int (r : Nat)), .ow (.list ((ord r n).map fun k : Nat => PyData.int k)), c4, .sh x, .sh (.int (p : Nat)), c7] = .ok (.sh (.int 1), [.io h1, .sh (.int (n : Nat)), .sh (.int (r : Nat)), .ow (.list ((ord r n).map fun k : Nat => PyData.int k)), c4, .sh x, .sh (.int (p : Nat)), c7]) := rfl
    have x17 : opOf (.lit (.int 1)) (ev (.lit (.int 1))) [.io h1, .sh (.int (n : Nat)), .sh (.int (r : Nat)), .ow (.list ((ord r n).map fun k : Nat => PyData.int k)), c4, .sh x, .sh (.int (p : Nat)), c7] = .ok (.val (.int 1), [.io h1, .sh (.int (n : Nat)), .sh (.int (r : Nat)), .ow (.list ((ord r n).map fun k : Nat => PyData.int k)), c4, .sh x, .sh (.int (p : Nat)), c7]) := opOf_val (fun i h => by cases h) x16 rfl
    have x18 : ev (.bin .sub (.var 1) (.lit (.int 1))) [.io h1, .sh (.int (n : Nat)), .sh (.int (r : Nat)), .ow (.list ((ord r n).map fun k : Nat => PyData.int k)), c4, .sh x, .sh (.int (p : Nat)), c7] = .ok (.sh (.int (n - 1 : Nat)), [.io h1, .sh (.int (n : Nat)), .sh (.int (r : Nat)), .ow (.list ((ord r n).map fun k : Nat => PyData.int k)), c4, .sh x, .sh (.int (p : Nat)), c7]) := ev_bin x15 x17 rfl rfl (sub_N (b := 1) n1)
    have x19 : opOf (.bin .sub (.var 1) (.lit (.int 1))) (ev (.bin .sub (.var 1) (.lit (.int 1)))) [.io h1, .sh (.int (n : Nat)), .sh (.int (r : Nat)), .ow (.list ((ord r n).map fun k : Nat => PyData.int k)), c4, .sh x, .sh (.int (p : Nat)), c7] = .ok (.val (.int (n - 1 : Nat)), [.io h1, .sh (.int (n : Nat)), .sh (.int (r : Nat)), .ow (.list ((ord r n).map fun k : Nat => PyData.int k)), c4, .sh x, .sh (.int (p : Nat)), c7]) := opOf_val (fun i h => by cases h) x18 rfl
    have x20 : opOf (.var 6) (ev (.var 6)) [.io h1, .sh (.int (n : Nat)), .sh (.int (r : Nat)), .ow (.list ((ord r n).map fun k : Nat => PyData.int k)), c4, .sh x, .sh (.int (p : Nat)), c7] = .ok (.slot 6, [.io h1, .sh (.int (n : Nat)), .sh (.int (r : Nat)), .ow (.list ((ord r n).map fun k : Nat => PyData.int k)), c4, .sh x, .sh (.int (p : Nat)), c7]) := rfl
    have x21 : ev (.bin .sub (.bin .sub (.var 1) (.lit (.int 1))) (.var 6)) [.io h1, .sh (.int (n : Nat)), .sh (.int (r : Nat)), .ow (.list ((ord r n).map fun k : Nat => PyData.int k)), c4, .sh x, .sh (.int (p : Nat)), c7] = .ok (.sh (.int (n - 1 - p : Nat)), [.io h1, .sh (.int (n : Nat)), .sh (.int (r : Nat)), .ow (.list ((ord r n).map fun k : Nat => PyData.int k)), c4, .sh x, .sh (.int (p : Nat)), c7]) := ev_bin x19 x20 rfl rfl (sub_N (by omega))
    have x22 : opOf (.bin .sub (.bin .sub (.var 1) (.lit (.int 1))) (.var 6)) (ev (.bin .sub (.bin .sub (.var 1) (.lit (.int 1))) (.var 6))) [.io h1, .sh (.int (n : Nat)), .sh (.int (r : Nat)), .ow (.list ((ord r n).map fun k : Nat => PyData.int k)), c4, .sh x, .sh (.int (p : Nat)), c7] = .ok (.val (.int (n - 1 - p : Nat)), [.io h1, .sh (.int (n : Nat)), .sh (.int (r : Nat)), .ow (.list ((ord r n).map fun k : Nat => PyData.int k)), c4, .sh x, .sh (.int (p : Nat)), c7]) := opOf_val (fun i h => by cases h) x21 rfl
    have x23 : ev (.bin .mul (.lit (.str ("a" : PySem.Str))) (.bin .sub (.bin .sub (.var 1) (.lit (.int 1))) (.var 6))) [.io h1, .sh (.int (n : Nat)), .sh (.int (r : Nat)), .ow (.list ((ord r n).map fun k : Nat => PyData.int k)), c4, .sh x, .sh (.int (p : Nat)), c7] = .ok (.sh (T (List.replicate (n - 1 - p) 0)), [.io h1, .sh (.int (n : Nat)), .sh (.int (r : Nat)), .ow (.list ((ord r n).map fun k : Nat => PyData.int k)), c4, .sh x, .sh (.int (p : Nat)), c7]) := ev_bin x14 x22 rfl rfl (mul_a (by omega))
    have x24 : opOf (.bin .mul (.lit (.str ("a" : PySem.Str))) (.bin .sub (.bin .sub (.var 1) (.lit (.int 1))) (.var 6))) (ev (.bin .mul (.lit (.str ("a" : PySem.Str))) (.bin .sub (.bin .sub (.var 1) (.lit (.int 1))) (.var 6)))) [.io h1, .sh (.int (n : Nat)), .sh (.int (r : Nat)), .ow (.list ((ord r n).map fun k : Nat => PyData.int k)), c4, .sh x, .sh (.int (p : Nat)), c7] = .ok (.val (T (List.replicate (n - 1 - p) 0)), [.io h1, .sh (.int (n : Nat)), .sh (.int (r : Nat)), .ow (.list ((ord r n).map fun k : Nat => PyData.int k)), c4, .sh x, .sh (.int (p : Nat)), c7]) := opOf_val (fun i h => by cases h) x23 rfl
    have x25 : ev (.bin .add (.bin .add (.bin .mul (.lit (.str ("a" : PySem.Str))) (.var 6)) (.lit (.str ("z" : PySem.Str)))) (.bin .mul (.lit (.str ("a" : PySem.Str))) (.bin .sub (.bin .sub (.var 1) (.lit (.int 1))) (.var 6)))) [.io h1, .sh (.int (n : Nat)), .sh (.int (r : Nat)), .ow (.list ((ord r n).map fun k : Nat => PyData.int k)), c4, .sh x, .sh (.int (p : Nat)), c7] = .ok (.sh (T (lone n p)), [.io h1, .sh (.int (n : Nat)), .sh (.int (r : Nat)), .ow (.list ((ord r n).map fun k : Nat => PyData.int k)), c4, .sh x, .sh (.int (p : Nat)), c7]) := ev_bin x12 x24 rfl rfl (add_Tw (by simp; omega))
    have s26 : ex (.asg (.nm 7) (.bin .add (.bin .add (.bin .mul (.lit (.str ("a" : PySem.Str))) (.var 6)) (.lit (.str ("z" : PySem.Str)))) (.bin .mul (.lit (.str ("a" : PySem.Str))) (.bin .sub (.bin .sub (.var 1) (.lit (.int 1))) (.var 6))))) [.io h1, .sh (.int (n : Nat)), .sh (.int (r : Nat)), .ow (.list ((ord r n).map fun k : Nat => PyData.int k)), c4, .sh x, .sh (.int (p : Nat)), c7] = .nx [.io h1, .sh (.int (n : Nat)), .sh (.int (r : Nat)), .ow (.list ((ord r n).map fun k : Nat => PyData.int k)), c4, .sh x, .sh (.int (p : Nat)), .sh (T (lone n p))] := ex_asg x25 (storeT_nm (i := 7) rfl k7 (by decide : 7 < 8))
    have x26 : valR (ev (.var 7)) [.io h1, .sh (.int (n : Nat)), .sh (.int (r : Nat)), .ow (.list ((ord r n).map fun k : Nat => PyData.int k)), c4, .sh x, .sh (.int (p : Nat)), .sh (T (lone n p))] = .ok (T (lone n p), [.io h1, .sh (.int (n : Nat)), .sh (.int (r : Nat)), .ow (.list ((ord r n).map fun k : Nat => PyData.int k)), c4, .sh x, .sh (.int (p : Nat)), .sh (T (lone n p))]) := rfl
    have x27 : valR (ev (.var 2)) [.io h1, .sh (.int (n : Nat)), .sh (.int (r : Nat)), .ow (.list ((ord r n).map fun k : Nat => PyData.int k)), c4, .sh x, .sh (.int (p : Nat)), .sh (T (lone n p))] = .ok (.int (r : Nat), [.io h1, .sh (.int (n : Nat)), .sh (.int (r : Nat)), .ow (.list ((ord r n).map fun k : Nat => PyData.int k)), c4, .sh x, .sh (.int (p : Nat)), .sh (T (lone n p))]) := rfl
    have x28 : evs (.cons (.var 7) (.cons (.var 2) .nil)) [.io h1, .sh (.int (n : Nat)), .sh (.int (r : Nat)), .ow (.list ((ord r n).map fun k : Nat => PyData.int k)), c4, .sh x, .sh (.int (p : Nat)), .sh (T (lone n p))] = .ok ([T (lone n p), .int (r : Nat)], [.io h1, .sh (.int (n : Nat)), .sh (.int (r : Nat)), .ow (.list ((ord r n).map fun k : Nat => PyData.int k)), c4, .sh x, .sh (.int (p : Nat)), .sh (T (lone n p))]) := evs_cons x26 (evs_cons x27 (rfl))
    have x29 : ev (.call "fenced" s_fenced (.cons (.var 7) (.cons (.var 2) .nil))) [.io h1, .sh (.int (n : Nat)), .sh (.int (r : Nat)), .ow (.list ((ord r n).map fun k : Nat => PyData.int k)), c4, .sh x, .sh (.int (p : Nat)), .sh (T (lone n p))] = .ok (.sh (T (hid (lone n p) (ord r n))), [.io h1, .sh (.int (n : Nat)), .sh (.int (r : Nat)), .ow (.list ((ord r n).map fun k : Nat => PyData.int k)), c4, .sh x, .sh (.int (p : Nat)), .sh (T (lone n p))]) := ev_call0 (nm := "fenced") (F := s_fenced) x28 rfl hf
    have x30 : opOf (.call "fenced" s_fenced (.cons (.var 7) (.cons (.var 2) .nil))) (ev (.call "fenced" s_fenced (.cons (.var 7) (.cons (.var 2) .nil)))) [.io h1, .sh (.int (n : Nat)), .sh (.int (r : Nat)), .ow (.list ((ord r n).map fun k : Nat => PyData.int k)), c4, .sh x, .sh (.int (p : Nat)), .sh (T (lone n p))] = .ok (.val (T (hid (lone n p) (ord r n))), [.io h1, .sh (.int (n : Nat)), .sh (.int (r : Nat)), .ow (.list ((ord r n).map fun k : Nat => PyData.int k)), c4, .sh x, .sh (.int (p : Nat)), .sh (T (lone n p))]) := opOf_val (fun i h => by cases h) x29 rfl
    have x31 : ev (.lit (.str ("z" : PySem.Str))) [.io h1, .sh (.int (n : Nat)), .sh (.int (r : Nat)), .ow (.list ((ord r n).map fun k : Nat => PyData.int k)), c4, .sh x, .sh (.int (p : Nat)), .sh (T (lone n p))] = .ok (.sh (.str ("z" : PySem.Str)), [.io h1, .sh (.int (n : Nat)), .sh (.int (r : Nat)), .ow (.list ((ord r n).map fun k : Nat => PyData.int k)), c4, .sh x, .sh (.int (p : Nat)), .sh (T (lone n p))]) := rfl
    have x32 : valR (ev (.lit (.str ("z" : PySem.Str)))) [.io h1, .sh (.int (n : Nat)), .sh (.int (r : Nat)), .ow (.list ((ord r n).map fun k : Nat => PyData.int k)), c4, .sh x, .sh (.int (p : Nat)), .sh (T (lone n p))] = .ok (.str ("z" : PySem.Str), [.io h1, .sh (.int (n : Nat)), .sh (.int (r : Nat)), .ow (.list ((ord r n).map fun k : Nat => PyData.int k)), c4, .sh x, .sh (.int (p : Nat)), .sh (T (lone n p))]) := valR_of x31 rfl
    have x33 : evs (.cons (.lit (.str ("z" : PySem.Str))) .nil) [.io h1, .sh (.int (n : Nat)), .sh (.int (r : Nat)), .ow (.list ((ord r n).map fun k : Nat => PyData.int k)), c4, .sh x, .sh (.int (p : Nat)), .sh (T (lone n p))] = .ok ([.str ("z" : PySem.Str)], [.io h1, .sh (.int (n : Nat)), .sh (.int (r : Nat)), .ow (.list ((ord r n).map fun k : Nat => PyData.int k)), c4, .sh x, .sh (.int (p : Nat)), .sh (T (lone n p))]) := evs_cons x32 (rfl)
    have x34 : ev (.me .index (.call "fenced" s_fenced (.cons (.var 7) (.cons (.var 2) .nil))) (.cons (.lit (.str ("z" : PySem.Str))) .nil)) [.io h1, .sh (.int (n : Nat)), .sh (.int (r : Nat)), .ow (.list ((ord r n).map fun k : Nat => PyData.int k)), c4, .sh x, .sh (.int (p : Nat)), .sh (T (lone n p))] = .ok (.sh (.int ((ord r n).idxOf p : Nat)), [.io h1, .sh (.int (n : Nat)), .sh (.int (r : Nat)), .ow (.list ((ord r n).map fun k : Nat => PyData.int k)), c4, .sh x, .sh (.int (p : Nat)), .sh (T (lone n p))]) := ev_me (x := .val (T (hid (lone n p) (ord r n)))) x30 rfl x33 hi1
    have x35 : opOf (.me .index (.call "fenced" s_fenced (.cons (.var 7) (.cons (.var 2) .nil))) (.cons (.lit (.str ("z" : PySem.Str))) .nil)) (ev (.me .index (.call "fenced" s_fenced (.cons (.var 7) (.cons (.var 2) .nil))) (.cons (.lit (.str ("z" : PySem.Str))) .nil))) [.io h1, .sh (.int (n : Nat)), .sh (.int (r : Nat)), .ow (.list ((ord r n).map fun k : Nat => PyData.int k)), c4, .sh x, .sh (.int (p : Nat)), .sh (T (lone n p))] = .ok (.val (.int ((ord r n).idxOf p : Nat)), [.io h1, .sh (.int (n : Nat)), .sh (.int (r : Nat)), .ow (.list ((ord r n).map fun k : Nat => PyData.int k)), c4, .sh x, .sh (.int (p : Nat)), .sh (T (lone n p))]) := opOf_val (fun i h => by cases h) x34 rfl
    have x36 : opOf (.var 3) (ev (.var 3)) [.io h1, .sh (.int (n : Nat)), .sh (.int (r : Nat)), .ow (.list ((ord r n).map fun k : Nat => PyData.int k)), c4, .sh x, .sh (.int (p : Nat)), .sh (T (lone n p))] = .ok (.slot 3, [.io h1, .sh (.int (n : Nat)), .sh (.int (r : Nat)), .ow (.list ((ord r n).map fun k : Nat => PyData.int k)), c4, .sh x, .sh (.int (p : Nat)), .sh (T (lone n p))]) := rfl
    have x37 : valR (ev (.var 6)) [.io h1, .sh (.int (n : Nat)), .sh (.int (r : Nat)), .ow (.list ((ord r n).map fun k : Nat => PyData.int k)), c4, .sh x, .sh (.int (p : Nat)), .sh (T (lone n p))] = .ok (.int (p : Nat), [.io h1, .sh (.int (n : Nat)), .sh (.int (r : Nat)), .ow (.list ((ord r n).map fun k : Nat => PyData.int k)), c4, .sh x, .sh (.int (p : Nat)), .sh (T (lone n p))]) := rfl
    have x38 : evs (.cons (.var 6) .nil) [.io h1, .sh (.int (n : Nat)), .sh (.int (r : Nat)), .ow (.list ((ord r n).map fun k : Nat => PyData.int k)), c4, .sh x, .sh (.int (p : Nat)), .sh (T (lone n p))] = .ok ([.int (p : Nat)], [.io h1, .sh (.int (n : Nat)), .sh (.int (r : Nat)), .ow (.list ((ord r n).map fun k : Nat => PyData.int k)), c4, .sh x, .sh (.int (p : Nat)), .sh (T (lone n p))]) := evs_cons x37 (rfl)
    have x39 : ev (.me .index (.var 3) (.cons (.var 6) .nil)) [.io h1, .sh (.int (n : Nat)), .sh (.int (r : Nat)), .ow (.list ((ord r n).map fun k : Nat => PyData.int k)), c4, .sh x, .sh (.int (p : Nat)), .sh (T (lone n p))] = .ok (.sh (.int ((ord r n).idxOf p : Nat)), [.io h1, .sh (.int (n : Nat)), .sh (.int (r : Nat)), .ow (.list ((ord r n).map fun k : Nat => PyData.int k)), c4, .sh x, .sh (.int (p : Nat)), .sh (T (lone n p))]) := ev_lix (x := .slot 3) x36 rfl x38 rfl (ix_L (ho.all p hp))
    have x40 : opOf (.me .index (.var 3) (.cons (.var 6) .nil)) (ev (.me .index (.var 3) (.cons (.var 6) .nil))) [.io h1, .sh (.int (n : Nat)), .sh (.int (r : Nat)), .ow (.list ((ord r n).map fun k : Nat => PyData.int k)), c4, .sh x, .sh (.int (p : Nat)), .sh (T (lone n p))] = .ok (.val (.int ((ord r n).idxOf p : Nat)), [.io h1, .sh (.int (n : Nat)), .sh (.int (r : Nat)), .ow (.list ((ord r n).map fun k : Nat => PyData.int k)), c4, .sh x, .sh (.int (p : Nat)), .sh (T (lone n p))]) := opOf_val (fun i h => by cases h) x39 rfl
    have x41 : ev (.cmp .ne (.me .index (.call "fenced" s_fenced (.cons (.var 7) (.cons (.var 2) .nil))) (.cons (.lit (.str ("z" : PySem.Str))) .nil)) (.me .index (.var 3) (.cons (.var 6) .nil))) [.io h1, .sh (.int (n : Nat)), .sh (.int (r : Nat)), .ow (.list ((ord r n).map fun k : Nat => PyData.int k)), c4, .sh x, .sh (.int (p : Nat)), .sh (T (lone n p))] = .ok (.sh (.bool false), [.io h1, .sh (.int (n : Nat)), .sh (.int (r : Nat)), .ow (.list ((ord r n).map fun k : Nat => PyData.int k)), c4, .sh x, .sh (.int (p : Nat)), .sh (T (lone n p))]) := ev_cmp x35 x40 rfl rfl (by rw [cmp_ne, eq_int, decide_eq_true rfl]; rfl)
    have s43 : ex (.ite (.cmp .ne (.me .index (.call "fenced" s_fenced (.cons (.var 7) (.cons (.var 2) .nil))) (.cons (.lit (.str ("z" : PySem.Str))) .nil)) (.me .index (.var 3) (.cons (.var 6) .nil))) (.cons (.ret (.lit (.bool false))) .nil) .nil) [.io h1, .sh (.int (n : Nat)), .sh (.int (r : Nat)), .ow (.list ((ord r n).map fun k : Nat => PyData.int k)), c4, .sh x, .sh (.int (p : Nat)), .sh (T (lone n p))] = .nx [.io h1, .sh (.int (n : Nat)), .sh (.int (r : Nat)), .ow (.list ((ord r n).map fun k : Nat => PyData.int k)), c4, .sh x, .sh (.int (p : Nat)), .sh (T (lone n p))] := ite_f x41
    have t1 : forB (.nm 5) (exs bB) x [.io h, .sh (.int (n : Nat)), .sh (.int (r : Nat)), .ow (.list ((ord r n).map fun k : Nat => PyData.int k)), c4, c5, c6, c7] = .nx [.io h1, .sh (.int (n : Nat)), .sh (.int (r : Nat)), .ow (.list ((ord r n).map fun k : Nat => PyData.int k)), c4, .sh x, .sh (.int (p : Nat)), .sh (T (lone n p))] := by
      unfold forB
      rw [b1]
      exact (exs_step (s3)).trans ((exs_step (s26)).trans ((exs_step (s43)).trans (rfl)))
    unfold forL
    rw [t1]
    exact hr
theorem sem__law_are_told_alone {h0 : D} (hh : Ok h0) : ∃ h', s__law_are_told_alone.sem [h0] = .ok (.sh (.bool true)) h' ∧ Ok h' := by
  obtain ⟨n, d0, h1, e0, a0, n1, n40, hh1⟩ := drawK (m := 40) hh (by decide) (by decide)
  obtain ⟨r, d1, h2, e1, a1, r1, r8, hh2⟩ := drawK (m := 8) hh1 (by decide) (by decide)
  have e0 : s__law_draw.sem [h0, .int 40] = .ok (.sh (.int (d0 : Nat))) h1 := e0
  have e1 : s__law_draw.sem [h1, .int 8] = .ok (.sh (.int (d1 : Nat))) h2 := e1
  have x1 : ev (.lit (.int 1)) [.io h0, .un, .un, .un, .un, .un, .un, .un] = .ok (.sh (.int 1), [.io h0, .un, .un, .un, .un, .un, .un, .un]) := rfl
  have x2 : opOf (.lit (.int 1)) (ev (.lit (.int 1))) [.io h0, .un, .un, .un, .un, .un, .un, .un] = .ok (.val (.int 1), [.io h0, .un, .un, .un, .un, .un, .un, .un]) := opOf_val (fun i h => by cases h) x1 rfl
  have x3 : ev (.lit (.int 40)) [.io h0, .un, .un, .un, .un, .un, .un, .un] = .ok (.sh (.int 40), [.io h0, .un, .un, .un, .un, .un, .un, .un]) := rfl
  have x4 : valR (ev (.lit (.int 40))) [.io h0, .un, .un, .un, .un, .un, .un, .un] = .ok (.int 40, [.io h0, .un, .un, .un, .un, .un, .un, .un]) := valR_of x3 rfl
  have x5 : evs (.cons (.lit (.int 40)) .nil) [.io h0, .un, .un, .un, .un, .un, .un, .un] = .ok ([.int 40], [.io h0, .un, .un, .un, .un, .un, .un, .un]) := evs_cons x4 (rfl)
  have x6 : ev (.call "_law_draw" s__law_draw (.cons (.var 0) (.cons (.lit (.int 40)) .nil))) [.io h0, .un, .un, .un, .un, .un, .un, .un] = .ok (.sh (.int (d0 : Nat)), [.io h1, .un, .un, .un, .un, .un, .un, .un]) := ev_callI (nm := "_law_draw") (F := s__law_draw) (i := 0) rfl rfl x5 rfl e0
  have x7 : opOf (.call "_law_draw" s__law_draw (.cons (.var 0) (.cons (.lit (.int 40)) .nil))) (ev (.call "_law_draw" s__law_draw (.cons (.var 0) (.cons (.lit (.int 40)) .nil)))) [.io h0, .un, .un, .un, .un, .un, .un, .un] = .ok (.val (.int (d0 : Nat)), [.io h1, .un, .un, .un, .un, .un, .un, .un]) := opOf_val (fun i h => by cases h) x6 rfl
  have x8 : ev (.bin .add (.lit (.int 1)) (.call "_law_draw" s__law_draw (.cons (.var 0) (.cons (.lit (.int 40)) .nil)))) [.io h0, .un, .un, .un, .un, .un, .un, .un] = .ok (.sh (.int (n : Nat)), [.io h1, .un, .un, .un, .un, .un, .un, .un]) := ev_bin x2 x7 rfl rfl a0
  have x9 : ev (.lit (.int 1)) [.io h1, .un, .un, .un, .un, .un, .un, .un] = .ok (.sh (.int 1), [.io h1, .un, .un, .un, .un, .un, .un, .un]) := rfl
  have x10 : opOf (.lit (.int 1)) (ev (.lit (.int 1))) [.io h1, .un, .un, .un, .un, .un, .un, .un] = .ok (.val (.int 1), [.io h1, .un, .un, .un, .un, .un, .un, .un]) := opOf_val (fun i h => by cases h) x9 rfl
  have x11 : ev (.lit (.int 8)) [.io h1, .un, .un, .un, .un, .un, .un, .un] = .ok (.sh (.int 8), [.io h1, .un, .un, .un, .un, .un, .un, .un]) := rfl
  have x12 : valR (ev (.lit (.int 8))) [.io h1, .un, .un, .un, .un, .un, .un, .un] = .ok (.int 8, [.io h1, .un, .un, .un, .un, .un, .un, .un]) := valR_of x11 rfl
  have x13 : evs (.cons (.lit (.int 8)) .nil) [.io h1, .un, .un, .un, .un, .un, .un, .un] = .ok ([.int 8], [.io h1, .un, .un, .un, .un, .un, .un, .un]) := evs_cons x12 (rfl)
  have x14 : ev (.call "_law_draw" s__law_draw (.cons (.var 0) (.cons (.lit (.int 8)) .nil))) [.io h1, .un, .un, .un, .un, .un, .un, .un] = .ok (.sh (.int (d1 : Nat)), [.io h2, .un, .un, .un, .un, .un, .un, .un]) := ev_callI (nm := "_law_draw") (F := s__law_draw) (i := 0) rfl rfl x13 rfl e1
  have x15 : opOf (.call "_law_draw" s__law_draw (.cons (.var 0) (.cons (.lit (.int 8)) .nil))) (ev (.call "_law_draw" s__law_draw (.cons (.var 0) (.cons (.lit (.int 8)) .nil)))) [.io h1, .un, .un, .un, .un, .un, .un, .un] = .ok (.val (.int (d1 : Nat)), [.io h2, .un, .un, .un, .un, .un, .un, .un]) := opOf_val (fun i h => by cases h) x14 rfl
  have x16 : ev (.bin .add (.lit (.int 1)) (.call "_law_draw" s__law_draw (.cons (.var 0) (.cons (.lit (.int 8)) .nil)))) [.io h1, .un, .un, .un, .un, .un, .un, .un] = .ok (.sh (.int (r : Nat)), [.io h2, .un, .un, .un, .un, .un, .un, .un]) := ev_bin x10 x15 rfl rfl a1
  have s16 : ex (.par [1, 2] (.cons (.bin .add (.lit (.int 1)) (.call "_law_draw" s__law_draw (.cons (.var 0) (.cons (.lit (.int 40)) .nil)))) (.cons (.bin .add (.lit (.int 1)) (.call "_law_draw" s__law_draw (.cons (.var 0) (.cons (.lit (.int 8)) .nil)))) .nil))) [.io h0, .un, .un, .un, .un, .un, .un, .un] = .nx [.io h2, .sh (.int (n : Nat)), .sh (.int (r : Nat)), .un, .un, .un, .un, .un] := ex_par (evcs_cons x8 (evcs_cons x16 (rfl))) (storeP2 rfl rfl)
  have x17 : evs .nil [.io h2, .sh (.int (n : Nat)), .sh (.int (r : Nat)), .un, .un, .un, .un, .un] = .ok ([], [.io h2, .sh (.int (n : Nat)), .sh (.int (r : Nat)), .un, .un, .un, .un, .un]) := rfl
  have x18 : ev (.lst .nil) [.io h2, .sh (.int (n : Nat)), .sh (.int (r : Nat)), .un, .un, .un, .un, .un] = .ok (.ow (.list []), [.io h2, .sh (.int (n : Nat)), .sh (.int (r : Nat)), .un, .un, .un, .un, .un]) := ev_lst x17 (Nat.le_of_ble_eq_true rfl)
  have s19 : ex (.asg (.nm 3) (.lst .nil)) [.io h2, .sh (.int (n : Nat)), .sh (.int (r : Nat)), .un, .un, .un, .un, .un] = .nx [.io h2, .sh (.int (n : Nat)), .sh (.int (r : Nat)), .ow (.list []), .un, .un, .un, .un] := ex_asg x18 rfl
  obtain ⟨c4', k4', lp⟩ := loopA (h := h2) r1 n40 (List.range r) [] .un (by rw [List.length_range]; show 0 + _ ≤ _; omega) (.inl rfl)
  rw [List.nil_append] at lp
  have lp : forL (forB (.nm 4) (exs bA)) ((List.range r).map fun k : Nat => PyData.int k) [.io h2, .sh (.int (n : Nat)), .sh (.int (r : Nat)), .ow (.list (([]).map fun k : Nat => PyData.int k)), .un, .un, .un, .un] = .nx [.io h2, .sh (.int (n : Nat)), .sh (.int (r : Nat)), .ow (.list ((ord r n).map fun k : Nat => PyData.int k)), c4', .un, .un, .un] := lp
  have he : evI (.rng (.cons (.var 2) .nil)) [.io h2, .sh (.int (n : Nat)), .sh (.int (r : Nat)), .ow (.list (([]).map fun k : Nat => PyData.int k)), .un, .un, .un, .un] = .ok (((List.range r).map fun k : Nat => PyData.int k, .val .none), [.io h2, .sh (.int (n : Nat)), .sh (.int (r : Nat)), .ow (.list (([]).map fun k : Nat => PyData.int k)), .un, .un, .un, .un]) := rng_v (i := 2) rfl (by omega)
  have y2 := ex_for (tg := .nm 4) (b := bA) he lp
  unfold bA at y2
  obtain ⟨h', c5', c6', c7', hh', lq⟩ := loopB (c4 := c4') n1 n40 r1 r8 [.int 0, .int 1, .int 2] h2 .un .un .un hh2 (.inl rfl) (.inl rfl) (.inl rfl)
  have he3 : evI (.rng (.cons (.lit (.int 3)) .nil)) [.io h2, .sh (.int (n : Nat)), .sh (.int (r : Nat)), .ow (.list ((ord r n).map fun k : Nat => PyData.int k)), c4', .un, .un, .un] = .ok (([.int 0, .int 1, .int 2], .val .none), [.io h2, .sh (.int (n : Nat)), .sh (.int (r : Nat)), .ow (.list ((ord r n).map fun k : Nat => PyData.int k)), c4', .un, .un, .un]) := rfl
  have y3 := ex_for (tg := .nm 5) (b := bB) he3 lq
  unfold bB at y3
  have x81 : ev (.lit (.bool true)) [.io h', .sh (.int (n : Nat)), .sh (.int (r : Nat)), .ow (.list ((ord r n).map fun k : Nat => PyData.int k)), c4', c5', c6', c7'] = .ok (.sh (.bool true), [.io h', .sh (.int (n : Nat)), .sh (.int (r : Nat)), .ow (.list ((ord r n).map fun k : Nat => PyData.int k)), c4', c5', c6', c7']) := rfl
  have hb : exs b__law_are_told_alone [.io h0, .un, .un, .un, .un, .un, .un, .un] = .rt (.sh (.bool true)) [.io h', .sh (.int (n : Nat)), .sh (.int (r : Nat)), .ow (.list ((ord r n).map fun k : Nat => PyData.int k)), c4', c5', c6', c7'] := (exs_step s16).trans ((exs_step s19).trans ((exs_step y2).trans ((exs_step y3).trans (exs_ret x81))))
  exact ⟨h', q7 (h := h0) (ds := []) (np := 1) (n := 8) (b := b__law_are_told_alone) rfl rfl (by decide) (by decide) rfl hb rfl, hh'⟩
def bLp : CSs := (.cons (.asg (.nm 3) (.call "_law_text" s__law_text (.cons (.var 1) (.cons (.lit (.int 40)) .nil)))) (.cons (.fori (.nm 4) (.fzd (.tup (.cons (.lit (.int 1)) (.cons (.lit (.int 2)) (.cons (.bin .add (.lit (.int 1)) (.call "_law_draw" s__law_draw (.cons (.var 1) (.cons (.lit (.int 8)) .nil)))) (.cons (.lit (.int 8)) .nil)))))) (.cons (.ite (.nt (.call "_law_is_right" s__law_is_right (.cons (.var 3) (.cons (.var 4) .nil)))) (.cons (.ret (.lit (.bool false))) .nil) .nil) .nil)) (.cons (.ite (.nt (.call "_law_are_told_alone" s__law_are_told_alone (.cons (.var 1) .nil))) (.cons (.ret (.lit (.bool false))) .nil) .nil) .nil)))
def bRl : CSs := (.cons (.ite (.nt (.call "_law_is_right" s__law_is_right (.cons (.var 3) (.cons (.var 4) .nil)))) (.cons (.ret (.lit (.bool false))) .nil) .nil) .nil)
theorem loopQ {z : Cl} {h : D} {lapn : Int} {w : List Nat} (tw : Text w) : ∀ (l : List Nat) (c4 : Cl), (∀ r ∈ l, 1 ≤ r ∧ r ≤ 8) → OkC c4 → ∃ c4', OkC c4' ∧ forL (forB (.nm 4) (exs bRl)) (l.map fun k : Nat => PyData.int k) [z, .ow h, .sh (.int lapn), .sh (T w), c4] = .nx [z, .ow h, .sh (.int lapn), .sh (T w), c4'] := by
  intro l
  induction l with
  | nil => exact fun c4 _ k4 => ⟨c4, k4, rfl⟩
  | cons r l ih =>
    intro c4 hl k4
    obtain ⟨c4', k4', hr2⟩ := ih (.sh (.int (r : Nat))) (fun q hq => hl q (List.mem_cons_of_mem _ hq)) (okc _)
    have hr := hl r (List.mem_cons_self ..)
    have b1 := bindT_nm (i := 4) (d := .int (r : Nat)) (e := [z, .ow h, .sh (.int lapn), .sh (T w), c4]) rfl k4 (by decide : 4 < 5)
    refine ⟨c4', k4', ?_⟩
    have x1 : valR (ev (.var 3)) [z, .ow h, .sh (.int lapn), .sh (T w), .sh (.int (r : Nat))] = .ok (T w, [z, .ow h, .sh (.int lapn), .sh (T w), .sh (.int (r : Nat))]) := rfl
    have x2 : valR (ev (.var 4)) [z, .ow h, .sh (.int lapn), .sh (T w), .sh (.int (r : Nat))] = .ok (.int (r : Nat), [z, .ow h, .sh (.int lapn), .sh (T w), .sh (.int (r : Nat))]) := rfl
    have x3 : evs (.cons (.var 3) (.cons (.var 4) .nil)) [z, .ow h, .sh (.int lapn), .sh (T w), .sh (.int (r : Nat))] = .ok ([T w, .int (r : Nat)], [z, .ow h, .sh (.int lapn), .sh (T w), .sh (.int (r : Nat))]) := evs_cons x1 (evs_cons x2 (rfl))
    have x4 : ev (.call "_law_is_right" s__law_is_right (.cons (.var 3) (.cons (.var 4) .nil))) [z, .ow h, .sh (.int lapn), .sh (T w), .sh (.int (r : Nat))] = .ok (.sh (.bool true), [z, .ow h, .sh (.int lapn), .sh (T w), .sh (.int (r : Nat))]) := ev_call0 (nm := "_law_is_right") (F := s__law_is_right) x3 rfl (sem__law_is_right tw hr.1 hr.2)
    have x5 : ev (.nt (.call "_law_is_right" s__law_is_right (.cons (.var 3) (.cons (.var 4) .nil)))) [z, .ow h, .sh (.int lapn), .sh (T w), .sh (.int (r : Nat))] = .ok (.sh (.bool false), [z, .ow h, .sh (.int lapn), .sh (T w), .sh (.int (r : Nat))]) := by rw [ev, testR_of x4, bind_ok]; rfl
    have s5 : ex (.ite (.nt (.call "_law_is_right" s__law_is_right (.cons (.var 3) (.cons (.var 4) .nil)))) (.cons (.ret (.lit (.bool false))) .nil) .nil) [z, .ow h, .sh (.int lapn), .sh (T w), .sh (.int (r : Nat))] = .nx [z, .ow h, .sh (.int lapn), .sh (T w), .sh (.int (r : Nat))] := ite_f x5
    have t1 : forB (.nm 4) (exs bRl) (.int (r : Nat)) [z, .ow h, .sh (.int lapn), .sh (T w), c4] = .nx [z, .ow h, .sh (.int lapn), .sh (T w), .sh (.int (r : Nat))] := by
      unfold forB
      rw [b1]
      exact (exs_step (s5)).trans (rfl)
    rw [List.map_cons]
    unfold forL
    rw [t1]
    exact hr2
theorem lap {z c2 c3 c4 : Cl} {h : D} {lapn : Int} (hh : Ok h) (k2 : OkC c2) (k3 : OkC c3) (k4 : OkC c4) : ∃ h' c2' c3' c4', Ok h' ∧ OkC c2' ∧ OkC c3' ∧ OkC c4' ∧ forB (.nm 2) (exs bLp) (.int lapn) [z, .ow h, c2, c3, c4] = .nx [z, .ow h', c2', c3', c4'] := by
  obtain ⟨w, h1, e1, ww, w1, w40, hh1⟩ := sem__law_text (m := 40) hh (by decide) (by decide)
  have e1 : s__law_text.sem [h, .int 40] = .ok (.sh (T w)) h1 := e1
  have tw : Text w := ⟨ww, w1, w40⟩
  obtain ⟨f, d, h2, e2, a2, f1, f8, hh2⟩ := drawK (m := 8) hh1 (by decide) (by decide)
  have e2 : s__law_draw.sem [h1, .int 8] = .ok (.sh (.int (d : Nat))) h2 := e2
  obtain ⟨h3, e3, hh3⟩ := sem__law_are_told_alone hh2
  have b0 := bindT_nm (i := 2) (d := .int lapn) (e := [z, .ow h, c2, c3, c4]) rfl k2 (by decide : 2 < 5)
  have x1 : ev (.lit (.int 40)) [z, .ow h, .sh (.int lapn), c3, c4] = .ok (.sh (.int 40), [z, .ow h, .sh (.int lapn), c3, c4]) := rfl
  have x2 : valR (ev (.lit (.int 40))) [z, .ow h, .sh (.int lapn), c3, c4] = .ok (.int 40, [z, .ow h, .sh (.int lapn), c3, c4]) := valR_of x1 rfl
  have x3 : evs (.cons (.lit (.int 40)) .nil) [z, .ow h, .sh (.int lapn), c3, c4] = .ok ([.int 40], [z, .ow h, .sh (.int lapn), c3, c4]) := evs_cons x2 (rfl)
  have x4 : ev (.call "_law_text" s__law_text (.cons (.var 1) (.cons (.lit (.int 40)) .nil))) [z, .ow h, .sh (.int lapn), c3, c4] = .ok (.sh (T w), [z, .ow h1, .sh (.int lapn), c3, c4]) := ev_callO (nm := "_law_text") (F := s__law_text) (i := 1) rfl rfl x3 rfl e1
  have w4 : ex (.asg (.nm 3) (.call "_law_text" s__law_text (.cons (.var 1) (.cons (.lit (.int 40)) .nil)))) [z, .ow h, .sh (.int lapn), c3, c4] = .nx [z, .ow h1, .sh (.int lapn), .sh (T w), c4] := ex_asg x4 (storeT_nm (i := 3) rfl k3 (by decide : 3 < 5))
  have x5 : ev (.lit (.int 1)) [z, .ow h1, .sh (.int lapn), .sh (T w), c4] = .ok (.sh (.int 1), [z, .ow h1, .sh (.int lapn), .sh (T w), c4]) := rfl
  have x6 : valR (ev (.lit (.int 1))) [z, .ow h1, .sh (.int lapn), .sh (T w), c4] = .ok (.int 1, [z, .ow h1, .sh (.int lapn), .sh (T w), c4]) := valR_of x5 rfl
  have x7 : ev (.lit (.int 2)) [z, .ow h1, .sh (.int lapn), .sh (T w), c4] = .ok (.sh (.int 2), [z, .ow h1, .sh (.int lapn), .sh (T w), c4]) := rfl
  have x8 : valR (ev (.lit (.int 2))) [z, .ow h1, .sh (.int lapn), .sh (T w), c4] = .ok (.int 2, [z, .ow h1, .sh (.int lapn), .sh (T w), c4]) := valR_of x7 rfl
  have x9 : ev (.lit (.int 1)) [z, .ow h1, .sh (.int lapn), .sh (T w), c4] = .ok (.sh (.int 1), [z, .ow h1, .sh (.int lapn), .sh (T w), c4]) := rfl
  have x10 : opOf (.lit (.int 1)) (ev (.lit (.int 1))) [z, .ow h1, .sh (.int lapn), .sh (T w), c4] = .ok (.val (.int 1), [z, .ow h1, .sh (.int lapn), .sh (T w), c4]) := opOf_val (fun i h => by cases h) x9 rfl
  have x11 : ev (.lit (.int 8)) [z, .ow h1, .sh (.int lapn), .sh (T w), c4] = .ok (.sh (.int 8), [z, .ow h1, .sh (.int lapn), .sh (T w), c4]) := rfl
  have x12 : valR (ev (.lit (.int 8))) [z, .ow h1, .sh (.int lapn), .sh (T w), c4] = .ok (.int 8, [z, .ow h1, .sh (.int lapn), .sh (T w), c4]) := valR_of x11 rfl
  have x13 : evs (.cons (.lit (.int 8)) .nil) [z, .ow h1, .sh (.int lapn), .sh (T w), c4] = .ok ([.int 8], [z, .ow h1, .sh (.int lapn), .sh (T w), c4]) := evs_cons x12 (rfl)
  have x14 : ev (.call "_law_draw" s__law_draw (.cons (.var 1) (.cons (.lit (.int 8)) .nil))) [z, .ow h1, .sh (.int lapn), .sh (T w), c4] = .ok (.sh (.int (d : Nat)), [z, .ow h2, .sh (.int lapn), .sh (T w), c4]) := ev_callO (nm := "_law_draw") (F := s__law_draw) (i := 1) rfl rfl x13 rfl e2
  have x15 : opOf (.call "_law_draw" s__law_draw (.cons (.var 1) (.cons (.lit (.int 8)) .nil))) (ev (.call "_law_draw" s__law_draw (.cons (.var 1) (.cons (.lit (.int 8)) .nil)))) [z, .ow h1, .sh (.int lapn), .sh (T w), c4] = .ok (.val (.int (d : Nat)), [z, .ow h2, .sh (.int lapn), .sh (T w), c4]) := opOf_val (fun i h => by cases h) x14 rfl
  have x16 : ev (.bin .add (.lit (.int 1)) (.call "_law_draw" s__law_draw (.cons (.var 1) (.cons (.lit (.int 8)) .nil)))) [z, .ow h1, .sh (.int lapn), .sh (T w), c4] = .ok (.sh (.int (f : Nat)), [z, .ow h2, .sh (.int lapn), .sh (T w), c4]) := ev_bin x10 x15 rfl rfl a2
  have x17 : valR (ev (.bin .add (.lit (.int 1)) (.call "_law_draw" s__law_draw (.cons (.var 1) (.cons (.lit (.int 8)) .nil))))) [z, .ow h1, .sh (.int lapn), .sh (T w), c4] = .ok (.int (f : Nat), [z, .ow h2, .sh (.int lapn), .sh (T w), c4]) := valR_of x16 rfl
  have x18 : ev (.lit (.int 8)) [z, .ow h2, .sh (.int lapn), .sh (T w), c4] = .ok (.sh (.int 8), [z, .ow h2, .sh (.int lapn), .sh (T w), c4]) := rfl
  have x19 : valR (ev (.lit (.int 8))) [z, .ow h2, .sh (.int lapn), .sh (T w), c4] = .ok (.int 8, [z, .ow h2, .sh (.int lapn), .sh (T w), c4]) := valR_of x18 rfl
  have x20 : evs (.cons (.lit (.int 1)) (.cons (.lit (.int 2)) (.cons (.bin .add (.lit (.int 1)) (.call "_law_draw" s__law_draw (.cons (.var 1) (.cons (.lit (.int 8)) .nil)))) (.cons (.lit (.int 8)) .nil)))) [z, .ow h1, .sh (.int lapn), .sh (T w), c4] = .ok ([.int 1, .int 2, .int (f : Nat), .int 8], [z, .ow h2, .sh (.int lapn), .sh (T w), c4]) := evs_cons x6 (evs_cons x8 (evs_cons x17 (evs_cons x19 (rfl))))
  have x21 : ev (.tup (.cons (.lit (.int 1)) (.cons (.lit (.int 2)) (.cons (.bin .add (.lit (.int 1)) (.call "_law_draw" s__law_draw (.cons (.var 1) (.cons (.lit (.int 8)) .nil)))) (.cons (.lit (.int 8)) .nil))))) [z, .ow h1, .sh (.int lapn), .sh (T w), c4] = .ok (.sh (.tuple [.int 1, .int 2, .int (f : Nat), .int 8]), [z, .ow h2, .sh (.int lapn), .sh (T w), c4]) := ev_tup x20 (Nat.le_of_ble_eq_true rfl)
  obtain ⟨c4', k4', lq⟩ := loopQ (z := z) (h := h2) (lapn := lapn) tw [1, 2, f, 8] c4 (fun r hr => by
    simp only [List.mem_cons, List.not_mem_nil, or_false] at hr
    omega) k4
  have he : evI (.fzd (.tup (.cons (.lit (.int 1)) (.cons (.lit (.int 2)) (.cons (.bin .add (.lit (.int 1)) (.call "_law_draw" s__law_draw (.cons (.var 1) (.cons (.lit (.int 8)) .nil)))) (.cons (.lit (.int 8)) .nil)))))) [z, .ow h1, .sh (.int lapn), .sh (T w), c4] = .ok ((([1, 2, f, 8] : List Nat).map fun k : Nat => PyData.int k, .val (.tuple [.int 1, .int 2, .int (f : Nat), .int 8])), [z, .ow h2, .sh (.int lapn), .sh (T w), c4]) := fzd_val x21 rfl rfl
  have s3 := ex_for (tg := .nm 4) (b := bRl) he lq
  unfold bRl at s3
  have x71 : evs .nil [z, .ow h2, .sh (.int lapn), .sh (T w), c4'] = .ok ([], [z, .ow h2, .sh (.int lapn), .sh (T w), c4']) := rfl
  have x72 : ev (.call "_law_are_told_alone" s__law_are_told_alone (.cons (.var 1) .nil)) [z, .ow h2, .sh (.int lapn), .sh (T w), c4'] = .ok (.sh (.bool true), [z, .ow h3, .sh (.int lapn), .sh (T w), c4']) := ev_callO (nm := "_law_are_told_alone") (F := s__law_are_told_alone) (i := 1) rfl rfl x71 rfl e3
  have x73 : ev (.nt (.call "_law_are_told_alone" s__law_are_told_alone (.cons (.var 1) .nil))) [z, .ow h2, .sh (.int lapn), .sh (T w), c4'] = .ok (.sh (.bool false), [z, .ow h3, .sh (.int lapn), .sh (T w), c4']) := by rw [ev, testR_of x72, bind_ok]; rfl
  have y3 : ex (.ite (.nt (.call "_law_are_told_alone" s__law_are_told_alone (.cons (.var 1) .nil))) (.cons (.ret (.lit (.bool false))) .nil) .nil) [z, .ow h2, .sh (.int lapn), .sh (T w), c4'] = .nx [z, .ow h3, .sh (.int lapn), .sh (T w), c4'] := ite_f x73
  refine ⟨h3, .sh (.int lapn), .sh (T w), c4', hh3, okc _, okc _, k4', ?_⟩
  unfold forB
  rw [b0]
  exact (exs_step (w4)).trans ((exs_step (s3)).trans ((exs_step (y3)).trans (rfl)))
theorem q1 : s_fenced.sem [.str ("abcdefg" : PySem.Str), .int 3] = .ok (.sh (.str ("aebdfcg" : PySem.Str))) .none := isR_ok (by decide +kernel)
theorem q2 : s_unfenced.sem [.str ("aebdfcg" : PySem.Str), .int 3] = .ok (.sh (.str ("abcdefg" : PySem.Str))) .none := isR_ok (by decide +kernel)
theorem q3 : s_fenced.sem [.str ("abc" : PySem.Str), .int 1] = .ok (.sh (.str ("abc" : PySem.Str))) .none := isR_ok (by decide +kernel)
theorem q4 : s_fenced.sem [.str ("abcde" : PySem.Str), .int 2] = .ok (.sh (.str ("acebd" : PySem.Str))) .none := isR_ok (by decide +kernel)
theorem q5 : s_fenced.sem [.str ("abc" : PySem.Str), .int 8] = .ok (.sh (.str ("abc" : PySem.Str))) .none := isR_ok (by decide +kernel)
theorem q9 : s_fenced.sem [.str ("abcdefgh" : PySem.Str), .int 4] = .ok (.sh (.str ("agbfhced" : PySem.Str))) .none := isR_ok (by decide +kernel)
theorem look1 (L h : D) : ex (.ite (.bop false (.cons (.cmp .ne (.call "fenced" s_fenced (.cons (.lit (.str ("abcdefg" : PySem.Str))) (.cons (.lit (.int 3)) .nil))) (.lit (.str ("aebdfcg" : PySem.Str)))) (.cons (.cmp .ne (.call "unfenced" s_unfenced (.cons (.lit (.str ("aebdfcg" : PySem.Str))) (.cons (.lit (.int 3)) .nil))) (.lit (.str ("abcdefg" : PySem.Str)))) (.cons (.cmp .ne (.call "fenced" s_fenced (.cons (.lit (.str ("abc" : PySem.Str))) (.cons (.lit (.int 1)) .nil))) (.lit (.str ("abc" : PySem.Str)))) .nil)))) (.cons (.ret (.lit (.bool false))) .nil) .nil) [.fz L, .ow h, .un, .un, .un] = .nx [.fz L, .ow h, .un, .un, .un] :=
  ite_f (ev_bop (evB_or (look rfl rfl q1 rfl (by decide +kernel)) (evB_or (look rfl rfl q2 rfl (by decide +kernel)) (evB_one (look rfl rfl q3 rfl (by decide +kernel))))))
theorem look2 (L h : D) : ex (.ite (.bop false (.cons (.cmp .ne (.call "fenced" s_fenced (.cons (.lit (.str ("abcde" : PySem.Str))) (.cons (.lit (.int 2)) .nil))) (.lit (.str ("acebd" : PySem.Str)))) (.cons (.cmp .ne (.call "fenced" s_fenced (.cons (.lit (.str ("abc" : PySem.Str))) (.cons (.lit (.int 8)) .nil))) (.lit (.str ("abc" : PySem.Str)))) (.cons (.cmp .ne (.call "fenced" s_fenced (.cons (.lit (.str ("abcdefgh" : PySem.Str))) (.cons (.lit (.int 4)) .nil))) (.lit (.str ("agbfhced" : PySem.Str)))) .nil)))) (.cons (.ret (.lit (.bool false))) .nil) .nil) [.fz L, .ow h, .un, .un, .un] = .nx [.fz L, .ow h, .un, .un, .un] :=
  ite_f (ev_bop (evB_or (look rfl rfl q4 rfl (by decide +kernel)) (evB_or (look rfl rfl q5 rfl (by decide +kernel)) (evB_one (look rfl rfl q9 rfl (by decide +kernel))))))
theorem law_true (ns : List Int) (hns : ns.length ≤ 63) : ∃ x, s_law.sem [.list (ns.map .int)] = .ok (.sh (.bool true)) x := by
  obtain ⟨h, e1, hh⟩ := HandC.sem_hand ns
  rw [← hand_eq] at e1
  refine ⟨.none, ?_⟩
  generalize PyData.list (ns.map .int) = L at e1 ⊢
  have s1 : ex (.asg (.nm 1) (.call "_law_hand" s__law_hand (.cons (.var 0) .nil))) [.fz L, .un, .un, .un, .un] = .nx [.fz L, .ow h, .un, .un, .un] := by
    have b1 : ev (.call "_law_hand" s__law_hand (.cons (.var 0) .nil)) [.fz L, .un, .un, .un, .un] = .ok (.ow h, [.fz L, .un, .un, .un, .un]) := by
      have c1 : callS s__law_hand (some 0) [] [.fz L, .un, .un, .un, .un] = .ok (.ow h, [.fz L, .un, .un, .un, .un]) := by
        show (match s__law_hand.sem [L] with | .ok r _ => R.ok (r, ([.fz L, .un, .un, .un, .un] : En)) | .rz x => .rz x ([.fz L, .un, .un, .un, .un] : En) | .no => .no) = _
        rw [e1]
      have hk : s__law_hand.kd ≠ 0 := by decide
      rw [ev, if_neg hk]
      exact c1
    exact ex_asg b1 rfl
  have hl : ∃ h' c2' c3' c4', Ok h' ∧ OkC c2' ∧ OkC c3' ∧ OkC c4' ∧ forL (forB (.nm 2) (exs bLp)) [.int 0, .int 1, .int 2, .int 3, .int 4, .int 5] [.fz L, .ow h, .un, .un, .un] = .nx [.fz L, .ow h', c2', c3', c4'] := by
    have gen : ∀ (l : List Int) (z c2 c3 c4 : Cl) (h : D), Ok h → OkC c2 → OkC c3 → OkC c4 → ∃ h' c2' c3' c4', Ok h' ∧ OkC c2' ∧ OkC c3' ∧ OkC c4' ∧ forL (forB (.nm 2) (exs bLp)) (l.map .int) [z, .ow h, c2, c3, c4] = .nx [z, .ow h', c2', c3', c4'] := by
      intro l
      induction l with
      | nil => exact fun z c2 c3 c4 h hh k2 k3 k4 => ⟨h, c2, c3, c4, hh, k2, k3, k4, rfl⟩
      | cons i l ih =>
        intro z c2 c3 c4 h hh k2 k3 k4
        obtain ⟨h1, d2, d3, d4, hh1, g2, g3, g4, hb⟩ := lap (z := z) (lapn := i) hh k2 k3 k4
        obtain ⟨h2, f2, f3, f4, hh2, j2, j3, j4, hr⟩ := ih z d2 d3 d4 h1 hh1 g2 g3 g4
        refine ⟨h2, f2, f3, f4, hh2, j2, j3, j4, ?_⟩
        rw [List.map_cons]
        unfold forL
        rw [hb]
        exact hr
    exact gen [0, 1, 2, 3, 4, 5] (.fz L) (.un) (.un) (.un) h hh (.inl rfl) (.inl rfl) (.inl rfl)
  obtain ⟨h', c2', c3', c4', _, _, _, _, hl⟩ := hl
  have s5 : ex (.fori (.nm 2) (.rng (.cons (.lit (.int 6)) .nil)) bLp) [.fz L, .ow h, .un, .un, .un] = .nx [.fz L, .ow h', c2', c3', c4'] := by
    have he : evI (.rng (.cons (.lit (.int 6)) .nil)) [.fz L, .ow h, .un, .un, .un] = .ok (([.int 0, .int 1, .int 2, .int 3, .int 4, .int 5], .val .none), [.fz L, .ow h, .un, .un, .un]) := rfl
    exact ex_for he hl
  unfold bLp at s5
  have hb : exs b_law [.fz L, .un, .un, .un, .un] = .rt (.sh (.bool true)) [.fz L, .ow h', c2', c3', c4'] := by
    unfold b_law
    exact (exs_step s1).trans ((exs_step (look1 _ _)).trans ((exs_step (look2 _ _)).trans ((exs_step s5).trans rfl)))
  show runF 1 5 2 b_law [L] = _
  simp [runF, startE, firstC, hb, endF]
end K19
end
section
namespace K19
open PySem PySem.Spec PyProof.Rows L2 PV
section
variable {P : Program} {w : World} {K : PySem.W.Frag} {mg : Str → Option Value} {base : Heap} {f : Addr} {fd : FuncData}
theorem ok__law_hand (F : Fun K "_law_hand" "_law_hand" (topS 21) f fd) (hb : ∀ y ∈ bltNames, mg y = none) : FnG P w K mg base (L2.CX P w) 1 f fd ["script"] (spOf K s__law_hand) :=
  fn_ok (by decide) F sc__law_hand m__law_hand (by unfold b__law_hand; simp only [gSs, gS, gE, gEs, gI, true_and, and_true, and_self]) hb
theorem ok__law_draw (F : Fun K "_law_draw" "_law_draw" (topS 22) f fd) (hb : ∀ y ∈ bltNames, mg y = none) : FnG P w K mg base (L2.CX P w) 1 f fd ["hand", "many"] (spOf K s__law_draw) :=
  fn_ok (by decide) F sc__law_draw m__law_draw (by unfold b__law_draw; simp only [gSs, gS, gE, gEs, gI, true_and, and_true, and_self]) hb
theorem ok__law_any (F : Fun K "_law_any" "_law_any" (topS 23) f fd) (hb : ∀ y ∈ bltNames, mg y = none) (c__law_draw : FnGood ⟨P, w, K, mg, base⟩ 1 "_law_draw" s__law_draw) : FnG P w K mg base (L2.CX P w) 2 f fd ["hand", "some"] (spOf K s__law_any) :=
  fn_ok (by decide) F sc__law_any m__law_any (by unfold b__law_any; simp only [gSs, gS, gE, gEs, gI, true_and, and_true, and_self]; repeat' first | assumption | apply And.intro | exact trivial) hb
theorem ok__law_text (F : Fun K "_law_text" "_law_text" (topS 24) f fd) (hb : ∀ y ∈ bltNames, mg y = none) (c__law_any : FnGood ⟨P, w, K, mg, base⟩ 2 "_law_any" s__law_any) (c__law_draw : FnGood ⟨P, w, K, mg, base⟩ 2 "_law_draw" s__law_draw) : FnG P w K mg base (L2.CX P w) 3 f fd ["hand", "most"] (spOf K s__law_text) :=
  fn_ok (by decide) F sc__law_text m__law_text (by unfold b__law_text; simp only [gSs, gS, gE, gEs, gI, true_and, and_true, and_self]; repeat' first | assumption | apply And.intro | exact trivial) hb
theorem ok_is_text (F : Fun K "is_text" "is_text" (topS 11) f fd) (hb : ∀ y ∈ bltNames, mg y = none) (v_LETTERS : GlGood ⟨P, w, K, mg, base⟩ "LETTERS" (.str ("abcdefghijklmnopqrstuvwxyz" : PySem.Str))) : FnG P w K mg base (L2.CX P w) 1 f fd ["thing", "most"] (spOf K s_is_text) :=
  fn_ok (by decide) F sc_is_text m_is_text (by unfold b_is_text; simp only [gSs, gS, gE, gEs, gI, true_and, and_true, and_self]; repeat' first | assumption | apply And.intro | exact trivial) hb
theorem ok_check_text (F : Fun K "check_text" "check_text" (topS 12) f fd) (hb : ∀ y ∈ bltNames, mg y = none) (c_is_text : FnGood ⟨P, w, K, mg, base⟩ 1 "is_text" s_is_text) (v_LONGEST : GlGood ⟨P, w, K, mg, base⟩ "LONGEST" (.int 40)) : FnG P w K mg base (L2.CX P w) 2 f fd ["text"] (spOf K s_check_text) :=
  fn_ok (by decide) F sc_check_text m_check_text (by unfold b_check_text; simp only [gSs, gS, gE, gEs, gI, true_and, and_true, and_self]; repeat' first | assumption | apply And.intro | exact trivial) hb
theorem ok_is_integer (F : Fun K "is_integer" "is_integer" (topS 1) f fd) (hb : ∀ y ∈ bltNames, mg y = none) : FnG P w K mg base (L2.CX P w) 1 f fd ["thing"] (spOf K s_is_integer) :=
  fn_ok (by decide) F sc_is_integer m_is_integer (by unfold b_is_integer; simp only [gSs, gS, gE, gEs, gI, true_and, and_true, and_self]) hb
theorem ok_is_within (F : Fun K "is_within" "is_within" (topS 2) f fd) (hb : ∀ y ∈ bltNames, mg y = none) (c_is_integer : FnGood ⟨P, w, K, mg, base⟩ 1 "is_integer" s_is_integer) : FnG P w K mg base (L2.CX P w) 2 f fd ["thing", "low", "high"] (spOf K s_is_within) :=
  fn_ok (by decide) F sc_is_within m_is_within (by unfold b_is_within; simp only [gSs, gS, gE, gEs, gI, true_and, and_true, and_self]; repeat' first | assumption | apply And.intro | exact trivial) hb
theorem ok_check_fence (F : Fun K "check_fence" "check_fence" (topS 16) f fd) (hb : ∀ y ∈ bltNames, mg y = none) (c_check_text : FnGood ⟨P, w, K, mg, base⟩ 2 "check_text" s_check_text) (c_is_within : FnGood ⟨P, w, K, mg, base⟩ 2 "is_within" s_is_within) (v_MOST_RAILS : GlGood ⟨P, w, K, mg, base⟩ "MOST_RAILS" (.int 8)) : FnG P w K mg base (L2.CX P w) 3 f fd ["text", "rails"] (spOf K s_check_fence) :=
  fn_ok (by decide) F sc_check_fence m_check_fence (by unfold b_check_fence; simp only [gSs, gS, gE, gEs, gI, true_and, and_true, and_self]; repeat' first | assumption | apply And.intro | exact trivial) hb
theorem ok_hidden_by (F : Fun K "hidden_by" "hidden_by" (topS 13) f fd) (hb : ∀ y ∈ bltNames, mg y = none) : FnG P w K mg base (L2.CX P w) 1 f fd ["text", "order"] (spOf K s_hidden_by) :=
  fn_ok (by decide) F sc_hidden_by m_hidden_by (by unfold b_hidden_by; simp only [gSs, gS, gE, gEs, gI, true_and, and_true, and_self]) hb
theorem ok_fence_order (F : Fun K "fence_order" "fence_order" (topS 15) f fd) (hb : ∀ y ∈ bltNames, mg y = none) : FnG P w K mg base (L2.CX P w) 1 f fd ["rails", "long"] (spOf K s_fence_order) :=
  fn_ok (by decide) F sc_fence_order m_fence_order (by unfold b_fence_order; simp only [gSs, gS, gE, gEs, gI, true_and, and_true, and_self]) hb
theorem ok_fence_of (F : Fun K "fence_of" "fence_of" (topS 17) f fd) (hb : ∀ y ∈ bltNames, mg y = none) (c_fence_order : FnGood ⟨P, w, K, mg, base⟩ 1 "fence_order" s_fence_order) : FnG P w K mg base (L2.CX P w) 2 f fd ["rails", "long"] (spOf K s_fence_of) :=
  fn_ok (by decide) F sc_fence_of m_fence_of (by unfold b_fence_of; simp only [gSs, gS, gE, gEs, gI, true_and, and_true, and_self]; repeat' first | assumption | apply And.intro | exact trivial) hb
theorem ok_fenced (F : Fun K "fenced" "fenced" (topS 18) f fd) (hb : ∀ y ∈ bltNames, mg y = none) (c_check_fence : FnGood ⟨P, w, K, mg, base⟩ 3 "check_fence" s_check_fence) (c_hidden_by : FnGood ⟨P, w, K, mg, base⟩ 3 "hidden_by" s_hidden_by) (c_fence_of : FnGood ⟨P, w, K, mg, base⟩ 3 "fence_of" s_fence_of) : FnG P w K mg base (L2.CX P w) 4 f fd ["text", "rails"] (spOf K s_fenced) :=
  fn_ok (by decide) F sc_fenced m_fenced (by unfold b_fenced; simp only [gSs, gS, gE, gEs, gI, true_and, and_true, and_self]; repeat' first | assumption | apply And.intro | exact trivial) hb
theorem ok_opened_by (F : Fun K "opened_by" "opened_by" (topS 14) f fd) (hb : ∀ y ∈ bltNames, mg y = none) : FnG P w K mg base (L2.CX P w) 1 f fd ["text", "order"] (spOf K s_opened_by) :=
  fn_ok (by decide) F sc_opened_by m_opened_by (by unfold b_opened_by; simp only [gSs, gS, gE, gEs, gI, true_and, and_true, and_self]) hb
theorem ok_unfenced (F : Fun K "unfenced" "unfenced" (topS 19) f fd) (hb : ∀ y ∈ bltNames, mg y = none) (c_check_fence : FnGood ⟨P, w, K, mg, base⟩ 3 "check_fence" s_check_fence) (c_opened_by : FnGood ⟨P, w, K, mg, base⟩ 3 "opened_by" s_opened_by) (c_fence_of : FnGood ⟨P, w, K, mg, base⟩ 3 "fence_of" s_fence_of) : FnG P w K mg base (L2.CX P w) 4 f fd ["text", "rails"] (spOf K s_unfenced) :=
  fn_ok (by decide) F sc_unfenced m_unfenced (by unfold b_unfenced; simp only [gSs, gS, gE, gEs, gI, true_and, and_true, and_self]; repeat' first | assumption | apply And.intro | exact trivial) hb
theorem ok__law_rail (F : Fun K "_law_rail" "_law_rail" (topS 25) f fd) (hb : ∀ y ∈ bltNames, mg y = none) : FnG P w K mg base (L2.CX P w) 1 f fd ["place", "rails"] (spOf K s__law_rail) :=
  fn_ok (by decide) F sc__law_rail m__law_rail (by unfold b__law_rail; simp only [gSs, gS, gE, gEs, gI, true_and, and_true, and_self]) hb
theorem ok__law_on (F : Fun K "_law_on" "_law_on" (topS 29) f fd) (hb : ∀ y ∈ bltNames, mg y = none) (c__law_rail : FnGood ⟨P, w, K, mg, base⟩ 1 "_law_rail" s__law_rail) : FnG P w K mg base (L2.CX P w) 2 f fd ["long", "rails", "rail"] (spOf K s__law_on) :=
  fn_ok (by decide) F sc__law_on m__law_on (by unfold b__law_on; simp only [gSs, gS, gE, gEs, gI, true_and, and_true, and_self]; repeat' first | assumption | apply And.intro | exact trivial) hb
theorem ok__law_are_told_alone (F : Fun K "_law_are_told_alone" "_law_are_told_alone" (topS 28) f fd) (hb : ∀ y ∈ bltNames, mg y = none) (c__law_draw : FnGood ⟨P, w, K, mg, base⟩ 4 "_law_draw" s__law_draw) (c__law_on : FnGood ⟨P, w, K, mg, base⟩ 4 "_law_on" s__law_on) (c_fenced : FnGood ⟨P, w, K, mg, base⟩ 4 "fenced" s_fenced) : FnG P w K mg base (L2.CX P w) 5 f fd ["hand"] (spOf K s__law_are_told_alone) :=
  fn_ok (by decide) F sc__law_are_told_alone m__law_are_told_alone (by unfold b__law_are_told_alone; simp only [gSs, gS, gE, gEs, gI, true_and, and_true, and_self]; repeat' first | assumption | apply And.intro | exact trivial) hb
theorem ok__law_fenced (F : Fun K "_law_fenced" "_law_fenced" (topS 26) f fd) (hb : ∀ y ∈ bltNames, mg y = none) (c__law_rail : FnGood ⟨P, w, K, mg, base⟩ 1 "_law_rail" s__law_rail) : FnG P w K mg base (L2.CX P w) 2 f fd ["text", "rails"] (spOf K s__law_fenced) :=
  fn_ok (by decide) F sc__law_fenced m__law_fenced (by unfold b__law_fenced; simp only [gSs, gS, gE, gEs, gI, true_and, and_true, and_self]; repeat' first | assumption | apply And.intro | exact trivial) hb
theorem ok__law_is_right (F : Fun K "_law_is_right" "_law_is_right" (topS 27) f fd) (hb : ∀ y ∈ bltNames, mg y = none) (c__law_fenced : FnGood ⟨P, w, K, mg, base⟩ 4 "_law_fenced" s__law_fenced) (c_fenced : FnGood ⟨P, w, K, mg, base⟩ 4 "fenced" s_fenced) (c_unfenced : FnGood ⟨P, w, K, mg, base⟩ 4 "unfenced" s_unfenced) : FnG P w K mg base (L2.CX P w) 5 f fd ["text", "rails"] (spOf K s__law_is_right) :=
  fn_ok (by decide) F sc__law_is_right m__law_is_right (by unfold b__law_is_right; simp only [gSs, gS, gE, gEs, gI, true_and, and_true, and_self]; repeat' first | assumption | apply And.intro | exact trivial) hb
theorem ok_law (F : Fun K "law" "law" (topS 30) f fd) (hb : ∀ y ∈ bltNames, mg y = none) (c__law_hand : FnGood ⟨P, w, K, mg, base⟩ 5 "_law_hand" s__law_hand) (c_fenced : FnGood ⟨P, w, K, mg, base⟩ 5 "fenced" s_fenced) (c_unfenced : FnGood ⟨P, w, K, mg, base⟩ 5 "unfenced" s_unfenced) (c__law_text : FnGood ⟨P, w, K, mg, base⟩ 5 "_law_text" s__law_text) (c__law_draw : FnGood ⟨P, w, K, mg, base⟩ 5 "_law_draw" s__law_draw) (c__law_is_right : FnGood ⟨P, w, K, mg, base⟩ 5 "_law_is_right" s__law_is_right) (c__law_are_told_alone : FnGood ⟨P, w, K, mg, base⟩ 5 "_law_are_told_alone" s__law_are_told_alone) : FnG P w K mg base (L2.CX P w) 6 f fd ["script"] (spOf K s_law) :=
  fn_ok (by decide) F sc_law m_law (by unfold b_law; simp only [gSs, gS, gE, gEs, gI, true_and, and_true, and_self]; repeat' first | assumption | apply And.intro | exact trivial) hb
end
theorem all_mk {l : PySem.W.OpenLaw} {w : World} {K : PySem.W.Frag} {h : Heap} {mg : Str → Option Value} {fa f0 f1 f2 f3 f4 f5 f6 f7 f8 f9 f10 f11 f12 f13 f14 f15 f16 f17 f18 f19 f20 : Addr} (X : K.In h) (G : h.Ns mainGlobals mg) (hfa : mg "law" = some (.ref fa))
    {od0 an0 od1 an1 od2 an2 od3 an3 od4 an4 od5 an5 od6 an6 od7 an7 od8 an8 od9 an9 od10 an10 od11 an11 od12 an12 od13 an13 od14 an14 od15 an15 od16 an16 od17 an17 od18 an18 od19 an19 od20 an20 : Option Addr} {sl0 sl1 sl2 sl3 sl4 sl5 sl6 sl7 sl8 sl9 sl10 sl11 sl12 sl13 sl14 sl15 sl16 sl17 sl18 sl19 sl20 : Array (Option Value)}
    {oc0 kV0 dc0 pm0 cd0 ct0 oc1 kV1 dc1 pm1 cd1 ct1 oc2 kV2 dc2 pm2 cd2 ct2 oc3 kV3 dc3 pm3 cd3 ct3 oc4 kV4 dc4 pm4 cd4 ct4 oc5 kV5 dc5 pm5 cd5 ct5 oc6 kV6 dc6 pm6 cd6 ct6 oc7 kV7 dc7 pm7 cd7 ct7 oc8 kV8 dc8 pm8 cd8 ct8 oc9 kV9 dc9 pm9 cd9 ct9 oc10 kV10 dc10 pm10 cd10 ct10 oc11 kV11 dc11 pm11 cd11 ct11 oc12 kV12 dc12 pm12 cd12 ct12 oc13 kV13 dc13 pm13 cd13 ct13 oc14 kV14 dc14 pm14 cd14 ct14 oc15 kV15 dc15 pm15 cd15 ct15 oc16 kV16 dc16 pm16 cd16 ct16 oc17 kV17 dc17 pm17 cd17 ct17 oc18 kV18 dc18 pm18 cd18 ct18 oc19 kV19 dc19 pm19 cd19 ct19 oc20 kV20 dc20 pm20 cd20 ct20 : Value}
    {t_LETTERS t_LONGEST t_MOST_RAILS : Tok}
    (a0 : PySem.W.nsIn K mainGlobals "_law_hand" = some (some (.ref f0))) (l0 : K.lookup f0 = some ⟨oc0, od0, .func (PySem.W.fnOf "_law_hand" "_law_hand" (defArgs (topS 21)) (defBody (topS 21)) (defScope (topS 21)) .none kV0 dc0 pm0 an0 cd0 ct0), sl0⟩) (c0 : PySem.W.codeIn K cd0 "_law_hand" = true) (k0 : PySem.W.keepIn K (.ref f0) = true)
    (a1 : PySem.W.nsIn K mainGlobals "_law_draw" = some (some (.ref f1))) (l1 : K.lookup f1 = some ⟨oc1, od1, .func (PySem.W.fnOf "_law_draw" "_law_draw" (defArgs (topS 22)) (defBody (topS 22)) (defScope (topS 22)) .none kV1 dc1 pm1 an1 cd1 ct1), sl1⟩) (c1 : PySem.W.codeIn K cd1 "_law_draw" = true) (k1 : PySem.W.keepIn K (.ref f1) = true)
    (a2 : PySem.W.nsIn K mainGlobals "_law_any" = some (some (.ref f2))) (l2 : K.lookup f2 = some ⟨oc2, od2, .func (PySem.W.fnOf "_law_any" "_law_any" (defArgs (topS 23)) (defBody (topS 23)) (defScope (topS 23)) .none kV2 dc2 pm2 an2 cd2 ct2), sl2⟩) (c2 : PySem.W.codeIn K cd2 "_law_any" = true) (k2 : PySem.W.keepIn K (.ref f2) = true)
    (a3 : PySem.W.nsIn K mainGlobals "_law_text" = some (some (.ref f3))) (l3 : K.lookup f3 = some ⟨oc3, od3, .func (PySem.W.fnOf "_law_text" "_law_text" (defArgs (topS 24)) (defBody (topS 24)) (defScope (topS 24)) .none kV3 dc3 pm3 an3 cd3 ct3), sl3⟩) (c3 : PySem.W.codeIn K cd3 "_law_text" = true) (k3 : PySem.W.keepIn K (.ref f3) = true)
    (a4 : PySem.W.nsIn K mainGlobals "is_text" = some (some (.ref f4))) (l4 : K.lookup f4 = some ⟨oc4, od4, .func (PySem.W.fnOf "is_text" "is_text" (defArgs (topS 11)) (defBody (topS 11)) (defScope (topS 11)) .none kV4 dc4 pm4 an4 cd4 ct4), sl4⟩) (c4 : PySem.W.codeIn K cd4 "is_text" = true) (k4 : PySem.W.keepIn K (.ref f4) = true)
    (a5 : PySem.W.nsIn K mainGlobals "check_text" = some (some (.ref f5))) (l5 : K.lookup f5 = some ⟨oc5, od5, .func (PySem.W.fnOf "check_text" "check_text" (defArgs (topS 12)) (defBody (topS 12)) (defScope (topS 12)) .none kV5 dc5 pm5 an5 cd5 ct5), sl5⟩) (c5 : PySem.W.codeIn K cd5 "check_text" = true) (k5 : PySem.W.keepIn K (.ref f5) = true)
    (a6 : PySem.W.nsIn K mainGlobals "is_integer" = some (some (.ref f6))) (l6 : K.lookup f6 = some ⟨oc6, od6, .func (PySem.W.fnOf "is_integer" "is_integer" (defArgs (topS 1)) (defBody (topS 1)) (defScope (topS 1)) .none kV6 dc6 pm6 an6 cd6 ct6), sl6⟩) (c6 : PySem.W.codeIn K cd6 "is_integer" = true) (k6 : PySem.W.keepIn K (.ref f6) = true)
    (a7 : PySem.W.nsIn K mainGlobals "is_within" = some (some (.ref f7))) (l7 : K.lookup f7 = some ⟨oc7, od7, .func (PySem.W.fnOf "is_within" "is_within" (defArgs (topS 2)) (defBody (topS 2)) (defScope (topS 2)) .none kV7 dc7 pm7 an7 cd7 ct7), sl7⟩) (c7 : PySem.W.codeIn K cd7 "is_within" = true) (k7 : PySem.W.keepIn K (.ref f7) = true)
    (a8 : PySem.W.nsIn K mainGlobals "check_fence" = some (some (.ref f8))) (l8 : K.lookup f8 = some ⟨oc8, od8, .func (PySem.W.fnOf "check_fence" "check_fence" (defArgs (topS 16)) (defBody (topS 16)) (defScope (topS 16)) .none kV8 dc8 pm8 an8 cd8 ct8), sl8⟩) (c8 : PySem.W.codeIn K cd8 "check_fence" = true) (k8 : PySem.W.keepIn K (.ref f8) = true)
    (a9 : PySem.W.nsIn K mainGlobals "hidden_by" = some (some (.ref f9))) (l9 : K.lookup f9 = some ⟨oc9, od9, .func (PySem.W.fnOf "hidden_by" "hidden_by" (defArgs (topS 13)) (defBody (topS 13)) (defScope (topS 13)) .none kV9 dc9 pm9 an9 cd9 ct9), sl9⟩) (c9 : PySem.W.codeIn K cd9 "hidden_by" = true) (k9 : PySem.W.keepIn K (.ref f9) = true)
    (a10 : PySem.W.nsIn K mainGlobals "fence_order" = some (some (.ref f10))) (l10 : K.lookup f10 = some ⟨oc10, od10, .func (PySem.W.fnOf "fence_order" "fence_order" (defArgs (topS 15)) (defBody (topS 15)) (defScope (topS 15)) .none kV10 dc10 pm10 an10 cd10 ct10), sl10⟩) (c10 : PySem.W.codeIn K cd10 "fence_order" = true) (k10 : PySem.W.keepIn K (.ref f10) = true)
    (a11 : PySem.W.nsIn K mainGlobals "fence_of" = some (some (.ref f11))) (l11 : K.lookup f11 = some ⟨oc11, od11, .func (PySem.W.fnOf "fence_of" "fence_of" (defArgs (topS 17)) (defBody (topS 17)) (defScope (topS 17)) .none kV11 dc11 pm11 an11 cd11 ct11), sl11⟩) (c11 : PySem.W.codeIn K cd11 "fence_of" = true) (k11 : PySem.W.keepIn K (.ref f11) = true)
    (a12 : PySem.W.nsIn K mainGlobals "fenced" = some (some (.ref f12))) (l12 : K.lookup f12 = some ⟨oc12, od12, .func (PySem.W.fnOf "fenced" "fenced" (defArgs (topS 18)) (defBody (topS 18)) (defScope (topS 18)) .none kV12 dc12 pm12 an12 cd12 ct12), sl12⟩) (c12 : PySem.W.codeIn K cd12 "fenced" = true) (k12 : PySem.W.keepIn K (.ref f12) = true)
    (a13 : PySem.W.nsIn K mainGlobals "opened_by" = some (some (.ref f13))) (l13 : K.lookup f13 = some ⟨oc13, od13, .func (PySem.W.fnOf "opened_by" "opened_by" (defArgs (topS 14)) (defBody (topS 14)) (defScope (topS 14)) .none kV13 dc13 pm13 an13 cd13 ct13), sl13⟩) (c13 : PySem.W.codeIn K cd13 "opened_by" = true) (k13 : PySem.W.keepIn K (.ref f13) = true)
    (a14 : PySem.W.nsIn K mainGlobals "unfenced" = some (some (.ref f14))) (l14 : K.lookup f14 = some ⟨oc14, od14, .func (PySem.W.fnOf "unfenced" "unfenced" (defArgs (topS 19)) (defBody (topS 19)) (defScope (topS 19)) .none kV14 dc14 pm14 an14 cd14 ct14), sl14⟩) (c14 : PySem.W.codeIn K cd14 "unfenced" = true) (k14 : PySem.W.keepIn K (.ref f14) = true)
    (a15 : PySem.W.nsIn K mainGlobals "_law_rail" = some (some (.ref f15))) (l15 : K.lookup f15 = some ⟨oc15, od15, .func (PySem.W.fnOf "_law_rail" "_law_rail" (defArgs (topS 25)) (defBody (topS 25)) (defScope (topS 25)) .none kV15 dc15 pm15 an15 cd15 ct15), sl15⟩) (c15 : PySem.W.codeIn K cd15 "_law_rail" = true) (k15 : PySem.W.keepIn K (.ref f15) = true)
    (a16 : PySem.W.nsIn K mainGlobals "_law_on" = some (some (.ref f16))) (l16 : K.lookup f16 = some ⟨oc16, od16, .func (PySem.W.fnOf "_law_on" "_law_on" (defArgs (topS 29)) (defBody (topS 29)) (defScope (topS 29)) .none kV16 dc16 pm16 an16 cd16 ct16), sl16⟩) (c16 : PySem.W.codeIn K cd16 "_law_on" = true) (k16 : PySem.W.keepIn K (.ref f16) = true)
    (a17 : PySem.W.nsIn K mainGlobals "_law_are_told_alone" = some (some (.ref f17))) (l17 : K.lookup f17 = some ⟨oc17, od17, .func (PySem.W.fnOf "_law_are_told_alone" "_law_are_told_alone" (defArgs (topS 28)) (defBody (topS 28)) (defScope (topS 28)) .none kV17 dc17 pm17 an17 cd17 ct17), sl17⟩) (c17 : PySem.W.codeIn K cd17 "_law_are_told_alone" = true) (k17 : PySem.W.keepIn K (.ref f17) = true)
    (a18 : PySem.W.nsIn K mainGlobals "_law_fenced" = some (some (.ref f18))) (l18 : K.lookup f18 = some ⟨oc18, od18, .func (PySem.W.fnOf "_law_fenced" "_law_fenced" (defArgs (topS 26)) (defBody (topS 26)) (defScope (topS 26)) .none kV18 dc18 pm18 an18 cd18 ct18), sl18⟩) (c18 : PySem.W.codeIn K cd18 "_law_fenced" = true) (k18 : PySem.W.keepIn K (.ref f18) = true)
    (a19 : PySem.W.nsIn K mainGlobals "_law_is_right" = some (some (.ref f19))) (l19 : K.lookup f19 = some ⟨oc19, od19, .func (PySem.W.fnOf "_law_is_right" "_law_is_right" (defArgs (topS 27)) (defBody (topS 27)) (defScope (topS 27)) .none kV19 dc19 pm19 an19 cd19 ct19), sl19⟩) (c19 : PySem.W.codeIn K cd19 "_law_is_right" = true) (k19 : PySem.W.keepIn K (.ref f19) = true)
    (a20 : PySem.W.nsIn K mainGlobals "law" = some (some (.ref f20))) (l20 : K.lookup f20 = some ⟨oc20, od20, .func (PySem.W.fnOf "law" "law" (defArgs (topS 30)) (defBody (topS 30)) (defScope (topS 30)) .none kV20 dc20 pm20 an20 cd20 ct20), sl20⟩) (c20 : PySem.W.codeIn K cd20 "law" = true) (k20 : PySem.W.keepIn K (.ref f20) = true)
    (g_LETTERS : PySem.W.nsIn K mainGlobals "LETTERS" = some (some (.str "abcdefghijklmnopqrstuvwxyz" t_LETTERS)))
    (g_LONGEST : PySem.W.nsIn K mainGlobals "LONGEST" = some (some (.int 40 t_LONGEST)))
    (g_MOST_RAILS : PySem.W.nsIn K mainGlobals "MOST_RAILS" = some (some (.int 8 t_MOST_RAILS)))
    (z0 : PySem.W.nsIn K mainGlobals "len" = some none)
    (z1 : PySem.W.nsIn K mainGlobals "int" = some none)
    (z2 : PySem.W.nsIn K mainGlobals "str" = some none)
    (z3 : PySem.W.nsIn K mainGlobals "abs" = some none)
    (z4 : PySem.W.nsIn K mainGlobals "min" = some none)
    (z5 : PySem.W.nsIn K mainGlobals "max" = some none)
    (z6 : PySem.W.nsIn K mainGlobals "sum" = some none)
    (z7 : PySem.W.nsIn K mainGlobals "sorted" = some none)
    (z8 : PySem.W.nsIn K mainGlobals "tuple" = some none)
    (z9 : PySem.W.nsIn K mainGlobals "list" = some none)
    (z10 : PySem.W.nsIn K mainGlobals "all" = some none)
    (z11 : PySem.W.nsIn K mainGlobals "any" = some none)
    (z12 : PySem.W.nsIn K mainGlobals "repr" = some none)
    (z13 : PySem.W.nsIn K mainGlobals "isinstance" = some none)
    (z14 : PySem.W.nsIn K mainGlobals "range" = some none)
    (z15 : PySem.W.nsIn K mainGlobals "enumerate" = some none)
    (z16 : PySem.W.nsIn K mainGlobals "zip" = some none)
    (z17 : PySem.W.nsIn K mainGlobals "bool" = some none)
    (z18 : PySem.W.nsIn K mainGlobals "set" = some none) :
    ∃ fd : FuncData, (∀ (s : Shared) (v : Value), BindsTo s fd ⟨[v], []⟩ [("script", v)]) ∧ ∀ base : Heap, K.In base → base.Ns mainGlobals mg → FnG l.prog w K mg base (L2.CX l.prog w) 6 fa fd ["script"] (spOf K s_law) := by
  have e := hfa.symm.trans (PySem.W.mg_of X G a20)
  cases e
  have hb : ∀ y ∈ bltNames, mg y = none := List.forall_mem_cons.mpr ⟨PySem.W.mg_none_of X G z0, List.forall_mem_cons.mpr ⟨PySem.W.mg_none_of X G z1, List.forall_mem_cons.mpr ⟨PySem.W.mg_none_of X G z2, List.forall_mem_cons.mpr ⟨PySem.W.mg_none_of X G z3, List.forall_mem_cons.mpr ⟨PySem.W.mg_none_of X G z4, List.forall_mem_cons.mpr ⟨PySem.W.mg_none_of X G z5, List.forall_mem_cons.mpr ⟨PySem.W.mg_none_of X G z6, List.forall_mem_cons.mpr ⟨PySem.W.mg_none_of X G z7, List.forall_mem_cons.mpr ⟨PySem.W.mg_none_of X G z8, List.forall_mem_cons.mpr ⟨PySem.W.mg_none_of X G z9, List.forall_mem_cons.mpr ⟨PySem.W.mg_none_of X G z10, List.forall_mem_cons.mpr ⟨PySem.W.mg_none_of X G z11, List.forall_mem_cons.mpr ⟨PySem.W.mg_none_of X G z12, List.forall_mem_cons.mpr ⟨PySem.W.mg_none_of X G z13, List.forall_mem_cons.mpr ⟨PySem.W.mg_none_of X G z14, List.forall_mem_cons.mpr ⟨PySem.W.mg_none_of X G z15, List.forall_mem_cons.mpr ⟨PySem.W.mg_none_of X G z16, List.forall_mem_cons.mpr ⟨PySem.W.mg_none_of X G z17, List.forall_mem_cons.mpr ⟨PySem.W.mg_none_of X G z18, fun y hy => absurd hy List.not_mem_nil⟩⟩⟩⟩⟩⟩⟩⟩⟩⟩⟩⟩⟩⟩⟩⟩⟩⟩⟩
  refine ⟨PySem.W.fnOf "law" "law" (defArgs (topS 30)) (defBody (topS 30)) (defScope (topS 30)) .none kV20 dc20 pm20 an20 cd20 ct20, fun s v => .of_eq rfl, fun base _ _ => ?_⟩
  have v_LETTERS : GlGood ⟨l.prog, w, K, mg, base⟩ "LETTERS" (.str ("abcdefghijklmnopqrstuvwxyz" : PySem.Str)) := ⟨_, .str "abcdefghijklmnopqrstuvwxyz", PySem.W.mg_of X G g_LETTERS, ⟨_, rfl⟩, fun _ => .str _⟩
  have v_LONGEST : GlGood ⟨l.prog, w, K, mg, base⟩ "LONGEST" (.int 40) := ⟨_, .int 40, PySem.W.mg_of X G g_LONGEST, ⟨_, rfl⟩, fun _ => .int _⟩
  have v_MOST_RAILS : GlGood ⟨l.prog, w, K, mg, base⟩ "MOST_RAILS" (.int 8) := ⟨_, .int 8, PySem.W.mg_of X G g_MOST_RAILS, ⟨_, rfl⟩, fun _ => .int _⟩
  have F0 := fun_mk (st := topS 21) l0 c0 k0
  have b0 := F0.binds (ps := ["script"]) fun _ _ _ _ _ _ us hl => match us, hl with | [_], _ => rfl
  have d__law_hand : ∀ j, 1 ≤ j → FnGood ⟨l.prog, w, K, mg, base⟩ j "_law_hand" s__law_hand := fun j hj => fn_good (by decide) (PySem.W.mg_of X G a0) (ok__law_hand (P := l.prog) (w := w) (base := base) F0 hb) hj k0 b0
  have F1 := fun_mk (st := topS 22) l1 c1 k1
  have b1 := F1.binds (ps := ["hand", "many"]) fun _ _ _ _ _ _ us hl => match us, hl with | [_, _], _ => rfl
  have d__law_draw : ∀ j, 1 ≤ j → FnGood ⟨l.prog, w, K, mg, base⟩ j "_law_draw" s__law_draw := fun j hj => fn_good (by decide) (PySem.W.mg_of X G a1) (ok__law_draw (P := l.prog) (w := w) (base := base) F1 hb) hj k1 b1
  have F2 := fun_mk (st := topS 23) l2 c2 k2
  have b2 := F2.binds (ps := ["hand", "some"]) fun _ _ _ _ _ _ us hl => match us, hl with | [_, _], _ => rfl
  have d__law_any : ∀ j, 2 ≤ j → FnGood ⟨l.prog, w, K, mg, base⟩ j "_law_any" s__law_any := fun j hj => fn_good (by decide) (PySem.W.mg_of X G a2) (ok__law_any (P := l.prog) (w := w) (base := base) F2 hb (d__law_draw _ (by decide))) hj k2 b2
  have F3 := fun_mk (st := topS 24) l3 c3 k3
  have b3 := F3.binds (ps := ["hand", "most"]) fun _ _ _ _ _ _ us hl => match us, hl with | [_, _], _ => rfl
  have d__law_text : ∀ j, 3 ≤ j → FnGood ⟨l.prog, w, K, mg, base⟩ j "_law_text" s__law_text := fun j hj => fn_good (by decide) (PySem.W.mg_of X G a3) (ok__law_text (P := l.prog) (w := w) (base := base) F3 hb (d__law_any _ (by decide)) (d__law_draw _ (by decide))) hj k3 b3
  have F4 := fun_mk (st := topS 11) l4 c4 k4
  have b4 := F4.binds (ps := ["thing", "most"]) fun _ _ _ _ _ _ us hl => match us, hl with | [_, _], _ => rfl
  have d_is_text : ∀ j, 1 ≤ j → FnGood ⟨l.prog, w, K, mg, base⟩ j "is_text" s_is_text := fun j hj => fn_good (by decide) (PySem.W.mg_of X G a4) (ok_is_text (P := l.prog) (w := w) (base := base) F4 hb v_LETTERS) hj k4 b4
  have F5 := fun_mk (st := topS 12) l5 c5 k5
  have b5 := F5.binds (ps := ["text"]) fun _ _ _ _ _ _ us hl => match us, hl with | [_], _ => rfl
  have d_check_text : ∀ j, 2 ≤ j → FnGood ⟨l.prog, w, K, mg, base⟩ j "check_text" s_check_text := fun j hj => fn_good (by decide) (PySem.W.mg_of X G a5) (ok_check_text (P := l.prog) (w := w) (base := base) F5 hb (d_is_text _ (by decide)) v_LONGEST) hj k5 b5
  have F6 := fun_mk (st := topS 1) l6 c6 k6
  have b6 := F6.binds (ps := ["thing"]) fun _ _ _ _ _ _ us hl => match us, hl with | [_], _ => rfl
  have d_is_integer : ∀ j, 1 ≤ j → FnGood ⟨l.prog, w, K, mg, base⟩ j "is_integer" s_is_integer := fun j hj => fn_good (by decide) (PySem.W.mg_of X G a6) (ok_is_integer (P := l.prog) (w := w) (base := base) F6 hb) hj k6 b6
  have F7 := fun_mk (st := topS 2) l7 c7 k7
  have b7 := F7.binds (ps := ["thing", "low", "high"]) fun _ _ _ _ _ _ us hl => match us, hl with | [_, _, _], _ => rfl
  have d_is_within : ∀ j, 2 ≤ j → FnGood ⟨l.prog, w, K, mg, base⟩ j "is_within" s_is_within := fun j hj => fn_good (by decide) (PySem.W.mg_of X G a7) (ok_is_within (P := l.prog) (w := w) (base := base) F7 hb (d_is_integer _ (by decide))) hj k7 b7
  have F8 := fun_mk (st := topS 16) l8 c8 k8
  have b8 := F8.binds (ps := ["text", "rails"]) fun _ _ _ _ _ _ us hl => match us, hl with | [_, _], _ => rfl
  have d_check_fence : ∀ j, 3 ≤ j → FnGood ⟨l.prog, w, K, mg, base⟩ j "check_fence" s_check_fence := fun j hj => fn_good (by decide) (PySem.W.mg_of X G a8) (ok_check_fence (P := l.prog) (w := w) (base := base) F8 hb (d_check_text _ (by decide)) (d_is_within _ (by decide)) v_MOST_RAILS) hj k8 b8
  have F9 := fun_mk (st := topS 13) l9 c9 k9
  have b9 := F9.binds (ps := ["text", "order"]) fun _ _ _ _ _ _ us hl => match us, hl with | [_, _], _ => rfl
  have d_hidden_by : ∀ j, 1 ≤ j → FnGood ⟨l.prog, w, K, mg, base⟩ j "hidden_by" s_hidden_by := fun j hj => fn_good (by decide) (PySem.W.mg_of X G a9) (ok_hidden_by (P := l.prog) (w := w) (base := base) F9 hb) hj k9 b9
  have F10 := fun_mk (st := topS 15) l10 c10 k10
  have b10 := F10.binds (ps := ["rails", "long"]) fun _ _ _ _ _ _ us hl => match us, hl with | [_, _], _ => rfl
  have d_fence_order : ∀ j, 1 ≤ j → FnGood ⟨l.prog, w, K, mg, base⟩ j "fence_order" s_fence_order := fun j hj => fn_good (by decide) (PySem.W.mg_of X G a10) (ok_fence_order (P := l.prog) (w := w) (base := base) F10 hb) hj k10 b10
  have F11 := fun_mk (st := topS 17) l11 c11 k11
  have b11 := F11.binds (ps := ["rails", "long"]) fun _ _ _ _ _ _ us hl => match us, hl with | [_, _], _ => rfl
  have d_fence_of : ∀ j, 2 ≤ j → FnGood ⟨l.prog, w, K, mg, base⟩ j "fence_of" s_fence_of := fun j hj => fn_good (by decide) (PySem.W.mg_of X G a11) (ok_fence_of (P := l.prog) (w := w) (base := base) F11 hb (d_fence_order _ (by decide))) hj k11 b11
  have F12 := fun_mk (st := topS 18) l12 c12 k12
  have b12 := F12.binds (ps := ["text", "rails"]) fun _ _ _ _ _ _ us hl => match us, hl with | [_, _], _ => rfl
  have d_fenced : ∀ j, 4 ≤ j → FnGood ⟨l.prog, w, K, mg, base⟩ j "fenced" s_fenced := fun j hj => fn_good (by decide) (PySem.W.mg_of X G a12) (ok_fenced (P := l.prog) (w := w) (base := base) F12 hb (d_check_fence _ (by decide)) (d_hidden_by _ (by decide)) (d_fence_of _ (by decide))) hj k12 b12
  have F13 := fun_mk (st := topS 14) l13 c13 k13
  have b13 := F13.binds (ps := ["text", "order"]) fun _ _ _ _ _ _ us hl => match us, hl with | [_, _], _ => rfl
  have d_opened_by : ∀ j, 1 ≤ j → FnGood ⟨l.prog, w, K, mg, base⟩ j "opened_by" s_opened_by := fun j hj => fn_good (by decide) (PySem.W.mg_of X G a13) (ok_opened_by (P := l.prog) (w := w) (base := base) F13 hb) hj k13 b13
  have F14 := fun_mk (st := topS 19) l14 c14 k14
  have b14 := F14.binds (ps := ["text", "rails"]) fun _ _ _ _ _ _ us hl => match us, hl with | [_, _], _ => rfl
  have d_unfenced : ∀ j, 4 ≤ j → FnGood ⟨l.prog, w, K, mg, base⟩ j "unfenced" s_unfenced := fun j hj => fn_good (by decide) (PySem.W.mg_of X G a14) (ok_unfenced (P := l.prog) (w := w) (base := base) F14 hb (d_check_fence _ (by decide)) (d_opened_by _ (by decide)) (d_fence_of _ (by decide))) hj k14 b14
  have F15 := fun_mk (st := topS 25) l15 c15 k15
  have b15 := F15.binds (ps := ["place", "rails"]) fun _ _ _ _ _ _ us hl => match us, hl with | [_, _], _ => rfl
  have d__law_rail : ∀ j, 1 ≤ j → FnGood ⟨l.prog, w, K, mg, base⟩ j "_law_rail" s__law_rail := fun j hj => fn_good (by decide) (PySem.W.mg_of X G a15) (ok__law_rail (P := l.prog) (w := w) (base := base) F15 hb) hj k15 b15
  have F16 := fun_mk (st := topS 29) l16 c16 k16
  have b16 := F16.binds (ps := ["long", "rails", "rail"]) fun _ _ _ _ _ _ us hl => match us, hl with | [_, _, _], _ => rfl
  have d__law_on : ∀ j, 2 ≤ j → FnGood ⟨l.prog, w, K, mg, base⟩ j "_law_on" s__law_on := fun j hj => fn_good (by decide) (PySem.W.mg_of X G a16) (ok__law_on (P := l.prog) (w := w) (base := base) F16 hb (d__law_rail _ (by decide))) hj k16 b16
  have F17 := fun_mk (st := topS 28) l17 c17 k17
  have b17 := F17.binds (ps := ["hand"]) fun _ _ _ _ _ _ us hl => match us, hl with | [_], _ => rfl
  have d__law_are_told_alone : ∀ j, 5 ≤ j → FnGood ⟨l.prog, w, K, mg, base⟩ j "_law_are_told_alone" s__law_are_told_alone := fun j hj => fn_good (by decide) (PySem.W.mg_of X G a17) (ok__law_are_told_alone (P := l.prog) (w := w) (base := base) F17 hb (d__law_draw _ (by decide)) (d__law_on _ (by decide)) (d_fenced _ (by decide))) hj k17 b17
  have F18 := fun_mk (st := topS 26) l18 c18 k18
  have b18 := F18.binds (ps := ["text", "rails"]) fun _ _ _ _ _ _ us hl => match us, hl with | [_, _], _ => rfl
  have d__law_fenced : ∀ j, 2 ≤ j → FnGood ⟨l.prog, w, K, mg, base⟩ j "_law_fenced" s__law_fenced := fun j hj => fn_good (by decide) (PySem.W.mg_of X G a18) (ok__law_fenced (P := l.prog) (w := w) (base := base) F18 hb (d__law_rail _ (by decide))) hj k18 b18
  have F19 := fun_mk (st := topS 27) l19 c19 k19
  have b19 := F19.binds (ps := ["text", "rails"]) fun _ _ _ _ _ _ us hl => match us, hl with | [_, _], _ => rfl
  have d__law_is_right : ∀ j, 5 ≤ j → FnGood ⟨l.prog, w, K, mg, base⟩ j "_law_is_right" s__law_is_right := fun j hj => fn_good (by decide) (PySem.W.mg_of X G a19) (ok__law_is_right (P := l.prog) (w := w) (base := base) F19 hb (d__law_fenced _ (by decide)) (d_fenced _ (by decide)) (d_unfenced _ (by decide))) hj k19 b19
  have F20 := fun_mk (st := topS 30) l20 c20 k20
  exact ok_law (P := l.prog) (w := w) (base := base) F20 hb (d__law_hand _ (by decide)) (d_fenced _ (by decide)) (d_unfenced _ (by decide)) (d__law_text _ (by decide)) (d__law_draw _ (by decide)) (d__law_is_right _ (by decide)) (d__law_are_told_alone _ (by decide))
end K19
end
open PySem PySem.W PyProof.Rows
set_option maxHeartbeats 0 in
theorem PySem.Challenge.cw_fewclues_k19_whole_fences_holds : PySem.Challenge.rw_fewclues_k19_whole_fences.Holds := by
  w_on; o_law; k_head; (case hw => w_witness2)
  k_fill
  refine PV.walk_g (l := PySem.Challenge.rw_fewclues_k19_whole_fences) (n := 63) (k := 6) (x := "script") (CX := fun w => L2.CX PySem.Challenge.rw_fewclues_k19_whole_fences.prog w) (sp := fun w => PV.spOf _ K19.s_law) rfl (by decide) rfl ⟨rfl, by decide, by decide⟩ (fun w h Y => PySem.W.kIn_of Y) ?F (fun _ _ a ns hl hS => PV.law_sp rfl hS (K19.law_true ns hl)) (fun _ _ _ _ _ h => (by obtain ⟨_, _, _, _, _, _, _, _, _, _, _, _, z⟩ := h; exact z.elim))
  case F =>
    intro w mg fa h KX G hmg
    refine' K19.all_mk KX G hmg ?a0 ?l0 ?c0 ?k0 ?a1 ?l1 ?c1 ?k1 ?a2 ?l2 ?c2 ?k2 ?a3 ?l3 ?c3 ?k3 ?a4 ?l4 ?c4 ?k4 ?a5 ?l5 ?c5 ?k5 ?a6 ?l6 ?c6 ?k6 ?a7 ?l7 ?c7 ?k7 ?a8 ?l8 ?c8 ?k8 ?a9 ?l9 ?c9 ?k9 ?a10 ?l10 ?c10 ?k10 ?a11 ?l11 ?c11 ?k11 ?a12 ?l12 ?c12 ?k12 ?a13 ?l13 ?c13 ?k13 ?a14 ?l14 ?c14 ?k14 ?a15 ?l15 ?c15 ?k15 ?a16 ?l16 ?c16 ?k16 ?a17 ?l17 ?c17 ?k17 ?a18 ?l18 ?c18 ?k18 ?a19 ?l19 ?c19 ?k19 ?a20 ?l20 ?c20 ?k20 ?g_LETTERS ?g_LONGEST ?g_MOST_RAILS ?z0 ?z1 ?z2 ?z3 ?z4 ?z5 ?z6 ?z7 ?z8 ?z9 ?z10 ?z11 ?z12 ?z13 ?z14 ?z15 ?z16 ?z17 ?z18
    (case a0 => k_is); (case l0 => k_is); (case c0 => k_is); (case k0 => k_is); (case a1 => k_is); (case l1 => k_is); (case c1 => k_is); (case k1 => k_is); (case a2 => k_is); (case l2 => k_is); (case c2 => k_is); (case k2 => k_is); (case a3 => k_is); (case l3 => k_is); (case c3 => k_is); (case k3 => k_is); (case a4 => k_is); (case l4 => k_is); (case c4 => k_is); (case k4 => k_is); (case a5 => k_is); (case l5 => k_is); (case c5 => k_is); (case k5 => k_is); (case a6 => k_is); (case l6 => k_is); (case c6 => k_is); (case k6 => k_is); (case a7 => k_is); (case l7 => k_is); (case c7 => k_is); (case k7 => k_is); (case a8 => k_is); (case l8 => k_is); (case c8 => k_is); (case k8 => k_is); (case a9 => k_is); (case l9 => k_is); (case c9 => k_is); (case k9 => k_is); (case a10 => k_is); (case l10 => k_is); (case c10 => k_is); (case k10 => k_is); (case a11 => k_is); (case l11 => k_is); (case c11 => k_is); (case k11 => k_is); (case a12 => k_is); (case l12 => k_is); (case c12 => k_is); (case k12 => k_is); (case a13 => k_is); (case l13 => k_is); (case c13 => k_is); (case k13 => k_is); (case a14 => k_is); (case l14 => k_is); (case c14 => k_is); (case k14 => k_is); (case a15 => k_is); (case l15 => k_is); (case c15 => k_is); (case k15 => k_is); (case a16 => k_is); (case l16 => k_is); (case c16 => k_is); (case k16 => k_is); (case a17 => k_is); (case l17 => k_is); (case c17 => k_is); (case k17 => k_is); (case a18 => k_is); (case l18 => k_is); (case c18 => k_is); (case k18 => k_is); (case a19 => k_is); (case l19 => k_is); (case c19 => k_is); (case k19 => k_is); (case a20 => k_is); (case l20 => k_is); (case c20 => k_is); (case k20 => k_is); (case g_LETTERS => k_is); (case g_LONGEST => k_is); (case g_MOST_RAILS => k_is); (case z0 => k_is); (case z1 => k_is); (case z2 => k_is); (case z3 => k_is); (case z4 => k_is); (case z5 => k_is); (case z6 => k_is); (case z7 => k_is); (case z8 => k_is); (case z9 => k_is); (case z10 => k_is); (case z11 => k_is); (case z12 => k_is); (case z13 => k_is); (case z14 => k_is); (case z15 => k_is); (case z16 => k_is); (case z17 => k_is); (case z18 => k_is)
